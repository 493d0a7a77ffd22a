import PyProof.Rows.All
import Wide.All
import OpenK.AllK
import Wide.FinOn
import Lean
import PySem.Challenge.RW_pc0156_01
open And renaming intro->DV
open Bool renaming false_ne_true->G3,and_eq_true_iff->Gs,casesOn->GF,and_eq_true->GS,or_eq_true_iff->Dg,or_eq_false_iff->Dz,false_eq_true->F5,not_eq_true'->Fb
open Decidable renaming byContradiction->FF
open Exists renaming elim->Gf,imp->GK
open False renaming elim->Do
open ForInStep renaming yield->Dq
open Int renaming ofNat->Gx,natCast_nonneg->GO,ofNat_le->Db,ofNat_lt->Dk,not_lt->DR,natAbs->Ff,max_eq_right->Fg,fmod->Fk,negSucc_lt_zero->Fu,lt_of_le_of_lt->Fx,negSucc->FJ,fdiv->Ic
open List renaming length_append->G7,mem_cons_self->G9,mem_append_right->Gb,mem_cons_of_mem->Gd,mem_append_left->Ge,mem_cons->Gh,append_assoc->Gk,length_map->Gm,mem_append->Gn,nodup_cons->Gr,nodup_append->Gu,size_toArray->Gv,map_append->Gw,all_eq_true->GA,length_cons->GB,mem_map_of_mem->GC,mem_singleton->GE,map_cons->GG,append_nil->GH,lookup_cons->GI,not_mem_nil->GN,length_set->GQ,casesOn->GV,range->D0,mem_map->D2,length_nil->D5,length_singleton->D8,perm_middle->Da,reverse_cons->Dc,length_reverse->Dh,cons_append->Di,zip_cons_cons->Dj,toList_toArray->Dr,length_drop->Dv,reverse_reverse->DB,eq_nil_of_length_eq_zero->DL,drop_of_length_le->DM,foldl_cons->DO,take_append_drop->DP,length_take->DU,drop_eq_getElem_cons->DW,replicate->F6,map_nil->F8,drop_eq_nil_of_le->Fa,length_take_of_le->Fc,any_eq_true->Fh,any_cons->Fj,lookup->Fq,nil_append->Ft,map_congr_left->Fw,drop_zero->Fz,take_nil->FN,all_cons->FR,map_reverse->FY,map_map->I2
open List.Nodup renaming sublist->F4
open List.Perm renaming swap->Dl,cons->Ig
open Nat renaming le_trans->G5,ble_eq_true_of_le->G6,ble->G8,beq->Gg,le_refl->Gi,le_of_ble_eq_true->Gj,eq_of_beq_eq_true->Go,le_add_right->Gp,blt->Gz,le_add_left->GJ,le_of_lt->GL,le_antisymm->GP,lt_of_lt_of_le->GR,exists_eq_add_of_le'->GT,zero_add->GU,lt_or_ge->GW,not_lt_of_le->GX,lt_of_le_of_lt->GY,le_max_right->GZ,ne_of_lt->D1,not_succ_le_zero->D3,le_succ->D4,ne_of_gt->D6,zero_le->D7,lt_succ_self->D9,ne_of_beq_eq_false->Dd,le_of_succ_le_succ->De,add_le_add_left->Df,lt_succ_of_lt->Dm,le_max_left->Dw,add_comm->Dx,add_le_add_right->Dy,le_succ_of_le->DA,add_assoc->DC,not_lt->DD,lt_irrefl->DE,succ_le_succ->DH,not_le_of_lt->DI,add_mul->DJ,one_mul->DK,mul_le_mul_right->DQ,blt_eq->DS,le_of_add_le_add_right->DT,mul_le_mul_left->DX,min_eq_left->DY,beq_refl->Fd,ge_of_not_lt->Fe,min_eq_right->Fi,sub_add_cancel->Fy,succ_le_of_lt->FL,le_of_lt_succ->FM,le_of_eq->FZ
open Option renaming casesOn->Gq,map_eq_some_iff->GD,map_some->DZ
open Option.some renaming inj->Ga
open PySem renaming Expr->G4,Stmt->Gy
open PySem.Builtin renaming divisionGoesByPylong->Fs
open PySem.Builtin.List renaming listTooLong->FT
open PySem.Builtin.Range renaming rangeSize->FX
open PySem.Builtin.Str renaming strSliceIndices->Du
open PySem.Expr.Attribute renaming elim->FH
open PySem.Expr.BinOp renaming elim->I6
open PySem.Expr.BoolOp renaming elim->I0
open PySem.Expr.Call renaming elim->Fo
open PySem.Expr.Compare renaming elim->FW
open PySem.Expr.Constant renaming elim->FP
open PySem.Expr.Dict renaming elim->Ie
open PySem.Expr.IfExp renaming elim->I7
open PySem.Expr.Lambda renaming elim->I1
open PySem.Expr.List renaming elim->Fp
open PySem.Expr.ListComp renaming elim->FQ
open PySem.Expr.Name renaming elim->Id
open PySem.Expr.Slice renaming elim->I8
open PySem.Expr.Subscript renaming elim->FI
open PySem.Expr.Tuple renaming elim->I9
open PySem.Expr.UnaryOp renaming elim->FV
open PySem.Heap renaming SameBut->F7,size_push->FD
open PySem.Heap.IsList renaming typeIs->FB
open PySem.Heap.IsSliceOf renaming new->FC
open PySem.Heap.SameBut renaming update->Fv
open PySem.Keeper renaming boundFrame->F9,machine->FE,frame->I3
open PySem.NameKind renaming free->DG,cell->FU
open PySem.Stmt.Assign renaming elim->I5
open PySem.Stmt.Expr renaming elim->Ih
open PySem.Stmt.Raise renaming elim->Ib
open PySem.Stmt.Return renaming elim->I4
open PySem.Stmt.While renaming elim->Ia
open PySem.Str renaming ofString->G0,length->F0
open PySem.Value renaming isStr->FK
open PySem.W renaming listOf->DN
open PySem PySem.W PyProof.Rows PySem.Calls PySem.Spec PySem.SeqAt PyProof.Rows.LCg
namespace Mn
set_option Elab.async false
set_option tactic.hygienic false
set_option genSizeOf false
set_option linter.all false
set_option genInjectivity false
set_option maxRecDepth 100000
set_option genSizeOf false in
set_option genInjectivity false in
set_option genCtorIdx false in
inductive Lx where
 |v (i:Nat)|n (k:Nat)|a (x y:Lx)|m (k:Nat) (x:Lx)|r (x:Lx) (k:Nat)
noncomputable def cAt:List Nat->Nat->Nat
 |[],_=>0
 |a::_,0=>a
 |_::t,i+1=>cAt t i
noncomputable def Lx.den(c:List Nat):Lx->Nat
 |.v i=>cAt c i
 |.n k=>k
 |.a x y=>x.den c+y.den c
 |.m k x=>k*x.den c
 |.r x k=>x.den c*k
noncomputable def padd:List Nat->List Nat->List Nat
 |[],q=>q
 |p,[]=>p
 |a::p,b::q=>(a+b)::padd p q
noncomputable def psc(k:Nat)(p:List Nat):List Nat:=p.map (k * ·)
noncomputable def pun:Nat->List Nat
 |0=>[1]
 |i+1=>0::pun i
noncomputable def Lx.nf:Lx->List Nat
 |.v i=>0::pun i
 |.n k=>[k]
 |.a x y=>padd x.nf y.nf
 |.m k x=>psc k x.nf
 |.r x k=>psc k x.nf
noncomputable def ple:List Nat->List Nat->Bool
 |[],_=>true
 |a::p,[]=>G8 a 0 && ple p []
 |a::p,b::q=>G8 a b && ple p q
noncomputable def pev:List Nat->List Nat->Nat
 |_,[]=>0
 |[],_=>0
 |a::c,k::p=>k*a+pev c p
noncomputable def hyL:List (Nat×Lx×Lx)->List Nat
 |[]=>[]
 |(m,l,_)::t=>padd (psc m l.nf) (hyL t)
noncomputable def hyR:List (Nat×Lx×Lx)->List Nat
 |[]=>[]
 |(m,_,r)::t=>padd (psc m r.nf) (hyR t)
noncomputable def hyps(c:List Nat)(P:Prop):List (Nat×Lx×Lx)->Prop
 |[]=>P
 |(_,l,r)::t=>l.den c<=r.den c->hyps c P t
theorem X4(c:List Nat):pev c []=0:=by rcases c with _|_<;>rfl
theorem ZH:∀(c p q:List Nat),pev c (padd p q)=pev c p+pev c q:=by
 intro c
 induction c with
 |nil=>intro p q;rcases p with _|⟨a,p⟩<;>rcases q with _|⟨b,q⟩<;>rfl
 |cons x c ih=>
  intro p q
  rcases p with _|⟨a,p⟩
  ·exact(GU _).symm
  ·rcases q with _|⟨b,q⟩
   ·rfl
   ·show(a+b)*x+pev c (padd p q)=(a*x+pev c p)+(b*x+pev c q)
    rw[ih,DJ,Nat.add_add_add_comm]
theorem YM(k:Nat):∀(c p:List Nat),pev c (psc k p)=k*pev c p:=by
 intro c
 induction c with
 |nil=>intro p;rcases p with _|⟨a,p⟩<;>rfl
 |cons x c ih=>
  intro p
  rcases p with _|⟨a,p⟩
  ·rfl
  ·show k*a*x+pev c (psc k p)=k*(a*x+pev c p)
   rw[ih,Nat.mul_add,Nat.mul_assoc]
theorem pev_un:∀(c:List Nat) (i:Nat),pev c (pun i)=cAt c i:=by
 intro c
 induction c with
 |nil=>intro i;rcases i with _|i<;>rfl
 |cons x c ih=>
  intro i
  rcases i with _|i
  ·show 1*x+pev c []=x
   rw[X4,DK];rfl
  ·show 0*x+pev c (pun i)=cAt c i
   rw[ih,Nat.zero_mul,GU]
theorem jW(c:List Nat)(x:Lx):pev (1::c) x.nf=x.den c:=by
 induction x with
 |v i=>show 0*1+pev c (pun i)=cAt c i;rw[pev_un,Nat.zero_mul,GU]
 |n k=>show k*1+pev c []=k;rw[X4,Nat.mul_one];rfl
 |a x y h g=>show pev _ (padd x.nf y.nf)=x.den c+y.den c;rw[ZH,h,g]
 |m k x h=>show pev _ (psc k x.nf)=k*x.den c;rw[YM,h]
 |r x k h=>show pev _ (psc k x.nf)=x.den c*k;rw[YM,h,Nat.mul_comm]
theorem ple_le:∀(c p q:List Nat),ple p q=true->pev c p<=pev c q:=by
 intro c
 induction c with
 |nil=>intro p q _;rcases p with _|⟨a,p⟩<;>exact D7 _
 |cons x c ih=>
  intro p q h
  rcases p with _|⟨a,p⟩
  ·exact D7 _
  ·rcases q with _|⟨b,q⟩
   ·obtain⟨h1,h2⟩:=Gs.mp (show(G8 a 0 && ple p [])=true from h)
    show a*x+pev c p<=0
    have e:=Gj h1
    have w:=ih p [] h2
    rw[X4] at w
    rw[Nat.le_zero.mp e,Nat.zero_mul,GU];exact w
   ·obtain⟨h1,h2⟩:=Gs.mp (show(G8 a b && ple p q)=true from h)
    exact Nat.add_le_add (DQ x (Gj h1)) (ih p q h2)
theorem hyps_ok(c:List Nat){P:Prop}:∀(hs:List (Nat×Lx×Lx)),(pev (1::c) (hyL hs)<=pev (1::c) (hyR hs)->P)->hyps c P hs:=by
 intro hs
 induction hs generalizing P with
 |nil=>exact λh=>h (Gi _)
 |cons x t ih=>
  obtain⟨m,l,r⟩:=x
  intro h k
  refine ih λw=>h ?_
  show pev _ (padd (psc m l.nf) (hyL t))<=pev _ (padd (psc m r.nf) (hyR t))
  rw[ZH,ZH,YM,YM,jW,jW]
  exact Nat.add_le_add (DX m k) w
theorem lin(c:List Nat)(g:Nat)(hs:List (Nat×Lx×Lx))(l r:Lx)(k:(G8 1 g && ple (padd (psc g l.nf) (hyR hs)) (padd [g - 1] (padd (psc g r.nf) (hyL hs))))=true):hyps c (l.den c<=r.den c) hs:=by
 obtain⟨g1,k⟩:=Gs.mp k
 have g1:=Gj g1
 refine hyps_ok c hs λw=>?_
 have e:=ple_le (1::c) _ _ k
 rw[ZH,ZH,ZH,YM,YM,jW,jW] at e
 have e:g*l.den c+pev (1::c) (hyR hs)<=((g - 1)*1+pev c [])+(g*r.den c+pev (1::c) (hyL hs)):=e
 rw[X4] at e
 refine Fe λn=>?_
 have n:g*(r.den c+1)<=g*l.den c:=DX g n
 rw[Nat.mul_add,Nat.mul_one] at n
 refine GX (G5 (Nat.add_le_add n w) e) ?_
 rw[Nat.mul_one,Nat.add_zero,←DC,Dx (g - 1),DC,DC]
 exact Nat.add_lt_add_left (Nat.add_lt_add_right (Nat.sub_lt g1 Nat.one_pos) _) _
theorem l1(c:List Nat)(hs:List (Nat×Lx×Lx))(l r:Lx)(k:(G8 1 1 && ple (padd (psc 1 l.nf) (hyR hs)) (padd [1 - 1] (padd (psc 1 r.nf) (hyL hs))))=true):hyps c (l.den c<=r.den c) hs:=lin c 1 hs l r k
theorem hyps_imp(c:List Nat){P Q:Prop}(f:P->Q)(hs:List (Nat×Lx×Lx))(h:hyps c P hs):hyps c Q hs:=by
 induction hs with
 |nil=>exact f h
 |cons x t ih=>exact λk=>ih (h k)
theorem lf(c:List Nat)(hs:List (Nat×Lx×Lx))(k:(G8 1 1 && ple (padd (psc 1 (Lx.n 1).nf) (hyR hs)) (padd [1 - 1] (padd (psc 1 (Lx.n 0).nf) (hyL hs))))=true):hyps c False hs:=hyps_imp c (D3 0) hs (lin c 1 hs (.n 1) (.n 0) k)
noncomputable abbrev V0:=Lx.v 0
noncomputable abbrev V1:=Lx.v 1
noncomputable abbrev V2:=Lx.v 2
noncomputable abbrev V3:=Lx.v 3
noncomputable abbrev V4:=Lx.v 4
noncomputable abbrev N0:=Lx.n 0
noncomputable abbrev N1:=Lx.n 1
noncomputable abbrev N2:=Lx.n 2
noncomputable abbrev N3:=Lx.n 3
noncomputable abbrev N4:=Lx.n 4
noncomputable abbrev N7:=Lx.n 7
noncomputable abbrev N8:=Lx.n 8
noncomputable abbrev N40:=Lx.n 40
noncomputable abbrev zM:=Lx.n 1000
noncomputable abbrev N900:=Lx.n 900
theorem le1{a b:Nat}(h:a=b):a<=b:=FZ h
theorem nn{α:Type}{t:α}{p:Prop}(h:(none:Option α)=some t):p:=nomatch h
section
variable {a b c d e f g:Nat}
theorem hsub(h0:a<=b):a+c - b<=c:=Nat.sub_le_of_le_add (G5 (Dy h0 c) (le1 (Dx b c)))
theorem z63{n:Nat}(h:n<=1000):(n:Int) < 2 ^ 63:=Fx (Db.mpr h) (by decide:((1000:Nat):Int) < 2 ^ 63)
theorem zn63(n:Nat):-2 ^ 63<=Gx n:=Int.le_trans (by decide:(-2 ^ 63:Int)<=0) (GO n)
theorem z64{a:Int}(h:Ff a < 1000000000):a < 2 ^ 64:=Fx Int.le_natAbs (Int.lt_of_lt_of_le (Dk.mpr h) (by decide:((1000000000:Nat):Int)<=2 ^ 64))
theorem om1(h0:a<=b)(h1:c=a)(h2:c=d):d<=b:=l1 [a,b,c,d] [(1,V0,V1),(1,V2,V0),(1,V3,V2)] V3 V1 rfl h0 (le1 h1) (le1 h2.symm)
theorem om2(h0:a+(b+1)<=c):a<=c:=l1 [a,b,c] [(1,.a V0 (.a V1 N1),V2)] V0 V2 rfl h0
theorem om4(h0:a+(b+1)<=c)(h1:d<=a+1):d+b<=c:=l1 [a,b,c,d] [(1,.a V0 (.a V1 N1),V2),(1,V3,.a V0 N1)] (.a V3 V1) V2 rfl h0 h1
theorem om5(h0:¬a < b)(h1:a < b+1):a=b:=GP (l1 [a,b] [(1,.a V0 N1,.a V1 N1)] V0 V1 rfl h1) (l1 [a,b] [(1,V1,V0)] V1 V0 rfl (Fe h0))
theorem om6{a:Int}(h0:Ff a < 1000000000):-2 ^ 64 < a:=Int.neg_lt_of_neg_lt (z64 ((Int.natAbs_neg a).symm▸h0))
theorem om7:¬0 > 300:=λe=>lf [] [(1,.a (.n 300) N1,N0)] rfl e
theorem om8{a:Int}(h0:Ff a < 1000000000):Ff a < 2 ^ 64:=GR h0 (Gj rfl)
theorem om9{a:Int}(h0:Ff a < 1000000000):a < 2 ^ 64:=z64 h0
theorem om10(h0:a < 64):¬a / 30+1 > 300:=GX (G5 (DH (Nat.div_le_self a 30)) (G5 h0 (Gj rfl)))
theorem om11:FJ a=-((a:Int)+1):=Int.negSucc_eq a
theorem om12(h0:a=b)(h1:c < a):c < b:=l1 [a,b,c] [(1,V0,V1),(1,.a V2 N1,V0)] (.a V2 N1) V1 rfl (le1 h0) h1
theorem om13(h0:¬a<=b):b<=a:=l1 [a,b] [(1,.a V1 N1,V0)] V1 V0 rfl (Nat.gt_of_not_le h0)
theorem om14(h0:0<=Gx a):-2 ^ 63<=Gx a:=zn63 a
theorem om15(h0:a<=1000)(h1:b < a)(h2:Gx b=(b:Int)):Gx b < 2 ^ 63:=z63 (G5 (GL h1) h0)
theorem om16:FJ a < 2 ^ 63:=Int.lt_of_lt_of_le (Fu a) (by decide)
theorem om17(h0:a<=1000)(h1:a=b):(b:Int) < 2 ^ 63:=z63 (h1▸h0)
theorem om18(h0:a < 64):a < 1920:=l1 [a] [(1,.a V0 N1,.n 64)] (.a V0 N1) (.n 1920) rfl h0
theorem om19(h0:a<=4):a<=4300:=l1 [a] [(1,V0,N4)] V0 (.n 4300) rfl h0
theorem om20(h0:a<=1000):(a:Int) < 2 ^ 63:=z63 h0
theorem om21(h0:a < 55296)(h1:Gx a=(a:Int)):¬Gx a > 1114111:=DR.mpr (Db.mpr (G5 (GL h0) (Gj rfl)))
theorem om22:a+1+b=a+(b+1):=GP (l1 [a,b] [] (.a (.a V0 N1) V1) (.a V0 (.a V1 N1)) rfl) (l1 [a,b] [] (.a V0 (.a V1 N1)) (.a (.a V0 N1) V1) rfl)
theorem om23(h0:Gx a=(a:Int)):Int.toNat (max 0 (Gx a))=a:=congrArg Int.toNat (Fg (GO a))
theorem om24(h0:Nat.succ a < b+1):a < b:=l1 [a,b] [(1,.a (.a V0 N1) N1,.a V1 N1)] (.a V0 N1) V1 rfl h0
theorem om25(h0:a<=b):a+(b - a)=b:=Nat.add_sub_of_le h0
theorem om26(h0:a<=40):a+2<=16777216:=l1 [a] [(1,V0,N40)] (.a V0 N2) (.n 16777216) rfl h0
theorem om27(h0:a<=40):a<=1000:=l1 [a] [(1,V0,N40)] V0 zM rfl h0
theorem om28:a<=a+b:=l1 [a,b] [] V0 (.a V0 V1) rfl
theorem om29(h0:a+b<=1000):a+b<=16777216:=l1 [a,b] [(1,.a V0 V1,zM)] (.a V0 V1) (.n 16777216) rfl h0
theorem om30(h0:a<=b)(h1:b < a+c):b - a < c:=Nat.sub_lt_left_of_lt_add h0 h1
theorem om31(h0:a < 1000):a+1<=1000:=l1 [a] [(1,.a V0 N1,zM)] (.a V0 N1) zM rfl h0
theorem om32(h0:¬a+b < c)(h1:¬c < a+b):c=a+b:=GP (l1 [a,b,c] [(1,V2,.a V0 V1)] V2 (.a V0 V1) rfl (Fe h0)) (l1 [a,b,c] [(1,.a V0 V1,V2)] (.a V0 V1) V2 rfl (Fe h1))
theorem om33(h0:a < 1000):a<=16777216:=l1 [a] [(1,.a V0 N1,zM)] V0 (.n 16777216) rfl h0
theorem om34(h0:Gx a=(a:Int)):¬Gx a < -2 ^ 63:=DR.mpr (zn63 a)
theorem om35(h0:a<=1000)(h1:b < a)(h2:Gx b=(b:Int)):¬Gx b>=2 ^ 63:=Int.not_le.mpr (z63 (G5 (GL h1) h0))
theorem om36(h0:a+b<=1000):a<=1000:=l1 [a,b] [(1,.a V0 V1,zM)] V0 zM rfl h0
theorem om37(h0:a=b)(h1:b<=999):a+1<=16777216:=l1 [a,b] [(1,V0,V1),(1,V1,.n 999)] (.a V0 N1) (.n 16777216) rfl (le1 h0) h1
theorem om38(h0:a < 1000):min b a+(a - b+1)<=1000:=G5 (le1 (congrArg (·+ 1) ((Dx (min b a) (a - b)).trans ((congrArg (a - b+ ·) (Nat.min_comm b a)).trans (Nat.sub_add_min_cancel ..))))) h0
theorem om39(h0:a<=1000):a<=16777216:=l1 [a] [(1,V0,zM)] V0 (.n 16777216) rfl h0
theorem om40(h0:a<=1000):min b a<=1000:=G5 (Nat.min_le_right b a) h0
theorem om41(h0:a<=b+1):a+1<=b+1+1:=l1 [a,b] [(1,V0,.a V1 N1)] (.a V0 N1) (.a (.a V1 N1) N1) rfl h0
theorem om42(h0:a<=1048576):a<=16777216:=l1 [a] [(1,V0,.n 1048576)] V0 (.n 16777216) rfl h0
theorem om43(h0:a < 100)(h1:b<=a+1):b<=1000:=l1 [a,b] [(1,.a V0 N1,.n 100),(1,V1,.a V0 N1)] V1 zM rfl h0 h1
theorem om44(h0:a < 100)(h1:b<=a+1):b<=100:=l1 [a,b] [(1,.a V0 N1,.n 100),(1,V1,.a V0 N1)] V1 (.n 100) rfl h0 h1
theorem om45{a:Int}(h0:0 < a/\a < 1000000000):a≠0:=Int.ne_of_gt h0.1
theorem om46{a:Int}(h0:0 < a/\a < 1000000000):Ff a < 1000000000:=Dk.mp ((Int.natAbs_of_nonneg (Int.le_of_lt h0.1)).symm▸h0.2:((Ff a:Nat):Int) < ((1000000000:Nat):Int))
theorem om47{a:Int}(h0:0 < a):a≠0:=Int.ne_of_gt h0
theorem om48(h0:a+16*b+200<=9900)(h1:c=9900):a+1 < c:=l1 [a,b,c] [(1,.a (.a V0 (.m 16 V1)) (.n 200),.n 9900),(1,.n 9900,V2)] (.a (.a V0 N1) N1) V2 rfl h0 (le1 h1.symm)
theorem om49(h0:a < 29):a < 30:=l1 [a] [(1,.a V0 N1,.n 29)] (.a V0 N1) (.n 30) rfl h0
theorem om50:↑(Int.toNat ((a:Int) - 0))=(a:Int):=congrArg (λz=>(Int.toNat z:Int)) (Int.sub_zero a)
theorem om51(h0:a<=1000):(a:Int) < 2 ^ 62:=by omega
theorem om52(h0:a<=b):(a:Int) - (b:Int)<=0:=Int.sub_nonpos_of_le (Db.mpr h0)
theorem om53(h0:a < b):0 < (b:Int) - (a:Int):=Int.sub_pos_of_lt (Dk.mpr h0)
theorem om54:(a:Int)+1=((a+1:Nat):Int):=rfl
theorem om55:(a:Int) - (b:Int) - 1=(a:Int) - ((b+1:Nat):Int):=Int.sub_sub a b 1
theorem om57(h0:a+b=c+b):a=c:=GP (l1 [a,b,c] [(1,.a V0 V1,.a V2 V1)] V0 V2 rfl (le1 h0)) (l1 [a,b,c] [(1,.a V2 V1,.a V0 V1)] V2 V0 rfl (le1 h0.symm))
theorem om58(h0:a < b):b - (a+1) < b - a:=Nat.sub_lt_sub_left h0 (D9 a)
theorem om59(h0:a<=b+c):a<=b+(c+1):=l1 [a,b,c] [(1,V0,.a V1 V2)] V0 (.a V1 (.a V2 N1)) rfl h0
theorem om60(h0:a<=1000)(h1:b<=1000)(h2:c<=b+d)(h3:d < a)(h4:e=c):e<=16777216:=l1 [a,b,c,d,e] [(1,V0,zM),(1,V1,zM),(1,V2,.a V1 V3),(1,.a V3 N1,V0),(1,V4,V2)] V4 (.n 16777216) rfl h0 h1 h2 h3 (le1 h4)
theorem om61(h0:a<=b+c):a+1<=b+(c+1):=l1 [a,b,c] [(1,V0,.a V1 V2)] (.a V0 N1) (.a V1 (.a V2 N1)) rfl h0
theorem om62:0<=(a:Int):=GO a
theorem om63(h0:a < b)(h1:b<=1000):(a:Int) < 2 ^ 63:=z63 (G5 (GL h0) h1)
theorem om64(h0:a < b)(h1:c=b):(a:Int) < (c:Int):=Dk.mpr (h1▸h0)
theorem om65(h0:a < 1000)(h1:a=b):b<=16777216:=l1 [a,b] [(1,.a V0 N1,zM),(1,V1,V0)] V1 (.n 16777216) rfl h0 (le1 h1.symm)
theorem om66(h0:a=b)(h1:a=c)(h2:c=d):b=d:=GP (l1 [a,b,c,d] [(1,V1,V0),(1,V0,V2),(1,V2,V3)] V1 V3 rfl (le1 h0.symm) (le1 h1) (le1 h2)) (l1 [a,b,c,d] [(1,V0,V1),(1,V2,V0),(1,V3,V2)] V3 V1 rfl (le1 h0) (le1 h1.symm) (le1 h2.symm))
theorem om67(h0:a < b):b+1 - (a+1) < b+1 - a:=Nat.sub_lt_sub_left (Dm h0) (D9 a)
theorem om68(h0:a<=b):a+c - b<=c:=Nat.sub_le_of_le_add (G5 (Dy h0 c) (le1 (Dx b c)))
theorem om69(h0:a<=b)(h1:c<=b):a+c - b<=b - (b - c):=G5 (hsub h0) (le1 (Nat.sub_sub_self h1).symm)
theorem om70(h0:a<=b+c)(h1:c<=a):a - c+(b+c - a)=b:=(Dx _ _).trans ((Nat.sub_add_sub_cancel h0 h1).trans (Nat.add_sub_cancel ..))
theorem om71(h0:a<=b):b - (b - a) - (c+a - b)=a - (c+a - b):=congrArg (· - (c+a - b)) (Nat.sub_sub_self h0)
theorem om72(h0:a=b):a<=b:=l1 [a,b] [(1,V0,V1)] V0 V1 rfl (le1 h0)
theorem om73(h0:a=b)(h1:c<=b):min c a=c:=h0.symm▸DY h1
theorem om74(h0:a<=b)(h1:c=b)(h2:a=d):d<=c:=l1 [a,b,c,d] [(1,V0,V1),(1,V1,V2),(1,V3,V0)] V3 V2 rfl h0 (le1 h1.symm) (le1 h2.symm)
theorem om75(h0:a<=b+c)(h1:d=a)(h2:b=e)(h3:c=f):d<=e+f:=l1 [a,b,c,d,e,f] [(1,V0,.a V1 V2),(1,V3,V0),(1,V1,V4),(1,V2,.v 5)] V3 (.a V4 (.v 5)) rfl h0 (le1 h1) (le1 h2) (le1 h3)
theorem om76(h0:a=b)(h1:c=d)(h2:e=f):c+e - b=d+f - a:=by subst h0 h1 h2;rfl
theorem om77(h0:a<=b)(h1:b<=a+c)(h2:d=b)(h3:a=e)(h4:c=f):b=e+(f - (e+f - d)):=by subst h2 h3 h4;exact((Nat.add_sub_assoc (hsub h0) a).symm.trans (Nat.sub_sub_self h1)).symm
theorem om78(h0:a+4*(b+1)+8<=1000):a+1+4*b+8<=1000:=l1 [a,b] [(1,.a (.a V0 (.m 4 (.a V1 N1))) N8,zM)] (.a (.a (.a V0 N1) (.m 4 V1)) N8) zM rfl h0
theorem om79(h0:a+16*(b+1)+200<=9900):a+3+16*b+200<=9900:=l1 [a,b] [(1,.a (.a V0 (.m 16 (.a V1 N1))) (.n 200),.n 9900)] (.a (.a (.a V0 N3) (.m 16 V1)) (.n 200)) (.n 9900) rfl h0
theorem om80(h0:a+1<=b):b=b - 1+1:=(Fy (G5 (GJ 1 a) h0)).symm
theorem om81(h0:a+1<=b+1):a<=b:=l1 [a,b] [(1,.a V0 N1,.a V1 N1)] V0 V1 rfl h0
theorem om82(h0:a=b+1)(h1:b+4*(c+1)+8<=1000):a+4*c+8<=1000:=l1 [a,b,c] [(1,V0,.a V1 N1),(1,.a (.a V1 (.m 4 (.a V2 N1))) N8,zM)] (.a (.a V0 (.m 4 V2)) N8) zM rfl (le1 h0) h1
theorem om83(h0:a=b+1)(h1:b+16*(c+1)+200<=9900):a+16*c+200<=9900:=l1 [a,b,c] [(1,V0,.a V1 N1),(1,.a (.a V1 (.m 16 (.a V2 N1))) (.n 200),.n 9900)] (.a (.a V0 (.m 16 V2)) (.n 200)) (.n 9900) rfl (le1 h0) h1
theorem om84(h0:a+(b+1) < 100):a+(0+1)+b < 100:=l1 [a,b] [(1,.a (.a V0 (.a V1 N1)) N1,.n 100)] (.a (.a (.a V0 (.a N0 N1)) V1) N1) (.n 100) rfl h0
theorem om85(h0:a+b < 100):a < 1000:=l1 [a,b] [(1,.a (.a V0 V1) N1,.n 100)] (.a V0 N1) zM rfl h0
theorem om86(h0:a < 50):1+a<=1000:=l1 [a] [(1,.a V0 N1,.n 50)] (.a N1 V0) zM rfl h0
theorem om87(h0:a < 50):60=59 - a+a+1:=congrArg (·+ 1) (Fy (n:=59) (G5 (GL h0) (Gj rfl))).symm
theorem om88(h0:a < 50):0+a < 100:=l1 [a] [(1,.a V0 N1,.n 50)] (.a (.a N0 V0) N1) (.n 100) rfl h0
theorem om89(h0:a<=b):a+1<=1+c+b:=l1 [a,b,c] [(1,V0,V1)] (.a V0 N1) (.a (.a N1 V2) V1) rfl h0
theorem om90(h0:a+1+b<=9):a<=20:=l1 [a,b] [(1,.a (.a V0 N1) V1,.n 9)] V0 (.n 20) rfl h0
theorem om91(h0:a<=20):a < 50:=l1 [a] [(1,V0,.n 20)] (.a V0 N1) (.n 50) rfl h0
theorem om92(h0:a+(1+b+c)<=900):b<=900:=l1 [a,b,c] [(1,.a V0 (.a (.a N1 V1) V2),N900)] V1 N900 rfl h0
theorem om93(h0:a+(1+b+c)<=900):a+1+c<=900:=l1 [a,b,c] [(1,.a V0 (.a (.a N1 V1) V2),N900)] (.a (.a V0 N1) V2) N900 rfl h0
theorem om94(h0:a<=50):60 - a=59 - a+1:=Nat.succ_sub (m:=59) (G5 h0 (Gj rfl))
theorem om95(h0:a<=b/\c=b)(h1:d<=e/\f=e):d+1<=1+b+e/\c+f+1=1+b+e:=⟨l1 [a,b,c,d,e,f] [(1,V3,V4)] (.a V3 N1) (.a (.a N1 V1) V4) rfl h1.1,GP (l1 [a,b,c,d,e,f] [(1,V2,V1),(1,.v 5,V4)] (.a (.a V2 (.v 5)) N1) (.a (.a N1 V1) V4) rfl (le1 h0.2) (le1 h1.2)) (l1 [a,b,c,d,e,f] [(1,V1,V2),(1,V4,.v 5)] (.a (.a N1 V1) V4) (.a (.a V2 (.v 5)) N1) rfl (le1 h0.2.symm) (le1 h1.2.symm))⟩
theorem om96(h0:a<=50):60 - a+a=60:=Fy (G5 h0 (Gj rfl))
theorem om97(h0:a<=b/\c=b)(h1:d<=e/\f=e)(h2:g+(1+b+e)<=900):d+g+a<=1000:=l1 [a,b,c,d,e,f,g] [(1,V0,V1),(1,V3,V4),(1,.a (.v 6) (.a (.a N1 V1) V4),N900)] (.a (.a V3 (.v 6)) V0) zM rfl h0.1 h1.1 h2
theorem om98(h0:a+(1+b+c)<=900):a+1+b<=900:=l1 [a,b,c] [(1,.a V0 (.a (.a N1 V1) V2),N900)] (.a (.a V0 N1) V1) N900 rfl h0
theorem om99(h0:a<=b/\c=b)(h1:d+(1+e+b)<=900):a+d+e<=900:=l1 [a,b,c,d,e] [(1,V0,V1),(1,.a V3 (.a (.a N1 V4) V1),N900)] (.a (.a V0 V3) V4) N900 rfl h0.1 h1
theorem om100(h0:a<=b/\c=b)(h1:d+(1+b+e)<=900):d+1+c+e<=900:=l1 [a,b,c,d,e] [(1,V2,V1),(1,.a V3 (.a (.a N1 V1) V4),N900)] (.a (.a (.a V3 N1) V2) V4) N900 rfl (le1 h0.2) h1
theorem om101(h0:a+(1+b+c)<=900):a+c<=900:=l1 [a,b,c] [(1,.a V0 (.a (.a N1 V1) V2),N900)] (.a V0 V2) N900 rfl h0
theorem om102:a+(1+b+c)=a+c+b+1:=GP (l1 [a,b,c] [] (.a V0 (.a (.a N1 V1) V2)) (.a (.a (.a V0 V2) V1) N1) rfl) (l1 [a,b,c] [] (.a (.a (.a V0 V2) V1) N1) (.a V0 (.a (.a N1 V1) V2)) rfl)
theorem om103(h0:a+b+c<=900):0+a<=1000:=l1 [a,b,c] [(1,.a (.a V0 V1) V2,N900)] (.a N0 V0) zM rfl h0
theorem om104(h0:a+(b+c)<=900):a+b<=1000:=l1 [a,b,c] [(1,.a V0 (.a V1 V2),N900)] (.a V0 V1) zM rfl h0
theorem om105(h0:a+b+c<=900):a+b<=1000:=l1 [a,b,c] [(1,.a (.a V0 V1) V2,N900)] (.a V0 V1) zM rfl h0
theorem om106(h0:a+(b+c)<=900):a+b+c<=900:=l1 [a,b,c] [(1,.a V0 (.a V1 V2),N900)] (.a (.a V0 V1) V2) N900 rfl h0
theorem om107(h0:a+b+c<=900):a+b+c<=1000:=l1 [a,b,c] [(1,.a (.a V0 V1) V2,N900)] (.a (.a V0 V1) V2) zM rfl h0
theorem om108(h0:a+(b+1)<=900):a < 1000:=l1 [a,b] [(1,.a V0 (.a V1 N1),N900)] (.a V0 N1) zM rfl h0
theorem om109(h0:a+(b+1)<=900):a+1+b<=900:=l1 [a,b] [(1,.a V0 (.a V1 N1),N900)] (.a (.a V0 N1) V1) N900 rfl h0
theorem om110(h0:a+b+c<=900):b<=900:=l1 [a,b,c] [(1,.a (.a V0 V1) V2,N900)] V1 N900 rfl h0
theorem om111{a:Int}{b:Nat}(h0:a < (b:Int))(h1:0<=a):Int.toNat a < b:=(Int.toNat_lt h1).mpr h0
theorem om112(h0:a<=60):(a:Int) < 1000000000:=Dk.mpr (GY h0 (Gj rfl))
theorem om113(h0:a < 1000000):a < 1000000000:=l1 [a] [(1,.a V0 N1,.n 1000000)] (.a V0 N1) (.n 1000000000) rfl h0
theorem jm(h0:a < 18):1+a < 40:=l1 [a] [(1,.a V0 N1,.n 18)] (.a (.a N1 V0) N1) N40 rfl h0
theorem om115(h0:1+a < 18):1+a < 40:=l1 [a] [(1,.a (.a N1 V0) N1,.n 18)] (.a (.a N1 V0) N1) N40 rfl h0
theorem Jw(h0:a < 18):1+a+1<=1000000000:=l1 [a] [(1,.a V0 N1,.n 18)] (.a (.a N1 V0) N1) (.n 1000000000) rfl h0
theorem om117(h0:1+a < 5):1+a < 40:=l1 [a] [(1,.a (.a N1 V0) N1,.n 5)] (.a (.a N1 V0) N1) N40 rfl h0
theorem om118(h0:a<=10):2+a<=1000:=l1 [a] [(1,V0,.n 10)] (.a N2 V0) zM rfl h0
theorem om119(h0:1+a < 10):1+a < 40:=l1 [a] [(1,.a (.a N1 V0) N1,.n 10)] (.a (.a N1 V0) N1) N40 rfl h0
theorem om120(h0:1+a < 18):1+a+1<=1000000000:=l1 [a] [(1,.a (.a N1 V0) N1,.n 18)] (.a (.a N1 V0) N1) (.n 1000000000) rfl h0
theorem om121(h0:a<=10):2+a+1<=1000:=l1 [a] [(1,V0,.n 10)] (.a (.a N2 V0) N1) zM rfl h0
theorem YG(h0:a < 18):1+a<=18:=l1 [a] [(1,.a V0 N1,.n 18)] (.a N1 V0) (.n 18) rfl h0
theorem om123(h0:a<=10):2+a+3<=1000:=l1 [a] [(1,V0,.n 10)] (.a (.a N2 V0) N3) zM rfl h0
theorem om124(h0:a < 18):1+a<=19:=l1 [a] [(1,.a V0 N1,.n 18)] (.a N1 V0) (.n 19) rfl h0
theorem X6(h0:a<=10):3+a<=1000:=l1 [a] [(1,V0,.n 10)] (.a N3 V0) zM rfl h0
theorem om126(h0:1+a < 18):1+a<=17:=l1 [a] [(1,.a (.a N1 V0) N1,.n 18)] (.a N1 V0) (.n 17) rfl h0
theorem X5(h0:a<=10):3+a+1<=1000:=l1 [a] [(1,V0,.n 10)] (.a (.a N3 V0) N1) zM rfl h0
theorem om128(h0:1+a < 18):1+a+1<=19:=l1 [a] [(1,.a (.a N1 V0) N1,.n 18)] (.a (.a N1 V0) N1) (.n 19) rfl h0
theorem om129(h0:a < 18):1+a+1<=19:=l1 [a] [(1,.a V0 N1,.n 18)] (.a (.a N1 V0) N1) (.n 19) rfl h0
theorem om130(h0:1+a < 5):1+a+1<=1000000000:=l1 [a] [(1,.a (.a N1 V0) N1,.n 5)] (.a (.a N1 V0) N1) (.n 1000000000) rfl h0
theorem om131(h0:a < 18):(1+a) / 2+1<=19:=DH (G5 (Nat.div_le_self _ 2) (G5 (le1 (Dx 1 a)) h0))
theorem om132(h0:a < 900000):a < 1000000:=l1 [a] [(1,.a V0 N1,.n 900000)] (.a V0 N1) (.n 1000000) rfl h0
theorem om133(h0:a < 900000):a+1 < 1000000:=l1 [a] [(1,.a V0 N1,.n 900000)] (.a (.a V0 N1) N1) (.n 1000000) rfl h0
theorem om134:a+b+1=1+a+b:=GP (l1 [a,b] [] (.a (.a V0 V1) N1) (.a (.a N1 V0) V1) rfl) (l1 [a,b] [] (.a (.a N1 V0) V1) (.a (.a V0 V1) N1) rfl)
theorem om135(h0:1+a < 5):1+a<=18:=l1 [a] [(1,.a (.a N1 V0) N1,.n 5)] (.a N1 V0) (.n 18) rfl h0
theorem om136(h0:1+a < 10):1+a+1<=1000000000:=l1 [a] [(1,.a (.a N1 V0) N1,.n 10)] (.a (.a N1 V0) N1) (.n 1000000000) rfl h0
theorem om137(h0:a<=b)(h1:b+1<=c):c≠a:=λe=>lf [a,b,c] [(1,V0,V1),(1,.a V1 N1,V2),(1,V2,V0)] rfl h0 h1 (le1 e)
theorem om138(h0:a<=3+b)(h1:c<=3+d):max (a+1) c<=3+max (b+1) d:=Nat.max_le.mpr ⟨G5 (DH h0:a+1<=3+(b+1)) (Df (Dw (b+1) d) 3),G5 h1 (Df (GZ (b+1) d) 3)⟩
theorem om139(h0:a+1<=b):b≠a:=λe=>lf [a,b] [(1,.a V0 N1,V1),(1,V1,V0)] rfl h0 (le1 e)
theorem om140(h0:1+a < 10):1+a<=18:=l1 [a] [(1,.a (.a N1 V0) N1,.n 10)] (.a N1 V0) (.n 18) rfl h0
theorem om141(h0:a<=11+2*b)(h1:c<=11+2*d):max (a+2) c<=11+2*max (b+1) d:=Nat.max_le.mpr ⟨G5 (Dy h0 2:a+2<=11+2*(b+1)) (Df (DX 2 (Dw (b+1) d)) 11),G5 h1 (Df (DX 2 (GZ (b+1) d)) 11)⟩
theorem om142(h0:a<=1):0+a<=2:=l1 [a] [(1,V0,N1)] (.a N0 V0) N2 rfl h0
theorem om143(h0:a+(b+(c+1))<=800000):a+c<=800000:=l1 [a,b,c] [(1,.a V0 (.a V1 (.a V2 N1)),.n 800000)] (.a V0 V2) (.n 800000) rfl h0
theorem om144(h0:a+(b+(c+1))<=40):a+1+c<=40:=l1 [a,b,c] [(1,.a V0 (.a V1 (.a V2 N1)),N40)] (.a (.a V0 N1) V2) N40 rfl h0
theorem om145:a+(b+1)=a+1+b:=GP (l1 [a,b] [] (.a V0 (.a V1 N1)) (.a (.a V0 N1) V1) rfl) (l1 [a,b] [] (.a (.a V0 N1) V1) (.a V0 (.a V1 N1)) rfl)
theorem om146(h0:a < 40):a+1<=1000000000:=l1 [a] [(1,.a V0 N1,N40)] (.a V0 N1) (.n 1000000000) rfl h0
theorem om147(h0:a<=10):1+a<=1000:=l1 [a] [(1,V0,.n 10)] (.a N1 V0) zM rfl h0
theorem om148(h0:a < 40):Nat.succ a<=1000:=l1 [a] [(1,.a V0 N1,N40)] (.a V0 N1) zM rfl h0
theorem om149(h0:a<=2):0+a<=2:=l1 [a] [(1,V0,N2)] (.a N0 V0) N2 rfl h0
theorem om150(h0:a+(b+(c+1))<=800000)(h1:d<=a+c):d < 900000:=l1 [a,b,c,d] [(1,.a V0 (.a V1 (.a V2 N1)),.n 800000),(1,V3,.a V0 V2)] (.a V3 N1) (.n 900000) rfl h0 h1
theorem om151(h0:a+(b+1)<=2):a+1+b<=2:=l1 [a,b] [(1,.a V0 (.a V1 N1),N2)] (.a (.a V0 N1) V1) N2 rfl h0
theorem om152(h0:a < 3):1+a<=1000:=l1 [a] [(1,.a V0 N1,N3)] (.a N1 V0) zM rfl h0
theorem om153(h0:a=0∨a=1):a<=1:=h0.elim (λe=>e▸D7 1) (λe=>le1 e)
theorem om154(h0:a+b<=800000):a < 900000:=l1 [a,b] [(1,.a V0 V1,.n 800000)] (.a V0 N1) (.n 900000) rfl h0
theorem om155(h0:a+1+b<=40):a < 40:=l1 [a,b] [(1,.a (.a V0 N1) V1,N40)] (.a V0 N1) N40 rfl h0
theorem om156(h0:a+b<=800000)(h1:c<=a+1):c < 1000000:=l1 [a,b,c] [(1,.a V0 V1,.n 800000),(1,V2,.a V0 N1)] (.a V2 N1) (.n 1000000) rfl h0 h1
theorem om157(h0:a+b<=800000)(h1:c<=a+1):c+1 < 900000:=l1 [a,b,c] [(1,.a V0 V1,.n 800000),(1,V2,.a V0 N1)] (.a (.a V2 N1) N1) (.n 900000) rfl h0 h1
theorem om158(h0:5<=a)(h1:b<=c+1)(h2:d<=b+1+2):d<=c+a:=l1 [a,b,c,d] [(1,.n 5,V0),(1,V1,.a V2 N1),(1,V3,.a (.a V1 N1) N2)] V3 (.a V2 V0) rfl h0 h1 h2
theorem om159(h0:a<=1):a<=2:=l1 [a] [(1,V0,N1)] V0 N2 rfl h0
theorem om160(h0:a+b<=800000)(h1:c<=a+1)(h2:d<=c+1+1):d < 1000000:=l1 [a,b,c,d] [(1,.a V0 V1,.n 800000),(1,V2,.a V0 N1),(1,V3,.a (.a V2 N1) N1)] (.a V3 N1) (.n 1000000) rfl h0 h1 h2
theorem kD:a < a+1+b:=l1 [a,b] [] (.a V0 N1) (.a (.a V0 N1) V1) rfl
theorem om162(h0:a < 3):1+a<=3:=l1 [a] [(1,.a V0 N1,N3)] (.a N1 V0) N3 rfl h0
theorem om163(h0:a < b):1+a<=b:=l1 [a,b] [(1,.a V0 N1,V1)] (.a N1 V0) V1 rfl h0
theorem om164(h0:a+(b+(c+1))<=800000)(h1:d<=a+c)(h2:e<=d+1):e+b<=800000:=l1 [a,b,c,d,e] [(1,.a V0 (.a V1 (.a V2 N1)),.n 800000),(1,V3,.a V0 V2),(1,V4,.a V3 N1)] (.a V4 V1) (.n 800000) rfl h0 h1 h2
theorem om165(h0:a+(b+(c+1))<=40)(h1:d<=c):a+1+d+b<=40:=l1 [a,b,c,d] [(1,.a V0 (.a V1 (.a V2 N1)),N40),(1,V3,V2)] (.a (.a (.a V0 N1) V3) V1) N40 rfl h0 h1
theorem om166:1<=a+2:=l1 [a] [] N1 (.a V0 N2) rfl
theorem om167(h0:a+b<=800000)(h1:c+4<=b)(h2:d<=a+1)(h3:e<=d+1+1)(h4:f<=c):e+1+f<=800000:=l1 [a,b,c,d,e,f] [(1,.a V0 V1,.n 800000),(1,.a V2 N4,V1),(1,V3,.a V0 N1),(1,V4,.a (.a V3 N1) N1),(1,.v 5,V2)] (.a (.a V4 N1) (.v 5)) (.n 800000) rfl h0 h1 h2 h3 h4
theorem om168(h0:a+1+b<=40)(h1:c<=b)(h2:d<=c):a+1+d<=40:=l1 [a,b,c,d] [(1,.a (.a V0 N1) V1,N40),(1,V2,V1),(1,V3,V2)] (.a (.a V0 N1) V3) N40 rfl h0 h1 h2
theorem om169(h0:a<=b+c)(h1:d<=a+1)(h2:e<=d+f):e<=b+(f+(c+1)):=l1 [a,b,c,d,e,f] [(1,V0,.a V1 V2),(1,V3,.a V0 N1),(1,V4,.a V3 (.v 5))] V4 (.a V1 (.a (.v 5) (.a V2 N1))) rfl h0 h1 h2
theorem om170(h0:a<=3)(h1:b < a):0+(1+b)<=900:=l1 [a,b] [(1,V0,N3),(1,.a V1 N1,V0)] (.a N0 (.a N1 V1)) N900 rfl h0 h1
theorem om171(h0:a<=3*b)(h1:c<=d):a+c<=d+3*b:=l1 [a,b,c,d] [(1,V0,.m 3 V1),(1,V2,V3)] (.a V0 V2) (.a V3 (.m 3 V1)) rfl h0 h1
theorem om172(h0:a<=3)(h1:b < a):b < 3:=l1 [a,b] [(1,V0,N3),(1,.a V1 N1,V0)] (.a V1 N1) N3 rfl h0 h1
theorem om173(h0:a+1+b<=2)(h1:c+b<=2):max (a+1) c+b<=2:=(Nat.le_total (a+1) c).elim (λh=>(Nat.max_eq_right h).symm▸h1) (λh=>(Nat.max_eq_left h).symm▸h0)
theorem om174(h0:a<=b)(h1:c<=d):1+a+c<=d+(b+1):=l1 [a,b,c,d] [(1,V0,V1),(1,V2,V3)] (.a (.a N1 V0) V2) (.a V3 (.a V1 N1)) rfl h0 h1
theorem om175:1+a≠0:=λe=>lf [a] [(1,.a N1 V0,N0)] rfl (le1 e)
theorem om176(h0:a+4<=b)(h1:c<=d+1)(h2:e<=c+1+1)(h3:f<=a)(h4:g<=e+1+f):g<=d+b:=l1 [a,b,c,d,e,f,g] [(1,.a V0 N4,V1),(1,V2,.a V3 N1),(1,V4,.a (.a V2 N1) N1),(1,.v 5,V0),(1,.v 6,.a (.a V4 N1) (.v 5))] (.v 6) (.a V3 V1) rfl h0 h1 h2 h3 h4
theorem om177(h0:a+4<=800000):a < 900000:=l1 [a] [(1,.a V0 N4,.n 800000)] (.a V0 N1) (.n 900000) rfl h0
theorem om178(h0:a<=b+1)(h1:c<=a+2):c<=b+4:=l1 [a,b,c] [(1,V0,.a V1 N1),(1,V2,.a V0 N2)] V2 (.a V1 N4) rfl h0 h1
theorem kC(h0:a < b)(h1:b<=c):c≠a:=λe=>lf [a,b,c] [(1,.a V0 N1,V1),(1,V1,V2),(1,V2,V0)] rfl h0 h1 (le1 e)
theorem om180(h0:a+(1+b+c)<=40):a < 40:=l1 [a,b,c] [(1,.a V0 (.a (.a N1 V1) V2),N40)] (.a V0 N1) N40 rfl h0
theorem om181:a < a+(1+b+c):=l1 [a,b,c] [] (.a V0 N1) (.a V0 (.a (.a N1 V1) V2)) rfl
theorem om182(h0:a+1<=b):a<=b:=l1 [a,b] [(1,.a V0 N1,V1)] V0 V1 rfl h0
theorem om183(h0:a < b+1+c):a < b+(1+c+d):=l1 [a,b,c,d] [(1,.a V0 N1,.a (.a V1 N1) V2)] (.a V0 N1) (.a V1 (.a (.a N1 V2) V3)) rfl h0
theorem om184(h0:a+(1+b+c)<=900):a+(1+b)<=900:=l1 [a,b,c] [(1,.a V0 (.a (.a N1 V1) V2),N900)] (.a V0 (.a N1 V1)) N900 rfl h0
theorem om185(h0:a+(1+b+c)<=40):a+1+b<=40:=l1 [a,b,c] [(1,.a V0 (.a (.a N1 V1) V2),N40)] (.a (.a V0 N1) V1) N40 rfl h0
theorem om186(h0:a+(1+b)<=900)(h1:c<=a+1):c+b<=900:=l1 [a,b,c] [(1,.a V0 (.a N1 V1),N900),(1,V2,.a V0 N1)] (.a V2 V1) N900 rfl h0 h1
theorem om187(h0:a+(1+b+c)<=40):a+(1+b)<=40:=l1 [a,b,c] [(1,.a V0 (.a (.a N1 V1) V2),N40)] (.a V0 (.a N1 V1)) N40 rfl h0
theorem om188(h0:a+1+b<=c):a<=c:=l1 [a,b,c] [(1,.a (.a V0 N1) V1,V2)] V0 V2 rfl h0
theorem om189(h0:a < b+1+c+d):a < b+(1+c+d):=l1 [a,b,c,d] [(1,.a V0 N1,.a (.a (.a V1 N1) V2) V3)] (.a V0 N1) (.a V1 (.a (.a N1 V2) V3)) rfl h0
theorem om190(h0:a+(1+b)<=40):a+1+b<=40:=l1 [a,b] [(1,.a V0 (.a N1 V1),N40)] (.a (.a V0 N1) V1) N40 rfl h0
theorem om191(h0:a+(1+b+c)<=40):a+1+b+c<=40:=l1 [a,b,c] [(1,.a V0 (.a (.a N1 V1) V2),N40)] (.a (.a (.a V0 N1) V1) V2) N40 rfl h0
theorem om192(h0:a < b):a < b+1+c:=l1 [a,b,c] [(1,.a V0 N1,V1)] (.a V0 N1) (.a (.a V1 N1) V2) rfl h0
theorem om193(h0:a+(1+b+c)<=900)(h1:d<=a+(1+b)):d+c<=900:=l1 [a,b,c,d] [(1,.a V0 (.a (.a N1 V1) V2),N900),(1,V3,.a V0 (.a N1 V1))] (.a V3 V2) N900 rfl h0 h1
theorem om194(h0:a+(1+b)<=900):Nat.succ a<=1000:=l1 [a,b] [(1,.a V0 (.a N1 V1),N900)] (.a V0 N1) zM rfl h0
theorem om195(h0:a<=b+1)(h1:c<=a+d):c<=b+(1+d):=l1 [a,b,c,d] [(1,V0,.a V1 N1),(1,V2,.a V0 V3)] V2 (.a V1 (.a N1 V3)) rfl h0 h1
theorem om196(h0:a+(1+b)<=40):a < 40:=l1 [a,b] [(1,.a V0 (.a N1 V1),N40)] (.a V0 N1) N40 rfl h0
theorem om197(h0:a < b∨b+(1+c)<=a):a < b+1∨b+1+c<=a:=h0.imp Dm (G5 (le1 (DC b 1 c)))
theorem om198(h0:a < b+1+c):a < b+1+c:=l1 [a,b,c] [(1,.a V0 N1,.a (.a V1 N1) V2)] (.a V0 N1) (.a (.a V1 N1) V2) rfl h0
theorem om199(h0:a < b∨b+(1+c)<=a):b≠a:=λe=>h0.elim (λh=>absurd e (D6 h)) (λh=>absurd e (D1 (GR (Nat.lt_add_of_pos_right (Nat.add_pos_left Nat.one_pos c)) h)))
theorem om200(h0:a < b∨b+(1+c+d)<=a):a < b+1+c∨b+1+c+d<=a:=h0.imp (λh=>GR h (G5 (D4 b) (Gp _ c))) (λh=>l1 [a,b,c,d] [(1,.a V1 (.a (.a N1 V2) V3),V0)] (.a (.a (.a V1 N1) V2) V3) V0 rfl h)
theorem om201(h0:a < b∨b+(1+c+d)<=a):a < b∨b+(1+c)<=a:=h0.imp id (G5 (Df (Gp _ d) b))
theorem om202(h0:a<=b+(1+c))(h1:d<=a+e):d<=b+(1+c+e):=l1 [a,b,c,d,e] [(1,V0,.a V1 (.a N1 V2)),(1,V3,.a V0 V4)] V3 (.a V1 (.a (.a N1 V2) V4)) rfl h0 h1
theorem om203(h0:a+(b+(c+1))<=40):a < 40:=l1 [a,b,c] [(1,.a V0 (.a V1 (.a V2 N1)),N40)] (.a V0 N1) N40 rfl h0
theorem om204(h0:a+(b+(c+1))<=40)(h1:d < a):d < 40:=l1 [a,b,c,d] [(1,.a V0 (.a V1 (.a V2 N1)),N40),(1,.a V3 N1,V0)] (.a V3 N1) N40 rfl h0 h1
theorem om205(h0:a < b):b≠a:=λe=>lf [a,b] [(1,.a V0 N1,V1),(1,V1,V0)] rfl h0 (le1 e)
theorem om206(h0:a<=b):0+a<=b+3*c:=l1 [a,b,c] [(1,V0,V1)] (.a N0 V0) (.a V1 (.m 3 V2)) rfl h0
theorem om207(h0:a=b+2):b<=a:=l1 [a,b] [(1,.a V1 N2,V0)] V1 V0 rfl (le1 h0.symm)
theorem om208(h0:a+2<=b):2<=b:=l1 [a,b] [(1,.a V0 N2,V1)] N2 V1 rfl h0
theorem om209(h0:a+1+2<=b):1<=b:=l1 [a,b] [(1,.a (.a V0 N1) N2,V1)] N1 V1 rfl h0
theorem om210:1+4*a+4=1+4*(a+1):=GP (l1 [a] [] (.a (.a N1 (.m 4 V0)) N4) (.a N1 (.m 4 (.a V0 N1))) rfl) (l1 [a] [] (.a N1 (.m 4 (.a V0 N1))) (.a (.a N1 (.m 4 V0)) N4) rfl)
theorem om211(h0:a+1+2<=b+1):a+2<=b:=l1 [a,b] [(1,.a (.a V0 N1) N2,.a V1 N1)] (.a V0 N2) V1 rfl h0
theorem om212(h0:a<=900):0+a<=900:=l1 [a] [(1,V0,N900)] (.a N0 V0) N900 rfl h0
theorem om213:a+1+b<=a+(1+b+c):=l1 [a,b,c] [] (.a (.a V0 N1) V1) (.a V0 (.a (.a N1 V1) V2)) rfl
theorem om214:a+1+b+c<=a+(1+b+c):=l1 [a,b,c] [] (.a (.a (.a V0 N1) V1) V2) (.a V0 (.a (.a N1 V1) V2)) rfl
theorem om215(h0:a<=b)(h1:c < a):b≠c:=λe=>lf [a,b,c] [(1,V0,V1),(1,.a V2 N1,V0),(1,V1,V2)] rfl h0 h1 (le1 e)
theorem om216(h0:a<=b)(h1:c < a):c≠b:=λe=>lf [a,b,c] [(1,V0,V1),(1,.a V2 N1,V0),(1,V1,V2)] rfl h0 h1 (le1 e.symm)
theorem om217(h0:a+1+b<=a+c):a < a+c:=l1 [a,b,c] [(1,.a (.a V0 N1) V1,.a V0 V2)] (.a V0 N1) (.a V0 V2) rfl h0
theorem om218(h0:a < b)(h1:b<=c):a<=c:=l1 [a,b,c] [(1,.a V0 N1,V1),(1,V1,V2)] V0 V2 rfl h0 h1
theorem om219(h0:a < b)(h1:b<=c/\b<=d):a<=c:=l1 [a,b,c,d] [(1,.a V0 N1,V1),(1,V1,V2)] V0 V2 rfl h0 h1.1
theorem om220(h0:a < b)(h1:b<=c/\b<=d):d≠a:=λe=>lf [a,b,c,d] [(1,.a V0 N1,V1),(1,V1,V3),(1,V3,V0)] rfl h0 h1.2 (le1 e)
theorem om221(h0:a < b)(h1:b<=c/\b<=d):a<=d:=l1 [a,b,c,d] [(1,.a V0 N1,V1),(1,V1,V3)] V0 V3 rfl h0 h1.2
theorem om222(h0:a<=b/\a<=c)(h1:d < a)(h2:c=d):False:=lf [a,b,c,d] [(1,V0,V2),(1,.a V3 N1,V0),(1,V2,V3)] rfl h0.2 h1 (le1 h2)
theorem om223(h0:a<=b)(h1:c=b)(h2:c<=d):a<=d:=l1 [a,b,c,d] [(1,V0,V1),(1,V1,V2),(1,V2,V3)] V0 V3 rfl h0 (le1 h1.symm) h2
theorem om224(h0:a<=b)(h1:c=b)(h2:c<=d/\c<=e):a<=d:=l1 [a,b,c,d,e] [(1,V0,V1),(1,V1,V2),(1,V2,V3)] V0 V3 rfl h0 (le1 h1.symm) h2.1
theorem om225(h0:a<=b)(h1:c=b)(h2:c<=d/\c<=e):a<=e:=l1 [a,b,c,d,e] [(1,V0,V1),(1,V1,V2),(1,V2,V4)] V0 V4 rfl h0 (le1 h1.symm) h2.2
theorem om226(h0:a<=38):a<=39:=l1 [a] [(1,V0,.n 38)] V0 (.n 39) rfl h0
theorem om227(h0:a<=38):1+a+0<=50:=l1 [a] [(1,V0,.n 38)] (.a (.a N1 V0) N0) (.n 50) rfl h0
theorem om228:a<=a+1+b:=l1 [a,b] [] V0 (.a (.a V0 N1) V1) rfl
theorem om229(h0:a < b):a < b+8:=l1 [a,b] [(1,.a V0 N1,V1)] (.a V0 N1) (.a V1 N8) rfl h0
theorem om230:a<=a:=l1 [a] [] V0 V0 rfl
theorem om231:a<=a+1:=l1 [a] [] V0 (.a V0 N1) rfl
theorem om232(h0:a+8<=b)(h1:c < a+8):b≠c:=λe=>lf [a,b,c] [(1,.a V0 N8,V1),(1,.a V2 N1,.a V0 N8),(1,V1,V2)] rfl h0 h1 (le1 e)
theorem om233:a<=a+2:=l1 [a] [] V0 (.a V0 N2) rfl
theorem om234:a<=a+3:=l1 [a] [] V0 (.a V0 N3) rfl
theorem om235:a < a+8:=l1 [a] [] (.a V0 N1) (.a V0 N8) rfl
theorem om236:a<=a+4:=l1 [a] [] V0 (.a V0 N4) rfl
theorem om237:a+1 < a+8:=l1 [a] [] (.a (.a V0 N1) N1) (.a V0 N8) rfl
theorem om238(h0:a < b):a≠b+7:=λe=>lf [a,b] [(1,.a V0 N1,V1),(1,.a V1 N7,V0)] rfl h0 (le1 e.symm)
theorem om239:a<=a+7:=l1 [a] [] V0 (.a V0 N7) rfl
theorem om240(h0:a < b):a≠b:=λe=>lf [a,b] [(1,.a V0 N1,V1),(1,V1,V0)] rfl h0 (le1 e.symm)
theorem om241:a+2 < a+8:=l1 [a] [] (.a (.a V0 N2) N1) (.a V0 N8) rfl
theorem om242:a+3 < a+8:=l1 [a] [] (.a (.a V0 N3) N1) (.a V0 N8) rfl
theorem om243:a+4 < a+8:=l1 [a] [] (.a (.a V0 N4) N1) (.a V0 N8) rfl
theorem om244:a≠a+7:=λe=>lf [a] [(1,.a V0 N7,V0)] rfl (le1 e.symm)
theorem om245:a+1≠a+7:=λe=>lf [a] [(1,.a V0 N7,.a V0 N1)] rfl (le1 e.symm)
theorem om246(h0:a+8<=b)(h1:c < a):c < b:=l1 [a,b,c] [(1,.a V0 N8,V1),(1,.a V2 N1,V0)] (.a V2 N1) V1 rfl h0 h1
theorem om247:a+2≠a+7:=λe=>lf [a] [(1,.a V0 N7,.a V0 N2)] rfl (le1 e.symm)
theorem om248(h0:a+8<=b/\a+8<=c):a<=b:=l1 [a,b,c] [(1,.a V0 N8,V1)] V0 V1 rfl h0.1
theorem om249:a+3≠a+7:=λe=>lf [a] [(1,.a V0 N7,.a V0 N3)] rfl (le1 e.symm)
theorem om250:a+7 < a+8:=l1 [a] [] (.a (.a V0 N7) N1) (.a V0 N8) rfl
theorem om251:a+4≠a+7:=λe=>lf [a] [(1,.a V0 N7,.a V0 N4)] rfl (le1 e.symm)
theorem om252(h0:a+8<=b):a+7 < b:=l1 [a,b] [(1,.a V0 N8,V1)] (.a (.a V0 N7) N1) V1 rfl h0
theorem om253(h0:a+8<=b):a < b:=l1 [a,b] [(1,.a V0 N8,V1)] (.a V0 N1) V1 rfl h0
theorem om254(h0:a+8<=b/\a+8<=c):a<=c:=l1 [a,b,c] [(1,.a V0 N8,V2)] V0 V2 rfl h0.2
theorem om255(h0:a+8<=b/\a+8<=c):b≠a+7:=λe=>lf [a,b,c] [(1,.a V0 N8,V1),(1,V1,.a V0 N7)] rfl h0.1 (le1 e)
theorem om256(h0:a+8<=b/\a+8<=c):c≠a+7:=λe=>lf [a,b,c] [(1,.a V0 N8,V2),(1,V2,.a V0 N7)] rfl h0.2 (le1 e)
theorem om257(h0:a<=b)(h1:c+8<=a):c+8<=b:=l1 [a,b,c] [(1,V0,V1),(1,.a V2 N8,V0)] (.a V2 N8) V1 rfl h0 h1
theorem om258(h0:a+7 < b):b≠a+7:=λe=>lf [a,b] [(1,.a (.a V0 N7) N1,V1),(1,V1,.a V0 N7)] rfl h0 (le1 e)
theorem om259(h0:a < b):b+1≠a:=λe=>lf [a,b] [(1,.a V0 N1,V1),(1,.a V1 N1,V0)] rfl h0 (le1 e)
theorem om260:a+1≠a:=λe=>lf [a] [(1,.a V0 N1,V0)] rfl (le1 e)
theorem om261(h0:a+7>=b)(h1:a+7 < b):c<=b:=absurd h1 (GX h0)
theorem om262(h0:a < b):b+2≠a:=λe=>lf [a,b] [(1,.a V0 N1,V1),(1,.a V1 N2,V0)] rfl h0 (le1 e)
theorem om263:a+2≠a:=λe=>lf [a] [(1,.a V0 N2,V0)] rfl (le1 e)
theorem om264(h0:a < b):b+3≠a:=λe=>lf [a,b] [(1,.a V0 N1,V1),(1,.a V1 N3,V0)] rfl h0 (le1 e)
theorem om265:a+3≠a:=λe=>lf [a] [(1,.a V0 N3,V0)] rfl (le1 e)
theorem om266(h0:a < b):b+4≠a:=λe=>lf [a,b] [(1,.a V0 N1,V1),(1,.a V1 N4,V0)] rfl h0 (le1 e)
theorem om267(h0:a+8<=b):b≠a+7:=λe=>lf [a,b] [(1,.a V0 N8,V1),(1,V1,.a V0 N7)] rfl h0 (le1 e)
theorem om268:a+4≠a:=λe=>lf [a] [(1,.a V0 N4,V0)] rfl (le1 e)
theorem om269(h0:a < b):b+7≠a:=λe=>lf [a,b] [(1,.a V0 N1,V1),(1,.a V1 N7,V0)] rfl h0 (le1 e)
theorem om270:a+7≠a:=λe=>lf [a] [(1,.a V0 N7,V0)] rfl (le1 e)
theorem om271(h0:a+8<=b)(h1:b<=c):a+8<=c:=l1 [a,b,c] [(1,.a V0 N8,V1),(1,V1,V2)] (.a V0 N8) V2 rfl h0 h1
theorem om272(h0:a < b)(h1:b+8<=c):c≠a:=λe=>lf [a,b,c] [(1,.a V0 N1,V1),(1,.a V1 N8,V2),(1,V2,V0)] rfl h0 h1 (le1 e)
theorem om273(h0:a+8<=b):b≠a:=λe=>lf [a,b] [(1,.a V0 N8,V1),(1,V1,V0)] rfl h0 (le1 e)
theorem om274(h0:a+8<=b)(h1:b<=c/\b<=d):a+8<=c:=l1 [a,b,c,d] [(1,.a V0 N8,V1),(1,V1,V2)] (.a V0 N8) V2 rfl h0 h1.1
theorem om275:a < a+1:=l1 [a] [] (.a V0 N1) (.a V0 N1) rfl
theorem om276(h0:a+8<=b)(h1:b<=c/\b<=d):a+8<=d:=l1 [a,b,c,d] [(1,.a V0 N8,V1),(1,V1,V3)] (.a V0 N8) V3 rfl h0 h1.2
theorem om277(h0:a < b)(h1:b+8<=c/\b+8<=d):c≠a:=λe=>lf [a,b,c,d] [(1,.a V0 N1,V1),(1,.a V1 N8,V2),(1,V2,V0)] rfl h0 h1.1 (le1 e)
theorem om278(h0:a+8<=b/\a+8<=c):b≠a:=λe=>lf [a,b,c] [(1,.a V0 N8,V1),(1,V1,V0)] rfl h0.1 (le1 e)
theorem om279(h0:a < b)(h1:b+8<=c/\b+8<=d):d≠a:=λe=>lf [a,b,c,d] [(1,.a V0 N1,V1),(1,.a V1 N8,V3),(1,V3,V0)] rfl h0 h1.2 (le1 e)
theorem om280(h0:a+8<=b/\a+8<=c):c≠a:=λe=>lf [a,b,c] [(1,.a V0 N8,V2),(1,V2,V0)] rfl h0.2 (le1 e)
theorem om281(h0:a+b<=2):1+a<=9:=l1 [a,b] [(1,.a V0 V1,N2)] (.a N1 V0) (.n 9) rfl h0
theorem om282(h0:a+b<=2)(h1:c<=11+2*a):c<=15:=l1 [a,b,c] [(2,.a V0 V1,N2),(1,V2,.a (.n 11) (.m 2 V0))] V2 (.n 15) rfl h0 h1
theorem om283(h0:a+b<=2)(h1:c<=3+a):c<=15:=l1 [a,b,c] [(1,.a V0 V1,N2),(1,V2,.a N3 V0)] V2 (.n 15) rfl h0 h1
theorem om284(h0:a < b):a≠b+3:=λe=>lf [a,b] [(1,.a V0 N1,V1),(1,.a V1 N3,V0)] rfl h0 (le1 e.symm)
theorem om285:a≠a+3:=λe=>lf [a] [(1,.a V0 N3,V0)] rfl (le1 e.symm)
theorem om286(h0:a<=1000):a+16<=800000:=l1 [a] [(1,V0,zM)] (.a V0 (.n 16)) (.n 800000) rfl h0
theorem om287:a+1≠a+3:=λe=>lf [a] [(1,.a V0 N3,.a V0 N1)] rfl (le1 e.symm)
theorem om288(h0:a<=30):a+1+2<=40:=l1 [a] [(1,V0,.n 30)] (.a (.a V0 N1) N2) N40 rfl h0
theorem om289:a+2≠a+3:=λe=>lf [a] [(1,.a V0 N3,.a V0 N2)] rfl (le1 e.symm)
theorem om290:a+4≠a+3:=λe=>lf [a] [(1,.a V0 N4,.a V0 N3)] rfl (le1 e)
theorem om291:a+7≠a+3:=λe=>lf [a] [(1,.a V0 N7,.a V0 N3)] rfl (le1 e)
theorem om292(h0:a+8<=b/\a+8<=c):b≠a+3:=λe=>lf [a,b,c] [(1,.a V0 N8,V1),(1,V1,.a V0 N3)] rfl h0.1 (le1 e)
theorem om293(h0:a+1<=2):a<=b+7:=l1 [a,b] [(1,.a V0 N1,N2)] V0 (.a V1 N7) rfl h0
theorem om294(h0:a<=100)(h1:b<=2):a+(1+b)<=900:=l1 [a,b] [(1,V0,.n 100),(1,V1,N2)] (.a V0 (.a N1 V1)) N900 rfl h0 h1
theorem om295(h0:a+8<=b/\a+8<=c):c≠a+3:=λe=>lf [a,b,c] [(1,.a V0 N8,V2),(1,V2,.a V0 N3)] rfl h0.2 (le1 e)
theorem om296(h0:a<=30)(h1:b<=2):a+(1+b)<=40:=l1 [a,b] [(1,V0,.n 30),(1,V1,N2)] (.a V0 (.a N1 V1)) N40 rfl h0 h1
theorem om297(h0:a+1<=2):a+2<=b+7:=l1 [a,b] [(1,.a V0 N1,N2)] (.a V0 N2) (.a V1 N7) rfl h0
theorem Jv(h0:a<=2):a<=900:=l1 [a] [(1,V0,N2)] V0 N900 rfl h0
theorem om299(h0:a<=30)(h1:b < a):b < 40:=l1 [a,b] [(1,V0,.n 30),(1,.a V1 N1,V0)] (.a V1 N1) N40 rfl h0 h1
theorem om300(h0:a<=2):a<=38:=l1 [a] [(1,V0,N2)] V0 (.n 38) rfl h0
theorem om301(h0:a+8<=b):a+3≠b:=λe=>lf [a,b] [(1,.a V0 N8,V1),(1,V1,.a V0 N3)] rfl h0 (le1 e.symm)
theorem om302(h0:a=b+1+6):a=b+7:=GP (l1 [a,b] [(1,V0,.a (.a V1 N1) (.n 6))] V0 (.a V1 N7) rfl (le1 h0)) (l1 [a,b] [(1,.a (.a V1 N1) (.n 6),V0)] (.a V1 N7) V0 rfl (le1 h0.symm))
theorem om303(h0:a=b+1+6):b+8<=a+1:=l1 [a,b] [(1,.a (.a V1 N1) (.n 6),V0)] (.a V1 N8) (.a V0 N1) rfl (le1 h0.symm)
theorem om304(h0:a<=2):b+(a+1)<=b+3:=l1 [a,b] [(1,V0,N2)] (.a V1 (.a V0 N1)) (.a V1 N3) rfl h0
theorem om305(h0:a<=9):a<=900:=l1 [a] [(1,V0,.n 9)] V0 N900 rfl h0
theorem om306(h0:a < b):a≠b+2:=λe=>lf [a,b] [(1,.a V0 N1,V1),(1,.a V1 N2,V0)] rfl h0 (le1 e.symm)
theorem om307:a≠a+2:=λe=>lf [a] [(1,.a V0 N2,V0)] rfl (le1 e.symm)
theorem om308:a+1≠a+2:=λe=>lf [a] [(1,.a V0 N2,.a V0 N1)] rfl (le1 e.symm)
theorem om309:a+3≠a+2:=λe=>lf [a] [(1,.a V0 N3,.a V0 N2)] rfl (le1 e)
theorem om310:a+4≠a+2:=λe=>lf [a] [(1,.a V0 N4,.a V0 N2)] rfl (le1 e)
theorem om311:a+7≠a+2:=λe=>lf [a] [(1,.a V0 N7,.a V0 N2)] rfl (le1 e)
theorem om312(h0:a+0<=2):a<=b+7:=l1 [a,b] [(1,.a V0 N0,N2)] V0 (.a V1 N7) rfl h0
theorem om313(h0:a+8<=b/\a+8<=c):b≠a+2:=λe=>lf [a,b,c] [(1,.a V0 N8,V1),(1,V1,.a V0 N2)] rfl h0.1 (le1 e)
theorem om314(h0:a<=100)(h1:b<=9):a+(1+b)<=900:=l1 [a,b] [(1,V0,.n 100),(1,V1,.n 9)] (.a V0 (.a N1 V1)) N900 rfl h0 h1
theorem om315(h0:a+8<=b/\a+8<=c):c≠a+2:=λe=>lf [a,b,c] [(1,.a V0 N8,V2),(1,V2,.a V0 N2)] rfl h0.2 (le1 e)
theorem om316(h0:a<=30)(h1:b<=9):a+(1+b)<=40:=l1 [a,b] [(1,V0,.n 30),(1,V1,.n 9)] (.a V0 (.a N1 V1)) N40 rfl h0 h1
theorem om317(h0:a+0<=2):a+2<=b+7:=l1 [a,b] [(1,.a V0 N0,N2)] (.a V0 N2) (.a V1 N7) rfl h0
theorem om318(h0:a<=9):a<=38:=l1 [a] [(1,V0,.n 9)] V0 (.n 38) rfl h0
theorem om319(h0:a+8<=b):a+2≠b:=λe=>lf [a,b] [(1,.a V0 N8,V1),(1,V1,.a V0 N2)] rfl h0 (le1 e.symm)
theorem om320(h0:a<=9)(h1:b<=c+(1+a)):b<=c+10:=l1 [a,b,c] [(1,V0,.n 9),(1,V1,.a V2 (.a N1 V0))] V1 (.a V2 (.n 10)) rfl h0 h1
theorem om321(h0:a<=b)(h1:b<=c):a<=c:=l1 [a,b,c] [(1,V0,V1),(1,V1,V2)] V0 V2 rfl h0 h1
theorem om322(h0:a<=10):a < 1000:=l1 [a] [(1,V0,.n 10)] (.a V0 N1) zM rfl h0
theorem om323(h0:a<=2000):a+60<=800000:=l1 [a] [(1,V0,.n 2000)] (.a V0 (.n 60)) (.n 800000) rfl h0
theorem om324(h0:a<=30):a+1+9<=40:=l1 [a] [(1,V0,.n 30)] (.a (.a V0 N1) (.n 9)) N40 rfl h0
theorem om325(h0:a<=b+60):a<=b+61:=l1 [a,b] [(1,V0,.a V1 (.n 60))] V0 (.a V1 (.n 61)) rfl h0
theorem om326(h0:a<=29):a+1+9<=40:=l1 [a] [(1,V0,.n 29)] (.a (.a V0 N1) (.n 9)) N40 rfl h0
theorem om327(h0:a<=9):b+(a+1)<=b+10:=l1 [a,b] [(1,V0,.n 9)] (.a V1 (.a V0 N1)) (.a V1 (.n 10)) rfl h0
theorem om328(h0:a<=500):a < 1000000:=l1 [a] [(1,V0,.n 500)] (.a V0 N1) (.n 1000000) rfl h0
theorem om329(h0:a<=2000)(h1:b<=a+60):b < 1000000:=l1 [a,b] [(1,V0,.n 2000),(1,V1,.a V0 (.n 60))] (.a V1 N1) (.n 1000000) rfl h0 h1
theorem om330:a < a+(b+1):=l1 [a,b] [] (.a V0 N1) (.a V0 (.a V1 N1)) rfl
theorem om331(h0:a < b)(h1:b+8<=c):a≠c:=λe=>lf [a,b,c] [(1,.a V0 N1,V1),(1,.a V1 N8,V2),(1,V2,V0)] rfl h0 h1 (le1 e.symm)
theorem om332(h0:a<=500):a+1<=2000:=l1 [a] [(1,V0,.n 500)] (.a V0 N1) (.n 2000) rfl h0
theorem om333(h0:a<=10):a<=30:=l1 [a] [(1,V0,.n 10)] V0 (.n 30) rfl h0
theorem om334(h0:a<=60):a<=100:=l1 [a] [(1,V0,.n 60)] V0 (.n 100) rfl h0
theorem om335(h0:a<=b+10):a<=b+20:=l1 [a,b] [(1,V0,.a V1 (.n 10))] V0 (.a V1 (.n 20)) rfl h0
theorem om336(h0:a<=b+1+61):a<=b+130:=l1 [a,b] [(1,V0,.a (.a V1 N1) (.n 61))] V0 (.a V1 (.n 130)) rfl h0
theorem om337(h0:a<=29):a<=30:=l1 [a] [(1,V0,.n 29)] V0 (.n 30) rfl h0
theorem om338(h0:a < b)(h1:b=c)(h2:c < d)(h3:a>=d):False:=lf [a,b,c,d] [(1,.a V0 N1,V1),(1,V1,V2),(1,.a V2 N1,V3),(1,V3,V0)] rfl h0 (le1 h1) h2 h3
theorem om339(h0:a < b):a≠b+4:=λe=>lf [a,b] [(1,.a V0 N1,V1),(1,.a V1 N4,V0)] rfl h0 (le1 e.symm)
theorem om340:a≠a+4:=λe=>lf [a] [(1,.a V0 N4,V0)] rfl (le1 e.symm)
theorem om341(h0:a<=1000):a < 1000000:=l1 [a] [(1,V0,zM)] (.a V0 N1) (.n 1000000) rfl h0
theorem om342:a+1≠a+4:=λe=>lf [a] [(1,.a V0 N4,.a V0 N1)] rfl (le1 e.symm)
theorem om343(h0:a<=500)(h1:b<=a+1+61):b<=2000:=l1 [a,b] [(1,V0,.n 500),(1,V1,.a (.a V0 N1) (.n 61))] V1 (.n 2000) rfl h0 h1
theorem om344:a+2≠a+4:=λe=>lf [a] [(1,.a V0 N4,.a V0 N2)] rfl (le1 e.symm)
theorem om345:a+3≠a+4:=λe=>lf [a] [(1,.a V0 N4,.a V0 N3)] rfl (le1 e.symm)
theorem om346(h0:a<=10)(h1:b<=a+10):b<=29:=l1 [a,b] [(1,V0,.n 10),(1,V1,.a V0 (.n 10))] V1 (.n 29) rfl h0 h1
theorem om347(h0:a<=60)(h1:b<=a+10):b<=100:=l1 [a,b] [(1,V0,.n 60),(1,V1,.a V0 (.n 10))] V1 (.n 100) rfl h0 h1
theorem om348(h0:a<=b+60):a+1<=b+61:=l1 [a,b] [(1,V0,.a V1 (.n 60))] (.a V0 N1) (.a V1 (.n 61)) rfl h0
theorem om349(h0:a+1+1 < 2):b<=16:=absurd h0 (GX (GJ 2 a))
theorem om350:a+7≠a+4:=λe=>lf [a] [(1,.a V0 N7,.a V0 N4)] rfl (le1 e)
theorem om351(h0:a+8<=b/\a+8<=c):b≠a+4:=λe=>lf [a,b,c] [(1,.a V0 N8,V1),(1,V1,.a V0 N4)] rfl h0.1 (le1 e)
theorem om352(h0:a+8<=b/\a+8<=c):c≠a+4:=λe=>lf [a,b,c] [(1,.a V0 N8,V2),(1,V2,.a V0 N4)] rfl h0.2 (le1 e)
theorem om353(h0:a+1+1 < 2):b<=2:=absurd h0 (GX (GJ 2 a))
theorem om354(h0:a < 2):1+a<=2:=l1 [a] [(1,.a V0 N1,N2)] (.a N1 V0) N2 rfl h0
theorem om355(h0:a<=1000)(h1:b<=16):a+1+b<=800000:=l1 [a,b] [(1,V0,zM),(1,V1,.n 16)] (.a (.a V0 N1) V1) (.n 800000) rfl h0 h1
theorem om356(h0:a < b)(h1:b<=c):a≠c:=λe=>lf [a,b,c] [(1,.a V0 N1,V1),(1,V1,V2),(1,V2,V0)] rfl h0 h1 (le1 e.symm)
theorem om357(h0:a<=3)(h1:b<=2):a+1+b<=40:=l1 [a,b] [(1,V0,N3),(1,V1,N2)] (.a (.a V0 N1) V1) N40 rfl h0 h1
theorem om358(h0:a<=29):a < 40:=l1 [a] [(1,V0,.n 29)] (.a V0 N1) N40 rfl h0
theorem om359(h0:a=b):b<=a:=l1 [a,b] [(1,V1,V0)] V1 V0 rfl (le1 h0.symm)
theorem om360(h0:a<=29)(h1:b < a):b < 40:=l1 [a,b] [(1,V0,.n 29),(1,.a V1 N1,V0)] (.a V1 N1) N40 rfl h0 h1
theorem om361(h0:a<=2):a<=b+7:=l1 [a,b] [(1,V0,N2)] V0 (.a V1 N7) rfl h0
theorem om362(h0:a<=b+10)(h1:c<=a+10):c<=b+20:=l1 [a,b,c] [(1,V0,.a V1 (.n 10)),(1,V2,.a V0 (.n 10))] V2 (.a V1 (.n 20)) rfl h0 h1
theorem om363(h0:a<=10)(h1:b<=2):a+(1+b)<=900:=l1 [a,b] [(1,V0,.n 10),(1,V1,N2)] (.a V0 (.a N1 V1)) N900 rfl h0 h1
theorem om364(h0:a<=10)(h1:b<=2):a+(1+b)<=40:=l1 [a,b] [(1,V0,.n 10),(1,V1,N2)] (.a V0 (.a N1 V1)) N40 rfl h0 h1
theorem om365(h0:a<=b+1+61)(h1:c<=a+61):c<=b+130:=l1 [a,b,c] [(1,V0,.a (.a V1 N1) (.n 61)),(1,V2,.a V0 (.n 61))] V2 (.a V1 (.n 130)) rfl h0 h1
theorem om366:1<=1+a:=l1 [a] [] N1 (.a N1 V0) rfl
theorem om367(h0:a=b)(h1:a<=c):b<=c:=l1 [a,b,c] [(1,V1,V0),(1,V0,V2)] V1 V2 rfl (le1 h0.symm) h1
theorem om368(h0:a<=16)(h1:b<=c+1+a):b<=c+17:=l1 [a,b,c] [(1,V0,.n 16),(1,V1,.a (.a V2 N1) V0)] V1 (.a V2 (.n 17)) rfl h0 h1
theorem om369(h0:a<=2):a+2<=b+7:=l1 [a,b] [(1,V0,N2)] (.a V0 N2) (.a V1 N7) rfl h0
theorem om370:0 < 1000000:=l1 [] [] (.a N0 N1) (.n 1000000) rfl
theorem om371:a+1=1+a:=GP (l1 [a] [] (.a V0 N1) (.a N1 V0) rfl) (l1 [a] [] (.a N1 V0) (.a V0 N1) rfl)
theorem om372(h0:a<=1+17):a<=1000:=l1 [a] [(1,V0,.a N1 (.n 17))] V0 zM rfl h0
theorem om373(h0:a<=2)(h1:b=1+a):b<=3:=l1 [a,b] [(1,V0,N2),(1,V1,.a N1 V0)] V1 N3 rfl h0 (le1 h1)
theorem om374(h0:a<=b)(h1:c+8<=d)(h2:a=d):c+8<=b:=l1 [a,b,c,d] [(1,V0,V1),(1,.a V2 N8,V3),(1,V3,V0)] (.a V2 N8) V1 rfl h0 h1 (le1 h2.symm)
theorem om375(h0:a < b)(h1:b<=c):a < c:=l1 [a,b,c] [(1,.a V0 N1,V1),(1,V1,V2)] (.a V0 N1) V2 rfl h0 h1
theorem om376(h0:a<=b)(h1:c+8<=d)(h2:a=d)(h3:b<=e):c+8<=e:=l1 [a,b,c,d,e] [(1,V0,V1),(1,.a V2 N8,V3),(1,V3,V0),(1,V1,V4)] (.a V2 N8) V4 rfl h0 h1 (le1 h2.symm) h3
theorem om377(h0:a<=2)(h1:b<=2):a+b+1<=900:=l1 [a,b] [(1,V0,N2),(1,V1,N2)] (.a (.a V0 V1) N1) N900 rfl h0 h1
theorem om378(h0:a<=40)(h1:b=a):b<=900:=l1 [a,b] [(1,V0,N40),(1,V1,V0)] V1 N900 rfl h0 (le1 h1)
theorem om379:a≠a+1:=λe=>lf [a] [(1,.a V0 N1,V0)] rfl (le1 e.symm)
theorem om380:a+7≠a+1:=λe=>lf [a] [(1,.a V0 N7,.a V0 N1)] rfl (le1 e)
theorem om381:a+2≠a+1:=λe=>lf [a] [(1,.a V0 N2,.a V0 N1)] rfl (le1 e)
theorem om382:a+3≠a+1:=λe=>lf [a] [(1,.a V0 N3,.a V0 N1)] rfl (le1 e)
theorem om383:a+4≠a+1:=λe=>lf [a] [(1,.a V0 N4,.a V0 N1)] rfl (le1 e)
theorem om384(h0:a+b<=2):a<=2:=l1 [a,b] [(1,.a V0 V1,N2)] V0 N2 rfl h0
theorem om385(h0:a+8<=b):b≠a+1:=λe=>lf [a,b] [(1,.a V0 N8,V1),(1,V1,.a V0 N1)] rfl h0 (le1 e)
theorem om386(h0:a<=2)(h1:b<=0+(1+a)):b<=10:=l1 [a,b] [(1,V0,N2),(1,V1,.a N0 (.a N1 V0))] V1 (.n 10) rfl h0 h1
theorem om387(h0:a<=40)(h1:b=a):0+b<=900:=l1 [a,b] [(1,V0,N40),(1,V1,V0)] (.a N0 V1) N900 rfl h0 (le1 h1)
theorem om388(h0:a<=2):1+a<=10:=l1 [a] [(1,V0,N2)] (.a N1 V0) (.n 10) rfl h0
theorem om389(h0:a<=b)(h1:c < a):c < b:=l1 [a,b,c] [(1,V0,V1),(1,.a V2 N1,V0)] (.a V2 N1) V1 rfl h0 h1
theorem om390(h0:a<=b)(h1:b < c)(h2:d+8<=a):d+8<=c:=l1 [a,b,c,d] [(1,V0,V1),(1,.a V1 N1,V2),(1,.a V3 N8,V0)] (.a V3 N8) V2 rfl h0 h1 h2
theorem om391(h0:a<=b)(h1:b < c)(h2:d < a):c≠d:=λe=>lf [a,b,c,d] [(1,V0,V1),(1,.a V1 N1,V2),(1,.a V3 N1,V0),(1,V2,V3)] rfl h0 h1 h2 (le1 e)
theorem om392(h0:a+b+c<=900):a+b+1<=1000:=l1 [a,b,c] [(1,.a (.a V0 V1) V2,N900)] (.a (.a V0 V1) N1) zM rfl h0
theorem om393(h0:a<=40)(h1:b=a):b<=1000:=l1 [a,b] [(1,V0,N40),(1,V1,V0)] V1 zM rfl h0 (le1 h1)
theorem om394(h0:a<=100):a<=500:=l1 [a] [(1,V0,.n 100)] V0 (.n 500) rfl h0
theorem om395(h0:a<=6):a<=10:=l1 [a] [(1,V0,.n 6)] V0 (.n 10) rfl h0
theorem om396(h0:a<=6):a<=60:=l1 [a] [(1,V0,.n 6)] V0 (.n 60) rfl h0
theorem om397(h0:a<=2)(h1:b < 1+a):b < 40:=l1 [a,b] [(1,V0,N2),(1,.a V1 N1,.a N1 V0)] (.a V1 N1) N40 rfl h0 h1
theorem om398(h0:a<=100)(h1:b<=a+130):b<=1000:=l1 [a,b] [(1,V0,.n 100),(1,V1,.a V0 (.n 130))] V1 zM rfl h0 h1
theorem om399(h0:a<=6)(h1:b<=a+20):b<=30:=l1 [a,b] [(1,V0,.n 6),(1,V1,.a V0 (.n 20))] V1 (.n 30) rfl h0 h1
theorem om400:0 < 1+a:=l1 [a] [] (.a N0 N1) (.a N1 V0) rfl
theorem om401(h0:a<=6)(h1:b<=a+20):b<=100:=l1 [a,b] [(1,V0,.n 6),(1,V1,.a V0 (.n 20))] V1 (.n 100) rfl h0 h1
theorem om402(h0:a < 1+b):a < 1+b:=l1 [a,b] [(1,.a V0 N1,.a N1 V1)] (.a V0 N1) (.a N1 V1) rfl h0
theorem om403(h0:a<=2):1+a<=40:=l1 [a] [(1,V0,N2)] (.a N1 V0) N40 rfl h0
theorem om404(h0:a<=6)(h1:b<=a+20)(h2:c<=b+3):c<=40:=l1 [a,b,c] [(1,V0,.n 6),(1,V1,.a V0 (.n 20)),(1,V2,.a V1 N3)] V2 N40 rfl h0 h1 h2
theorem om405(h0:a+8<=b):a+4≠b:=λe=>lf [a,b] [(1,.a V0 N8,V1),(1,V1,.a V0 N4)] rfl h0 (le1 e.symm)
theorem om406(h0:a<=2)(h1:b<=2):1+a+(b+1)<=6:=l1 [a,b] [(1,V0,N2),(1,V1,N2)] (.a (.a N1 V0) (.a V1 N1)) (.n 6) rfl h0 h1
theorem om407(h0:a<=2)(h1:b<=2)(h2:c<=0+(1+a))(h3:d<=c+(1+b)):d<=6:=l1 [a,b,c,d] [(1,V0,N2),(1,V1,N2),(1,V2,.a N0 (.a N1 V0)),(1,V3,.a V2 (.a N1 V1))] V3 (.n 6) rfl h0 h1 h2 h3
theorem om408(h0:a<=1+17)(h1:b<=a+17):b<=100:=l1 [a,b] [(1,V0,.a N1 (.n 17)),(1,V1,.a V0 (.n 17))] V1 (.n 100) rfl h0 h1
theorem om409(h0:a=52)(h1:b=c)(h2:d>=a)(h3:b=d+60)(h4:c < 112):d=e:=Do (lf [a,b,c,d] [(1,.n 52,V0),(1,V0,V3),(1,.a V3 (.n 60),V1),(1,V1,V2),(1,.a V2 N1,.n 112)] rfl (le1 h0.symm) h2 (le1 h3.symm) (le1 h1) h4)
theorem om410(h0:a=b)(h1:a=c+60)(h2:b=d+60):c=d:=GP (l1 [a,b,c,d] [(1,V0,V1),(1,.a V2 (.n 60),V0),(1,V1,.a V3 (.n 60))] V2 V3 rfl (le1 h0) (le1 h1.symm) (le1 h2)) (l1 [a,b,c,d] [(1,V1,V0),(1,V0,.a V2 (.n 60)),(1,.a V3 (.n 60),V1)] V3 V2 rfl (le1 h0.symm) (le1 h1) (le1 h2.symm))
theorem on1(h0:a < 1000)(h1:a=b)(h2:c=d)(h3:d<=b+1):c<=1000:=l1 [a,b,c,d] [(1,.a V0 N1,zM),(1,V1,V0),(1,V2,V3),(1,V3,.a V1 N1)] V2 zM rfl h0 (le1 h1.symm) (le1 h2) h3
theorem on2(h0:a+4*(b+1)+8<=1000)(h1:c=1000):a < c:=l1 [a,b,c] [(1,.a (.a V0 (.m 4 (.a V1 N1))) N8,zM),(1,zM,V2)] (.a V0 N1) V2 rfl h0 (le1 h1.symm)
theorem on3(h0:a+b<=900):a < 1000:=l1 [a,b] [(1,.a V0 V1,N900)] (.a V0 N1) zM rfl h0
theorem on4(h0:a+(1+b+c)<=900):a < 1000:=l1 [a,b,c] [(1,.a V0 (.a (.a N1 V1) V2),N900)] (.a V0 N1) zM rfl h0
theorem on5(h0:a+(1+b+c)<=900):a+1+c<=900:=l1 [a,b,c] [(1,.a V0 (.a (.a N1 V1) V2),N900)] (.a (.a V0 N1) V2) N900 rfl h0
theorem on6(h0:1+a+b<=39):a<=39:=l1 [a,b] [(1,.a (.a N1 V0) V1,.n 39)] V0 (.n 39) rfl h0
theorem on7(h0:1+a+b<=39):b<=39:=l1 [a,b] [(1,.a (.a N1 V0) V1,.n 39)] V1 (.n 39) rfl h0
theorem on8(h0:1+a+b<=39):1+a+0<=40:=l1 [a,b] [(1,.a (.a N1 V0) V1,.n 39)] (.a (.a N1 V0) N0) N40 rfl h0
theorem on9(h0:a+8<=b)(h1:b<=c):a+8<=c+1:=l1 [a,b,c] [(1,.a V0 N8,V1),(1,V1,V2)] (.a V0 N8) (.a V2 N1) rfl h0 h1
theorem on10(h0:a<=38):1+a+0<=40:=l1 [a] [(1,V0,.n 38)] (.a (.a N1 V0) N0) N40 rfl h0
theorem on11(h0:a+b<=900)(h1:b=c+1):a+1+c<=900:=l1 [a,b,c] [(1,.a V0 V1,N900),(1,.a V2 N1,V1)] (.a (.a V0 N1) V2) N900 rfl h0 (le1 h1.symm)
theorem on12(h0:a+b<=40)(h1:c < a):c < 40:=l1 [a,b,c] [(1,.a V0 V1,N40),(1,.a V2 N1,V0)] (.a V2 N1) N40 rfl h0 h1
theorem on13(h0:a+b<=800000)(h1:c<=a+1):c < 900000:=l1 [a,b,c] [(1,.a V0 V1,.n 800000),(1,V2,.a V0 N1)] (.a V2 N1) (.n 900000) rfl h0 h1
theorem ot1(h:a<=1000):a<=16777216:=G5 h (Gj rfl)
theorem ot3(h:a+b<=1000):a<=16777216:=ot1 (G5 (Gp a b) h)
theorem ot4(h:a<=100):a<=16777216:=G5 h (Gj rfl)
theorem on3l(h:a+(b+c)<=900):a<=1000:=G5 (Gp a (b+c)) (G5 h (Gj rfl))
theorem on14(h:a < 3):1+a<=1000:=G5 (le1 (Dx 1 a)) (G5 h (Gj rfl))
theorem on15(h:a+1+b<=9):1+4*a < 77:=lin [a,b] 4 [(16,.a (.a V0 N1) V1,.n 9)] (.a (.a N1 (.m 4 V0)) N1) (.n 77) rfl h
theorem zneg{k:Nat}(h:k<=1000):-2 ^ 63<=FJ k:=Int.neg_le_neg (a:=((k+1:Nat):Int)) (Int.le_of_lt (Fx (Db.mpr (DH h):((k+1:Nat):Int)<=((1001:Nat):Int)) (by decide)))
end
set_option genCtorIdx false in
inductive V where
 |none|bool (b:Bool)|int (i:Int)|str (s:List Nat)|obj (i:Nat)|tup (vs:List V)|fn (k:Nat)|rng (n:Nat)|scr|bad
 deriving Inhabited
noncomputable def V.ctorIdx(x:V):Nat:=V.casesOn x 0 (λ_=>1) (λ_=>2) (λ_=>3) (λ_=>4) (λ_=>5) (λ_=>6) (λ_=>7) 8 9
set_option genCtorIdx false in
inductive O where
 |inst (c:Nat) (fs:List (Nat×V))|list (vs:List V)|dict (es:List (List Nat×V))|exc (c:Nat)
 deriving Inhabited
noncomputable def O.ctorIdx(x:O):Nat:=O.casesOn x (λ_ _=>0) (λ_=>1) (λ_=>2) (λ_=>3)
inductive Op where|add|sub|mul|fdiv|mod
inductive Co where|eq|ne|lt|le|gt|ge|is|isnot|isin|notin
inductive Bf where|len|int|str|sum|tuple|max|chr|ord|list|range
inductive Bm where|append|extend|pop|insert|split|find|join|get
set_option genCtorIdx false in
inductive E where
 |bad
 |c (v:V)
 |l (k:Nat)
 |g (x:Nat) (v:V)
 |a (e:E) (f:Nat)
 |bin (o:Op) (a b:E)
 |cmp (o:Co) (a b:E)
 |cmp2 (o p:Co) (a b c:E)
 |not (a:E)
 |and (a b:E)
 |or (a b:E)
 |ifx (c a b:E)
 |call (f:Nat) (as:E)
 |bf (b:Bf) (as:E)
 |meth (a:E) (m:Nat) (as:E)
 |bm (b:Bm) (a:E) (as:E)
 |callv (f:E) (as:E)
 |idx (a b:E)
 |slice (a lo hi:E)
 |rev (a:E)
 |tup (es:E)
 |lst (es:E)
 |dct (es:E)
 |comp (elt iter cond:E) (n:Nat) (caps:List Nat)
 |comp2 (elt it1 it2:E)
 |lam (k:Nat)
 |nil
 |cons (a b:E)
 deriving Inhabited
noncomputable def E.ctorIdx(x:E):Nat:=E.casesOn x 0 (λ_=>1) (λ_=>2) (λ_ _=>3) (λ_ _=>4) (λ_ _ _=>5) (λ_ _ _=>6) (λ_ _ _ _ _=>7) (λ_=>8) (λ_ _=>9) (λ_ _=>10) (λ_ _ _=>11) (λ_ _=>12) (λ_ _=>13) (λ_ _ _=>14) (λ_ _ _=>15) (λ_ _=>16) (λ_ _=>17) (λ_ _ _=>18) (λ_=>19) (λ_=>20) (λ_=>21) (λ_=>22) (λ_ _ _ _ _=>23) (λ_ _ _=>24) (λ_=>25) 26 (λ_ _=>27)
set_option genCtorIdx false in
inductive S where
 |bad
 |nop
 |seq (a b:S)
 |ret (e:E)
 |ex (e:E)
 |set (k:Nat) (e:E)
 |setA (a:E) (f:Nat) (e:E)
 |setI (a i e:E)
 |unp (ks:List Nat) (e:E)
 |unp2 (Uw Ux:Nat) (a b:E)
 |ifs (c:E) (a b:S)
 |whl (c:E) (b:S)
 |for_ (k:Nat) (e:E) (b:S)
 |forT (ks:List Nat) (e:E) (b:S)
 |brk
 |raise (e:E)
 |try_ (b:S) (c:Nat) (h:S)
 deriving Inhabited
noncomputable def S.ctorIdx(x:S):Nat:=S.casesOn x 0 1 (λ_ _=>2) (λ_=>3) (λ_=>4) (λ_ _=>5) (λ_ _ _=>6) (λ_ _ _=>7) (λ_ _=>8) (λ_ _ _ _=>9) (λ_ _ _=>10) (λ_ _=>11) (λ_ _ _=>12) (λ_ _ _=>13) 14 (λ_=>15) (λ_ _ _=>16)
noncomputable abbrev Hp:=List O
noncomputable abbrev Lc:=List V
structure Fn where
 n:Nat
 dflt:List V
 loc:Nat
 body:S
structure Prg where
 fn:Nat->Option Fn
 cls:Nat->Option (Nat)
 meth:Nat->Nat->Option Nat
 att:Nat->Nat->Bool
 frm:Nat->Bool
 exc:Nat->Bool
 scr:List Int
noncomputable def gd(b:Bool)(p:Prop):Prop:=match b with|true=>p|false=>False
noncomputable def getF(f:Nat):List (Nat×V)->Option V
 |[]=>none
 |(k,v)::r=>match Gg k f with|true=>some v|false=>getF f r
noncomputable def setF(f:Nat)(v:V):List (Nat×V)->List (Nat×V)
 |[]=>[(f,v)]
 |(k,u)::r=>match Gg k f with|true=>(k,v)::r|false=>(k,u)::setF f v r
noncomputable def yj{α:Type}(k:Nat):List (Nat×α)->Option α
 |[]=>none
 |(a,v)::r=>match Gg a k with|true=>some v|false=>yj k r
noncomputable def eqS:List Nat->List Nat->Bool
 |[],[]=>true
 |a::as,b::bs=>match Gg a b with|true=>eqS as bs|false=>false
 |_,_=>false
noncomputable def ltS:List Nat->List Nat->Bool
 |[],[]=>false
 |[],_::_=>true
 |_::_,[]=>false
 |a::as,b::bs=>match Gz a b with|true=>true|false=>match Gg a b with|true=>ltS as bs|false=>false
noncomputable def getD(k:List Nat):List (List Nat×V)->Option V
 |[]=>none
 |(x,v)::r=>match eqS x k with|true=>some v|false=>getD k r
noncomputable def setD(k:List Nat)(v:V):List (List Nat×V)->List (List Nat×V)
 |[]=>[(k,v)]
 |(x,u)::r=>match eqS x k with|true=>(x,v)::r|false=>(x,u)::setD k v r
noncomputable def eqI(a b:Int):Bool:=decide (a=b)
noncomputable def eqF:V->V->Option Bool
 |.none,.none=>some true
 |.none,.str _=>some false
 |.str _,.none=>some false
 |.none,.int _=>some false
 |.int _,.none=>some false
 |.bool a,.bool b=>some (a==b)
 |.int a,.int b=>some (eqI a b)
 |.str a,.str b=>some (eqS a b)
 |_,_=>none
noncomputable def eqFs:List V->List V->Option Bool
 |[],[]=>some true
 |a::as,b::bs=>match eqF a b,eqFs as bs with
  |some x,some y=>some (x && y)
  |_,_=>none
 |_,_=>none
noncomputable def isNo(v:V):Bool:=match v with|.none=>true|_=>false
noncomputable def isBo(v:V)(a:Bool):Bool:=match v with|.bool b=>decide (a=b)|_=>false
noncomputable def isIn(v:V)(a:Int):Bool:=match v with|.int b=>decide (a=b)|_=>false
noncomputable def isSt(v:V)(a:List Nat):Bool:=match v with|.str b=>eqS a b|_=>false
noncomputable def isOb(v:V)(a:Nat):Bool:=match v with|.obj b=>Gg a b|_=>false
noncomputable def isFu(v:V)(a:Nat):Bool:=match v with|.fn b=>Gg a b|_=>false
mutual
noncomputable def beqV:V->V->Bool
 |.none,v=>isNo v
 |.bool a,v=>isBo v a
 |.int a,v=>isIn v a
 |.str a,v=>isSt v a
 |.obj a,v=>isOb v a
 |.tup a,v=>(match v with|.tup b=>Z2 a b|_=>false)
 |.fn a,v=>isFu v a
 |_,_=>false
noncomputable def Z2:List V->List V->Bool
 |[],v=>(match v with|[]=>true|_::_=>false)
 |a::as,v=>(match v with|b::bs=>beqV a b && Z2 as bs|[]=>false)
end
noncomputable def eqKs:List (List Nat×V)->List (List Nat×V)->Bool
 |[],v=>(match v with|[]=>true|_::_=>false)
 |a::as,v=>(match v with|b::bs=>eqS a.1 b.1 && eqKs as bs|[]=>false)
noncomputable def JD(c:Nat):List Nat->Nat->Option Nat
 |[],_=>none
 |x::r,i=>match Gg x c with|true=>some i|false=>JD c r (i+1)
noncomputable def yB:List Nat->List (List Nat)
 |[]=>[[]]
 |x::r=>match Gg x 32 with
  |true=>[]::yB r
  |false=>match yB r with|w::ws=>(x::w)::ws|[]=>[[x]]
noncomputable def splitCs:List (List Nat):=[[65,32,88,32,57,32,66,32,48,32,47],[57,32,80,32,83,32,86],[80,32,83,32,86],[83,32,86,32,46,32,67,82,32,68,66],[100,105,115,112,108,97,121,32,112,97,99,107,101,100,32,98,105,110,97,114,121,32,105,110,100,101,120]]
noncomputable def digits(s:List Nat):Option Nat:=s.foldl (λa c=>match a with|none=>none|some n=>match G8 48 c && G8 c 57 with|true=>some (n*10+(c - 48))|false=>none) (some 0)
noncomputable def Ju(acc:List (List Nat×V)):List V->List (List Nat×V)
 |.str k::v::r=>Ju (setD k v acc) r
 |_=>acc
noncomputable def ZF:List V->Bool
 |[]=>true
 |.str _::_::r=>ZF r
 |_=>false
noncomputable def zv(i:Int):List Nat:=(PySem.Str.ofString (toString i)).cps.toList
noncomputable def ifS{α:Type}(o:Option α)(f:α->Prop):Prop:=match o with|some a=>f a|none=>False
noncomputable def ite2(t:Bool)(p q:Prop):Prop:=match t with|true=>p|false=>q
noncomputable def intP(v:V)(f:Int->Prop):Prop:=match v with|.int i=>f i|_=>False
noncomputable def strP(v:V)(f:List Nat->Prop):Prop:=match v with|.str i=>f i|_=>False
noncomputable def tupP(v:V)(f:List V->Prop):Prop:=match v with|.tup i=>f i|_=>False
noncomputable def fnP(v:V)(f:Nat->Prop):Prop:=match v with|.fn i=>f i|_=>False
noncomputable def objP(v:V)(f:Nat->Prop):Prop:=match v with|.obj i=>f i|_=>False
noncomputable def yJ(v:V)(p:Prop):Prop:=match v with|.none=>p|_=>False
noncomputable def scrP(v:V)(p:Prop):Prop:=match v with|.scr=>p|_=>False
noncomputable def instP(o:O)(f:Nat->List (Nat×V)->Prop):Prop:=match o with|.inst c fs=>f c fs|_=>False
noncomputable def listP(o:O)(f:List V->Prop):Prop:=match o with|.list vs=>f vs|_=>False
noncomputable def dictP(o:O)(f:List (List Nat×V)->Prop):Prop:=match o with|.dict vs=>f vs|_=>False
noncomputable def excP(o:O)(f:Nat->Prop):Prop:=match o with|.exc c=>f c|_=>False
noncomputable def atI(v:V)(H:Hp)(f:Nat->Nat->List (Nat×V)->Prop):Prop:=objP v λi=>ifS H[i]? λo=>instP o (f i)
noncomputable def atL(v:V)(H:Hp)(f:Nat->List V->Prop):Prop:=objP v λi=>ifS H[i]? λo=>listP o (f i)
noncomputable def atD(v:V)(H:Hp)(f:Nat->List (List Nat×V)->Prop):Prop:=objP v λi=>ifS H[i]? λo=>dictP o (f i)
noncomputable def atX(v:V)(H:Hp)(f:Nat->Prop):Prop:=objP v λi=>ifS H[i]? λo=>excP o f
noncomputable def natP(i:Int)(f:Nat->Prop):Prop:=match i with|.ofNat n=>f n|.negSucc _=>False
noncomputable def kd:V->Nat
 |.none=>0|.bool _=>1|.int _=>2|.str _=>3|.obj _=>4|.tup _=>5|.fn _=>6|.rng _=>7|.scr=>8|.bad=>9
noncomputable def addP(a b:V)(H:Hp)(Q:V->Hp->Prop):Prop:=match kd a with
 |2=>intP a λx=>intP b λy=>Q (.int (x+y)) H
 |3=>strP a λx=>strP b λy=>gd (G8 (x.length+y.length) 1000) (Q (.str (x++y)) H)
 |_=>atL a H λ_ x=>atL b H λ_ y=>gd (G8 (x.length+y.length) 1000) (Q (.obj H.length) (H++[.list (x++y)]))
noncomputable def binop(o:Op)(a b:V)(H:Hp)(Q:V->Hp->Prop):Prop:=match o with
 |.add=>addP a b H Q
 |.sub=>intP a λx=>intP b λy=>Q (.int (x - y)) H
 |.mul=>intP a λx=>intP b λy=>gd (decide (x.natAbs < 1000000000/\y.natAbs < 1000000000)) (Q (.int (x*y)) H)
 |.fdiv=>intP a λx=>intP b λy=>gd (decide (0 < y/\y < 1000000000)) (Q (.int (Ic x y)) H)
 |.mod=>intP a λx=>intP b λy=>gd (decide (0 < y)) (Q (.int (Fk x y)) H)
noncomputable def inS(c:Nat):List Nat->Bool
 |[]=>false
 |x::r=>match Gg x c with|true=>true|false=>inS c r
noncomputable def inVs(s:List Nat):List V->Option Bool
 |[]=>some false
 |.str x::r=>(inVs s r).map (eqS s x ||·)
 |_::_=>none
noncomputable def oI{α:Type}(v:V)(f:Int->Option α):Option α:=match v with|.int i=>f i|_=>none
noncomputable def oS{α:Type}(v:V)(f:List Nat->Option α):Option α:=match v with|.str i=>f i|_=>none
noncomputable def oT{α:Type}(v:V)(f:List V->Option α):Option α:=match v with|.tup i=>f i|_=>none
noncomputable def oL{α:Type}(v:V)(H:Hp)(f:List V->Option α):Option α:=match v with|.obj i=>(match H[i]? with|some (.list vs)=>f vs|_=>none)|_=>none
noncomputable def isin(a b:V)(H:Hp):Option Bool:=oS a λx=>(match b with
 |.str s=>(match x with|[c]=>some (inS c s)|_=>none)
 |.tup vs=>inVs x vs
 |.obj i=>(match H[i]? with
  |some (.list vs)=>inVs x vs
  |some (.dict es)=>some (getD x es).isSome
  |_=>none)
 |_=>none)
noncomputable def iseq(a b:V)(H:Hp):Option Bool:=match kd a with
 |4=>oL a H λx=>oL b H λy=>(match Gg x.length y.length with|true=>eqFs x y|false=>some false)
 |5=>oT a λx=>oT b λy=>eqFs x y
 |_=>eqF a b
noncomputable def XJ:V->Option Bool
 |.none=>some true
 |.bad=>none
 |_=>some false
noncomputable def jo:V->Bool
 |.none=>true
 |_=>false
noncomputable def leO(a b:V):Option Bool:=match kd a with
 |2=>oI a λx=>oI b λy=>some (decide (x<=y))
 |_=>oS a λx=>oS b λy=>some (!ltS y x)
noncomputable def zW(o:Co)(a b:V)(H:Hp):Option Bool:=match o with
 |.eq=>iseq a b H
 |.ne=>(iseq a b H).map (!·)
 |.isin=>isin a b H
 |.notin=>(isin a b H).map (!·)
 |.is=>(match jo b with|true=>XJ a|false=>none)
 |.isnot=>(match jo b with|true=>(XJ a).map (!·)|false=>none)
 |.lt=>oI a λx=>oI b λy=>some (decide (x < y))
 |.le=>leO a b
 |.gt=>oI a λx=>oI b λy=>some (decide (x > y))
 |.ge=>oI a λx=>oI b λy=>some (decide (x>=y))
noncomputable def yu(v:V)(H:Hp):Option Bool:=match v with
 |.bool b=>some b
 |.none=>some false
 |.obj i=>match H[i]? with|some (.list vs)=>some (match vs with|[]=>false|_=>true)|_=>none
 |_=>none
noncomputable def atV(vs:List V)(i:Int):Option V:=match i with|.ofNat k=>vs[k]?|.negSucc k=>match Gz k vs.length with|true=>vs[vs.length - (k+1)]?|false=>none
noncomputable def idx(a b:V)(H:Hp)(Q:V->Prop):Prop:=match kd a with
 |5=>tupP a λvs=>intP b λi=>gd (G8 vs.length 1000) (ifS (atV vs i) Q)
 |3=>strP a λs=>intP b λi=>natP i λi=>gd (G8 s.length 1000) (ifS s[i]? λc=>Q (.str [c]))
 |_=>(match kd b with
  |2=>intP b λi=>atL a H λ_ vs=>ifS (atV vs i) Q
  |_=>strP b λs=>atD a H λ_ es=>ifS (getD s es) Q)
noncomputable def cut(lo hi:Nat){α:Type}(l:List α):List α:=(l.take hi).drop lo
noncomputable def Yz(n:Nat):Int->Nat
 |.ofNat i=>i
 |.negSucc i=>n - (i+1)
noncomputable def slice(sc:List Int)(a lo hi:V)(H:Hp)(Q:V->Hp->Prop):Prop:=match kd a with
 |3=>strP a λs=>intP lo λl=>natP l λl=>intP hi λh=>natP h λh=>gd (G8 l h && G8 s.length 1000) (Q (.str (cut l h s)) H)
 |4=>atL a H λ_ vs=>yJ lo (intP hi λh=>Q (.obj H.length) (H++[.list (vs.take (Yz vs.length h))]))
 |_=>scrP a (yJ lo (intP hi λh=>natP h λh=>gd (G8 h 1000) (Q (.obj H.length) (H++[.list ((sc.take h).map .int)]))))
noncomputable def sumI:List V->Option Int
 |[]=>some 0
 |.int i::r=>(sumI r).map (i+ ·)
 |_=>none
noncomputable def strsL:List V->Option (List (List Nat))
 |[]=>some []
 |.str s::r=>(strsL r).map (s::·)
 |_=>none
noncomputable def joinS(sep:List Nat):List (List Nat)->List Nat
 |[]=>[]
 |[x]=>x
 |x::r=>x++sep++joinS sep r
noncomputable def arg1(as:List V)(f:V->Prop):Prop:=match as with|[a]=>f a|_=>False
noncomputable def arg2(as:List V)(f:V->V->Prop):Prop:=match as with|[a,b]=>f a b|_=>False
noncomputable def arg0(as:List V)(p:Prop):Prop:=match as with|[]=>p|_=>False
noncomputable def lenP(a:V)(H:Hp)(Q:V->Hp->Prop):Prop:=match kd a with
 |3=>strP a λs=>gd (G8 s.length 1000) (Q (.int s.length) H)
 |_=>atL a H λ_ vs=>Q (.int vs.length) H
noncomputable def intFP(a:V)(H:Hp)(Q:V->Hp->Prop):Prop:=match kd a with
 |2=>intP a λi=>Q (.int i) H
 |_=>strP a λs=>ifS (digits s) λn=>gd (G8 1 s.length && G8 s.length 4) (Q (.int n) H)
noncomputable def bfun(b:Bf)(as:List V)(H:Hp)(Q:V->Hp->Prop):Prop:=match b with
 |.len=>arg1 as λa=>lenP a H Q
 |.int=>arg1 as λa=>intFP a H Q
 |.str=>arg1 as λa=>intP a λi=>gd (Gz i.natAbs 1000000000) (Q (.str (zv i)) H)
 |.sum=>arg1 as λa=>atL a H λ_ vs=>ifS (sumI vs) λn=>Q (.int n) H
 |.tuple=>arg1 as λa=>tupP a λvs=>Q (.tup vs) H
 |.max=>arg2 as λa b=>intP a λa=>intP b λb=>Q (.int (max a b)) H
 |.chr=>arg1 as λa=>intP a λi=>natP i λi=>gd (Gz i 0xD800) (Q (.str [i]) H)
 |.ord=>arg1 as λa=>strP a λs=>(match s with|[c]=>Q (.int c) H|_=>False)
 |.range=>arg1 as λa=>intP a λi=>natP i λn=>gd (G8 n 1000) (Q (.rng n) H)
 |.list=>False
noncomputable def jC(b:Bm)(a:V)(as:List V)(H:Hp)(Q:V->Hp->Prop):Prop:=match b with
 |.find=>strP a λs=>arg2 as λx y=>strP x λx=>(match x with
  |[c]=>intP y λi=>natP i λi=>Q (.int (match JD c (s.drop i) i with|some j=>(j:Int)|none=>-1)) H
  |_=>False)
 |.split=>strP a λs=>arg1 as λx=>strP x λx=>(match x with
  |[32]=>gd (splitCs.any (eqS s)) <|Q (.obj H.length) (H++[.list ((yB s).map .str)])
  |_=>False)
 |.join=>strP a λs=>arg1 as λx=>atL x H λ_ vs=>ifS (strsL vs) λws=>gd (G8 ((ws.map (·.length)).sum+ws.length*s.length) 1000) (Q (.str (joinS s ws)) H)
 |.append=>atL a H λi vs=>arg1 as λv=>gd (Gz vs.length 1000) (Q .none (H.set i (.list (vs++[v]))))
 |.extend=>atL a H λi vs=>arg1 as λx=>atL x H λ_ us=>gd (G8 (vs.length+us.length) 1000) (Q .none (H.set i (.list (vs++us))))
 |.pop=>atL a H λi vs=>arg0 as (match vs.reverse with|v::r=>Q v (H.set i (.list r.reverse))|[]=>False)
 |.insert=>atL a H λi vs=>arg2 as λk v=>intP k λk=>natP k λk=>gd (Gz vs.length 1000 && G8 k 1000) <|Q .none (H.set i (.list (vs.take k++v::vs.drop k)))
 |.get=>atD a H λ_ es=>arg2 as λk d=>strP k λk=>Q ((getD k es).getD d) H
noncomputable def isSB(u:V):Bool:=match u with|.str _=>true|_=>false
noncomputable def isLB(u:V)(H:Hp):Bool:=match u with|.obj i=>(match H[i]? with|some (.list _)=>true|_=>false)|_=>false
noncomputable def isDB(u:V)(H:Hp):Bool:=match u with|.obj i=>(match H[i]? with|some (.dict _)=>true|_=>false)|_=>false
noncomputable def YT(b:Bm)(u:V)(H:Hp):Bool:=match b with
 |.split=>isSB u
 |.find=>isSB u
 |.join=>isSB u
 |.get=>isDB u H
 |.append=>isLB u H
 |.extend=>isLB u H
 |.pop=>isLB u H
 |.insert=>isLB u H
noncomputable abbrev Orc:=Nat->List V->Hp->(V->Hp->Prop)->(Nat->Hp->Prop)->Prop
set_option genCtorIdx false in
inductive It where
 |vals (vs:List V)
 |lst (i:Nat) (vs:List V)
 |keys (i:Nat) (es:List (List Nat×V))
noncomputable def zU(v:V)(H:Hp):Option It:=match v with
 |.tup vs=>match G8 vs.length 1000 with|true=>some (.vals vs)|false=>none
 |.str s=>match G8 s.length 1000 with|true=>some (.vals (s.map λc=>.str [c]))|false=>none
 |.rng n=>match G8 n 1000 with|true=>some (.vals ((D0 n).map λ(i:Nat)=>V.int (i:Int)))|false=>none
 |.obj i=>match H[i]? with
  |some (.list vs)=>some (.lst i vs)
  |some (.dict es)=>some (.keys i es)
  |_=>none
 |_=>none
noncomputable def It.items:It->List V
 |.vals vs=>vs
 |.lst _ vs=>vs
 |.keys _ es=>es.map λe=>.str e.1
noncomputable def It.stands:It->Hp->Bool
 |.vals _,_=>true
 |.lst i vs,H=>match H[i]? with|some (.list us)=>Z2 us vs|_=>false
 |.keys i es,H=>match H[i]? with|some (.dict fs)=>eqKs fs es|_=>false
noncomputable def zR(one:Bool)(v:V):List V:=match one with|true=>[v]|false=>(match v with|.tup us=>us|_=>[])
noncomputable def locO(L:Lc)(k:Nat):Option V:=match L[k]? with|some v=>(match v with|.bad=>none|v=>some v)|none=>none
noncomputable def unpOf(v:V)(H:Hp):Option (List V):=match v with
 |.tup vs=>some vs
 |.obj i=>(match H[i]? with|some (.list vs)=>some vs|_=>none)
 |_=>none
section
variable (P:Prg) (C:Orc)
noncomputable def Zm(elt:Lc->Hp->(V->Hp->Prop)->Prop)(cond:Lc->Hp->(Bool->Hp->Prop)->Prop)(n:Nat)(cap:Lc)(it:It):List V->List V->Hp->(List V->Hp->Prop)->Prop
 |[],acc,H,Q=>Q acc.reverse H
 |v::r,acc,H,Q=>gd (Gg (zR (Gg n 1) v++cap).length (n+cap.length)) <|cond (zR (Gg n 1) v++cap) H λb H₁=>ite2 b
   (elt (zR (Gg n 1) v++cap) H₁ λu uh=>gd (it.stands uh) (Zm elt cond n cap it r (u::acc) uh Q))
   (gd (it.stands H₁) (Zm elt cond n cap it r acc H₁ Q))
noncomputable def Zy(it:It)(e2:Lc->Hp->(V->Hp->Prop)->Prop)(elt:Lc->Hp->(V->Hp->Prop)->Prop):List V->List V->Hp->(List V->Hp->Prop)->Prop
 |[],acc,H,Q=>Q acc.reverse H
 |v::r,acc,H,Q=>gd (G8 acc.length 1000) <|e2 [v] H λu H₁=>ifS (zU u H₁) λit2=>
   Zm elt (λ_ H q=>q true H) 1 [v] it2 it2.items acc H₁ λvs uh=>gd (it.stands uh) (Zy it e2 elt r vs.reverse uh Q)
noncomputable def ev:E->(Nat->Hp->Prop)->Lc->Hp->(V->Hp->Prop)->Prop
 |.bad,_,_,_,_=>False
 |.c v,_,_,H,Q=>Q v H
 |.l k,_,L,H,Q=>ifS (locO L k) λv=>Q v H
 |.g _ v,_,_,H,Q=>Q v H
 |.a e f,X,L,H,Q=>ev e X L H λv H₁=>atI v H₁ λ_ c fs=>gd (P.att c f) (ifS (getF f fs) λu=>Q u H₁)
 |.bin o a b,X,L,H,Q=>ev a X L H λu H₁=>ev b X L H₁ λv uh=>binop o u v uh Q
 |.cmp o a b,X,L,H,Q=>ev a X L H λu H₁=>ev b X L H₁ λv uh=>ifS (zW o u v uh) λr=>Q (.bool r) uh
 |.cmp2 o p a b c,X,L,H,Q=>ev a X L H λu H₁=>ev b X L H₁ λv uh=>ifS (zW o u v uh) λt=>ite2 t
   (ev c X L uh λw uk=>ifS (zW p v w uk) λr=>Q (.bool r) uk) (Q (.bool false) uh)
 |.not a,X,L,H,Q=>ev a X L H λu H₁=>ifS (yu u H₁) λb=>Q (.bool (!b)) H₁
 |.and a b,X,L,H,Q=>ev a X L H λu H₁=>ifS (yu u H₁) λt=>ite2 t (ev b X L H₁ Q) (Q u H₁)
 |.or a b,X,L,H,Q=>ev a X L H λu H₁=>ifS (yu u H₁) λt=>ite2 t (Q u H₁) (ev b X L H₁ Q)
 |.ifx c a b,X,L,H,Q=>ev c X L H λu H₁=>ifS (yu u H₁) λt=>ite2 t (ev a X L H₁ Q) (ev b X L H₁ Q)
 |.call f as,X,L,H,Q=>ev as X L H λv H₁=>tupP v λvs=>C f vs H₁ Q X
 |.bf b as,X,L,H,Q=>ev as X L H λv H₁=>tupP v λvs=>bfun b vs H₁ Q
 |.meth a m as,X,L,H,Q=>ev a X L H λu H₁=>atI u H₁ λ_ c _=>ifS (P.meth c m) λf=>ev as X L H₁ λv uh=>tupP v λvs=>C f (u::vs) uh Q X
 |.bm b a as,X,L,H,Q=>ev a X L H λu H₁=>gd (YT b u H₁) <|ev as X L H₁ λv uh=>tupP v λvs=>jC b u vs uh Q
 |.callv f as,X,L,H,Q=>ev f X L H λu H₁=>fnP u λk=>ev as X L H₁ λv uh=>tupP v λvs=>C k vs uh Q X
 |.idx a b,X,L,H,Q=>ev a X L H λu H₁=>ev b X L H₁ λv uh=>idx u v uh λw=>Q w uh
 |.slice a lo hi,X,L,H,Q=>ev a X L H λu H₁=>ev lo X L H₁ λv uh=>ev hi X L uh λw uk=>slice P.scr u v w uk Q
 |.rev a,X,L,H,Q=>ev a X L H λu H₁=>atL u H₁ λ_ vs=>Q (.obj H₁.length) (H₁++[.list vs.reverse])
 |.tup es,X,L,H,Q=>ev es X L H Q
 |.lst es,X,L,H,Q=>ev es X L H λv H₁=>tupP v λvs=>gd (G8 vs.length 1000) (Q (.obj H₁.length) (H₁++[.list vs]))
 |.dct es,_,L,H,Q=>ev es (λ_ _=>False) L H λv H₁=>tupP v λvs=>gd (ZF vs) (Q (.obj H₁.length) (H₁++[.dict (Ju [] vs)]))
 |.comp elt iter cond n caps,X,L,H,Q=>ev iter X L H λu H₁=>ifS (zU u H₁) λit=>
   Zm (ev elt (λ_ _=>False)) (λl H q=>ev cond (λ_ _=>False) l H λv H'=>ifS (yu v H') λb=>q b H') n (caps.map λk=>(L[k]?).getD .bad) it it.items [] H₁ λvs uh=>gd (G8 vs.length 1000) (Q (.obj uh.length) (uh++[.list vs]))
 |.comp2 elt i1 i2,X,L,H,Q=>ev i1 X L H λu H₁=>ifS (zU u H₁) λit=>
   Zy it (ev i2 (λ_ _=>False)) (ev elt (λ_ _=>False)) it.items [] H₁ λvs uh=>gd (G8 vs.length 1000) (Q (.obj uh.length) (uh++[.list vs]))
 |.lam k,_,_,H,Q=>Q (.fn k) H
 |.nil,_,_,H,Q=>Q (.tup []) H
 |.cons a b,X,L,H,Q=>ev a X L H λu H₁=>ev b X L H₁ λv uh=>tupP v λvs=>Q (.tup (u::vs)) uh
inductive Fl where|next|brk|ret (v:V)
noncomputable abbrev KS:=Fl->Lc->Hp->Prop
noncomputable def setL(k:Nat)(v:V)(L:Lc):Lc:=L.set k v
noncomputable def YF:List Nat->List V->Lc->Option Lc
 |[],[],L=>some L
 |k::ks,v::vs,L=>YF ks vs (setL k v L)
 |_,_,_=>none
noncomputable def flP(f:Fl)(n:Prop)(b:Prop)(r:V->Prop):Prop:=match f with|.next=>n|.brk=>b|.ret v=>r v
noncomputable def Yb(t:Lc->Hp->(Bool->Hp->Prop)->Prop)(b:Lc->Hp->KS->Prop):Nat->Lc->Hp->KS->Prop
 |0,_,_,_=>False
 |n+1,L,H,Q=>t L H λc H₁=>ite2 c (b L H₁ λf ux uh=>flP f (Yb t b n ux uh Q) (Q .next ux uh) λv=>Q (.ret v) ux uh) (Q .next L H₁)
noncomputable def forL(b:Lc->Hp->KS->Prop)(ks:List Nat)(one:Bool)(it:It):List V->Lc->Hp->KS->Prop
 |[],L,H,Q=>Q .next L H
 |v::r,L,H,Q=>ifS (YF ks (zR one v) L) λuw=>b uw H λf ux uh=>flP f (gd (it.stands uh) (forL b ks one it r ux uh Q)) (Q .next ux uh) λv=>Q (.ret v) ux uh
noncomputable def ex(X:Nat->Hp->Prop)(w:Nat):S->Lc->Hp->KS->Prop
 |.bad,_,_,_=>False
 |.nop,L,H,Q=>Q .next L H
 |.seq a b,L,H,Q=>ex X w a L H λf uw H₁=>flP f (ex X w b uw H₁ Q) (Q .brk uw H₁) λv=>Q (.ret v) uw H₁
 |.ret e,L,H,Q=>ev P C e X L H λv H₁=>Q (.ret v) L H₁
 |.ex e,L,H,Q=>ev P C e X L H λv H₁=>yJ v (Q .next L H₁)
 |.set k e,L,H,Q=>ev P C e X L H λv H₁=>Q .next (setL k v L) H₁
 |.setA a f e,L,H,Q=>ev P C e X L H λv H₁=>ev P C a X L H₁ λu uh=>atI u uh λi c fs=>gd (P.att c f && Gz fs.length 100) (Q .next L (uh.set i (.inst c (setF f v fs))))
 |.setI a i e,L,H,Q=>ev P C e X L H λv H₁=>ev P C a X L H₁ λu uh=>ev P C i X L uh λk uk=>(match kd k with
  |2=>intP k λn=>natP n λn=>atL u uk λj vs=>gd (Gz n vs.length) (Q .next L (uk.set j (.list (vs.set n v))))
  |_=>strP k λs=>atD u uk λj es=>gd (Gz es.length 1000) (Q .next L (uk.set j (.dict (setD s v es)))))
 |.unp ks e,L,H,Q=>ev P C e X L H λv H₁=>ifS (unpOf v H₁) λvs=>ifS (YF ks vs L) λuw=>Q .next uw H₁
 |.unp2 Uw Ux a b,L,H,Q=>ev P C a X L H λu H₁=>ev P C b X L H₁ λv uh=>Q .next (setL Ux v (setL Uw u L)) uh
 |.ifs c a b,L,H,Q=>ev P C c X L H λu H₁=>ifS (yu u H₁) λt=>ite2 t (ex X w a L H₁ Q) (ex X w b L H₁ Q)
 |.whl c b,L,H,Q=>Yb (λL H q=>ev P C c X L H λu H₁=>ifS (yu u H₁) λt=>q t H₁) (ex X w b) w L H Q
 |.for_ k e b,L,H,Q=>ev P C e X L H λu H₁=>ifS (zU u H₁) λit=>forL (ex X w b) [k] true it it.items L H₁ Q
 |.forT ks e b,L,H,Q=>ev P C e X L H λu H₁=>ifS (zU u H₁) λit=>forL (ex X w b) ks false it it.items L H₁ Q
 |.brk,L,H,Q=>Q .brk L H
 |.raise e,L,H,_=>ev P C e X L H λu H₁=>atX u H₁ λc=>gd (P.exc c) (X c H₁)
 |.try_ _ _ _,_,_,_=>False
end
noncomputable def bindA(f:Fn)(as:List V):Option Lc:=
 match G8 as.length f.n,G8 f.n (as.length+f.dflt.length) with
 |true,true=>some (as++f.dflt.drop (as.length+f.dflt.length - f.n)++F6 (f.loc - f.n) .bad)
 |_,_=>none
noncomputable def shV(k:Nat):V->V
 |.obj i=>.obj (k+i)
 |.tup vs=>.tup (go vs)
 |v=>v
where go:List V->List V
 |[]=>[]
 |v::r=>shV k v::go r
noncomputable def shO(k:Nat):O->O
 |.inst c fs=>.inst c (fs.map λp=>(p.1,shV k p.2))
 |.list vs=>.list (vs.map (shV k))
 |.dict es=>.dict (es.map λp=>(p.1,shV k p.2))
 |.exc c=>.exc c
noncomputable def XM:V->Bool
 |.none|.bool _|.int _|.str _=>true
 |_=>false
noncomputable def ZO(P:Prg)(w:Nat)(C:Orc)(fn:Fn):Orc:=λ_ as H Q X=>ifS (bindA fn as) λL=>ex P C X w fn.body L H λfl _ H₁=>flP fl (Q .none H₁) False λv=>Q v H₁
noncomputable def k8(as:List V):Bool:=match as with|[.str _]=>true|_=>false
noncomputable def zc(P:Prg)(w:Nat):Nat->Orc
 |0=>λ_ _ _ _ _=>False
 |n+1=>λf as H Q X=>match P.fn f with
  |some fn=>ite2 (P.frm f)
    (gd (as.all XM) (ZO P w (zc P w n) fn f as [] (λv H'=>Q (shV H.length v) (H++H'.map (shO H.length))) λk H'=>X k (H++H'.map (shO H.length))))
    (ZO P w (zc P w n) fn f as H Q X)
  |none=>(match P.cls f with
   |some i=>zc P w n i (.obj H.length::as) (H++[.inst f []]) (λv H₁=>yJ v (Q (.obj H.length) H₁)) X
   |none=>gd (P.exc f && k8 as) (Q (.obj H.length) (H++[.exc f])))
theorem zf{p0 p1:Prop}{G:Prop}(h:p0/\p1)(k:p0->p1->G):G:=k h.1 h.2
theorem zC{p0 p1 p2:Prop}{G:Prop}(h:p0/\p1/\p2)(k:p0->p1->p2->G):G:=zf h.2 (k h.1)
theorem Zo{p0 p1 p2 p3:Prop}{G:Prop}(h:p0/\p1/\p2/\p3)(k:p0->p1->p2->p3->G):G:=zC h.2 (k h.1)
theorem j9{p0 p1 p2 p3 p4:Prop}{G:Prop}(h:p0/\p1/\p2/\p3/\p4)(k:p0->p1->p2->p3->p4->G):G:=Zo h.2 (k h.1)
theorem YE{p0 p1 p2 p3 p4 p5:Prop}{G:Prop}(h:p0/\p1/\p2/\p3/\p4/\p5)(k:p0->p1->p2->p3->p4->p5->G):G:=j9 h.2 (k h.1)
theorem xe0c7{p0 p1 p2 p3 p4 p5 p6:Prop}{G:Prop}(h:p0/\p1/\p2/\p3/\p4/\p5/\p6)(k:p0->p1->p2->p3->p4->p5->p6->G):G:=YE h.2 (k h.1)
theorem xe0c8{p0 p1 p2 p3 p4 p5 p6 p7:Prop}{G:Prop}(h:p0/\p1/\p2/\p3/\p4/\p5/\p6/\p7)(k:p0->p1->p2->p3->p4->p5->p6->p7->G):G:=xe0c7 h.2 (k h.1)
theorem zh{α0:Type}{p0:α0->Prop}{G:Prop}(h:∃a0,p0 a0)(k:∀a0,p0 a0->G):G:=Gf h λa h=>k a h
theorem za{α0:Type}{p0 p1:α0->Prop}{G:Prop}(h:∃a0,p0 a0/\p1 a0)(k:∀a0,p0 a0->p1 a0->G):G:=Gf h λa h=>zf h (k a)
theorem yQ{α0:Type}{p0 p1 p2:α0->Prop}{G:Prop}(h:∃a0,p0 a0/\p1 a0/\p2 a0)(k:∀a0,p0 a0->p1 a0->p2 a0->G):G:=Gf h λa h=>zC h (k a)
theorem j8{α0:Type}{p0 p1 p2 p3:α0->Prop}{G:Prop}(h:∃a0,p0 a0/\p1 a0/\p2 a0/\p3 a0)(k:∀a0,p0 a0->p1 a0->p2 a0->p3 a0->G):G:=Gf h λa h=>Zo h (k a)
theorem xe1c5{α0:Type}{p0 p1 p2 p3 p4:α0->Prop}{G:Prop}(h:∃a0,p0 a0/\p1 a0/\p2 a0/\p3 a0/\p4 a0)(k:∀a0,p0 a0->p1 a0->p2 a0->p3 a0->p4 a0->G):G:=Gf h λa h=>j9 h (k a)
theorem xe1c6{α0:Type}{p0 p1 p2 p3 p4 p5:α0->Prop}{G:Prop}(h:∃a0,p0 a0/\p1 a0/\p2 a0/\p3 a0/\p4 a0/\p5 a0)(k:∀a0,p0 a0->p1 a0->p2 a0->p3 a0->p4 a0->p5 a0->G):G:=Gf h λa h=>YE h (k a)
theorem xe1c7{α0:Type}{p0 p1 p2 p3 p4 p5 p6:α0->Prop}{G:Prop}(h:∃a0,p0 a0/\p1 a0/\p2 a0/\p3 a0/\p4 a0/\p5 a0/\p6 a0)(k:∀a0,p0 a0->p1 a0->p2 a0->p3 a0->p4 a0->p5 a0->p6 a0->G):G:=Gf h λa h=>xe0c7 h (k a)
theorem Jo{α0 α1:Type}{p0:α0->α1->Prop}{G:Prop}(h:∃a0 a1,p0 a0 a1)(k:∀a0 a1,p0 a0 a1->G):G:=Gf h λa h=>zh h (k a)
theorem zl{α0 α1:Type}{p0 p1:α0->α1->Prop}{G:Prop}(h:∃a0 a1,p0 a0 a1/\p1 a0 a1)(k:∀a0 a1,p0 a0 a1->p1 a0 a1->G):G:=Gf h λa h=>za h (k a)
theorem zy{α0 α1:Type}{p0 p1 p2:α0->α1->Prop}{G:Prop}(h:∃a0 a1,p0 a0 a1/\p1 a0 a1/\p2 a0 a1)(k:∀a0 a1,p0 a0 a1->p1 a0 a1->p2 a0 a1->G):G:=Gf h λa h=>yQ h (k a)
theorem yt{α0 α1:Type}{p0 p1 p2 p3:α0->α1->Prop}{G:Prop}(h:∃a0 a1,p0 a0 a1/\p1 a0 a1/\p2 a0 a1/\p3 a0 a1)(k:∀a0 a1,p0 a0 a1->p1 a0 a1->p2 a0 a1->p3 a0 a1->G):G:=Gf h λa h=>j8 h (k a)
theorem Y9{α0 α1:Type}{p0 p1 p2 p3 p4:α0->α1->Prop}{G:Prop}(h:∃a0 a1,p0 a0 a1/\p1 a0 a1/\p2 a0 a1/\p3 a0 a1/\p4 a0 a1)(k:∀a0 a1,p0 a0 a1->p1 a0 a1->p2 a0 a1->p3 a0 a1->p4 a0 a1->G):G:=Gf h λa h=>xe1c5 h (k a)
theorem xe2c6{α0 α1:Type}{p0 p1 p2 p3 p4 p5:α0->α1->Prop}{G:Prop}(h:∃a0 a1,p0 a0 a1/\p1 a0 a1/\p2 a0 a1/\p3 a0 a1/\p4 a0 a1/\p5 a0 a1)(k:∀a0 a1,p0 a0 a1->p1 a0 a1->p2 a0 a1->p3 a0 a1->p4 a0 a1->p5 a0 a1->G):G:=Gf h λa h=>xe1c6 h (k a)
theorem xe2c7{α0 α1:Type}{p0 p1 p2 p3 p4 p5 p6:α0->α1->Prop}{G:Prop}(h:∃a0 a1,p0 a0 a1/\p1 a0 a1/\p2 a0 a1/\p3 a0 a1/\p4 a0 a1/\p5 a0 a1/\p6 a0 a1)(k:∀a0 a1,p0 a0 a1->p1 a0 a1->p2 a0 a1->p3 a0 a1->p4 a0 a1->p5 a0 a1->p6 a0 a1->G):G:=Gf h λa h=>xe1c7 h (k a)
theorem xe3c1{α0 α1 α2:Type}{p0:α0->α1->α2->Prop}{G:Prop}(h:∃a0 a1 a2,p0 a0 a1 a2)(k:∀a0 a1 a2,p0 a0 a1 a2->G):G:=Gf h λa h=>Jo h (k a)
theorem zF{α0 α1 α2:Type}{p0 p1:α0->α1->α2->Prop}{G:Prop}(h:∃a0 a1 a2,p0 a0 a1 a2/\p1 a0 a1 a2)(k:∀a0 a1 a2,p0 a0 a1 a2->p1 a0 a1 a2->G):G:=Gf h λa h=>zl h (k a)
theorem Z9{α0 α1 α2:Type}{p0 p1 p2:α0->α1->α2->Prop}{G:Prop}(h:∃a0 a1 a2,p0 a0 a1 a2/\p1 a0 a1 a2/\p2 a0 a1 a2)(k:∀a0 a1 a2,p0 a0 a1 a2->p1 a0 a1 a2->p2 a0 a1 a2->G):G:=Gf h λa h=>zy h (k a)
theorem Zh{α0 α1 α2:Type}{p0 p1 p2 p3:α0->α1->α2->Prop}{G:Prop}(h:∃a0 a1 a2,p0 a0 a1 a2/\p1 a0 a1 a2/\p2 a0 a1 a2/\p3 a0 a1 a2)(k:∀a0 a1 a2,p0 a0 a1 a2->p1 a0 a1 a2->p2 a0 a1 a2->p3 a0 a1 a2->G):G:=Gf h λa h=>yt h (k a)
theorem YD{α0 α1 α2:Type}{p0 p1 p2 p3 p4:α0->α1->α2->Prop}{G:Prop}(h:∃a0 a1 a2,p0 a0 a1 a2/\p1 a0 a1 a2/\p2 a0 a1 a2/\p3 a0 a1 a2/\p4 a0 a1 a2)(k:∀a0 a1 a2,p0 a0 a1 a2->p1 a0 a1 a2->p2 a0 a1 a2->p3 a0 a1 a2->p4 a0 a1 a2->G):G:=Gf h λa h=>Y9 h (k a)
theorem xe3c6{α0 α1 α2:Type}{p0 p1 p2 p3 p4 p5:α0->α1->α2->Prop}{G:Prop}(h:∃a0 a1 a2,p0 a0 a1 a2/\p1 a0 a1 a2/\p2 a0 a1 a2/\p3 a0 a1 a2/\p4 a0 a1 a2/\p5 a0 a1 a2)(k:∀a0 a1 a2,p0 a0 a1 a2->p1 a0 a1 a2->p2 a0 a1 a2->p3 a0 a1 a2->p4 a0 a1 a2->p5 a0 a1 a2->G):G:=Gf h λa h=>xe2c6 h (k a)
theorem Xp{α0 α1 α2:Type}{p0 p1 p2 p3 p4 p5 p6:α0->α1->α2->Prop}{G:Prop}(h:∃a0 a1 a2,p0 a0 a1 a2/\p1 a0 a1 a2/\p2 a0 a1 a2/\p3 a0 a1 a2/\p4 a0 a1 a2/\p5 a0 a1 a2/\p6 a0 a1 a2)(k:∀a0 a1 a2,p0 a0 a1 a2->p1 a0 a1 a2->p2 a0 a1 a2->p3 a0 a1 a2->p4 a0 a1 a2->p5 a0 a1 a2->p6 a0 a1 a2->G):G:=Gf h λa h=>xe2c7 h (k a)
theorem xe4c1{α0 α1 α2 α3:Type}{p0:α0->α1->α2->α3->Prop}{G:Prop}(h:∃a0 a1 a2 a3,p0 a0 a1 a2 a3)(k:∀a0 a1 a2 a3,p0 a0 a1 a2 a3->G):G:=Gf h λa h=>xe3c1 h (k a)
theorem yU{α0 α1 α2 α3:Type}{p0 p1:α0->α1->α2->α3->Prop}{G:Prop}(h:∃a0 a1 a2 a3,p0 a0 a1 a2 a3/\p1 a0 a1 a2 a3)(k:∀a0 a1 a2 a3,p0 a0 a1 a2 a3->p1 a0 a1 a2 a3->G):G:=Gf h λa h=>zF h (k a)
theorem xe4c3{α0 α1 α2 α3:Type}{p0 p1 p2:α0->α1->α2->α3->Prop}{G:Prop}(h:∃a0 a1 a2 a3,p0 a0 a1 a2 a3/\p1 a0 a1 a2 a3/\p2 a0 a1 a2 a3)(k:∀a0 a1 a2 a3,p0 a0 a1 a2 a3->p1 a0 a1 a2 a3->p2 a0 a1 a2 a3->G):G:=Gf h λa h=>Z9 h (k a)
theorem xe4c4{α0 α1 α2 α3:Type}{p0 p1 p2 p3:α0->α1->α2->α3->Prop}{G:Prop}(h:∃a0 a1 a2 a3,p0 a0 a1 a2 a3/\p1 a0 a1 a2 a3/\p2 a0 a1 a2 a3/\p3 a0 a1 a2 a3)(k:∀a0 a1 a2 a3,p0 a0 a1 a2 a3->p1 a0 a1 a2 a3->p2 a0 a1 a2 a3->p3 a0 a1 a2 a3->G):G:=Gf h λa h=>Zh h (k a)
theorem Xo{α0 α1 α2 α3:Type}{p0 p1 p2 p3 p4:α0->α1->α2->α3->Prop}{G:Prop}(h:∃a0 a1 a2 a3,p0 a0 a1 a2 a3/\p1 a0 a1 a2 a3/\p2 a0 a1 a2 a3/\p3 a0 a1 a2 a3/\p4 a0 a1 a2 a3)(k:∀a0 a1 a2 a3,p0 a0 a1 a2 a3->p1 a0 a1 a2 a3->p2 a0 a1 a2 a3->p3 a0 a1 a2 a3->p4 a0 a1 a2 a3->G):G:=Gf h λa h=>YD h (k a)
theorem xe4c6{α0 α1 α2 α3:Type}{p0 p1 p2 p3 p4 p5:α0->α1->α2->α3->Prop}{G:Prop}(h:∃a0 a1 a2 a3,p0 a0 a1 a2 a3/\p1 a0 a1 a2 a3/\p2 a0 a1 a2 a3/\p3 a0 a1 a2 a3/\p4 a0 a1 a2 a3/\p5 a0 a1 a2 a3)(k:∀a0 a1 a2 a3,p0 a0 a1 a2 a3->p1 a0 a1 a2 a3->p2 a0 a1 a2 a3->p3 a0 a1 a2 a3->p4 a0 a1 a2 a3->p5 a0 a1 a2 a3->G):G:=Gf h λa h=>xe3c6 h (k a)
theorem xe4c7{α0 α1 α2 α3:Type}{p0 p1 p2 p3 p4 p5 p6:α0->α1->α2->α3->Prop}{G:Prop}(h:∃a0 a1 a2 a3,p0 a0 a1 a2 a3/\p1 a0 a1 a2 a3/\p2 a0 a1 a2 a3/\p3 a0 a1 a2 a3/\p4 a0 a1 a2 a3/\p5 a0 a1 a2 a3/\p6 a0 a1 a2 a3)(k:∀a0 a1 a2 a3,p0 a0 a1 a2 a3->p1 a0 a1 a2 a3->p2 a0 a1 a2 a3->p3 a0 a1 a2 a3->p4 a0 a1 a2 a3->p5 a0 a1 a2 a3->p6 a0 a1 a2 a3->G):G:=Gf h λa h=>Xp h (k a)
theorem j7{α0 α1 α2 α3 α4:Type}{p0:α0->α1->α2->α3->α4->Prop}{G:Prop}(h:∃a0 a1 a2 a3 a4,p0 a0 a1 a2 a3 a4)(k:∀a0 a1 a2 a3 a4,p0 a0 a1 a2 a3 a4->G):G:=Gf h λa h=>xe4c1 h (k a)
theorem JS{α0 α1 α2 α3 α4:Type}{p0 p1:α0->α1->α2->α3->α4->Prop}{G:Prop}(h:∃a0 a1 a2 a3 a4,p0 a0 a1 a2 a3 a4/\p1 a0 a1 a2 a3 a4)(k:∀a0 a1 a2 a3 a4,p0 a0 a1 a2 a3 a4->p1 a0 a1 a2 a3 a4->G):G:=Gf h λa h=>yU h (k a)
theorem xe5c3{α0 α1 α2 α3 α4:Type}{p0 p1 p2:α0->α1->α2->α3->α4->Prop}{G:Prop}(h:∃a0 a1 a2 a3 a4,p0 a0 a1 a2 a3 a4/\p1 a0 a1 a2 a3 a4/\p2 a0 a1 a2 a3 a4)(k:∀a0 a1 a2 a3 a4,p0 a0 a1 a2 a3 a4->p1 a0 a1 a2 a3 a4->p2 a0 a1 a2 a3 a4->G):G:=Gf h λa h=>xe4c3 h (k a)
theorem xe5c4{α0 α1 α2 α3 α4:Type}{p0 p1 p2 p3:α0->α1->α2->α3->α4->Prop}{G:Prop}(h:∃a0 a1 a2 a3 a4,p0 a0 a1 a2 a3 a4/\p1 a0 a1 a2 a3 a4/\p2 a0 a1 a2 a3 a4/\p3 a0 a1 a2 a3 a4)(k:∀a0 a1 a2 a3 a4,p0 a0 a1 a2 a3 a4->p1 a0 a1 a2 a3 a4->p2 a0 a1 a2 a3 a4->p3 a0 a1 a2 a3 a4->G):G:=Gf h λa h=>xe4c4 h (k a)
theorem YV{α0 α1 α2 α3 α4:Type}{p0 p1 p2 p3 p4:α0->α1->α2->α3->α4->Prop}{G:Prop}(h:∃a0 a1 a2 a3 a4,p0 a0 a1 a2 a3 a4/\p1 a0 a1 a2 a3 a4/\p2 a0 a1 a2 a3 a4/\p3 a0 a1 a2 a3 a4/\p4 a0 a1 a2 a3 a4)(k:∀a0 a1 a2 a3 a4,p0 a0 a1 a2 a3 a4->p1 a0 a1 a2 a3 a4->p2 a0 a1 a2 a3 a4->p3 a0 a1 a2 a3 a4->p4 a0 a1 a2 a3 a4->G):G:=Gf h λa h=>Xo h (k a)
theorem xe5c6{α0 α1 α2 α3 α4:Type}{p0 p1 p2 p3 p4 p5:α0->α1->α2->α3->α4->Prop}{G:Prop}(h:∃a0 a1 a2 a3 a4,p0 a0 a1 a2 a3 a4/\p1 a0 a1 a2 a3 a4/\p2 a0 a1 a2 a3 a4/\p3 a0 a1 a2 a3 a4/\p4 a0 a1 a2 a3 a4/\p5 a0 a1 a2 a3 a4)(k:∀a0 a1 a2 a3 a4,p0 a0 a1 a2 a3 a4->p1 a0 a1 a2 a3 a4->p2 a0 a1 a2 a3 a4->p3 a0 a1 a2 a3 a4->p4 a0 a1 a2 a3 a4->p5 a0 a1 a2 a3 a4->G):G:=Gf h λa h=>xe4c6 h (k a)
theorem xe6c2{α0 α1 α2 α3 α4 α5:Type}{p0 p1:α0->α1->α2->α3->α4->α5->Prop}{G:Prop}(h:∃a0 a1 a2 a3 a4 a5,p0 a0 a1 a2 a3 a4 a5/\p1 a0 a1 a2 a3 a4 a5)(k:∀a0 a1 a2 a3 a4 a5,p0 a0 a1 a2 a3 a4 a5->p1 a0 a1 a2 a3 a4 a5->G):G:=Gf h λa h=>JS h (k a)
theorem Jn{α0 α1 α2 α3 α4 α5:Type}{p0 p1 p2:α0->α1->α2->α3->α4->α5->Prop}{G:Prop}(h:∃a0 a1 a2 a3 a4 a5,p0 a0 a1 a2 a3 a4 a5/\p1 a0 a1 a2 a3 a4 a5/\p2 a0 a1 a2 a3 a4 a5)(k:∀a0 a1 a2 a3 a4 a5,p0 a0 a1 a2 a3 a4 a5->p1 a0 a1 a2 a3 a4 a5->p2 a0 a1 a2 a3 a4 a5->G):G:=Gf h λa h=>xe5c3 h (k a)
theorem xe6c4{α0 α1 α2 α3 α4 α5:Type}{p0 p1 p2 p3:α0->α1->α2->α3->α4->α5->Prop}{G:Prop}(h:∃a0 a1 a2 a3 a4 a5,p0 a0 a1 a2 a3 a4 a5/\p1 a0 a1 a2 a3 a4 a5/\p2 a0 a1 a2 a3 a4 a5/\p3 a0 a1 a2 a3 a4 a5)(k:∀a0 a1 a2 a3 a4 a5,p0 a0 a1 a2 a3 a4 a5->p1 a0 a1 a2 a3 a4 a5->p2 a0 a1 a2 a3 a4 a5->p3 a0 a1 a2 a3 a4 a5->G):G:=Gf h λa h=>xe5c4 h (k a)
theorem xe6c6{α0 α1 α2 α3 α4 α5:Type}{p0 p1 p2 p3 p4 p5:α0->α1->α2->α3->α4->α5->Prop}{G:Prop}(h:∃a0 a1 a2 a3 a4 a5,p0 a0 a1 a2 a3 a4 a5/\p1 a0 a1 a2 a3 a4 a5/\p2 a0 a1 a2 a3 a4 a5/\p3 a0 a1 a2 a3 a4 a5/\p4 a0 a1 a2 a3 a4 a5/\p5 a0 a1 a2 a3 a4 a5)(k:∀a0 a1 a2 a3 a4 a5,p0 a0 a1 a2 a3 a4 a5->p1 a0 a1 a2 a3 a4 a5->p2 a0 a1 a2 a3 a4 a5->p3 a0 a1 a2 a3 a4 a5->p4 a0 a1 a2 a3 a4 a5->p5 a0 a1 a2 a3 a4 a5->G):G:=Gf h λa h=>xe5c6 h (k a)
theorem xe7c2{α0 α1 α2 α3 α4 α5 α6:Type}{p0 p1:α0->α1->α2->α3->α4->α5->α6->Prop}{G:Prop}(h:∃a0 a1 a2 a3 a4 a5 a6,p0 a0 a1 a2 a3 a4 a5 a6/\p1 a0 a1 a2 a3 a4 a5 a6)(k:∀a0 a1 a2 a3 a4 a5 a6,p0 a0 a1 a2 a3 a4 a5 a6->p1 a0 a1 a2 a3 a4 a5 a6->G):G:=Gf h λa h=>xe6c2 h (k a)
noncomputable def DictN(prog:Program)(w:World)(o:Obj)(kvs:List (Str×Value)):Prop:=
 ∃es,o.ExactDict/\o.data= .dict es kvs.length/\KeysOf (strKind prog w) es/\Pairs (strKind prog w) es.toList kvs/\(kvs.map (·.1)).Nodup
theorem DictN.of{prog:Program}{w:World}{o:Obj}{kvs:List (Str×Value)}(h:DictN prog w o kvs):o.IsDictOf (strKind prog w) kvs:=h.imp λ_ h=>⟨_,h⟩
theorem DictN.at{prog:Program}{w:World}{o:Obj}{kvs:List (Str×Value)}{h:Heap}{d:Addr}(ho:h.get? d=some o)(q:DictN prog w o kvs):h.DictAt (strKind prog w) d kvs kvs.length:=⟨o,q.imp λ_ h=>⟨ho,h⟩⟩
section
variable {prog:Program} {w:World} {A:Around} {E:Value->Shared->Prop} {s:Shared}
theorem XT{d:Addr}{kvs:List (Str×Value)}{k:Str}{key v:Value}{Q:Unit->Shared->Prop}{o:Obj}(hkey:(strKind prog w).is k key=true)(ho:s.heap.get? d=some o)(hm:DictN prog w o kvs)
  (hQ:∀h' o',h'.get? d=some o'->DictN prog w o' (stored kvs k v)->F7 d s.heap h'->Q () {s with heap:=h',toks:=s.toks+1})
  (hsz:kvs.length<=sizeLine) :
  wpAny (model prog w) A (dictSet d key v) Q E s:=by
 refine xe1c5 (hm) ?_;clear hm;intro es hc hd hk hp hn
 have hes:es.size<=sizeLine:=by
  have e1:=hp.length
  have e2:es.toList.length=es.size:=by simp
  exact om1 hsz e1 e2
 unfold dictSet
 try with_reducible refine wpAny_holding ?_
 refine wpAny_bind ((strKind prog w).pyHash hkey ?_)
 unfold dictSetHashed
 try with_reducible refine wpAny_holding ?_
 refine wpAny_bind (wpAny_dictFind_of (s:={s with toks:=s.toks+1}) hkey ho hd hk ?_)
 have hidx:(es.findIdx? λe=>(strKind prog w).is k e.key)=kvs.findIdx? λkv=>decide (kv.1=k):=by
  rw[←hp.findIdx k];obtain⟨l⟩:=es;simp
 induction hi:es.findIdx? λe=>(strKind prog w).is k e.key using Gq with
 |some i=>
  refine wpAny_bind (wpAny_rule (wpAny_bind (wpAny_updateDict (s:={s with toks:=s.toks+1}) ho hd (wpAny_point (hQ _ _ (Heap.get?_update_self _ ho (Obj.isFreed_of_dict (Obj.data_mapDict hd _))) ⟨_,
   hc.mapDict _,?_,hk.modify i v,?_,?_⟩ (Fv ..))))))
  ·rw[Obj.data_mapDict hd,stored,if_pos (any_of_findIdx_some (hidx▸hi)),Gm]
  ·rw[stored,if_pos (any_of_findIdx_some (hidx▸hi))]
   have hl:(es.toList.findIdx? λe=>(strKind prog w).is k e.key)=some i:=by rw[←hi];obtain⟨l⟩:=es;simp
   have:=hp.modify hn hl v
   obtain⟨l⟩:=es
   simpa using this
  ·rw[stored,if_pos (any_of_findIdx_some (hidx▸hi)),keys_map_store];exact hn
 |none=>
  have hnot:k∉kvs.map (·.1):=not_mem_of_findIdx_none (hidx▸hi)
  have hany:¬(kvs.any λkv=>decide (kv.1=k))=true:=by
   rw[Fh];rintro⟨kv,hkv,he⟩
   exact hnot (D2.mpr ⟨kv,hkv,of_decide_eq_true he⟩)
  refine wpAny_bind (wpAny_rule (wpAny_updateDictKeys (hz:=hes) (s:={s with toks:=s.toks+1}) ho hd (hQ _ _ (Heap.get?_update_self _ ho (Obj.isFreed_of_dict (Obj.data_mapDictKeys hd _))) ⟨_,
   hc.mapDictKeys _,?_,hk.push hkey v,?_,?_⟩ (Fv ..))))
  ·rw[Obj.data_mapDictKeys hd,stored,if_neg hany,G7,D8]
  ·rw[stored,if_neg hany]
   have:=hp.append hkey ((strKind prog w).hash k) v
   obtain⟨l⟩:=es
   simpa using this
  ·rw[stored,if_neg hany,Gw,Gu]
   refine⟨hn,by simp,?_⟩
   intro a ha b hb
   simp only[GG,F8,GE] at hb
   subst hb
   exact λe=>hnot (e▸ha)
theorem kh{d:Addr}{kvs:List (Str×Value)}{k:Str}{key v:Value}{Q:Unit->Shared->Prop}{o:Obj}(hkey:(strKind prog w).is k key=true)(ho:s.heap.get? d=some o)(hm:DictN prog w o kvs)
  (hQ:∀h' o',h'.get? d=some o'->DictN prog w o' (stored kvs k v)->F7 d s.heap h'->Q () {s with heap:=h',toks:=s.toks+1})
  (hsz:kvs.length<=sizeLine):wpAny (model prog w) A (setItem (.ref d) key v) Q E s:=by
 have hT:s.TypeIs (.ref d) "dict":=(hm.at ho).dictOf.typeIs
 unfold setItem
 try with_reducible refine wpAny_holding ?_
 refine wpAny_bind (wpAny_sequenceKey hT (by decide) ?_)
 refine wpAny_bind (wpAny_callSpecial?_slot (name:=G0 "__setitem__") hT slot_dict_setitem
  (wpAny_call_entry slot_dict_setitem hT entry_dict_setitem ?_ (args_dict_setitem _ _ _)))
 show wpAny _ _ (Builtin.Dict.notOrdered "__setitem__" ⟨[.ref d,key,v],[]⟩ >>= _) _ _ s
 refine wpAny_bind (wpAny_notOrdered_dict hT ?_)
 show wpAny _ _ (dictSet d key v >>= _) _ _ s
 exact wpAny_bind (XT hkey ho hm (λh' o' ho' hm' hs'=>wpAny_pure ⟨.none,rfl,wpAny_pure (hQ h' o' ho' hm' hs')⟩) hsz)
theorem Jq{d:Addr}:∀(vs:List (Value×Value)) (kvs acc:List (Str×Value)) (s:Shared) (o:Obj) (Q:PUnit->Shared->Prop),Carries (strKind prog w) vs kvs->s.heap.get? d=some o->DictN prog w o acc->acc.length+kvs.length<=sizeLine->
  (∀h' o',h'.get? d=some o'->DictN prog w o' (merged acc kvs)->F7 d s.heap h'->Q PUnit.unit {s with heap:=h',toks:=s.toks+vs.length})->
  wpAny (model prog w) A (storeAll d vs) Q E s:=by
 intro vs
 induction vs with
 |nil=>
  intro xx acc s o Q hc ho hm y9 hQ
  rcases xx with _|⟨_,_⟩
  ·unfold storeAll
   rw[List.forIn_nil]
   exact wpAny_pure (by simpa [merged] using hQ s.heap o ho (by simpa [merged] using hm) (Heap.SameBut.refl _ _))
  ·exact hc.elim
 |cons hdp vs ih=>
  intro xx acc s o Q hc ho hm hsz hQ
  obtain⟨key,v⟩:=hdp
  rcases xx with _|⟨⟨k,v'⟩,kvs⟩
  ·exact hc.elim
  ·refine zC (hc) ?_;clear hc;intro hkey rq1 hc';subst rq1
   rw[GB] at hsz
   unfold storeAll
   rw[List.forIn_cons]
   refine wpAny_bind (wpAny_bind (XT hkey ho hm (λh₁ UK Ui Uc Uk=>wpAny_pure ?_) (om2 hsz)))
   refine ih kvs (stored acc k v) _ UK Q hc' Ui Uc (by have e:=stored_length_le acc k v;exact om4 hsz e) λh' o' ho' hm' hs'=>?_
   have:=hQ h' o' ho' (by simpa [merged] using hm') (Uk.trans hs')
   simpa [DC,Dx 1] using this
end
section
set_option autoImplicit true
noncomputable abbrev Lg:=List (Addr×Obj)
noncomputable abbrev Rn:=List (Addr×Addr)
noncomputable abbrev tupO(us:List Value)(n:Nat):Obj:={cls:=.type "tuple",data:=.seq us.toArray n}
noncomputable def yT(o:Obj):Bool:=cond (Gg o.data.ctorIdx 2) (match o.cls with|.type n=>n=="tuple"|_=>false) (!Gg o.data.ctorIdx 3)
theorem Z7{o:Obj}{D:Data}(h:o.data=D):yT o=cond (Gg D.ctorIdx 2) (match o.cls with|.type n=>n=="tuple"|_=>false) (!Gg D.ctorIdx 3):=h▸rfl
noncomputable def TupAt(K:Frag)(E:Lg)(a:Addr)(us:List Value):Prop:=(∃n,(a,tupO us n)∈E)∨∃dd n sl,K.lookup a=some ⟨.type "tuple",dd,.seq us.toArray n,sl⟩
structure Tp where
 prog:Program
 w:World
 K:Frag
 P:Params
 lamK:Nat
 lamP:Pos
 lamQ:Str
 lamX:Str
 lamN:Str
 attr:Nat->Str
 cls:Nat->Option Addr
 tab:Addr
 tabC:Addr
 scr:Addr
 ns:List Int
 fn:Nat->Option Addr
 att:Nat->Nat->Bool
inductive LamAt (T:Tp) (E:Lg) (k:Nat) (a:Addr):Prop
 |mk (ar:Arg) (p1 p2:Pos) (csc:Scope) (pm:Value) (c':Addr) (ctv:Value) (oc:Obj) (vs:Array Value) (t:Tok):k=T.lamK->(a,kla_obj "<lambda>" T.lamQ ⟨[],[ar],none,[],[],none,[]⟩ (.Attribute (.Name T.lamX p1) T.lamN p2) csc [] pm c' ctv)∈E->
  ar.arg=T.lamX->csc.names.lookup T.lamX=some .local->(∀x∈csc.names,x.2≠.cell)->csc.kind= .function->csc.isCoroutine=false->csc.isGenerator=false->
  (c',oc)∈E->oc.data= .fields vs->vs[1]?=some (.str T.lamQ t)->LamAt T E k a
noncomputable def RngAt(E:Lg)(a:Addr)(n:Nat):Prop:=∃t u v,(a,({cls:=.type "range",data:=.fields #[.int 0 t,.int (n:Int) u,.int 1 v]}:Obj))∈E
variable (T:Tp)
mutual
inductive VR (E:Lg) (ρ:Rn):V->Value->Prop
 |none:VR E ρ .none .none
 |bool (b:Bool):VR E ρ (.bool b) (.bool b)
 |int (i:Int) (t:Tok):VR E ρ (.int i) (.int i t)
 |str (s:List Nat) (t:Tok):VR E ρ (.str s) (.str ⟨s.toArray⟩ t)
 |obj {i:Nat} {a d:Addr}:ρ[i]?=some (a,d)->VR E ρ (.obj i) (.ref a)
 |tup {vs:List V} {us:List Value} {a:Addr}:TupAt T.K E a us->VRs E ρ vs us->VR E ρ (.tup vs) (.ref a)
 |fn {k:Nat} {a:Addr}:LamAt T E k a->VR E ρ (.fn k) (.ref a)
 |rng {n:Nat} {a:Addr}:RngAt E a n->VR E ρ (.rng n) (.ref a)
 |scr:VR E ρ .scr (.ref T.scr)
inductive VRs (E:Lg) (ρ:Rn):List V->List Value->Prop
 |nil:VRs E ρ [] []
 |cons {v:V} {u:Value} {vs:List V} {us:List Value}:VR E ρ v u->VRs E ρ vs us->VRs E ρ (v::vs) (u::us)
end
structure Ext (E:Lg) (ρ:Rn) (E':Lg) (ρ':Rn):Prop where
 pre:∀(i:Nat) (p:Addr×Addr),ρ[i]?=some p->ρ'[i]?=some p
 fix:∀p∈E,yT p.2=true->p∈E'
theorem Ext.refl(E:Lg)(ρ:Rn):Ext E ρ E ρ:=⟨λ_ _ h=>h,λ_ h _=>h⟩
theorem Ext.trans{E E' E'':Lg}{ρ ρ' ρ'':Rn}(a:Ext E ρ E' ρ')(b:Ext E' ρ' E'' ρ''):Ext E ρ E'' ρ'':=
 ⟨λi p h=>b.pre i p (a.pre i p h),λp h q=>b.fix p (a.fix p h q) q⟩
variable {T:Tp}
theorem TupAt.ext{uq:Frag}{E E':Lg}(x:∀p∈E,yT p.2=true->p∈E'){a:Addr}{us:List Value}(h:TupAt uq E a us):TupAt uq E' a us:=h.imp (GK λ_ h=>x _ h rfl) id
theorem RngAt.ext{E E':Lg}(x:∀p∈E,yT p.2=true->p∈E'){a:Addr}{n:Nat}(h:RngAt E a n):RngAt E' a n:=
 h.imp λ_=>GK λ_=>GK λ_ h=>x _ h rfl
theorem LamAt.ext{E E':Lg}(x:∀p∈E,yT p.2=true->p∈E'){k:Nat}{a:Addr}:LamAt T E k a->LamAt T E' k a
 |⟨ar,p1,p2,csc,pm,c',ctv,oc,vs,t,h1,h2,y1,y2,y3,y4,y5,y6,h3,h4,h5⟩=>⟨ar,p1,p2,csc,pm,c',ctv,oc,vs,t,h1,x _ h2 rfl,y1,y2,y3,y4,y5,y6,x _ h3 (Z7 h4),h4,h5⟩
theorem VR.ext{E E':Lg}{ρ ρ':Rn}(x:Ext E ρ E' ρ'){v:V}{u:Value}(h:VR T E ρ v u):VR T E' ρ' v u:=
 VR.rec (motive_1:=λv u _=>VR T E' ρ' v u) (motive_2:=λvs us _=>VRs T E' ρ' vs us) .none .bool .int .str (λh=>.obj (x.pre _ _ h)) (λh _ r=>.tup (h.ext x.fix) r) (λh=>.fn (h.ext x.fix)) (λh=>.rng (h.ext x.fix)) .scr .nil (λ_ _ a r=>.cons a r) h
theorem VRs.ind{E:Lg}{ρ:Rn}{Pr:List V->List Value->Prop}(n:Pr [] [])(k:∀{v u vs us},VR T E ρ v u->VRs T E ρ vs us->Pr vs us->Pr (v::vs) (u::us)){vs:List V}{us:List Value}(h:VRs T E ρ vs us):Pr vs us:=
 VRs.rec (motive_1:=λ_ _ _=>True) (motive_2:=λvs us _=>Pr vs us) trivial (λ_=>trivial) (λ_ _=>trivial) (λ_ _=>trivial) (λ_=>trivial) (λ_ _ _=>trivial) (λ_=>trivial) (λ_=>trivial) trivial n (λa r _ q=>k a r q) h
theorem VRs.ext{E E':Lg}{ρ ρ':Rn}(x:Ext E ρ E' ρ'){v:List V}{u:List Value}(h:VRs T E ρ v u):VRs T E' ρ' v u:=h.ind .nil λa _ r=>.cons (a.ext x) r
theorem VRs.length{E:Lg}{ρ:Rn}{vs:List V}{us:List Value}(h:VRs T E ρ vs us):vs.length=us.length:=h.ind (Pr:=λvs us=>vs.length=us.length) rfl λ_ _ r=>congrArg (·+ 1) r
theorem VRs.append{E ρ}{vs us vs' us'}(h:VRs T E ρ vs us)(g:VRs T E ρ vs' us'):VRs T E ρ (vs++vs') (us++us'):=h.ind (Pr:=λvs us=>VRs T E ρ (vs++vs') (us++us')) g λa _ r=>.cons a r
theorem VRs.at{E:Lg}{ρ:Rn}{vs:List V}{us:List Value}(h:VRs T E ρ vs us):∀{i:Nat} {v:V},vs[i]?=some v->∃u,us[i]?=some u/\VR T E ρ v u:=by
 refine h.ind (Pr:=λvs us=>∀{i:Nat} {v:V},vs[i]?=some v->∃u,us[i]?=some u/\VR T E ρ v u) (λh=>nn h) ?_
 intro _ u _ _ a _ r i v h
 rcases i with _|i
 ·exact⟨u,rfl,Ga h▸a⟩
 ·exact r h
theorem VRs.reverse{E:Lg}{ρ:Rn}{vs:List V}{us:List Value}(h:VRs T E ρ vs us):VRs T E ρ vs.reverse us.reverse:=
 h.ind (Pr:=λvs us=>VRs T E ρ vs.reverse us.reverse) .nil λ{v u vs us} a _ r=>by
  rw[Dc,Dc]
  exact r.append (.cons a .nil)
theorem VRs.take{E:Lg}{ρ:Rn}{vs:List V}{us:List Value}(n:Nat)(h:VRs T E ρ vs us):VRs T E ρ (vs.take n) (us.take n):=
 h.ind (Pr:=λvs us=>∀n,VRs T E ρ (vs.take n) (us.take n)) (λn=>by rw[FN,FN];exact .nil) (λa _ r n=>Nat.rec (motive:=λn=>VRs T E ρ ((_::_).take n) ((_::_).take n)) .nil (λn _=>.cons a (r n)) n) n
theorem VRs.drop{E:Lg}{ρ:Rn}{vs:List V}{us:List Value}(n:Nat)(h:VRs T E ρ vs us):VRs T E ρ (vs.drop n) (us.drop n):=
 h.ind (Pr:=λvs us=>∀n,VRs T E ρ (vs.drop n) (us.drop n)) (λn=>by rw[List.drop_nil,List.drop_nil];exact .nil) (λa q r n=>Nat.rec (motive:=λn=>VRs T E ρ ((_::_).drop n) ((_::_).drop n)) (.cons a q) (λn _=>r n) n) n
theorem VRs.set{E:Lg}{ρ:Rn}{vs:List V}{us:List Value}(n:Nat){v:V}{u:Value}(h:VRs T E ρ vs us)(g:VR T E ρ v u):VRs T E ρ (vs.set n v) (us.set n u):=
 h.ind (Pr:=λvs us=>∀n,VRs T E ρ (vs.set n v) (us.set n u)) (λ_=>.nil) (λa q r n=>Nat.rec (motive:=λn=>VRs T E ρ ((_::_).set n v) ((_::_).set n u)) (.cons g q) (λn _=>.cons a (r n)) n) n
noncomputable def KeyE(P:Params)(k:Str)(e:DictEntry):Prop:=e.hash=PyData.keyHash P k/\∃t,e.key= .str k t
inductive FRs (T:Tp) (E:Lg) (ρ:Rn) (nm:κ->Str):List (κ×V)->List DictEntry->Prop
 |nil:FRs T E ρ nm [] []
 |cons {k:κ} {v:V} {e:DictEntry} {fs:List (κ×V)} {es:List DictEntry}:KeyE T.P (nm k) e->VR T E ρ v e.val->FRs T E ρ nm fs es->FRs T E ρ nm ((k,v)::fs) (e::es)
noncomputable def strL(s:List Nat):Str:=⟨s.toArray⟩
inductive KVs (T:Tp) (E:Lg) (ρ:Rn):List (List Nat×V)->List (Str×Value)->Prop
 |nil:KVs T E ρ [] []
 |cons {k:List Nat} {v:V} {u:Value} {fs:List (List Nat×V)} {es:List (Str×Value)}:VR T E ρ v u->KVs T E ρ fs es->KVs T E ρ ((k,v)::fs) ((strL k,u)::es)
noncomputable def lim:Nat:=1000
noncomputable def OAt(T:Tp)(E:Lg)(ρ:Rn)(a d:Addr):O->Prop
 |.list vs=>∃us n,(a,DN us.toArray n)∈E/\VRs T E ρ vs us/\vs.length<=lim
 |.inst c fs=>∃C es n,T.cls c=some C/\(a,instObj C d)∈E/\(d,dictOf es n)∈E/\FRs T E ρ T.attr fs es/\fs.length<=100/\∀p∈fs,T.att c p.1=true
 |.exc c=>∃C ob t,T.cls c=some C/\(a,ob)∈E/\ob.cls= .ref C/\ob.data= .fields #[.ref t,.none,.none,.none,.bool false,.none]
 |.dict es=>∃o kvs,(a,o)∈E/\DictN T.prog T.w o kvs/\KVs T E ρ es kvs/\es.length<=lim/\(a==sysModules)=false
noncomputable def zS:O->Addr×Addr->List Addr
 |.inst _ _,p=>[p.1,p.2]
 |_,p=>[p.1]
noncomputable def foot:List O->Rn->List Addr
 |o::H,p::ρ=>zS o p++foot H ρ
 |_,_=>[]
noncomputable def TbOk(T:Tp)(E:Lg)(o:Obj):Prop:=∃ps,o=tabObj ps/\(ps=#[]∨∃c' oc vs t,ps=#[rawInt T.lamP.line,rawInt T.lamP.col,.ref c']/\(c',oc)∈E/\oc.data= .fields vs/\vs[1]?=some (.str T.lamQ t))
structure Rep (T:Tp) (Un:Heap) (L:Addr) (m:Str->Option Value) (G:Lg) (H:List O) (ρ:Rn) (E:Lg) (h:Heap):Prop where
 F:Fr Un L h m
 N:∃tb,TbOk T E tb/\News Un L h (E++(T.tab,tb)::G)
 nd:((E++(T.tab,tabObj #[])::G).map (·.1)).Nodup
 len:ρ.length=H.length
 enc:∀(i:Nat) (o:O) (a d:Addr),H[i]?=some o->ρ[i]?=some (a,d)->OAt T E ρ a d o
 ft:(foot H ρ).Nodup
end
section
variable {T:Tp} {Un h h':Heap} {L:Addr} {m m':Str->Option Value} {G:Lg} {H:List O} {ρ ρ':Rn} {E E':Lg}
theorem FRs.ext{κ:Type}{nm:κ->Str}(x:Ext E ρ E' ρ'){fs:List (κ×V)}{es:List DictEntry}(h:FRs T E ρ nm fs es):FRs T E' ρ' nm fs es:=
 FRs.rec (motive:=λfs es _=>FRs T E' ρ' nm fs es) .nil (λk v _ r=>.cons k (v.ext x) r) h
theorem FRs.length{κ:Type}{nm:κ->Str}{fs:List (κ×V)}{es:List DictEntry}(h:FRs T E ρ nm fs es):fs.length=es.length:=
 FRs.rec (motive:=λfs es _=>fs.length=es.length) rfl (λ_ _ _ r=>congrArg (·+ 1) r) h
theorem KVs.ext(x:Ext E ρ E' ρ'){fs:List (List Nat×V)}{es:List (Str×Value)}(h:KVs T E ρ fs es):KVs T E' ρ' fs es:=
 KVs.rec (motive:=λfs es _=>KVs T E' ρ' fs es) .nil (λv _ r=>.cons (v.ext x) r) h
theorem KVs.length{fs:List (List Nat×V)}{es:List (Str×Value)}(h:KVs T E ρ fs es):fs.length=es.length:=
 KVs.rec (motive:=λfs es _=>fs.length=es.length) rfl (λ_ _ r=>congrArg (·+ 1) r) h
theorem OAt.mono{a d:Addr}{o:O}(y:OAt T E ρ a d o)(x:Ext E ρ E' ρ')(k:∀b∈zS o (a,d),∀ob,(b,ob)∈E->(b,ob)∈E'):OAt T E' ρ' a d o:=by
 induction o using O.casesOn with
 |list vs=>exact GK (λus=>GK λn h=>⟨k a (.head _) _ h.1,h.2.1.ext x,h.2.2⟩) y
 |inst c fs=>exact GK (λC=>GK λes=>GK λn h=>⟨h.1,k a (.head _) _ h.2.1,k d (.tail _ (.head _)) _ h.2.2.1,h.2.2.2.1.ext x,h.2.2.2.2⟩) y
 |exc c=>exact GK (λC=>GK λob=>GK λt h=>⟨h.1,k a (.head _) _ h.2.1,h.2.2⟩) y
 |dict es=>exact GK (λds=>GK λn h=>⟨k a (.head _) _ h.1,h.2.1,h.2.2.1.ext x,h.2.2.2⟩) y
theorem OAt.keys{a d:Addr}{o:O}(y:OAt T E ρ a d o):∀b∈zS o (a,d),∃ob,(b,ob)∈E:=by
 induction o using O.casesOn with
 |list vs=>exact λb hb=>y.elim λus h=>h.elim λn h=>GE.mp hb▸⟨_,h.1⟩
 |inst c fs=>exact λb hb=>y.elim λC h=>h.elim λes h=>h.elim λn h=>(Gh.mp hb).elim (λe=>e▸⟨_,h.2.1⟩) (λhb=>GE.mp hb▸⟨_,h.2.2.1⟩)
 |exc c=>exact λb hb=>y.elim λC h=>h.elim λob h=>h.elim λt h=>GE.mp hb▸⟨_,h.2.1⟩
 |dict es=>exact λb hb=>y.elim λds h=>h.elim λn h=>GE.mp hb▸⟨_,h.1⟩
theorem jy{o:O}{p:Addr×Addr}{b:Addr}(hb:b∈zS o p):∀{H:List O} {ρ:Rn} {i:Nat},H[i]?=some o->ρ[i]?=some p->b∈foot H ρ:=by
 intro H
 induction H with
 |nil=>exact λh=>nn h
 |cons x H ih=>
  intro ρ i h1 h2
  rcases ρ with _|⟨y,ρ⟩
  ·exact nn h2
  ·rcases i with _|i
   ·exact Ge _ (Ga h1▸Ga h2▸hb)
   ·exact Gb _ (ih h1 h2)
theorem jx{b:Addr}{Gl:Prop}:∀{H:List O} {ρ:Rn},b∈foot H ρ->(∀(i:Nat) (o:O) (p:Addr×Addr),H[i]?=some o->ρ[i]?=some p->b∈zS o p->Gl)->Gl:=by
 intro H
 induction H with
 |nil=>exact λh _=>absurd h GN
 |cons x H ih=>
  intro ρ h k
  rcases ρ with _|⟨y,ρ⟩
  ·exact absurd h GN
  ·exact(Gn.mp h).elim (λh=>k 0 x y rfl rfl h) (λh=>ih h λi=>k (i+1))
theorem foot_ne{o o':O}{p p':Addr×Addr}{b:Addr}(hb:b∈zS o p)(hb':b∈zS o' p'):∀{H:List O} {ρ:Rn} {i j:Nat},(foot H ρ).Nodup->H[i]?=some o->ρ[i]?=some p->H[j]?=some o'->ρ[j]?=some p'->i=j:=by
 intro H
 induction H with
 |nil=>exact λ_ h=>nn h
 |cons x H ih=>
  intro ρ i j nd h1 h2 h3 h4
  rcases ρ with _|⟨y,ρ⟩
  ·exact nn h2
  ·have nd:=Gu.mp nd
   rcases i with _|i
   ·rcases j with _|j
    ·rfl
    ·exact absurd rfl (nd.2.2 b (Ga h1▸Ga h2▸hb) b (jy (H:=H) (ρ:=ρ) (i:=j) hb' h3 h4))
   ·rcases j with _|j
    ·exact absurd rfl (nd.2.2 b (Ga h3▸Ga h4▸hb') b (jy (H:=H) (ρ:=ρ) (i:=i) hb h1 h2))
    ·exact congrArg (·+ 1) (ih nd.2.1 h1 h2 h3 h4)
theorem Kl{o:O}{p:Addr×Addr}:∀{H:List O} {ρ:Rn},ρ.length=H.length->foot (H++[o]) (ρ++[p])=foot H ρ++zS o p:=by
 intro H
 induction H with
 |nil=>
  intro ρ h
  rw[List.length_eq_zero_iff.mp h];exact GH _
 |cons x H ih=>
  intro ρ h
  rcases ρ with _|⟨y,ρ⟩
  ·exact absurd h (Nat.zero_ne_add_one _)
  ·exact(congrArg (zS x y++·) (ih (Nat.succ.inj h))).trans (Gk ..).symm
theorem foot_set{o o':O}(e:∀p,zS o' p=zS o p):∀{H:List O} {ρ:Rn} {i:Nat},H[i]?=some o->foot (H.set i o') ρ=foot H ρ:=by
 intro H
 induction H with
 |nil=>exact λh=>nn h
 |cons x H ih=>
  intro ρ i h
  rcases i with _|i
  ·rcases ρ with _|⟨y,ρ⟩
   ·rfl
   ·exact congrArg (·++foot H ρ) (Ga h▸e y)
  ·rcases ρ with _|⟨y,ρ⟩
   ·rfl
   ·exact congrArg (zS x y++·) (ih h)
theorem Rep.key(R:Rep T Un L m G H ρ E h):∀b∈foot H ρ,∃ob,(b,ob)∈E:=by
 intro b hb
 refine jx hb ?_;intro i o p h1 h2 h3
 exact(R.enc i o p.1 p.2 h1 h2).keys b h3
theorem TbOk.ext{tb:Obj}(x:∀p∈E,yT p.2=true->p∈E')(h:TbOk T E tb):TbOk T E' tb:=
 h.imp λ_ h=>⟨h.1,h.2.imp id (GK λ_=>GK λ_=>GK λ_=>GK λ_ h=>⟨h.1,x _ h.2.1 (Z7 h.2.2.1),h.2.2⟩)⟩
theorem Rep.grow(R:Rep T Un L m G H ρ E h){new:Lg}{tb:Obj}(hb:TbOk T E tb)(F':Fr Un L h' m')(N':News Un L h' (new++(E++(T.tab,tb)::G)))
  (hn:(new.map (·.1)).Nodup) (hf:∀p∈new,∀q∈E++(T.tab,tabObj #[])::G,p.1≠q.1):Rep T Un L m' G H ρ (new++E) h'/\Ext E ρ (new++E) ρ:=by
 have x:Ext E ρ (new++E) ρ:=⟨λ_ _ e=>e,λp hp _=>Gb _ hp⟩
 refine⟨⟨F',⟨tb,hb.ext x.fix,by rw[Gk];exact N'⟩,?_,R.len,λi o a d h1 h2=>(R.enc i o a d h1 h2).mono x λ_ _ _ hm=>Gb _ hm,R.ft⟩,x⟩
 rw[Gk,Gw]
 refine Gu.mpr ⟨hn,R.nd,?_⟩
 rintro a ha b hb rfl
 refine za (D2.mp ha) λp hp rq2=>?_;subst rq2
 refine za (D2.mp hb) λq hq e=>?_
 exact hf p hp q hq e.symm
theorem Rep.alloc(R:Rep T Un L m G H ρ E h){o:O}{a d:Addr}(ho:OAt T E ρ a d o)(h1:∀b∈zS o (a,d),b∉foot H ρ)(h2:(zS o (a,d)).Nodup) :
  Rep T Un L m G (H++[o]) (ρ++[(a,d)]) E h/\Ext E ρ E (ρ++[(a,d)]):=by
 have x:Ext E ρ E (ρ++[(a,d)]):=⟨λi p e=>by
  rw[List.getElem?_append_left (List.getElem?_eq_some_iff.mp e).1];exact e,λp hp _=>hp⟩
 refine⟨⟨R.F,R.N,R.nd,by simp[R.len],λi o' a' d' e1 e2=>?_,?_⟩,x⟩
 ·by_cases hi:i < H.length
  ·rw[List.getElem?_append_left hi] at e1
   rw[List.getElem?_append_left (by rw[R.len];exact hi)] at e2
   exact(R.enc i o' a' d' e1 e2).mono x λ_ _ _ hm=>hm
  ·have hl:i=H.length:=by
    have:=(List.getElem?_eq_some_iff.mp e1).1
    simp only[G7,D8] at this
    exact om5 hi this
   subst hl
   rw[List.getElem?_append_right (Gi _)] at e1
   rw[List.getElem?_append_right (by rw[R.len];exact Gi _),R.len] at e2
   simp only[Nat.sub_self,List.getElem?_cons_zero,Option.some.injEq,Prod.mk.injEq] at e1 e2
   refine zf (e2) ?_;clear e2;intro rq0 rq1;subst rq0;subst rq1
   subst e1
   exact ho.mono x λ_ _ _ hm=>hm
 ·rw[Kl R.len]
  exact Gu.mpr ⟨R.ft,h2,λa ha b hb e=>h1 b hb (e▸ha)⟩
theorem kO{u5 u6:Lg}{x:Addr}{ob ob':Obj}{p:Addr×Obj}(h:p∈u5++(x,ob)::u6)(ne:p.1≠x):p∈u5++(x,ob')::u6:=by
 rcases Gn.mp h with h|h
 ·exact Ge _ h
 ·rcases Gh.mp h with rfl|h
  ·exact absurd rfl ne
  ·exact Gb _ (Gd _ h)
theorem Yg{l:Lg}(nd:(l.map (·.1)).Nodup){p q:Addr×Obj}(hp:p∈l)(hq:q∈l)(e:p.1=q.1):p=q:=by
 induction l with
 |nil=>cases hp
 |cons x l ih=>
  rw[GG,Gr] at nd
  rcases Gh.mp hp with h1|h1<;>rcases Gh.mp hq with h2|h2
  ·rw[h1,h2]
  ·exact absurd (D2.mpr ⟨q,h2,by rw[←e,h1]⟩) nd.1
  ·exact absurd (D2.mpr ⟨p,h1,by rw[e,h2]⟩) nd.1
  ·exact ih nd.2 h1 h2
theorem Rep.split(R:Rep T Un L m G H ρ E h){x:Addr}{ob:Obj}(hm:(x,ob)∈E):∃u5 u6 tb,E=u5++(x,ob)::u6/\TbOk T E tb/\
  News Un L h (u5++(x,ob)::(u6++(T.tab,tb)::G))/\(∀p∈u5,p.1≠x)/\(∀p∈u6++(T.tab,tb)::G,p.1≠x):=by
 refine za (R.N) λtb hb N=>?_
 refine Jo (List.append_of_mem hm) λu5 u6 rq2=>?_;subst rq2
 have nd:=R.nd
 rw[Gk,Gw] at nd
 refine zC (Gu.mp nd) λn1 n2 n3=>?_
 refine⟨u5,u6,tb,rfl,hb,by simpa using N,λp hp e=>n3 p.1 (GC hp) x (by simp) e,λp hp e=>?_⟩
 simp only[Di,GG,Gr] at n2
 refine n2.1 ?_
 rw[←e]
 have:(u6++(T.tab,tb)::G).map (·.1)=(u6++(T.tab,tabObj #[])::G).map (·.1):=by simp
 rw[←this]
 exact GC hp
theorem Rep.put(R:Rep T Un L m G H ρ E h){i:Nat}{o o':O}{a d x:Addr}{ob ob':Obj}{u5 u6:Lg}{tb:Obj}(h1:H[i]?=some o)(h2:ρ[i]?=some (a,d))(hx:x∈zS o (a,d))(he:E=u5++(x,ob)::u6)(hb:TbOk T E tb)
  (hf:yT ob=false) (h3:∀p,zS o' p=zS o p) (F':Fr Un L h' m') (N':News Un L h' (u5++(x,ob')::(u6++(T.tab,tb)::G)))
  (ho:Ext E ρ (u5++(x,ob')::u6) ρ->OAt T (u5++(x,ob')::u6) ρ a d o'):Rep T Un L m' G (H.set i o') ρ (u5++(x,ob')::u6) h'/\Ext E ρ (u5++(x,ob')::u6) ρ:=by
 subst he
 have nd:=R.nd
 have nd1:((u5++(x,ob)::u6).map (·.1)).Nodup:=by
  rw[Gw] at nd
  exact(Gu.mp nd).1
 have hx':(x,ob)∈u5++(x,ob)::u6:=by simp
 have xt:Ext (u5++(x,ob)::u6) ρ (u5++(x,ob')::u6) ρ:=⟨λ_ _ e=>e,λp hp q=>kO hp λe=>by
  have:=Yg nd1 hp hx' e
  rw[this,hf] at q
  cases q⟩
 refine⟨⟨F',⟨tb,hb.ext xt.fix,by simpa using N'⟩,?_,by simpa using R.len,λj oj aj dj e1 e2=>?_,?_⟩,xt⟩
 ·have:((u5++(x,ob')::u6)++(T.tab,tabObj #[])::G).map (·.1)=((u5++(x,ob)::u6)++(T.tab,tabObj #[])::G).map (·.1):=by simp
  rw[this];exact nd
 ·by_cases hij:i=j
  ·subst hij
   rw[h2] at e2
   cases e2
   rw[List.getElem?_set] at e1
   have hl:=(List.getElem?_eq_some_iff.mp h1).1
   simp only[hl,if_true] at e1
   cases e1
   exact ho xt
  ·rw[List.getElem?_set_ne hij] at e1
   refine(R.enc j oj aj dj e1 e2).mono xt λb hb' ob'' hm=>kO hm λe=>?_
   have e':b=x:=e
   subst e'
   exact hij (foot_ne hx hb' R.ft h1 h2 e1 e2)
 ·rw[foot_set h3 h1];exact R.ft
end
theorem gd_iff{b:Bool}{p:Prop}:gd b p↔b=true/\p:=by
 induction b using GF with
 |true=>exact⟨λh=>⟨rfl,h⟩,λh=>h.2⟩
 |false=>exact⟨λh=>h.elim,λh=>absurd h.1 G3⟩
theorem zp{α:Type}{o:Option α}{f:α->Prop}(h:ifS o f):∃a,o=some a/\f a:=by
 induction o using Gq with
 |none=>exact h.elim
 |some a=>exact⟨a,rfl,h⟩
theorem Yr{α:Type}{o:Option α}{f:α->Prop}{a:α}(e:o=some a)(h:f a):ifS o f:=by subst e;exact h
theorem zA{v:V}{f:Int->Prop}(h:intP v f):∃i,v= .int i/\f i:=by rcases v<;>first|exact h.elim|exact⟨_,rfl,h⟩
theorem yH{v:V}{f:List Nat->Prop}(h:strP v f):∃i,v= .str i/\f i:=by rcases v<;>first|exact h.elim|exact⟨_,rfl,h⟩
theorem jK{v:V}{f:List V->Prop}(h:tupP v f):∃i,v= .tup i/\f i:=by rcases v<;>first|exact h.elim|exact⟨_,rfl,h⟩
theorem fnP_iff{v:V}{f:Nat->Prop}(h:fnP v f):∃i,v= .fn i/\f i:=by rcases v<;>first|exact h.elim|exact⟨_,rfl,h⟩
theorem Y2{v:V}{f:Nat->Prop}(h:objP v f):∃i,v= .obj i/\f i:=by rcases v<;>first|exact h.elim|exact⟨_,rfl,h⟩
theorem Zr{v:V}{p:Prop}(h:yJ v p):v= .none/\p:=by rcases v<;>first|exact h.elim|exact⟨rfl,h⟩
theorem yw{i:Int}{f:Nat->Prop}(h:natP i f):∃n:Nat,i= .ofNat n/\f n:=by rcases i<;>first|exact h.elim|exact⟨_,rfl,h⟩
theorem jD{v:V}{H:Hp}{f:Nat->Nat->List (Nat×V)->Prop}(h:atI v H f):∃i c fs,v= .obj i/\H[i]?=some (.inst c fs)/\f i c fs:=by
 refine za (Y2 h) ?_;clear h;intro i rq1 h;subst rq1
 refine za (zp h) ?_;clear h;intro o e h
 rcases o<;>first|exact h.elim|exact⟨_,_,_,rfl,e,h⟩
theorem yl{v:V}{H:Hp}{f:Nat->List V->Prop}(h:atL v H f):∃i vs,v= .obj i/\H[i]?=some (.list vs)/\f i vs:=by
 refine za (Y2 h) ?_;clear h;intro i rq1 h;subst rq1
 refine za (zp h) ?_;clear h;intro o e h
 rcases o<;>first|exact h.elim|exact⟨_,_,rfl,e,h⟩
theorem jF{v:V}{H:Hp}{f:Nat->List (List Nat×V)->Prop}(h:atD v H f):∃i vs,v= .obj i/\H[i]?=some (.dict vs)/\f i vs:=by
 refine za (Y2 h) ?_;clear h;intro i rq1 h;subst rq1
 refine za (zp h) ?_;clear h;intro o e h
 rcases o<;>first|exact h.elim|exact⟨_,_,rfl,e,h⟩
theorem atX_iff{v:V}{H:Hp}{f:Nat->Prop}(h:atX v H f):∃i c,v= .obj i/\H[i]?=some (.exc c)/\f c:=by
 refine za (Y2 h) ?_;clear h;intro i rq1 h;subst rq1
 refine za (zp h) ?_;clear h;intro o e h
 rcases o<;>first|exact h.elim|exact⟨_,_,rfl,e,h⟩
theorem arg0_iff{as:List V}{p:Prop}(h:arg0 as p):as=[]/\p:=by rcases as<;>first|exact h.elim|exact⟨rfl,h⟩
theorem yc{as:List V}{f:V->Prop}(h:arg1 as f):∃a,as=[a]/\f a:=by
 rcases as with _|⟨a,_|⟨b,r⟩⟩<;>first|exact h.elim|exact⟨_,rfl,h⟩
theorem Y8{as:List V}{f:V->V->Prop}(h:arg2 as f):∃a b,as=[a,b]/\f a b:=by
 rcases as with _|⟨a,_|⟨b,_|⟨c,r⟩⟩⟩<;>first|exact h.elim|exact⟨_,_,rfl,h⟩
theorem Ye{α:Type}{v:V}{f:Int->Option α}{r:α}(h:oI v f=some r):∃i,v= .int i/\f i=some r:=by rcases v<;>first|exact nn h|exact⟨_,rfl,h⟩
theorem oS_iff{α:Type}{v:V}{f:List Nat->Option α}{r:α}(h:oS v f=some r):∃i,v= .str i/\f i=some r:=by rcases v<;>first|exact nn h|exact⟨_,rfl,h⟩
theorem oT_iff{α:Type}{v:V}{f:List V->Option α}{r:α}(h:oT v f=some r):∃i,v= .tup i/\f i=some r:=by rcases v<;>first|exact nn h|exact⟨_,rfl,h⟩
set_option tactic.hygienic true in
theorem oL_iff{α:Type}{v:V}{H:Hp}{f:List V->Option α}{r:α}(h:oL v H f=some r):∃i vs,v= .obj i/\H[i]?=some (.list vs)/\f vs=some r:=by
 rcases v<;>first|exact nn h|skip
 rename_i i
 have h:(match H[i]? with|some (.list vs)=>f vs|_=>none)=some r:=h
 induction e:H[i]? using Gq with
 |none=>rw[e] at h;exact nn h
 |some o=>rw[e] at h;rcases o<;>first|exact nn h|exact⟨i,_,rfl,e,h⟩
theorem locO_iff{L:Lc}{k:Nat}{v:V}(h:locO L k=some v):L[k]?=some v/\v≠.bad:=by
 have h:(match L[k]? with|some v=>(match v with|.bad=>none|v=>some v)|none=>none)=some v:=h
 induction e:L[k]? using Gq with
 |none=>rw[e] at h;exact nn h
 |some u=>rw[e] at h;rcases u<;>first|exact nn h|(cases Ga h;exact⟨rfl,λq=>V.noConfusion q⟩)
inductive AddI (a b:V) (H:Hp) (Q:V->Hp->Prop):Prop
 |int (x y:Int):a= .int x->b= .int y->Q (.int (x+y)) H->AddI a b H Q
 |str (x y:List Nat):a= .str x->b= .str y->G8 (x.length+y.length) 1000=true->Q (.str (x++y)) H->AddI a b H Q
 |lst (i:Nat) (x:List V) (j:Nat) (y:List V):a= .obj i->H[i]?=some (.list x)->b= .obj j->H[j]?=some (.list y)->G8 (x.length+y.length) 1000=true->Q (.obj H.length) (H++[O.list (x++y)])->AddI a b H Q
theorem addP_iff{a b:V}{H:Hp}{Q:V->Hp->Prop}(h:addP a b H Q):AddI a b H Q:=by
 induction a using V.casesOn with
 |int x=>refine za (zA h) ?_;intro y e h;exact .int x y rfl e h
 |str x=>
  refine za (yH h) λy e h=>?_
  refine zf (gd_iff.mp h) λh1 h=>?_
  exact .str x y rfl e h1 h
 |obj i=>
  refine zy (yl h) λi' x e e1 h=>?_
  refine zy (yl h) λj y e3 e2 h=>?_
  refine zf (gd_iff.mp h) λh1 h=>?_
  exact .lst i' x j y e e1 e3 e2 h1 h
 |_=>exact h.elim
inductive IdxI (a b:V) (H:Hp) (Q:V->Prop):Prop
 |tup (vs:List V) (i:Int) (v:V):a= .tup vs->b= .int i->G8 vs.length 1000=true->atV vs i=some v->Q v->IdxI a b H Q
 |str (x:List Nat) (i:Nat) (c:Nat):a= .str x->b= .int (.ofNat i)->G8 x.length 1000=true->x[i]?=some c->Q (.str [c])->IdxI a b H Q
 |lst (j:Nat) (vs:List V) (i:Int) (v:V):a= .obj j->b= .int i->H[j]?=some (.list vs)->atV vs i=some v->Q v->IdxI a b H Q
 |dic (j:Nat) (es:List (List Nat×V)) (k:List Nat) (v:V):a= .obj j->b= .str k->H[j]?=some (.dict es)->getD k es=some v->Q v->IdxI a b H Q
theorem idx_rest{a b:V}{H:Hp}{Q:V->Prop}(h:(match kd b with|2=>intP b λi=>atL a H λ_ vs=>ifS (atV vs i) Q|_=>strP b λs=>atD a H λ_ es=>ifS (getD s es) Q)):IdxI a b H Q:=by
 induction b using V.casesOn with
 |int i=>
  refine zy (yl (f:=λ_ vs=>ifS (atV vs i) Q) h) λj vs e e1 h=>?_
  refine za (zp h) λv e2 h=>?_
  exact .lst j vs i v e rfl e1 e2 h
 |str k=>
  refine zy (jF (f:=λ_ es=>ifS (getD k es) Q) h) λj es e e1 h=>?_
  refine za (zp h) λv e2 h=>?_
  exact .dic j es k v e rfl e1 e2 h
 |_=>exact h.elim
theorem idx_iff{a b:V}{H:Hp}{Q:V->Prop}(h:idx a b H Q):IdxI a b H Q:=by
 induction a using V.casesOn with
 |tup vs=>
  refine za (zA (f:=λi=>gd (G8 vs.length 1000) (ifS (atV vs i) Q)) h) λi e0 h=>?_
  refine zf (gd_iff.mp h) λh1 h=>?_
  refine za (zp h) λv e h=>?_
  exact .tup vs i v rfl e0 h1 e h
 |str x=>
  refine za (zA (f:=λi=>natP i λi=>gd (G8 x.length 1000) (ifS x[i]? λc=>Q (.str [c]))) h) λi e0 h=>?_
  refine za (yw h) λi e1 h=>?_;subst e1
  refine zf (gd_iff.mp h) λh1 h=>?_
  refine za (zp h) λc e h=>?_
  exact .str x i c rfl e0 h1 e h
 |_=>exact idx_rest h
inductive SlcI (sc:List Int) (a lo hi:V) (H:Hp) (Q:V->Hp->Prop):Prop
 |str (x:List Nat) (l m:Nat):a= .str x->lo= .int (.ofNat l)->hi= .int (.ofNat m)->(G8 l m && G8 x.length 1000)=true->Q (.str (cut l m x)) H->SlcI sc a lo hi H Q
 |lst (j:Nat) (vs:List V) (m:Int):a= .obj j->lo= .none->hi= .int m->H[j]?=some (.list vs)->Q (.obj H.length) (H++[O.list (vs.take (Yz vs.length m))])->SlcI sc a lo hi H Q
 |scr (m:Nat):a= .scr->lo= .none->hi= .int (.ofNat m)->G8 m 1000=true->Q (.obj H.length) (H++[O.list ((sc.take m).map .int)])->SlcI sc a lo hi H Q
theorem ke{sc:List Int}{a lo hi:V}{H:Hp}{Q:V->Hp->Prop}(h:slice sc a lo hi H Q):SlcI sc a lo hi H Q:=by
 induction a using V.casesOn with
 |str x=>
  refine za (zA (f:=λl=>natP l λl=>intP hi λh=>natP h λh=>gd (G8 l h && G8 x.length 1000) (Q (.str (cut l h x)) H)) h) λl e0 h=>?_
  refine za (yw h) λl q h=>?_;subst q
  refine za (zA h) λm e1 h=>?_
  refine za (yw h) λm q h=>?_;subst q
  refine zf (gd_iff.mp h) λh1 h=>?_
  exact .str x l m rfl e0 e1 h1 h
 |obj j=>
  refine zy (yl (v:=.obj j) (f:=λ_ vs=>yJ lo (intP hi λh=>Q (.obj H.length) (H++[O.list (vs.take (Yz vs.length h))]))) h) λj vs e e1 h=>?_
  refine zf (Zr h) λe0 h=>?_
  refine za (zA h) λm e2 h=>?_
  exact .lst j vs m e e0 e2 e1 h
 |scr=>
  refine zf (Zr (p:=intP hi λh=>natP h λh=>gd (G8 h 1000) (Q (.obj H.length) (H++[O.list ((sc.take h).map .int)]))) h) λe0 h=>?_
  refine za (zA h) λm e1 h=>?_
  refine za (yw h) λm q h=>?_;subst q
  refine zf (gd_iff.mp h) λh1 h=>?_
  exact .scr m rfl e0 e1 h1 h
 |_=>exact h.elim
section
variable {T:Tp} {E:Lg} {ρ:Rn} {u:Value}
theorem VR.ofInt{i:Int}(h:VR T E ρ (.int i) u):∃t,u= .int i t:=by cases h;exact⟨_,rfl⟩
theorem VR.ofStr{x:List Nat}(h:VR T E ρ (.str x) u):∃t,u= .str (strL x) t:=by cases h;exact⟨_,rfl⟩
theorem VR.ofObj{i:Nat}(h:VR T E ρ (.obj i) u):∃a d,u= .ref a/\ρ[i]?=some (a,d):=by cases h with|obj h=>exact⟨_,_,rfl,h⟩
theorem VR.ofTup{vs:List V}(h:VR T E ρ (.tup vs) u):∃us a,u= .ref a/\TupAt T.K E a us/\VRs T E ρ vs us:=by cases h with|tup h r=>exact⟨_,_,rfl,h,r⟩
theorem VR.ofFn{k:Nat}(h:VR T E ρ (.fn k) u):∃a,u= .ref a/\LamAt T E k a:=by cases h with|fn h=>exact⟨_,rfl,h⟩
theorem VR.ofNone(h:VR T E ρ .none u):u= .none:=by cases h;rfl
theorem VR.ofBool{b:Bool}(h:VR T E ρ (.bool b) u):u= .bool b:=by cases h;rfl
theorem VR.ofScr(h:VR T E ρ .scr u):u= .ref T.scr:=by cases h;rfl
theorem VRs.of0{us:List Value}(h:VRs T E ρ [] us):us=[]:=by cases h;rfl
theorem VRs.ofCons{v:V}{vs:List V}{us:List Value}(h:VRs T E ρ (v::vs) us):∃x r,us=x::r/\VR T E ρ v x/\VRs T E ρ vs r:=by cases h with|cons h r=>exact⟨_,_,rfl,h,r⟩
theorem VRs.of1{a:V}{us:List Value}(h:VRs T E ρ [a] us):∃x,us=[x]/\VR T E ρ a x:=by
 refine zy h.ofCons λx r e p q=>?_
 exact⟨x,by rw[e,q.of0],p⟩
theorem VRs.of2{a b:V}{us:List Value}(h:VRs T E ρ [a,b] us):∃x y,us=[x,y]/\VR T E ρ a x/\VR T E ρ b y:=by
 refine zy h.ofCons λx r e p q=>?_
 refine za q.of1 λy e' q=>?_
 exact⟨x,y,by rw[e,e'],p,q⟩
end
noncomputable abbrev QV:=V->Hp->Prop
noncomputable abbrev QX:=Nat->Hp->Prop
noncomputable def X0:QX:=λ_ _=>False
noncomputable def Dt(F:QV->QX->Prop):Prop:=∀Q,F Q X0->∃v H,Q v H/\∀Q' X,Q' v H->F Q' X
theorem zE{v:V}{H:Hp}:Dt λQ _=>Q v H:=λ_ h=>⟨v,H,h,λ_ _ h=>h⟩
theorem dtNo:Dt λ_ _=>False:=λ_ h=>h.elim
theorem zJ{F:QV->QX->Prop}{G:V->Hp->QV->QX->Prop}(f:Dt F)(g:∀v H,Dt (G v H)):Dt λQ X=>F (λv H=>G v H Q X) X:=λQ h=>
 zl (f _ h) λv H h r=>zl (g v H Q h) λu H' q r'=>⟨u,H',q,λQ' X q'=>r _ X (r' Q' X q')⟩
theorem dtBind0{F:QV->QX->Prop}{G:V->Hp->QV->QX->Prop}(f:Dt F)(g:∀v H,Dt (G v H)):Dt λQ X=>F (λv H=>G v H Q X) X0:=λQ h=>
 zl (f _ h) λv H h r=>zl (g v H Q h) λu H' q r'=>⟨u,H',q,λQ' X q'=>r _ X0 (r' Q' X q')⟩
theorem dtGd{b:Bool}{F:QV->QX->Prop}(f:b=true->Dt F):Dt λQ X=>gd b (F Q X):=by
 rcases b with _|_
 ·exact dtNo
 ·exact f rfl
theorem dtIf{α:Type}{o:Option α}{F:α->QV->QX->Prop}(f:∀a,o=some a->Dt (F a)):Dt λQ X=>ifS o λa=>F a Q X:=by
 rcases o with _|a
 ·exact dtNo
 ·exact f a rfl
theorem KD{b:Bool}{F G:QV->QX->Prop}(f:Dt F)(g:Dt G):Dt λQ X=>ite2 b (F Q X) (G Q X):=by
 rcases b with _|_
 ·exact g
 ·exact f
theorem yF{v:V}{F:Int->QV->QX->Prop}(f:∀a,Dt (F a)):Dt λQ X=>intP v λa=>F a Q X:=by rcases v<;>first|exact f _|exact dtNo
theorem XQ{v:V}{F:List Nat->QV->QX->Prop}(f:∀a,Dt (F a)):Dt λQ X=>strP v λa=>F a Q X:=by rcases v<;>first|exact f _|exact dtNo
theorem Xg{v:V}{F:List V->QV->QX->Prop}(f:∀a,Dt (F a)):Dt λQ X=>tupP v λa=>F a Q X:=by rcases v<;>first|exact f _|exact dtNo
theorem dtFn{v:V}{F:Nat->QV->QX->Prop}(f:∀a,Dt (F a)):Dt λQ X=>fnP v λa=>F a Q X:=by rcases v<;>first|exact f _|exact dtNo
theorem dtObj{v:V}{F:Nat->QV->QX->Prop}(f:∀a,Dt (F a)):Dt λQ X=>objP v λa=>F a Q X:=by rcases v<;>first|exact f _|exact dtNo
theorem KB{v:V}{F:QV->QX->Prop}(f:Dt F):Dt λQ X=>yJ v (F Q X):=by rcases v<;>first|exact f|exact dtNo
theorem dtScr{v:V}{F:QV->QX->Prop}(f:Dt F):Dt λQ X=>scrP v (F Q X):=by rcases v<;>first|exact f|exact dtNo
theorem XS{i:Int}{F:Nat->QV->QX->Prop}(f:∀a,Dt (F a)):Dt λQ X=>natP i λa=>F a Q X:=by rcases i<;>first|exact f _|exact dtNo
theorem dtI{v:V}{H:Hp}{F:Nat->Nat->List (Nat×V)->QV->QX->Prop}(f:∀i c fs,Dt (F i c fs)):Dt λQ X=>atI v H λi c fs=>F i c fs Q X:=
 dtObj λ_=>dtIf λo _=>by rcases o<;>first|exact f _ _ _|exact dtNo
theorem dtL{v:V}{H:Hp}{F:Nat->List V->QV->QX->Prop}(f:∀i vs,Dt (F i vs)):Dt λQ X=>atL v H λi vs=>F i vs Q X:=
 dtObj λ_=>dtIf λo _=>by rcases o<;>first|exact f _ _|exact dtNo
theorem dtD{v:V}{H:Hp}{F:Nat->List (List Nat×V)->QV->QX->Prop}(f:∀i vs,Dt (F i vs)):Dt λQ X=>atD v H λi vs=>F i vs Q X:=
 dtObj λ_=>dtIf λo _=>by rcases o<;>first|exact f _ _|exact dtNo
theorem dt0{as:List V}{F:QV->QX->Prop}(f:Dt F):Dt λQ X=>arg0 as (F Q X):=by rcases as with _|⟨a,r⟩<;>first|exact f|exact dtNo
theorem dt1{as:List V}{F:V->QV->QX->Prop}(f:∀a,Dt (F a)):Dt λQ X=>arg1 as λa=>F a Q X:=by rcases as with _|⟨a,_|⟨b,r⟩⟩<;>first|exact f _|exact dtNo
theorem dt2{as:List V}{F:V->V->QV->QX->Prop}(f:∀a b,Dt (F a b)):Dt λQ X=>arg2 as λa b=>F a b Q X:=by rcases as with _|⟨a,_|⟨b,_|⟨c,r⟩⟩⟩<;>first|exact f _ _|exact dtNo
section
variable {H:Hp}
theorem addP_dt{a b:V}:Dt λQ _=>addP a b H Q:=by
 have rest:Dt λQ _=>atL a H λ_ x=>atL b H λ_ y=>gd (G8 (x.length+y.length) 1000) (Q (.obj H.length) (H++[O.list (x++y)])):=dtL λ_ _=>dtL λ_ _=>dtGd λ_=>zE
 rcases a with _|_|x|x|_|_|_|_|_|_<;>try exact rest
 ·exact yF (v:=b) (F:=λy Q _=>Q (.int (x+y)) H) λ_=>zE
 ·exact XQ (v:=b) (F:=λy Q _=>gd (G8 (x.length+y.length) 1000) (Q (.str (x++y)) H)) λ_=>dtGd λ_=>zE
theorem binop_dt{o:Op}{a b:V}:Dt λQ _=>binop o a b H Q:=by
 rcases o
 ·exact addP_dt
 ·exact yF λ_=>yF λ_=>zE
 ·exact yF λ_=>yF λ_=>dtGd λ_=>zE
 ·exact yF λ_=>yF λ_=>dtGd λ_=>zE
 ·exact yF λ_=>yF λ_=>dtGd λ_=>zE
theorem idx_dt{a b:V}:Dt λQ _=>idx a b H λw=>Q w H:=by
 have rest:Dt λQ _=>(match kd b with|2=>intP b λi=>atL a H λ_ vs=>ifS (atV vs i) λw=>Q w H|_=>strP b λs=>atD a H λ_ es=>ifS (getD s es) λw=>Q w H):=by
  rcases b with _|_|i|s|_|_|_|_|_|_<;>try exact dtNo
  ·exact dtL (v:=a) (H:=H) (F:=λ_ vs Q _=>ifS (atV vs i) λw=>Q w H) λ_ _=>dtIf λ_ _=>zE
  ·exact dtD (v:=a) (H:=H) (F:=λ_ vs Q _=>ifS (getD s vs) λw=>Q w H) λ_ _=>dtIf λ_ _=>zE
 rcases a with _|_|_|x|_|vs|_|_|_|_<;>try exact rest
 ·exact yF (v:=b) (F:=λi Q _=>natP i λi=>gd (G8 x.length 1000) (ifS x[i]? λc=>Q (.str [c]) H)) λ_=>XS λ_=>dtGd λ_=>dtIf λ_ _=>zE
 ·exact yF (v:=b) (F:=λi Q _=>gd (G8 vs.length 1000) (ifS (atV vs i) λw=>Q w H)) λ_=>dtGd λ_=>dtIf λ_ _=>zE
theorem jP{sc:List Int}{a lo hi:V}:Dt λQ _=>slice sc a lo hi H Q:=by
 have rest:Dt λQ _=>scrP a (yJ lo (intP hi λh=>natP h λh=>gd (G8 h 1000) (Q (.obj H.length) (H++[O.list ((sc.take h).map .int)])))):=
  dtScr (KB (yF λ_=>XS λ_=>dtGd λ_=>zE))
 rcases a with _|_|_|s|i|_|_|_|_|_<;>try exact rest
 ·exact yF (v:=lo) (F:=λl Q _=>natP l λl=>intP hi λh=>natP h λh=>gd (G8 l h && G8 s.length 1000) (Q (.str (cut l h s)) H)) λ_=>XS λ_=>yF λ_=>XS λ_=>dtGd λ_=>zE
 ·exact dtL (v:=.obj i) (H:=H) (F:=λ_ vs Q _=>yJ lo (intP hi λh=>Q (.obj H.length) (H++[O.list (vs.take (Yz vs.length h))]))) λ_ _=>KB (yF λ_=>zE)
theorem KQ{b:Bf}{as:List V}:Dt λQ _=>bfun b as H Q:=by
 rcases b
 ·refine dt1 λa=>?_
  have rest:Dt λQ _=>atL a H λ_ vs=>Q (.int vs.length) H:=dtL λ_ _=>zE
  rcases a with _|_|_|s|_|_|_|_|_|_<;>first|exact rest|exact dtGd λ_=>zE
 ·refine dt1 λa=>?_
  rcases a with _|_|_|s|_|_|_|_|_|_<;>first|exact zE|exact dtNo|exact dtIf (o:=digits s) (F:=λn Q _=>gd (G8 1 s.length && G8 s.length 4) (Q (.int n) H)) λ_ _=>dtGd λ_=>zE
 ·exact dt1 λ_=>yF λ_=>dtGd λ_=>zE
 ·exact dt1 λ_=>dtL λ_ _=>dtIf λ_ _=>zE
 ·exact dt1 λ_=>Xg λ_=>zE
 ·exact dt2 λ_ _=>yF λ_=>yF λ_=>zE
 ·exact dt1 λ_=>yF λ_=>XS λ_=>dtGd λ_=>zE
 ·refine dt1 λ_=>XQ λs=>?_
  rcases s with _|⟨c,_|⟨d,r⟩⟩<;>first|exact dtNo|exact zE
 ·exact dtNo
 ·exact dt1 λ_=>yF λ_=>XS λ_=>dtGd λ_=>zE
theorem Jj{b:Bm}{a:V}{as:List V}:Dt λQ _=>jC b a as H Q:=by
 rcases b
 ·exact dtL λ_ _=>dt1 λ_=>dtGd λ_=>zE
 ·exact dtL λ_ _=>dt1 λ_=>dtL λ_ _=>dtGd λ_=>zE
 ·refine dtL λi vs=>dt0 ?_
  rcases vs.reverse<;>first|exact dtNo|exact zE
 ·exact dtL λ_ _=>dt2 λ_ _=>yF λ_=>XS λ_=>dtGd λ_=>zE
 ·refine XQ λs=>dt1 λ_=>XQ λx=>?_
  show Dt λQ _=>(match x with|[32]=>gd (splitCs.any (eqS s)) (Q (.obj H.length) (H++[O.list ((yB s).map .str)]))|_=>False)
  split
  ·exact dtGd λ_=>zE
  ·exact dtNo
 ·refine XQ λs=>dt2 λ_ _=>XQ λx=>?_
  rcases x with _|⟨c,_|⟨d,r⟩⟩<;>try exact dtNo
  exact yF λ_=>XS λ_=>zE
 ·exact XQ λ_=>dt1 λ_=>dtL λ_ _=>dtIf λ_ _=>dtGd λ_=>zE
 ·exact dtD λ_ _=>dt2 λ_ _=>XQ λ_=>zE
end
noncomputable def OrcD(C:Orc):Prop:=∀f as H,Dt (C f as H)
noncomputable def DtE(f:QX->Lc->Hp->QV->Prop):Prop:=∀L H,Dt λQ X=>f X L H Q
noncomputable def DtG{α:Type}(F:(α->Hp->Prop)->QX->Prop):Prop:=∀Q,F Q X0->∃v H,Q v H/\∀Q' X,Q' v H->F Q' X
theorem dgBind{α:Type}{F:(α->Hp->Prop)->QX->Prop}{G:α->Hp->QV->QX->Prop}(f:DtG F)(g:∀v H,Dt (G v H)):Dt λQ X=>F (λv H=>G v H Q X) X:=λQ h=>
 Gf (f _ h) λv h=>za h λH h r=>zl (g v H Q h) λu H' q r'=>⟨u,H',q,λQ' X q'=>r _ X (r' Q' X q')⟩
theorem dgGd{α:Type}{b:Bool}{F:(α->Hp->Prop)->QX->Prop}(f:DtG F):DtG λQ X=>gd b (F Q X):=by
 rcases b with _|_
 ·exact λ_ h=>h.elim
 ·exact f
theorem Yu{α β:Type}{F:(α->Hp->Prop)->QX->Prop}{G:α->Hp->(β->Hp->Prop)->QX->Prop}(f:DtG F)(g:∀v H,DtG (G v H)):DtG λQ X=>F (λv H=>G v H Q X) X:=λQ h=>
 Gf (f _ h) λv h=>za h λH h r=>Gf (g v H Q h) λu h=>za h λH' q r'=>⟨u,H',q,λQ' X q'=>r _ X (r' Q' X q')⟩
theorem dgIte{α:Type}{b:Bool}{F G:(α->Hp->Prop)->QX->Prop}(f:DtG F)(g:DtG G):DtG λQ X=>ite2 b (F Q X) (G Q X):=by
 rcases b with _|_
 ·exact g
 ·exact f
theorem dgIf{α β:Type}{o:Option β}{F:β->(α->Hp->Prop)->QX->Prop}(f:∀a,DtG (F a)):DtG λQ X=>ifS o λa=>F a Q X:=by
 rcases o with _|a
 ·exact λ_ h=>h.elim
 ·exact f a
theorem dgRet{α:Type}{v:α}{H:Hp}:DtG λQ _=>Q v H:=λ_ h=>⟨v,H,h,λ_ _ h=>h⟩
theorem Y5{elt:Lc->Hp->QV->Prop}{cond:Lc->Hp->(Bool->Hp->Prop)->Prop}(he:∀L H,Dt λQ _=>elt L H Q)(hc:∀L H,DtG λQ _=>cond L H Q){n:Nat}{cap:Lc}{it:It} :
  ∀(vs acc:List V) (H:Hp),DtG λQ _=>Zm elt cond n cap it vs acc H Q
 |[],_,_=>dgRet
 |v::r,acc,H=>dgGd (Yu (G:=λb H₁ Q _=>ite2 b (elt (zR (Gg n 1) v++cap) H₁ λu uh=>gd (it.stands uh) (Zm elt cond n cap it r (u::acc) uh Q)) (gd (it.stands H₁) (Zm elt cond n cap it r acc H₁ Q))) (hc _ _) λb H₁=>
   dgIte (Yu (F:=λQ _=>elt (zR (Gg n 1) v++cap) H₁ Q) (he _ _) λu uh=>dgGd (Y5 he hc r _ _)) (dgGd (Y5 he hc r _ _)))
theorem KH{it:It}{e2 elt:Lc->Hp->QV->Prop}(h2:∀L H,Dt λQ _=>e2 L H Q)(he:∀L H,Dt λQ _=>elt L H Q):∀(vs acc:List V) (H:Hp),DtG λQ _=>Zy it e2 elt vs acc H Q:=by
 intro vs
 induction vs with
 |nil=>
  intro y1 y2
  exact dgRet
 |cons v r ih=>
  intro acc H
  exact dgGd (Yu (F:=λQ _=>e2 [v] H Q) (G:=λu H₁ Q _=>ifS (zU u H₁) λit2=>Zm elt (λ_ H q=>q true H) 1 [v] it2 it2.items acc H₁ λvs uh=>gd (it.stands uh) (Zy it e2 elt r vs.reverse uh Q)) (h2 _ _) λu H₁=>
   dgIf λit2=>Yu (F:=λQ _=>Zm elt (λ_ H q=>q true H) 1 [v] it2 it2.items acc H₁ Q) (Y5 he (λ_ _=>dgRet) _ _ _) λvs uh=>dgGd (ih _ _))
theorem Zb{P:Prg}{C:Orc}(M:OrcD C)(e:E):DtE (ev P C e):=by
 induction e with
 |bad=>
  exact λ_ _=>dtNo
 |c z0=>
  exact λ_ _=>zE
 |l z0=>
  exact λ_ _=>dtIf λ_ _=>zE
 |g z0 z1=>
  exact λ_ _=>zE
 |a e z1 i_e=>
  exact λL H=>zJ (i_e L H) λ_ _=>dtI λ_ _ _=>dtGd λ_=>dtIf λ_ _=>zE
 |bin z0 a b i_a i_b=>
  exact λL H=>zJ (i_a L H) λ_ _=>zJ (i_b L _) λ_ _=>binop_dt
 |cmp z0 a b i_a i_b=>
  exact λL H=>zJ (i_a L H) λ_ _=>zJ (i_b L _) λ_ _=>dtIf λ_ _=>zE
 |cmp2 z0 z1 a b c i_a i_b i_c=>
  exact λL H=>zJ (i_a L H) λ_ _=>zJ (i_b L _) λ_ _=>dtIf λ_ _=>KD (zJ (i_c L _) λ_ _=>dtIf λ_ _=>zE) zE
 |not a i_a=>
  exact λL H=>zJ (i_a L H) λ_ _=>dtIf λ_ _=>zE
 |and a b i_a i_b=>
  exact λL H=>zJ (i_a L H) λ_ _=>dtIf λ_ _=>KD (i_b L _) zE
 |or a b i_a i_b=>
  exact λL H=>zJ (i_a L H) λ_ _=>dtIf λ_ _=>KD zE (i_b L _)
 |ifx c a b i_c i_a i_b=>
  exact λL H=>zJ (i_c L H) λ_ _=>dtIf λ_ _=>KD (i_a L _) (i_b L _)
 |call z0 as i_as=>
  exact λL H=>zJ (i_as L H) λ_ _=>Xg λ_=>M _ _ _
 |bf z0 as i_as=>
  exact λL H=>zJ (i_as L H) λ_ _=>Xg λ_=>KQ
 |meth a z1 as i_a i_as=>
  exact λL H=>zJ (i_a L H) λ_ _=>dtI λ_ _ _=>dtIf λ_ _=>zJ (i_as L _) λ_ _=>Xg λ_=>M _ _ _
 |bm z0 a as i_a i_as=>
  exact λL H=>zJ (i_a L H) λ_ _=>dtGd λ_=>zJ (i_as L _) λ_ _=>Xg λ_=>Jj
 |callv f as i_f i_as=>
  exact λL H=>zJ (i_f L H) λ_ _=>dtFn λ_=>zJ (i_as L _) λ_ _=>Xg λ_=>M _ _ _
 |idx a b i_a i_b=>
  exact λL H=>zJ (i_a L H) λ_ _=>zJ (i_b L _) λ_ _=>idx_dt
 |slice a l h i_a i_l i_h=>
  exact λL H=>zJ (i_a L H) λ_ _=>zJ (i_l L _) λ_ _=>zJ (i_h L _) λ_ _=>jP
 |rev a i_a=>
  exact λL H=>zJ (i_a L H) λ_ _=>dtL λ_ _=>zE
 |tup es i_es=>
  exact i_es
 |lst es i_es=>
  exact λL H=>zJ (i_es L H) λ_ _=>Xg λ_=>dtGd λ_=>zE
 |dct es i_es=>
  exact λL H=>dtBind0 (i_es L H) λ_ _=>Xg λ_=>dtGd λ_=>zE
 |comp elt i cond n caps i_elt i_i i_cond=>
  exact λL H=>zJ (i_i L H) λ_ _=>dtIf λit _=>
   dgBind (F:=λQ _=>Zm (ev P C elt X0) (λl H q=>ev P C cond X0 l H λv H'=>ifS (yu v H') λb=>q b H') n (caps.map λk=>(L[k]?).getD .bad) it it.items [] _ Q)
    (Y5 (λl H Q h=>zl (i_elt l H Q h) λv H' q r=>⟨v,H',q,λQ' _=>r Q' X0⟩) (λl H=>Yu (F:=λQ _=>ev P C cond X0 l H Q) (λQ h=>zl (i_cond l H Q h) λv H' q r=>⟨v,H',q,λQ' _=>r Q' X0⟩) λ_ _=>dgIf λ_=>dgRet) _ _ _)
    λ_ _=>dtGd λ_=>zE
 |comp2 elt i1 i2 i_elt i_i1 i_i2=>
  exact λL H=>zJ (i_i1 L H) λ_ _=>dtIf λit _=>
   dgBind (F:=λQ _=>Zy it (ev P C i2 X0) (ev P C elt X0) it.items [] _ Q)
    (KH (λl H Q h=>zl (i_i2 l H Q h) λv H' q r=>⟨v,H',q,λQ' _=>r Q' X0⟩) (λl H Q h=>zl (i_elt l H Q h) λv H' q r=>⟨v,H',q,λQ' _=>r Q' X0⟩) _ _ _)
    λ_ _=>dtGd λ_=>zE
 |lam z0=>
  exact λ_ _=>zE
 |nil=>
  exact λ_ _=>zE
 |cons a b i_a i_b=>
  exact λL H=>zJ (i_a L H) λ_ _=>zJ (i_b L _) λ_ _=>Xg λ_=>zE
noncomputable def Ds(F:KS->QX->Prop):Prop:=∀Q,F Q X0->∃fl L' H',Q fl L' H'/\∀(Q':KS) X,Q' fl L' H'->F Q' X
theorem yV{f:Fl}{L:Lc}{H:Hp}:Ds λQ _=>Q f L H:=λ_ h=>⟨f,L,H,h,λ_ _ h=>h⟩
theorem dsNo:Ds λ_ _=>False:=λ_ h=>h.elim
theorem dsE{F:QV->QX->Prop}{G:V->Hp->KS->QX->Prop}(f:Dt F)(g:∀v H,Ds (G v H)):Ds λQ X=>F (λv H=>G v H Q X) X:=λQ h=>
 zl (f _ h) λv H h r=>zF (g v H Q h) λu L' H' q r'=>⟨u,L',H',q,λQ' X q'=>r _ X (r' Q' X q')⟩
theorem KE{F:KS->QX->Prop}{G:Fl->Lc->Hp->KS->QX->Prop}(f:Ds F)(g:∀f L H,Ds (G f L H)):Ds λQ X=>F (λf L H=>G f L H Q X) X:=λQ h=>
 zF (f _ h) λv L H h r=>zF (g v L H Q h) λu L' H' q r'=>⟨u,L',H',q,λQ' X q'=>r _ X (r' Q' X q')⟩
theorem dsGd{b:Bool}{F:KS->QX->Prop}(f:Ds F):Ds λQ X=>gd b (F Q X):=by
 rcases b with _|_
 ·exact dsNo
 ·exact f
theorem dsIf{α:Type}{o:Option α}{F:α->KS->QX->Prop}(f:∀a,Ds (F a)):Ds λQ X=>ifS o λa=>F a Q X:=by
 rcases o with _|a
 ·exact dsNo
 ·exact f a
theorem dsIte{b:Bool}{F G:KS->QX->Prop}(f:Ds F)(g:Ds G):Ds λQ X=>ite2 b (F Q X) (G Q X):=by
 rcases b with _|_
 ·exact g
 ·exact f
theorem dsFl{f:Fl}{F G:KS->QX->Prop}{R:V->KS->QX->Prop}(n:Ds F)(b:Ds G)(r:∀v,Ds (R v)):Ds λQ X=>flP f (F Q X) (G Q X) λv=>R v Q X:=by
 rcases f with _|_|v
 ·exact n
 ·exact b
 ·exact r v
theorem dsNone{v:V}{F:KS->QX->Prop}(f:Ds F):Ds λQ X=>yJ v (F Q X):=by rcases v<;>first|exact f|exact dsNo
theorem dsObj{v:V}{F:Nat->KS->QX->Prop}(f:∀a,Ds (F a)):Ds λQ X=>objP v λa=>F a Q X:=by rcases v<;>first|exact f _|exact dsNo
theorem dsI{v:V}{H:Hp}{F:Nat->Nat->List (Nat×V)->KS->QX->Prop}(f:∀i c fs,Ds (F i c fs)):Ds λQ X=>atI v H λi c fs=>F i c fs Q X:=
 dsObj λ_=>dsIf λo=>by rcases o<;>first|exact f _ _ _|exact dsNo
theorem dsL{v:V}{H:Hp}{F:Nat->List V->KS->QX->Prop}(f:∀i vs,Ds (F i vs)):Ds λQ X=>atL v H λi vs=>F i vs Q X:=
 dsObj λ_=>dsIf λo=>by rcases o<;>first|exact f _ _|exact dsNo
theorem dsD{v:V}{H:Hp}{F:Nat->List (List Nat×V)->KS->QX->Prop}(f:∀i vs,Ds (F i vs)):Ds λQ X=>atD v H λi vs=>F i vs Q X:=
 dsObj λ_=>dsIf λo=>by rcases o<;>first|exact f _ _|exact dsNo
theorem dsX{v:V}{H:Hp}{F:Nat->KS->QX->Prop}(f:∀a,Ds (F a)):Ds λQ X=>atX v H λa=>F a Q X:=
 dsObj λ_=>dsIf λo=>by rcases o<;>first|exact f _|exact dsNo
theorem dsNat{i:Int}{F:Nat->KS->QX->Prop}(f:∀a,Ds (F a)):Ds λQ X=>natP i λa=>F a Q X:=by rcases i<;>first|exact f _|exact dsNo
theorem dsNoX{b:Bool}{k:Nat}{H:Hp}:Ds λ_ X=>gd b (X k H):=λ_ h=>by rcases b<;>exact h.elim
theorem JW{t:QX->Lc->Hp->(Bool->Hp->Prop)->Prop}{b:QX->Lc->Hp->KS->Prop}(ht:∀L H,DtG λQ X=>t X L H Q)(hb:∀L H,Ds λQ X=>b X L H Q):∀n L H,Ds λQ X=>Yb (t X) (b X) n L H Q:=by
 intro n
 induction n with
 |zero=>
  intro y1 y2
  exact dsNo
 |succ n ih=>
  intro L H
  exact λQ h=>Gf (ht L H _ h) λc h=>za h λH₁ h r=>zF (dsIte (b:=c) (KE (hb L H₁) λf ux uh=>dsFl (f:=f) (ih ux uh) yV λv=>yV) yV Q h) λu L' H' q r'=>⟨u,L',H',q,λQ' X q'=>r _ X (r' Q' X q')⟩
theorem Kk{b:QX->Lc->Hp->KS->Prop}(hb:∀L H,Ds λQ X=>b X L H Q){ks:List Nat}{one:Bool}{it:It}:∀vs L H,Ds λQ X=>forL (b X) ks one it vs L H Q:=by
 intro vs
 induction vs with
 |nil=>
  intro y1 y2
  exact yV
 |cons z0 r ih=>
  intro y1 H
  exact dsIf λuw=>KE (hb uw H) λ_ ux uh=>dsFl (dsGd (ih ux uh)) yV λ_=>yV
noncomputable def ExD(P:Prg)(C:Orc)(w:Nat)(s:S):Prop:=∀(L:Lc) (H:Hp),Ds λQ X=>ex P C X w s L H Q
theorem ex_dt{P:Prg}{C:Orc}(M:OrcD C)(w:Nat)(s:S):ExD P C w s:=by
 induction s with
 |bad=>
  exact λ_ _=>dsNo
 |nop=>
  exact λ_ _=>yV
 |seq a b i_a i_b=>
  exact λL H=>KE (i_a L H) λ_ _ _=>dsFl (i_b _ _) yV λ_=>yV
 |ret e=>
  exact λL H=>dsE (Zb M e L H) λ_ _=>yV
 |ex e=>
  exact λL H=>dsE (Zb M e L H) λ_ _=>dsNone yV
 |set z0 e=>
  exact λL H=>dsE (Zb M e L H) λ_ _=>yV
 |setA a z1 e=>
  exact λL H=>dsE (Zb M e L H) λ_ _=>dsE (Zb M a L _) λ_ _=>dsI λ_ _ _=>dsGd yV
 |setI a i e=>
  exact λL H=>dsE (Zb M e L H) λ_ _=>dsE (Zb M a L _) λu _=>dsE (Zb M i L _) λk uk=>by
   rcases k with _|_|n|s|_|_|_|_|_|_<;>try exact dsNo
   ·exact dsNat (i:=n) (F:=λn Q _=>atL u uk λj vs=>gd (Gz n vs.length) (Q .next L (uk.set j (.list (vs.set n _))))) λ_=>dsL λ_ _=>dsGd yV
   ·exact dsD (v:=u) (H:=uk) (F:=λj es Q _=>gd (Gz es.length 1000) (Q .next L (uk.set j (.dict (setD s _ es))))) λ_ _=>dsGd yV
 |unp z0 e=>
  exact λL H=>dsE (Zb M e L H) λ_ _=>dsIf λ_=>dsIf λ_=>yV
 |unp2 z0 z1 a b=>
  exact λL H=>dsE (Zb M a L H) λ_ _=>dsE (Zb M b L _) λ_ _=>yV
 |ifs c a b i_a i_b=>
  exact λL H=>dsE (Zb M c L H) λ_ _=>dsIf λ_=>dsIte (i_a L _) (i_b L _)
 |whl c b i_b=>
  exact JW (λL H Q h=>zl (Zb M c L H _ h) λv H₁ h r=>Gf (zp h) λt h=>⟨t,H₁,h.2,λQ' X q=>r _ X (Yr h.1 q)⟩) (i_b) w
 |for_ z0 e b i_b=>
  exact λL H=>dsE (Zb M e L H) λ_ _=>dsIf λ_=>Kk (i_b) _ _ _
 |forT z0 e b i_b=>
  exact λL H=>dsE (Zb M e L H) λ_ _=>dsIf λ_=>Kk (i_b) _ _ _
 |brk=>
  exact λ_ _=>yV
 |raise e=>
  exact λL H=>dsE (Zb M e L H) λ_ _=>dsX λ_=>dsNoX
 |try_ z0 z1 z2 i_z0 i_z2=>
  exact λ_ _=>dsNo
theorem Xl{P:Prg}{w:Nat}{C:Orc}(M:OrcD C)(fn:Fn):OrcD (ZO P w C fn):=λf as H=>dtIf λL _=>λQ h=>
 zF (ex_dt M w fn.body L H _ h) λfl L' H' h r=>by
  rcases fl with _|_|v
  ·exact⟨.none,H',h,λQ' X q=>r _ X q⟩
  ·exact h.elim
  ·exact⟨v,H',h,λQ' X q=>r _ X q⟩
theorem Y6(P:Prg)(w:Nat):∀n,OrcD (zc P w n)
 |0=>λ_ _ _=>dtNo
 |n+1=>λf as H=>by
  show Dt λQ X=>(match P.fn f with
   |some fn=>ite2 (P.frm f)
     (gd (as.all XM) (ZO P w (zc P w n) fn f as [] (λv H'=>Q (shV H.length v) (H++H'.map (shO H.length))) λk H'=>X k (H++H'.map (shO H.length))))
     (ZO P w (zc P w n) fn f as H Q X)
   |none=>(match P.cls f with
    |some i=>zc P w n i (.obj H.length::as) (H++[.inst f []]) (λv H₁=>yJ v (Q (.obj H.length) H₁)) X
    |none=>gd (P.exc f && k8 as) (Q (.obj H.length) (H++[.exc f]))))
  rcases P.fn f with _|fn
  ·rcases P.cls f with _|i
   ·exact dtGd λ_=>zE
   ·exact zJ (G:=λv H₁ Q _=>yJ v (Q (.obj H.length) H₁)) (Y6 P w n i _ _) λv H₁=>KB zE
  ·refine KD (dtGd λ_ Q h=>?_) (Xl (Y6 P w n) fn f as H)
   refine zl (Xl (Y6 P w n) fn f as [] _ h) λv H' h r=>⟨_,_,h,λQ' X q=>r _ _ q⟩
noncomputable def isS(x:Str)(s:List Nat):Bool:=eqS x.cps.toList s
noncomputable def zQ(x y:Str):Bool:=eqS x.cps.toList y.cps.toList
noncomputable def Zv(k j:NameKind):Bool:=match k,j with
 |.local,.local=>true|.cell,.cell=>true|.free,.free=>true|.globalImplicit,.globalImplicit=>true|.globalExplicit,.globalExplicit=>true
 |_,_=>false
noncomputable def zw(sc:Scope)(x:Str)(k:NameKind):Bool:=match sc.names.find? (λp=>zQ p.1 x) with|some p=>Zv p.2 k|none=>false
structure Nm where
 glob:Nat->Option Str
 attr:Nat->Str
 meth:Nat->Str
 lamK:Nat
 lamP:Pos
 lamX:Str
 lamN:Str
noncomputable def bfName:Bf->Str
 |.len=>"len"|.int=>"int"|.str=>"str"|.sum=>"sum"|.tuple=>"tuple"|.max=>"max"|.chr=>"chr"|.ord=>"ord"|.list=>"list"|.range=>"range"
noncomputable def Jk:Bm->Str
 |.append=>"append"|.extend=>"extend"|.pop=>"pop"|.insert=>"insert"|.split=>"split"|.find=>"find"|.join=>"join"|.get=>"get"
noncomputable def opIs:Op->Operator->Bool
 |.add,.Add=>true|.sub,.Sub=>true|.mul,.Mult=>true|.fdiv,.FloorDiv=>true|.mod,.Mod=>true
 |_,_=>false
noncomputable def coIs:Co->CmpOp->Bool
 |.eq,.Eq=>true|.ne,.NotEq=>true|.lt,.Lt=>true|.le,.LtE=>true|.gt,.Gt=>true|.ge,.GtE=>true|.is,.Is=>true|.isnot,.IsNot=>true|.isin,.In=>true|.notin,.NotIn=>true
 |_,_=>false
noncomputable def litIs:V->Const->Bool
 |.none,.none=>true
 |.bool a,.bool b=>match a,b with|true,true=>true|false,false=>true|_,_=>false
 |.int i,.int j=>decide (i=j)
 |.str s,.str x=>isS x s
 |_,_=>false
noncomputable def Kf:V->Option (Option Value)->Bool
 |.int i,some (some (.int j _))=>decide (i=j)
 |.str s,some (some (.str x _))=>isS x s
 |_,_=>false
noncomputable def yi(x:G4):Bool:=!Gg x.ctorIdx 7
noncomputable def zP(x:G4):Bool:=!Gg x.ctorIdx 22
noncomputable def posEq(p q:Pos):Bool:=Gg p.line q.line && Gg p.col q.col
noncomputable def J3:ScopeKind->Bool
 |.function=>true
 |_=>false
theorem ZN{k:ScopeKind}(h:J3 k=true):k= .function:=by rcases k<;>first|rfl|exact absurd h G3
noncomputable def YN:List Str->Bool
 |[]=>true
 |x::r=>r.all (λy=>!zQ x y) && YN r
noncomputable def Y4(sc csc:Scope)(tg cap:List Str):Bool:=
 J3 csc.kind &&
 (csc.names.all λp=>!Zv p.2 .cell && (!Zv p.2 .local ||zw csc p.1 .local) && (!Zv p.2 .free ||zw sc p.1 .cell)) &&
 (tg.all λx=>zw csc x .local) && (cap.all λx=>zw csc x .free) && (tg.all λx=>cap.all λy=>!zQ x y) && YN tg
noncomputable def pick(tb:List Str)(ks:List Nat):List Str:=ks.map λk=>(tb[k]?).getD ⟨#[]⟩
noncomputable def Zq(x:G4):Bool:=!Gg x.ctorIdx 26
noncomputable def oB{α:Type}(o:Option α)(f:α->Bool):Bool:=match o with|some t=>f t|none=>false
noncomputable def oN{α:Type}(o:Option α)(b:Bool)(f:α->Bool):Bool:=match o with|some t=>f t|none=>b
theorem yf{α:Type}{o:Option α}{f:α->Bool}(h:oB o f=true):∃t,o=some t/\f t=true:=by
 induction o using Gq with
 |none=>exact absurd h G3
 |some t=>exact⟨t,rfl,h⟩
theorem an2{a b:Bool}(h:(a && b)=true):a=true/\b=true:=Gs.mp h
theorem an3{a b c:Bool}(h:(a && b && c)=true):a=true/\b=true/\c=true:=⟨(an2 (an2 h).1).1,(an2 (an2 h).1).2,(an2 h).2⟩
theorem an4{a b c d:Bool}(h:(a && b && c && d)=true):a=true/\b=true/\c=true/\d=true:=⟨(an3 (an2 h).1).1,(an3 (an2 h).1).2.1,(an3 (an2 h).1).2.2,(an2 h).2⟩
theorem an5{a b c d e:Bool}(h:(a && b && c && d && e)=true):a=true/\b=true/\c=true/\d=true/\e=true:=⟨(an4 (an2 h).1).1,(an4 (an2 h).1).2.1,(an4 (an2 h).1).2.2.1,(an4 (an2 h).1).2.2.2,(an2 h).2⟩
theorem an6{a b c d e f:Bool}(h:(a && b && c && d && e && f)=true):a=true/\b=true/\c=true/\d=true/\e=true/\f=true:=
 have q:=an5 (an2 h).1;⟨q.1,q.2.1,q.2.2.1,q.2.2.2.1,q.2.2.2.2,(an2 h).2⟩
theorem an7{a b c d e f g:Bool}(h:(a && b && c && d && e && f && g)=true):a=true/\b=true/\c=true/\d=true/\e=true/\f=true/\g=true:=
 have q:=an6 (an2 h).1;⟨q.1,q.2.1,q.2.2.1,q.2.2.2.1,q.2.2.2.2.1,q.2.2.2.2.2,(an2 h).2⟩
noncomputable def one?{α:Type}:List α->Option α
 |[x]=>some x
 |_=>none
noncomputable def two?{α:Type}:List α->Option (α×α)
 |[x,y]=>some (x,y)
 |_=>none
noncomputable def ht?{α:Type}:List α->Option (α×List α)
 |x::r=>some (x,r)
 |[]=>none
noncomputable def none?{α:Type}:List α->Bool
 |[]=>true
 |_::_=>false
theorem one_of{α:Type}{l:List α}{x:α}(h:one? l=some x):l=[x]:=by
 rcases l with _|⟨a,_|⟨b,r⟩⟩
 ·exact nn h
 ·exact congrArg (λz=>[z]) (Ga h)
 ·exact nn h
theorem two_of{α:Type}{l:List α}{x y:α}(h:two? l=some (x,y)):l=[x,y]:=by
 rcases l with _|⟨a,_|⟨b,_|⟨c,r⟩⟩⟩
 ·exact nn h
 ·exact nn h
 ·cases h;rfl
 ·exact nn h
theorem ht_of{α:Type}{l r:List α}{x:α}(h:ht? l=some (x,r)):l=x::r:=by
 rcases l with _|⟨a,l⟩
 ·exact nn h
 ·cases h;rfl
theorem zH{α:Type}{l:List α}(h:none? l=true):l=[]:=by
 induction l using GV with
 |nil=>rfl
 |cons _ _=>exact absurd h G3
noncomputable def vwE{α:Type}(x:G4)(k:Nat)(g:x.ctorIdx=k->Option α):Option α:=if e:x.ctorIdx=k then g e else none
theorem zI{α:Type}{x:G4}{k:Nat}{g:x.ctorIdx=k->Option α}{f:α->Bool}(h:oB (vwE x k g) f=true):x.ctorIdx=k:=
 FF λn=>absurd h ((congrArg (oB · f) (dif_neg n:vwE x k g=none)).symm▸G3)
noncomputable def Zp(x:G4):Option Const:=vwE x 19 λe=>FP x e λc _ _=>some c
noncomputable def Za(x:G4):Option (Str×Pos):=vwE x 23 λe=>Id x e λx p=>some (x,p)
noncomputable def jb(x:G4):Option (G4×Str×Pos):=vwE x 20 λe=>FH x e λx n p=>some (x,n,p)
noncomputable def vBin(x:G4):Option (G4×Operator×G4):=vwE x 2 λe=>I6 x e λx o y _=>some (x,o,y)
noncomputable def vUn(x:G4):Option (UnaryOp×G4):=vwE x 3 λe=>FV x e λo x _=>some (o,x)
noncomputable def vBool(x:G4):Option (BoolOp×List G4×Pos):=vwE x 0 λe=>I0 x e λo xs p=>some (o,xs,p)
noncomputable def vIfx(x:G4):Option (G4×G4×G4):=vwE x 5 λe=>I7 x e λx y z _=>some (x,y,z)
noncomputable def vCmp(x:G4):Option (G4×List CmpOp×List G4):=vwE x 15 λe=>FW x e λx o y _=>some (x,o,y)
noncomputable def YX(x:G4):Option (G4×List G4×Pos):=vwE x 16 λe=>Fo x e λg xs ks p=>cond (none? ks) (some (g,xs,p)) none
noncomputable def Yh(x:G4):Bool:=!oB (YX x) λt=>Gg t.1.ctorIdx 23 && none? t.2.1
noncomputable def vSub(x:G4):Option (G4×G4):=vwE x 21 λe=>FI x e λx y _=>some (x,y)
noncomputable def jJ(x:G4):Option (Option G4×Option G4×Option G4):=vwE x 26 λe=>I8 x e λx y z _=>some (x,y,z)
noncomputable def vTup(x:G4):Option (List G4):=vwE x 25 λe=>I9 x e λxs _ _=>some xs
noncomputable def vList(x:G4):Option (List G4):=vwE x 24 λe=>Fp x e λxs _=>some xs
noncomputable def vDict(x:G4):Option (List (Option G4)×List G4):=vwE x 6 λe=>Ie x e λks xs _=>some (ks,xs)
noncomputable def vLam(x:G4):Option (Arguments×G4×Scope×Pos):=vwE x 4 λe=>I1 x e λa b s p=>some (a,b,s,p)
noncomputable def JZ(x:G4):Option (G4×List Comprehension×Scope×Pos):=vwE x 8 λe=>FQ x e λx g s p=>some (x,g,s,p)
noncomputable def ya:List G4->Option (List Str)
 |[]=>some []
 |e::r=>(Za e).bind λn=>(ya r).map (n.1::·)
noncomputable def ZE(e:G4):Option (List Str):=match Za e with
 |some n=>some [n.1]
 |none=>(vTup e).bind λxs=>match xs with|_::_::_=>ya xs|[_]=>none|[]=>none
theorem Kb{x:G4}{f:Const->Bool}(h:oB (Zp x) f=true):∃c k p,x= .Constant c k p/\f c=true:=FP (motive_1:=λx=>oB (Zp x) f=true->∃c k p,x= .Constant c k p/\f c=true) x (zI h) (λa0 a1 a2 h=>⟨a0,a1,a2,rfl,h⟩) h
theorem ZX{x:G4}{f:(Str×Pos)->Bool}(h:oB (Za x) f=true):∃y p,x= .Name y p/\f (y,p)=true:=Id (motive_1:=λx=>oB (Za x) f=true->∃y p,x= .Name y p/\f (y,p)=true) x (zI h) (λa0 a1 h=>⟨a0,a1,rfl,h⟩) h
theorem Ke{x:G4}{f:(G4×Str×Pos)->Bool}(h:oB (jb x) f=true):∃o n p,x= .Attribute o n p/\f (o,n,p)=true:=FH (motive_1:=λx=>oB (jb x) f=true->∃o n p,x= .Attribute o n p/\f (o,n,p)=true) x (zI h) (λa0 a1 a2 h=>⟨a0,a1,a2,rfl,h⟩) h
theorem iBin{x:G4}{f:(G4×Operator×G4)->Bool}(h:oB (vBin x) f=true):∃y o z p,x= .BinOp y o z p/\f (y,o,z)=true:=I6 (motive_1:=λx=>oB (vBin x) f=true->∃y o z p,x= .BinOp y o z p/\f (y,o,z)=true) x (zI h) (λa0 a1 a2 a3 h=>⟨a0,a1,a2,a3,rfl,h⟩) h
theorem iUn{x:G4}{f:(UnaryOp×G4)->Bool}(h:oB (vUn x) f=true):∃o y p,x= .UnaryOp o y p/\f (o,y)=true:=FV (motive_1:=λx=>oB (vUn x) f=true->∃o y p,x= .UnaryOp o y p/\f (o,y)=true) x (zI h) (λa0 a1 a2 h=>⟨a0,a1,a2,rfl,h⟩) h
theorem iBool{x:G4}{f:(BoolOp×List G4×Pos)->Bool}(h:oB (vBool x) f=true):∃o ys p,x= .BoolOp o ys p/\f (o,ys,p)=true:=I0 (motive_1:=λx=>oB (vBool x) f=true->∃o ys p,x= .BoolOp o ys p/\f (o,ys,p)=true) x (zI h) (λa0 a1 a2 h=>⟨a0,a1,a2,rfl,h⟩) h
theorem iIfx{x:G4}{f:(G4×G4×G4)->Bool}(h:oB (vIfx x) f=true):∃a b c p,x= .IfExp a b c p/\f (a,b,c)=true:=I7 (motive_1:=λx=>oB (vIfx x) f=true->∃a b c p,x= .IfExp a b c p/\f (a,b,c)=true) x (zI h) (λa0 a1 a2 a3 h=>⟨a0,a1,a2,a3,rfl,h⟩) h
theorem iCmp{x:G4}{f:(G4×List CmpOp×List G4)->Bool}(h:oB (vCmp x) f=true):∃a o ys p,x= .Compare a o ys p/\f (a,o,ys)=true:=FW (motive_1:=λx=>oB (vCmp x) f=true->∃a o ys p,x= .Compare a o ys p/\f (a,o,ys)=true) x (zI h) (λa0 a1 a2 a3 h=>⟨a0,a1,a2,a3,rfl,h⟩) h
theorem Kd{x:G4}{f:(G4×List G4×Pos)->Bool}(h:oB (YX x) f=true):∃g xs p,x= .Call g xs [] p/\f (g,xs,p)=true:=
 Fo (motive_1:=λx=>oB (YX x) f=true->∃g xs p,x= .Call g xs [] p/\f (g,xs,p)=true) x (zI h)
  (λg xs ks p=>List.rec (motive:=λks=>oB (YX (.Call g xs ks p)) f=true->∃g' xs' p',PySem.Expr.Call g xs ks p= .Call g' xs' [] p'/\f (g',xs',p')=true) (λh=>⟨g,xs,p,rfl,h⟩) (λ_ _ _ h=>absurd h G3) ks) h
theorem iSub{x:G4}{f:(G4×G4)->Bool}(h:oB (vSub x) f=true):∃a b p,x= .Subscript a b p/\f (a,b)=true:=FI (motive_1:=λx=>oB (vSub x) f=true->∃a b p,x= .Subscript a b p/\f (a,b)=true) x (zI h) (λa0 a1 a2 h=>⟨a0,a1,a2,rfl,h⟩) h
theorem iSlice{x:G4}{f:(Option G4×Option G4×Option G4)->Bool}(h:oB (jJ x) f=true):∃a b c p,x= .Slice a b c p/\f (a,b,c)=true:=I8 (motive_1:=λx=>oB (jJ x) f=true->∃a b c p,x= .Slice a b c p/\f (a,b,c)=true) x (zI h) (λa0 a1 a2 a3 h=>⟨a0,a1,a2,a3,rfl,h⟩) h
theorem iTup{x:G4}{f:List G4->Bool}(h:oB (vTup x) f=true):∃xs k p,x= .Tuple xs k p/\f xs=true:=I9 (motive_1:=λx=>oB (vTup x) f=true->∃xs k p,x= .Tuple xs k p/\f xs=true) x (zI h) (λa0 a1 a2 h=>⟨a0,a1,a2,rfl,h⟩) h
theorem iList{x:G4}{f:List G4->Bool}(h:oB (vList x) f=true):∃xs p,x= .List xs p/\f xs=true:=Fp (motive_1:=λx=>oB (vList x) f=true->∃xs p,x= .List xs p/\f xs=true) x (zI h) (λa0 a1 h=>⟨a0,a1,rfl,h⟩) h
theorem iDict{x:G4}{f:(List (Option G4)×List G4)->Bool}(h:oB (vDict x) f=true):∃ks xs p,x= .Dict ks xs p/\f (ks,xs)=true:=Ie (motive_1:=λx=>oB (vDict x) f=true->∃ks xs p,x= .Dict ks xs p/\f (ks,xs)=true) x (zI h) (λa0 a1 a2 h=>⟨a0,a1,a2,rfl,h⟩) h
theorem iLam{x:G4}{f:(Arguments×G4×Scope×Pos)->Bool}(h:oB (vLam x) f=true):∃a b s p,x= .Lambda a b s p/\f (a,b,s,p)=true:=I1 (motive_1:=λx=>oB (vLam x) f=true->∃a b s p,x= .Lambda a b s p/\f (a,b,s,p)=true) x (zI h) (λa0 a1 a2 a3 h=>⟨a0,a1,a2,a3,rfl,h⟩) h
theorem iComp{x:G4}{f:(G4×List Comprehension×Scope×Pos)->Bool}(h:oB (JZ x) f=true):∃y g s p,x= .ListComp y g s p/\f (y,g,s,p)=true:=FQ (motive_1:=λx=>oB (JZ x) f=true->∃y g s p,x= .ListComp y g s p/\f (y,g,s,p)=true) x (zI h) (λa0 a1 a2 a3 h=>⟨a0,a1,a2,a3,rfl,h⟩) h
theorem iOne{α:Type}{l:List α}{f:α->Bool}(h:oB (one? l) f=true):∃x,l=[x]/\f x=true:=by
 refine za (yf h) ?_;clear h;intro x e h
 exact⟨x,one_of e,h⟩
theorem iTwo{α:Type}{l:List α}{f:α×α->Bool}(h:oB (two? l) f=true):∃x y,l=[x,y]/\f (x,y)=true:=by
 obtain⟨⟨x,y⟩,e,h⟩:=yf h
 exact⟨x,y,two_of e,h⟩
theorem iHt{α:Type}{l:List α}{f:α×List α->Bool}(h:oB (ht? l) f=true):∃x r,l=x::r/\f (x,r)=true:=by
 obtain⟨⟨x,y⟩,e,h⟩:=yf h
 exact⟨x,y,ht_of e,h⟩
noncomputable def kR(ps:Arguments):Option Arg:=match none? ps.posonlyargs && ps.vararg.isNone && none? ps.kwonlyargs && none? ps.kw_defaults && ps.kwarg.isNone && none? ps.defaults with
 |true=>one? ps.args
 |false=>none
theorem Zs{α:Type}{o:Option α}(h:o.isNone=true):o=none:=by
 induction o using Gq with
 |none=>rfl
 |some _=>exact absurd h G3
theorem kQ{ps:Arguments}{a:Arg}(h:kR ps=some a):ps=⟨[],[a],none,[],[],none,[]⟩:=by
 obtain⟨b1,b2,b3,b4,b5,b6,b7⟩:=ps
 have h:(match none? b1 && b3.isNone && none? b4 && none? b5 && b6.isNone && none? b7 with|true=>one? b2|false=>none)=some a:=h
 induction e:none? b1 && b3.isNone && none? b4 && none? b5 && b6.isNone && none? b7 using GF with
 |false=>rw[e] at h;exact nn h
 |true=>
  rw[e] at h
  refine YE (an6 e) ?_;clear e;intro e1 e2 e3 e4 e5 e6
  rw[zH e1,Zs e2,zH e3,zH e4,Zs e5,zH e6,one_of h]
theorem iLamArg{ps:Arguments}{f:Arg->Bool}(h:oB (kR ps) f=true):∃a,ps=⟨[],[a],none,[],[],none,[]⟩/\f a=true:=by
 refine za (yf h) ?_;clear h;intro a e h
 exact⟨a,kQ e,h⟩
theorem an8{a b c d e f g i:Bool}(h:(a && b && c && d && e && f && g && i)=true):a=true/\b=true/\c=true/\d=true/\e=true/\f=true/\g=true/\i=true:=
 have q:=an7 (an2 h).1;⟨q.1,q.2.1,q.2.2.1,q.2.2.2.1,q.2.2.2.2.1,q.2.2.2.2.2.1,q.2.2.2.2.2.2,(an2 h).2⟩
noncomputable def lamOk(N:Nm)(ps:Arguments)(b:G4)(sc:Scope)(p:Pos):Bool:=
 oB (kR ps) (λa=>zQ a.arg N.lamX) &&
 oB (jb b) (λt=>oB (Za t.1) λn=>zQ n.1 N.lamX && zQ t.2.1 N.lamN) &&
 zw sc N.lamX .local && (sc.names.all λp=>Zv p.2 .local ||Zv p.2 .globalImplicit) && J3 sc.kind && !sc.isCoroutine && !sc.isGenerator && posEq p N.lamP
noncomputable def isNot:UnaryOp->Bool
 |.Not=>true
 |_=>false
noncomputable def JA:UnaryOp->Bool
 |.USub=>true
 |_=>false
noncomputable def isAnd:BoolOp->Bool
 |.And=>true
 |.Or=>false
noncomputable def intOf:Const->Option Int
 |.int i=>some i
 |_=>none
noncomputable def ivOf:V->Option Int
 |.int i=>some i
 |_=>none
noncomputable def JI(v:V)(x:G4):Bool:=match Zp x with
 |some c=>litIs v c
 |none=>oB (vUn x) λt=>JA t.1 && oB (Zp t.2) λc=>oB (intOf c) λj=>oB (ivOf v) λi=>decide (i=-j)
noncomputable def restB(op:BoolOp)(xs:List G4)(p:Pos):Option G4:=match xs with
 |[]=>none
 |[y]=>some y
 |xs=>some (.BoolOp op xs p)
noncomputable def ZM:E->Bool
 |.c .none=>true
 |_=>false
noncomputable def js:E->Bool
 |.c (.bool true)=>true
 |_=>false
noncomputable def negOne(x:G4):Bool:=oB (vUn x) λt=>JA t.1 && oB (Zp t.2) λc=>oB (intOf c) λj=>decide (j=1)
section
variable (N:Nm) (K:Frag)
mutual
noncomputable def chkE(lm:Bool)(sc:Scope)(tb:List Str):E->G4->Bool
 |.bad,_=>true
 |.c v,x=>JI v x
 |.l k,x=>oB (Za x) λt=>oB tb[k]? (λy=>zQ t.1 y) && !zQ t.1 "__debug__"
 |.g _ v,x=>oB (Za x) λt=>zw sc t.1 .globalImplicit && Kf v (nsIn K mainGlobals t.1) && !zQ t.1 "__debug__"
 |.a e f,x=>oB (jb x) λt=>zQ (N.attr f) t.2.1 && Yh t.1 && chkE lm sc tb e t.1
 |.bin o a b,x=>oB (vBin x) λt=>opIs o t.2.1 && chkE lm sc tb a t.1 && chkE lm sc tb b t.2.2
 |.cmp o a b,x=>oB (vCmp x) λt=>oB (one? t.2.1) λop=>oB (one? t.2.2) λy=>coIs o op && yi y && chkE lm sc tb a t.1 && chkE lm sc tb b y
 |.cmp2 o p a b c,x=>oB (vCmp x) λt=>oB (two? t.2.1) λop=>oB (two? t.2.2) λy=>coIs o op.1 && coIs p op.2 && yi y.2 && chkE lm sc tb a t.1 && chkE lm sc tb b y.1 && chkE lm sc tb c y.2
 |.not a,x=>oB (vUn x) λt=>isNot t.1 && chkE lm sc tb a t.2
 |.and a b,x=>oB (vBool x) λt=>isAnd t.1 && oB (ht? t.2.1) λu=>chkE lm sc tb a u.1 && oB (restB .And u.2 t.2.2) (chkE lm sc tb b)
 |.or a b,x=>oB (vBool x) λt=>!isAnd t.1 && oB (ht? t.2.1) λu=>chkE lm sc tb a u.1 && oB (restB .Or u.2 t.2.2) (chkE lm sc tb b)
 |.ifx c a b,x=>oB (vIfx x) λt=>chkE lm sc tb c t.1 && chkE lm sc tb a t.2.1 && chkE lm sc tb b t.2.2
 |.call f as,x=>oB (YX x) λt=>oB (Za t.1) λn=>oB (N.glob f) (λy=>zQ y n.1) && zw sc n.1 .globalImplicit && !zQ n.1 "__debug__" && chkL lm sc tb as t.2.1
 |.bf b as,x=>oB (YX x) λt=>oB (Za t.1) λn=>zQ (bfName b) n.1 && zw sc n.1 .globalImplicit && (match nsIn K mainGlobals n.1 with|some none=>true|_=>false) && chkL lm sc tb as t.2.1
 |.meth a m as,x=>oB (YX x) λt=>oB (jb t.1) λq=>zQ (N.meth m) q.2.1 && Yh q.1 && Gg q.2.2.endLine t.2.2.line && Gz t.2.1.length 29 && chkE lm sc tb a q.1 && chkL lm sc tb as t.2.1
 |.bm b a as,x=>oB (YX x) λt=>oB (jb t.1) λq=>zQ (Jk b) q.2.1 && Yh q.1 && Gg q.2.2.endLine t.2.2.line && Gz t.2.1.length 29 && chkE lm sc tb a q.1 && chkL lm sc tb as t.2.1
 |.callv f as,x=>oB (YX x) λt=>oB (Za t.1) λn=>chkE lm sc tb f t.1 && chkL lm sc tb as t.2.1
 |.idx a b,x=>oB (vSub x) λt=>Zq t.2 && chkE lm sc tb a t.1 && chkE lm sc tb b t.2
 |.slice a lo hi,x=>oB (vSub x) λt=>oB (jJ t.2) λq=>q.2.2.isNone && chkE lm sc tb a t.1 && oN q.1 (ZM lo) (chkE lm sc tb lo) && oN q.2.1 (ZM hi) (chkE lm sc tb hi)
 |.rev a,x=>oB (vSub x) λt=>oB (jJ t.2) λq=>q.1.isNone && q.2.1.isNone && oB q.2.2 negOne && chkE lm sc tb a t.1
 |.tup es,x=>oB (vTup x) λxs=>G8 xs.length 100 && chkL lm sc tb es xs
 |.lst es,x=>oB (vList x) λxs=>chkL lm sc tb es xs
 |.dct es,x=>oB (vDict x) λt=>G8 t.1.length 15 && chkD lm sc tb es t.1 t.2
 |.lam k,x=>oB (vLam x) λt=>lm && Gg k N.lamK && lamOk N t.1 t.2.1 t.2.2.1 t.2.2.2
 |.comp elt iter cond n caps,x=>oB (JZ x) λt=>oB (one? t.2.1) λg=>decide (g.is_async=0) && oB (ZE g.target) λts=>
   Gg ts.length n && Y4 sc t.2.2.1 ts (pick tb caps) && yi g.iter && chkE lm sc tb iter g.iter && chkE false t.2.2.1 (ts++pick tb caps) elt t.1 &&
    (match g.ifs with|[]=>js cond|ct::r=>none? r && chkE false t.2.2.1 (ts++pick tb caps) cond ct)
 |.comp2 elt i1 i2,x=>oB (JZ x) λt=>oB (two? t.2.1) λg=>decide (g.1.is_async=0) && decide (g.2.is_async=0) && none? g.1.ifs && none? g.2.ifs && oB (Za g.1.target) λt1=>oB (Za g.2.target) λt2=>
   Y4 sc t.2.2.1 [t1.1,t2.1] [] && !zQ t1.1 t2.1 && yi g.1.iter && yi g.2.iter && chkE lm sc tb i1 g.1.iter && chkE false t.2.2.1 [t1.1] i2 g.2.iter && chkE false t.2.2.1 [t2.1,t1.1] elt t.1
 |.nil,_=>false
 |.cons _ _,_=>false
noncomputable def chkL(lm:Bool)(sc:Scope)(tb:List Str):E->List G4->Bool
 |.nil,xs=>none? xs
 |.cons a b,xs=>oB (ht? xs) λu=>zP u.1 && chkE lm sc tb a u.1 && chkL lm sc tb b u.2
 |_,_=>false
noncomputable def chkD(lm:Bool)(sc:Scope)(tb:List Str):E->List (Option G4)->List G4->Bool
 |.nil,ks,xs=>none? ks && none? xs
 |.cons a (.cons b r),ks,vs=>oB (ht? ks) λk=>oB k.1 λk1=>oB (ht? vs) λv=>chkE lm sc tb a k1 && chkE lm sc tb b v.1 && chkD lm sc tb r k.2 v.2
 |_,_,_=>false
end
end
structure Cx where
 A:Around
 fe:Env
 Un:Heap
 L:Addr
 m:Str->Option Value
 G:Lg
 nm:Str->Option Value
noncomputable abbrev Cx.Rep(c:Cx)(T:Tp):=Mn.Rep T c.Un c.L c.m c.G
noncomputable def Cx.Look(c:Cx)(x:Str)(u:Value):Prop:=∀{prog:Program} {w:World} {A:Around} {s:Shared} {Q:Value->Shared->Prop} {Er:Value->Shared->Prop} {pos:Pos},
 Fr c.Un c.L s.heap c.m->News c.Un c.L s.heap c.G->Q u s->wpAny (model prog w) A (eval (.Name x pos) c.fe) Q Er s
structure Cx.Ok (c:Cx) (T:Tp) (d:Nat):Prop where
 B:∃KY base outer env,Below KY base outer c.Un/\c.A.frames=some (env::outer)/\env.frame=some c.L/\env.scope.kind= .function
 kd:c.fe.scope.kind= .function
 gl:c.fe.globals=mainGlobals
 bi:c.fe.builtins=builtinsNs
 X:T.K.In c.Un
 top:∃p loose mean mg mb,Top p loose mean mg mb c.Un
 tab:CodeHd c.Un T.tabC T.tab
 hh:c.A.handled=none
 dep:c.A.depth+4*d+8<=1000
 un:c.A.units+16*d+200<=9900
 scr:∃vs,c.Un.IsList T.scr vs.toArray/\IntsAre vs T.ns/\T.ns.length<=1048576
 look:∀x u,c.nm x=some u->(x==("__debug__":Str))=false->c.Look x u
 cel:∀x,c.fe.kindOf x=some .cell->∃a,c.fe.cells.lookup x=some a/\∀u,c.nm x=some u->∃o,(a,o)∈c.G/\o.data= .cell (some u)
noncomputable def LOk(T:Tp)(tb:List Str)(c:Cx)(E:Lg)(ρ:Rn)(L:Lc):Prop:=∀(k:Nat) (v:V),L[k]?=some v->v≠.bad->∃x u,tb[k]?=some x/\c.nm x=some u/\VR T E ρ v u
theorem LOk.ext{T:Tp}{tb:List Str}{c:Cx}{E E':Lg}{ρ ρ':Rn}{L:Lc}(x:Ext E ρ E' ρ')(h:LOk T tb c E ρ L):LOk T tb c E' ρ' L:=λk v e n=>by
 refine zy (h k v e n) λy u h1 h2 h3=>?_
 exact⟨y,u,h1,h2,h3.ext x⟩
noncomputable abbrev RxT:=Cx->Nat->Hp->Rn->Lg->Heap->Value->Prop
inductive XPost (RX:RxT) (c:Cx) (s:Shared) (ρ:Rn) (E:Lg) (X:Nat->Hp->Prop) (e:Value) (s':Shared):Prop
 |mk (h':Heap) (tk k:Nat) (H':Hp) (ρ':Rn) (E':Lg):s'={s with heap:=h',toks:=tk}->Ext E ρ E' ρ'->X k H'->RX c k H' ρ' E' h' e->XPost RX c s ρ E X e s'
theorem XPost.up{RX:RxT}{c:Cx}{s:Shared}{ρ:Rn}{E:Lg}{X:Nat->Hp->Prop}{h₁:Heap}{tk₁:Nat}{ρ₁:Rn}{u5:Lg}(x:Ext E ρ u5 ρ₁){e:Value}{s':Shared}:XPost RX c {s with heap:=h₁,toks:=tk₁} ρ₁ u5 X e s'->XPost RX c s ρ E X e s'
 |⟨h',tk,k,H',ρ',E',e,x',q,r⟩=>⟨h',tk,k,H',ρ',E',e,x.trans x',q,r⟩
theorem XPost.no{RX:RxT}{c:Cx}{s:Shared}{ρ:Rn}{E:Lg}{e:Value}{s':Shared}:¬XPost RX c s ρ E (λ_ _=>False) e s':=λ⟨_,_,_,_,_,_,_,_,q,_⟩=>q
inductive Post (T:Tp) (c:Cx) (s:Shared) (ρ:Rn) (E:Lg) (Q:V->Hp->Prop) (u:Value) (s':Shared):Prop
 |mk (h':Heap) (tk:Nat) (v:V) (H':Hp) (ρ':Rn) (E':Lg):s'={s with heap:=h',toks:=tk}->c.Rep T H' ρ' E' h'->Ext E ρ E' ρ'->VR T E' ρ' v u->Q v H'->Post T c s ρ E Q u s'
section
variable {T:Tp} {c:Cx} {s:Shared} {ρ:Rn} {E:Lg} {H:Hp} {Q:V->Hp->Prop} {Er:Value->Shared->Prop} {prog:Program} {w:World}
theorem Post.here{u:Value}{v:V}{tk:Nat}(R:c.Rep T H ρ E s.heap)(hv:VR T E ρ v u)(q:Q v H):Post T c s ρ E Q u {s with toks:=tk}:=
 ⟨s.heap,tk,v,H,ρ,E,rfl,R,Ext.refl _ _,hv,q⟩
theorem Post.at{u:Value}{v:V}(R:c.Rep T H ρ E s.heap)(hv:VR T E ρ v u)(q:Q v H):Post T c s ρ E Q u s:=
 ⟨s.heap,s.toks,v,H,ρ,E,rfl,R,Ext.refl _ _,hv,q⟩
theorem Post.up{h₁:Heap}{tk₁:Nat}{ρ₁:Rn}{u5:Lg}(x:Ext E ρ u5 ρ₁){u:Value}{s':Shared}:Post T c {s with heap:=h₁,toks:=tk₁} ρ₁ u5 Q u s'->Post T c s ρ E Q u s'
 |⟨h',tk,v,H',ρ',E',e,R,x',hv,q⟩=>⟨h',tk,v,H',ρ',E',e,R,x.trans x',hv,q⟩
set_option tactic.hygienic true in
theorem eqS_iff:∀{a b:List Nat},eqS a b=true↔a=b:=by
 intro a
 induction a with
 |nil=>
  intro xx
  rcases xx with _|⟨_,_⟩
  ·exact by simp[eqS]
  ·exact by simp[eqS]
 |cons a as ih=>
  intro xx
  rcases xx with _|⟨b,bs⟩
  ·exact by simp[eqS]
  ·unfold eqS
   split
   ·rename_i h
    rw[ih,Go h];simp
   ·rename_i h
    have:=Dd h
    simp[this]
theorem eqStr_iff{x y:Str}:zQ x y=true↔x=y:=by
 unfold zQ
 rw[eqS_iff]
 constructor
 ·intro h;cases x;cases y;simp only[Str.mk.injEq];exact Array.toList_inj.mp h
 ·rintro rfl;rfl
theorem isS_iff{x:Str}{s:List Nat}:isS x s=true↔x=strL s:=by
 unfold isS strL
 rw[eqS_iff]
 constructor
 ·intro h;cases x;simp only[Str.mk.injEq];rw[←h]
 ·rintro rfl;rfl
theorem zK(s:List Nat):(strL s).length=s.length:=by simp[strL,F0]
theorem Zi(a b:List Nat):strL a++strL b=strL (a++b):=by
 show Str.append _ _=_
 simp[Str.append,strL]
theorem jO{a b:List Nat}:strL a=strL b↔a=b:=by
 unfold strL;simp
theorem JN{x:Int}(h:x.natAbs < 1000000000):¬decide (Builtin.Int.intBits x > shortFactorBits)=true:=by
 have h1:-(2 ^ 64) < x:=by exact om6 h
 have h2:x < 2 ^ 64:=by exact om9 h
 have:=intBits_le_64 h1 h2
 rw[decide_eq_true_eq]
 exact DD.mpr this
theorem mul_ok{x y:Int}(h:x.natAbs < 1000000000):IntMulOk x y:=by
 unfold IntMulOk
 rw[GS,GS]
 exact λz=>JN h z.1.1
theorem div_ok{x y:Int}(h:y.natAbs < 1000000000):Fs x y=false:=by
 unfold Fs
 refine Bool.and_eq_false_iff.mpr (.inl (decide_eq_false ?_))
 simp only
 split
 ·exact om7
 ·have:y.natAbs.log2 < 64:=by
   by_cases z:y.natAbs=0
   ·rw[z];decide
   ·exact(Nat.log2_lt z).mpr (om8 h)
  exact om10 this
end
section
variable {T:Tp} {c:Cx} {s:Shared} {ρ:Rn} {E:Lg} {H:Hp} {Q:V->Hp->Prop} {Er:Value->Shared->Prop} {prog:Program} {w:World} {d:Nat}
variable {Un h h':Heap} {L:Addr} {m m':Str->Option Value} {G:Lg}
theorem tab_ne{tb:Obj}{x:Addr}(hf:∀p∈E++(T.tab,tb)::G,p.1 < x):∀q∈E++(T.tab,tabObj #[])::G,q.1 < x:=by
 intro q hq
 rcases Gn.mp hq with hq|hq
 ·exact hf q (Ge _ hq)
 ·rcases Gh.mp hq with rfl|hq
  ·exact hf (T.tab,tb) (Gb _ (G9 ..))
  ·exact hf q (Gb _ (Gd _ hq))
theorem Rep.one(R:Rep T Un L m G H ρ E h){tb:Obj}(hb:TbOk T E tb){x:Addr}{o:Obj}(F':Fr Un L h' m')(N':News Un L h' ((x,o)::(E++(T.tab,tb)::G)))(hf:∀p∈E++(T.tab,tb)::G,p.1 < x) :
  Rep T Un L m' G H ρ ((x,o)::E) h'/\Ext E ρ ((x,o)::E) ρ:=
 R.grow (new:=[(x,o)]) hb F' N' (by simp) (λp hp q hq=>by
  have:p=(x,o):=by simpa using hp
  subst this
  exact D6 (tab_ne hf q hq))
theorem Rep.keyLt(R:Rep T Un L m G H ρ E h){x:Addr}(hf:∀p∈E,p.1 < x):∀b∈foot H ρ,b < x:=λb hb=>by
 refine zh (R.key b hb) λob hm=>?_
 exact hf _ hm
theorem Rep.newL(R:Rep T Un L m G H ρ E h){tb:Obj}(hb:TbOk T E tb){x:Addr}{vs:List V}{us:List Value}{n:Nat}(hv:VRs T E ρ vs us)(hl:vs.length<=lim)(F':Fr Un L h' m')
  (N':News Un L h' ((x,DN us.toArray n)::(E++(T.tab,tb)::G))) (hf:∀p∈E++(T.tab,tb)::G,p.1 < x) :
  Rep T Un L m' G (H++[.list vs]) (ρ++[(x,x)]) ((x,DN us.toArray n)::E) h'/\Ext E ρ ((x,DN us.toArray n)::E) (ρ++[(x,x)])/\(ρ++[(x,x)])[H.length]?=some (x,x):=by
 refine zf (R.one hb F' N' hf) λR1 x1=>?_
 have:=R.keyLt (λp hp=>hf p (Ge _ hp))
 refine zf (R1.alloc (o:=.list vs) (a:=x) (d:=x) ⟨us,n,G9 ..,hv.ext x1,hl⟩ (by intro b hb;simp[zS] at hb;subst hb;exact λhm=>DE _ (this _ hm)) (by simp[zS])) λR2 x2=>?_
 exact⟨R2,x1.trans x2,by rw[←R.len];simp⟩
theorem Rep.newI(R:Rep T Un L m G H ρ E h){tb:Obj}(hb:TbOk T E tb){x dx:Addr}{k:Nat}{C:Addr}(hC:T.cls k=some C)(F':Fr Un L h' m')
  (N':News Un L h' ((x,instObj C dx)::(dx,dictOf [] 0)::(E++(T.tab,tb)::G))) (hf:∀p∈E++(T.tab,tb)::G,p.1 < dx) (hx:dx < x) :
  Rep T Un L m' G (H++[.inst k []]) (ρ++[(x,dx)]) ((x,instObj C dx)::(dx,dictOf [] 0)::E) h'/\Ext E ρ ((x,instObj C dx)::(dx,dictOf [] 0)::E) (ρ++[(x,dx)])/\(ρ++[(x,dx)])[H.length]?=some (x,dx):=by
 have hx':dx < x:=hx
 obtain⟨R1,x1⟩:=R.grow (new:=[(x,instObj C dx),(dx,dictOf [] 0)]) hb F' N' (by simp;exact D6 hx') (λp hp q hq=>by
  have:=tab_ne hf q hq
  simp only[Gh,GN,or_false] at hp
  rcases hp with rfl|rfl
  ·exact D6 (Nat.lt_trans this hx')
  ·exact D6 this)
 have:=R.keyLt (λp hp=>hf p (Ge _ hp))
 obtain⟨R2,x2⟩:=R1.alloc (o:=.inst k []) (a:=x) (d:=dx) ⟨C,[],0,hC,G9 ..,Gd _ (G9 ..),.nil,D7 _,by simp⟩
  (by
   intro b hb hm
   simp only[zS,Gh,GN,or_false] at hb
   have:=this b hm
   rcases hb with rfl|rfl
   ·exact DE _ (Nat.lt_trans this hx')
   ·exact DE _ this)
  (by simp[zS];exact D6 hx')
 exact⟨R2,x1.trans x2,by rw[←R.len];simp⟩
theorem yD{news:Lg}(N:News Un L h news):∀p∈news,p.1 < h.objs.size:=λp hp=>Heap.lt_size (N p hp).1
theorem Rep.objAt(R:Rep T Un L m G H ρ E h){i:Nat}{o:O}{a d:Addr}(h1:H[i]?=some o)(h2:ρ[i]?=some (a,d)):OAt T E ρ a d o:=R.enc i o a d h1 h2
theorem Rep.inNews(R:Rep T Un L m G H ρ E h){p:Addr×Obj}(hp:p∈E):h.get? p.1=some p.2:=by
 refine za (R.N) λtb _ N=>?_
 exact(N p (Ge _ hp)).1
theorem Rep.isList(R:Rep T Un L m G H ρ E h){i:Nat}{vs:List V}{a d:Addr}(h1:H[i]?=some (.list vs))(h2:ρ[i]?=some (a,d)) :
  ∃us n,(a,DN us.toArray n)∈E/\h.IsList a us.toArray/\VRs T E ρ vs us/\vs.length<=lim:=by
 refine zy (R.objAt h1 h2) λus n hm hv hl=>?_
 exact⟨us,n,hm,⟨_,R.inNews hm,rfl,n,rfl⟩,hv,hl⟩
theorem Rep.isTup(R:Rep T Un L m G H ρ E h)(X:T.K.In Un){a:Addr}{us:List Value}(ht:TupAt T.K E a us):IsTup h a us.toArray:=by
 rcases ht with⟨n,hm⟩|⟨dd,n,sl,hl⟩
 ·exact⟨_,R.inNews hm,rfl,n,rfl⟩
 ·exact tupK (X.keeps R.F.keep) hl
theorem natB{a b:Nat}:G8 a b=true↔a<=b:=by rw[Nat.ble_eq]
noncomputable def opOf:Op->Operator
 |.add=>.Add|.sub=>.Sub|.mul=>.Mult|.fdiv=>.FloorDiv|.mod=>.Mod
theorem opIs_of{o:Op}{op:Operator}(h:opIs o op=true):op=opOf o:=by rcases o<;>rcases op<;>first|rfl|exact absurd h G3
theorem binop_ok{o:Op}{op:Operator}(hop:opIs o op=true){x y:V}{a b:Value}(C:c.Ok T d)(R:c.Rep T H ρ E s.heap)(hx:VR T E ρ x a)(hy:VR T E ρ y b)(h:binop o x y H Q) :
  wpAny (model prog w) c.A (binaryOp op a b) (Post T c s ρ E Q) Er s:=by
 obtain rfl:=opIs_of hop
 clear hop
 induction o using Op.casesOn with
 |add=>
  replace h:=addP_iff h
  rcases h with⟨p,q,rfl,rfl,h⟩|⟨p,q,rfl,rfl,h1,h⟩|⟨i,xs,j,ys,rfl,e1,rfl,e2,h1,h⟩
  ·refine zh (hx.ofInt) λt rq1=>?_;subst rq1
   refine zh (hy.ofInt) λt' rq1=>?_;subst rq1
   exact add_int (Post.here R (.int _ _) h)
  ·refine zh (hx.ofStr) λt rq1=>?_;subst rq1
   refine zh (hy.ofStr) λt' rq1=>?_;subst rq1
   have:=natB.mp h1
   refine add_str (λt' tk=>?_) (by rw[zK,zK,sizeLine_eq];exact ot1 this)
   rw[Zi]
   exact Post.here R (.str _ _) h
  ·refine zl (hx.ofObj) λa da rq2 hi=>?_;subst rq2
   refine zl (hy.ofObj) λb db rq2 hj=>?_;subst rq2
   have hle:=natB.mp h1
   refine yt (R.isList e1 hi) λus n hm hl hv hn=>?_
   refine yt (R.isList e2 hj) λus' n' hm' hl' hv' hn'=>?_
   refine za (R.N) λtb hb N=>?_
   refine add_arrays R.F N hl hl' (λh' F' N'=>?_) (by rw[Gv,Gv,←hv.length,←hv'.length,sizeLine_eq];exact ot1 hle)
   rw[Dr,Dr] at N'
   refine zC (R.newL hb (hv.append hv') (by rw[G7];exact hle) F' N' (yD N)) λR' x' hr=>?_
   exact⟨h',s.toks,_,_,_,_,rfl,R',x',.obj hr,h⟩
 |sub=>
  refine za (zA h) ?_;clear h;intro p rq1 h;subst rq1
  refine za (zA h) ?_;clear h;intro q rq1 h;subst rq1
  refine zh (hx.ofInt) λt rq1=>?_;subst rq1
  refine zh (hy.ofInt) λt' rq1=>?_;subst rq1
  exact sub_int (Post.here R (.int _ _) h)
 |mul=>
  refine za (zA h) ?_;clear h;intro p rq1 h;subst rq1
  refine za (zA h) ?_;clear h;intro q rq1 h;subst rq1
  refine zh (hx.ofInt) λt rq1=>?_;subst rq1
  refine zh (hy.ofInt) λt' rq1=>?_;subst rq1
  refine zf (gd_iff.mp h) λh1 h2=>?_
  exact mul_int (Post.here R (.int _ _) h2) (mul_ok (of_decide_eq_true h1).1)
 |fdiv=>
  refine za (zA h) ?_;clear h;intro p rq1 h;subst rq1
  refine za (zA h) ?_;clear h;intro q rq1 h;subst rq1
  refine zh (hx.ofInt) λt rq1=>?_;subst rq1
  refine zh (hy.ofInt) λt' rq1=>?_;subst rq1
  refine zf (gd_iff.mp h) λh1 h2=>?_
  have:=of_decide_eq_true h1
  exact floordiv_int (om45 this) (Post.here R (.int _ _) h2) (.inl (div_ok (om46 this)))
 |mod=>
  refine za (zA h) ?_;clear h;intro p rq1 h;subst rq1
  refine za (zA h) ?_;clear h;intro q rq1 h;subst rq1
  refine zh (hx.ofInt) λt rq1=>?_;subst rq1
  refine zh (hy.ofInt) λt' rq1=>?_;subst rq1
  refine zf (gd_iff.mp h) λh1 h2=>?_
  have:=of_decide_eq_true h1
  exact mod_int' (om47 this) (Post.here R (.int _ _) h2)
end
section
variable {T:Tp} {c:Cx} {s:Shared} {ρ:Rn} {E:Lg} {H:Hp} {Q:V->Hp->Prop} {Er:Value->Shared->Prop} {prog:Program} {w:World} {d:Nat} {A:Around}
theorem eqI_eq(a b:Int):eqI a b=(a==b):=by
 unfold eqI
 by_cases h:a=b<;>simp[h]
theorem Kw(a b:List Nat):eqS a b=((⟨a.toArray⟩:Str)==(⟨b.toArray⟩:Str)):=by
 by_cases h:a=b
 ·subst h
  rw[eqS_iff.mpr rfl];simp
 ·have h1:eqS a b=false:=by
   induction q:eqS a b using GF with
   |false=>rfl
   |true=>exact absurd (eqS_iff.mp q) h
  rw[h1]
  simp[h]
inductive EqC:V->V->Bool->Prop
 |nn:EqC .none .none true
 |ni (i:Int):EqC .none (.int i) false
 |ns (x:List Nat):EqC .none (.str x) false
 |bb (a b:Bool):EqC (.bool a) (.bool b) (a==b)
 |iN (i:Int):EqC (.int i) .none false
 |ii (a b:Int):EqC (.int a) (.int b) (eqI a b)
 |sN (x:List Nat):EqC (.str x) .none false
 |ss (a b:List Nat):EqC (.str a) (.str b) (eqS a b)
theorem eqF_c{x y:V}{r:Bool}(e:eqF x y=some r):EqC x y r:=by
 rcases x<;>rcases y<;>first|exact nn e|(cases Ga e;constructor)
theorem eqF_at{x y:V}{a b:Value}{r:Bool}(hx:VR T E ρ x a)(hy:VR T E ρ y b)(e:eqF x y=some r):EqAt A s a b r:=by
 cases eqF_c e with
 |nn=>rw[hx.ofNone,hy.ofNone];exact EqAt.same _
 |ni i=>obtain⟨t,rfl⟩:=hy.ofInt;rw[hx.ofNone];exact EqAt.none_int _ _
 |ns i=>obtain⟨t,rfl⟩:=hy.ofStr;rw[hx.ofNone];exact EqAt.none_str _ _
 |bb a b=>rw[hx.ofBool,hy.ofBool];exact EqAt.bool_bool _ _
 |iN i=>obtain⟨t,rfl⟩:=hx.ofInt;rw[hy.ofNone];exact EqAt.int_none _ _
 |ii a b=>obtain⟨t,rfl⟩:=hx.ofInt;obtain⟨t',rfl⟩:=hy.ofInt;rw[eqI_eq];exact EqAt.int_int _ _ _ _
 |sN i=>obtain⟨t,rfl⟩:=hx.ofStr;rw[hy.ofNone];exact EqAt.str_none _ _
 |ss a b=>obtain⟨t,rfl⟩:=hx.ofStr;obtain⟨t',rfl⟩:=hy.ofStr;rw[Kw];exact EqAt.str_str _ _ _ _
theorem eqF_rc{x y:V}{a b:Value}{r:Bool}(hx:VR T E ρ x a)(hy:VR T E ρ y b)(e:eqF x y=some r):RcAt A s a b r/\RcNeAt A s a b (!r):=by
 cases eqF_c e with
 |nn=>rw[hx.ofNone,hy.ofNone];exact⟨RcAt.none_none,RcNeAt.none_none⟩
 |ni i=>obtain⟨t,rfl⟩:=hy.ofInt;rw[hx.ofNone];exact⟨RcAt.none_int _ _,RcNeAt.none_int _ _⟩
 |ns i=>obtain⟨t,rfl⟩:=hy.ofStr;rw[hx.ofNone];exact⟨RcAt.none_str _ _,RcNeAt.none_str _ _⟩
 |bb a b=>rw[hx.ofBool,hy.ofBool];exact⟨RcAt.bool_bool _ _,RcNeAt.bool_bool _ _⟩
 |iN i=>obtain⟨t,rfl⟩:=hx.ofInt;rw[hy.ofNone];exact⟨RcAt.int_none _ _,RcNeAt.int_none _ _⟩
 |ii a b=>obtain⟨t,rfl⟩:=hx.ofInt;obtain⟨t',rfl⟩:=hy.ofInt;rw[eqI_eq];exact⟨RcAt.int_int _ _ _ _,RcNeAt.int_int _ _ _ _⟩
 |sN i=>obtain⟨t,rfl⟩:=hx.ofStr;rw[hy.ofNone];exact⟨RcAt.str_none _ _,RcNeAt.str_none _ _⟩
 |ss a b=>obtain⟨t,rfl⟩:=hx.ofStr;obtain⟨t',rfl⟩:=hy.ofStr;rw[Kw];exact⟨RcAt.str_str _ _ _ _,RcNeAt.str_str _ _ _ _⟩
theorem Yt{x y:V}{xs ys:List V}{r:Bool}(e:eqFs (x::xs) (y::ys)=some r):∃p q,eqF x y=some p/\eqFs xs ys=some q/\(p && q)=r:=by
 have e:(match eqF x y,eqFs xs ys with|some p,some q=>some (p && q)|_,_=>none)=some r:=e
 induction h1:eqF x y using Gq with
 |none=>rw[h1] at e;exact nn e
 |some p=>
  rw[h1] at e
  induction h2:eqFs xs ys using Gq with
  |none=>rw[h2] at e;exact nn e
  |some q=>rw[h2] at e;exact⟨p,q,rfl,rfl,Ga e⟩
theorem eqFs_len:∀{xs ys:List V} {r:Bool},eqFs xs ys=some r->xs.length=ys.length:=by
 intro xs
 induction xs with
 |nil=>
  intro xx y2 e
  rcases xx with _|⟨_,_⟩
  ·exact rfl
  ·exact nn e
 |cons x xs ih=>
  intro xx r e
  rcases xx with _|⟨y,ys⟩
  ·exact nn e
  ·refine zy (Yt e) λp q _ h2 _=>?_
   exact congrArg (·+ 1) (ih h2)
noncomputable def eqJ(xs ys:List V)(j:Nat):Bool:=match xs[j]?,ys[j]? with|some x,some y=>(eqF x y).getD false|_,_=>false
theorem YI(n:Nat)(f:Nat->Bool):(D0 (n+1)).all f=(f 0 && (D0 n).all λj=>f (j+1)):=by
 rw[List.range_succ_eq_map,FR,List.all_map];rfl
theorem Jb:∀{xs ys:List V} {r:Bool},eqFs xs ys=some r->(D0 xs.length).all (eqJ xs ys)=r:=by
 intro xs
 induction xs with
 |nil=>
  intro xx y2 e
  rcases xx with _|⟨_,_⟩
  ·exact Ga e
  ·exact nn e
 |cons x xs ih=>
  intro xx r e
  rcases xx with _|⟨y,ys⟩
  ·exact nn e
  ·refine zy (Yt e) λp q h1 h2 rq4=>?_;subst rq4
   rw[GB,YI]
   have z0:eqJ (x::xs) (y::ys) 0=p:=by show(eqF x y).getD false=p;rw[h1];rfl
   have z1:(λj=>eqJ (x::xs) (y::ys) (j+1))=eqJ xs ys:=by funext j;unfold eqJ;rw[List.getElem?_cons_succ,List.getElem?_cons_succ]
   rw[z1,ih h2,z0]
theorem Ky:∀{xs ys:List V} {us ws:List Value} {r:Bool},VRs T E ρ xs us->VRs T E ρ ys ws->eqFs xs ys=some r->∀(j:Nat) (h1:j < us.length) (h2:j < ws.length),EqAt A s us[j] ws[j] (eqJ xs ys j):=by
 intro xs
 induction xs with
 |nil=>intro ys us ws r hx _ _ j h1;rw[hx.of0] at h1;exact absurd h1 (Nat.not_lt_zero j)
 |cons x xs ih=>
  intro ys us ws r hx hy e j h1 h2
  refine zy (hx.ofCons) λu us rq2 a as=>?_;subst rq2
  induction ys using GV with
  |nil=>exact nn e
  |cons y ys=>
   refine zy (hy.ofCons) λw ws rq2 b bs=>?_;subst rq2
   refine zy (Yt e) λp q e1 e2 _=>?_
   induction j using Nat.casesOn with
   |zero=>
    have z:eqJ (x::xs) (y::ys) 0=p:=by show(eqF x y).getD false=p;rw[e1];rfl
    rw[z]
    exact eqF_at a b e1
   |succ j=>exact ih as bs e2 j (Nat.lt_of_succ_lt_succ h1) (Nat.lt_of_succ_lt_succ h2)
theorem natE{a b:Nat}:Gg a b=true↔a=b:=by rw[Nat.beq_eq]
theorem natEf{a b:Nat}:Gg a b=false↔a≠b:=⟨Dd,λh=>by
 induction q:Gg a b using GF with
 |false=>rfl
 |true=>exact absurd (natE.mp q) h⟩
theorem ZL{h:Heap}{a:Addr}{us:Array Value}(x:IsTup h a us):h.IsTuple a us:=x
theorem iseq_iff{x y:V}{H:Hp}{r:Bool}(e:iseq x y H=some r):(∃i xs j ys,x= .obj i/\H[i]?=some (.list xs)/\y= .obj j/\H[j]?=some (.list ys)/\((xs.length=ys.length/\eqFs xs ys=some r)∨(xs.length≠ys.length/\r=false)))∨
  (∃xs ys,x= .tup xs/\y= .tup ys/\eqFs xs ys=some r)∨eqF x y=some r:=by
 induction x using V.casesOn with
 |obj i=>
  replace e:oL (.obj i) H (λx=>oL y H λy=>(match Gg x.length y.length with|true=>eqFs x y|false=>some false))=some r:=e
  refine zy (oL_iff e) ?_;clear e;intro i' xs e0 e1 e
  refine zy (oL_iff e) ?_;clear e;intro j ys rq2 e2 e;subst rq2
  refine .inl ⟨i',xs,j,ys,e0,e1,rfl,e2,?_⟩
  induction q:Gg xs.length ys.length using GF with
  |true=>rw[q] at e;exact .inl ⟨natE.mp q,e⟩
  |false=>rw[q] at e;exact .inr ⟨natEf.mp q,(Ga e).symm⟩
 |tup xs=>
  replace e:oT (.tup xs) (λx=>oT y λy=>eqFs x y)=some r:=e
  refine za (oT_iff e) ?_;clear e;intro xs' e0 e
  refine za (oT_iff e) ?_;clear e;intro ys rq1 e;subst rq1
  exact .inr (.inl ⟨xs',ys,e0,rfl,e⟩)
 |_=>exact .inr (.inr e)
theorem kU{x y:V}{a b:Value}{r:Bool}(C:c.Ok T d)(R:c.Rep T H ρ E s.heap)(hu:A.units < cLine)(hx:VR T E ρ x a)(hy:VR T E ρ y b)(e:iseq x y H=some r):RcAt A s a b r/\RcNeAt A s a b (!r):=by
 replace e:=iseq_iff e
 rcases e with⟨i,xs,j,ys,rfl,e1,rfl,e2,e⟩|⟨xs,ys,rfl,rfl,e⟩|e
 ·refine zl (hx.ofObj) λa d rq2 hi=>?_;subst rq2
  refine zl (hy.ofObj) λb d' rq2 hj=>?_;subst rq2
  refine yt (R.isList e1 hi) λus n hm hl hv hn=>?_
  refine yt (R.isList e2 hj) λus' n' hm' hl' hv' hn'=>?_
  rcases e with⟨hlen,e⟩|⟨hlen,rfl⟩
  ·have hsz:us.toArray.size=us'.toArray.size:=by rw[Gv,Gv,←hv.length,←hv'.length,hlen]
   have hall:(D0 us.toArray.size).all (eqJ xs ys)=r:=by
    rw[Gv,←hv.length];exact Jb e
   have key:∀{A:Around} (j:Nat) (h1:j < us.toArray.size) (h2:j < us'.toArray.size),EqAt A s us.toArray[j] us'.toArray[j] (eqJ xs ys j):=λ{A} j h1 h2=>Ky hv hv' e j h1 h2
   have p1:=RcAt.lists (A:=A) (s:=s) (e:=eqJ xs ys) hl hl' hsz hu key
   have p2:=RcNeAt.lists (A:=A) (s:=s) (e:=eqJ xs ys) hl hl' hsz hu key
   rw[hall] at p1 p2
   exact⟨p1,p2⟩
  ·have hsz:(us.toArray.size != us'.toArray.size)=true:=by rw[Gv,Gv,←hv.length,←hv'.length];exact bne_iff_ne.mpr hlen
   exact⟨RcAt.lists_lengths hl hl' hsz hu,RcNeAt.lists_lengths hl hl' hsz hu⟩
 ·refine zy (hx.ofTup) λus a rq2 ht hv=>?_;subst rq2
  refine zy (hy.ofTup) λus' b rq2 ht' hv'=>?_;subst rq2
  have hl:=R.isTup C.X ht
  have hl':=R.isTup C.X ht'
  have hlen:=eqFs_len e
  have hsz:us.toArray.size=us'.toArray.size:=by rw[Gv,Gv,←hv.length,←hv'.length,hlen]
  have hall:((D0 (min us.toArray.size us'.toArray.size)).all (eqJ xs ys) && us.toArray.size==us'.toArray.size)=r:=by
   rw[←hsz,Nat.min_self,Gv,←hv.length,Jb e,beq_self_eq_true,Bool.and_true]
  have key:∀{A:Around} (j:Nat) (h1:j < us.toArray.size) (h2:j < us'.toArray.size),EqAt A s us.toArray[j] us'.toArray[j] (eqJ xs ys j):=λ{A} j h1 h2=>Ky hv hv' e j h1 h2
  have p1:=RcAt.tuples (A:=A) (s:=s) (e:=eqJ xs ys) hl hl' hu key
  have p2:=RcNeAt.tuples (A:=A) (s:=s) (e:=eqJ xs ys) hl hl' hu key
  rw[hall] at p1 p2
  exact⟨p1,p2⟩
 ·exact eqF_rc hx hy e
theorem Xr(a b:Str):(a==b)=(b==a):=
 Bool.eq_iff_iff.mpr ⟨λh=>beq_iff_eq.mpr (beq_iff_eq.mp h).symm,λh=>beq_iff_eq.mpr (beq_iff_eq.mp h).symm⟩
theorem J7{x:List Nat}:∀{vs:List V} {us:List Value} {r:Bool},VRs T E ρ vs us->inVs x vs=some r->
  (us.toArray.any λu=>u.isStr (strL x))=r/\(∀y,y∈us->∃(l:List Nat) (t:Tok),y= .str (strL l) t):=by
 intro vs
 induction vs with
 |nil=>intro us r h e;rw[h.of0];exact⟨List.any_toArray.trans (show false=r from Ga e),λ_ h=>nomatch h⟩
 |cons v vs ih=>
  intro us r h e
  refine zy (h.ofCons) λu us rq2 hv hs=>?_;subst rq2
  have hy:∃y,v= .str y:=by rcases v<;>first|exact nn e|exact⟨_,rfl⟩
  refine zh (hy) ?_;clear hy;intro y rq1;subst rq1
  refine zh (hv.ofStr) λt rq1=>?_;subst rq1
  refine za (GD.mp e) λq hq rq2=>?_;subst rq2
  refine zf (ih hs hq) λh1 h2=>?_
  refine⟨?_,λz hz=>?_⟩
  ·have h3:(Value.str (strL y) t).isStr (strL x)=eqS x y:=by
    rw[Kw,Xr];rfl
   rw[List.any_toArray] at h1 ⊢
   rw[Fj,h1,h3]
  ·rcases Gh.mp hz with rfl|hz
   ·exact⟨y,t,rfl⟩
   ·exact h2 z hz
theorem inS_dec(c:Nat):∀l:List Nat,inS c l=decide (c∈l):=by
 intro l
 induction l with
 |nil=>exact(decide_eq_false GN).symm
 |cons x r ih=>
  show(match Gg x c with|true=>true|false=>inS c r)=_
  rcases h:Gg x c with _|_
  ·refine ih.trans (Bool.eq_iff_iff.mpr ?_)
   rw[decide_eq_true_eq,decide_eq_true_eq,Gh]
   exact⟨.inr,λq=>q.resolve_left (Ne.symm (Dd h))⟩
  ·exact(decide_eq_true (Gh.mpr (.inl (Go h).symm))).symm
theorem Xe{es:List (List Nat×V)}{kvs:List (Str×Value)}(k:List Nat)(h:KVs T E ρ es kvs):(getD k es=none/\valueAt kvs (strL k)=none)∨∃v u,getD k es=some v/\valueAt kvs (strL k)=some u/\VR T E ρ v u:=by
 induction h with
 |nil=>exact .inl ⟨rfl,rfl⟩
 |@cons x v u fs es hv hs ih=>
  unfold getD
  induction q:eqS x k using GF with
  |true=>
   obtain rfl:=eqS_iff.mp q
   refine .inr ⟨v,u,rfl,?_,hv⟩
   simp[valueAt]
  |false=>
   have hne:¬strL x=strL k:=by
    rw[jO]
    intro e
    rw[eqS_iff.mpr e] at q
    cases q
   have:valueAt ((strL x,u)::es) (strL k)=valueAt es (strL k):=by simp[valueAt,hne]
   rw[this]
   exact ih
theorem XI{v:V}{u:Value}{r:Bool}(h:VR T E ρ v u)(e:XJ v=some r):plainIs u .none=true/\(u==.none)=r:=by
 rcases h<;>exact⟨rfl,Ga e⟩
theorem ltS_iff:∀{a b:List Nat},ltS a b=true↔a < b:=by
 intro a
 induction a with
 |nil=>
  intro xx
  rcases xx with _|⟨y,ys⟩
  ·exact⟨λh=>absurd h G3,λh=>absurd h (List.lt_irrefl _)⟩
  ·exact⟨λ_=>List.nil_lt_cons y ys,λ_=>rfl⟩
 |cons a as ih=>
  intro xx
  rcases xx with _|⟨b,bs⟩
  ·exact⟨λh=>absurd h G3,λh=>absurd h (List.not_lt_nil _)⟩
  ·rw[List.cons_lt_cons_iff]
   show(match Gz a b with|true=>true|false=>match Gg a b with|true=>ltS as bs|false=>false)=true↔_
   rcases h:Gz a b with _|_
   ·have h1:¬a < b:=λq=>absurd ((DS.mpr q).symm.trans h) (λe=>G3 e.symm)
    rcases h':Gg a b with _|_
    ·exact⟨λh=>absurd h G3,λh=>h.elim (λq=>absurd q h1) λq=>absurd q.1 (Dd h')⟩
    ·exact⟨λh=>.inr ⟨Go h',ih.mp h⟩,λh=>h.elim (λq=>absurd q h1) λq=>ih.mpr q.2⟩
   ·exact⟨λ_=>.inl (DS.mp h),λ_=>rfl⟩
inductive InC (H:Hp) (x:List Nat) (q:Bool):V->Prop
 |str (c:Nat) (y:List Nat):x=[c]->inS c y=q->InC H x q (.str y)
 |tup (vs:List V):inVs x vs=some q->InC H x q (.tup vs)
 |lst (i:Nat) (vs:List V):H[i]?=some (.list vs)->inVs x vs=some q->InC H x q (.obj i)
 |dct (i:Nat) (es:List (List Nat×V)):H[i]?=some (.dict es)->(getD x es).isSome=q->InC H x q (.obj i)
theorem isin_iff{a b:V}{q:Bool}(e:isin a b H=some q):∃x,a= .str x/\InC H x q b:=by
 refine za (oS_iff e) ?_;clear e;intro x rq1 e;subst rq1
 refine⟨x,rfl,?_⟩
 induction b using V.casesOn with
 |str y=>rcases x with _|⟨c,_|⟨c2,r⟩⟩<;>first|exact nn e|exact .str c y rfl (Ga e)
 |obj i=>
  have e:(match H[i]? with|some (.list vs)=>inVs x vs|some (.dict es)=>some (getD x es).isSome|_=>none)=some q:=e
  induction h:H[i]? using Gq with
  |none=>rw[h] at e;exact nn e
  |some o=>
   rw[h] at e
   rcases o<;>first|exact nn e|exact .lst i _ h e|exact .dct i _ h (Ga e)
 |tup vs=>exact .tup _ e
 |_=>exact nn e
theorem kT{x y:V}{a b:Value}{q:Bool}(C:c.Ok T d)(R:c.Rep T H ρ E s.heap)(hx:VR T E ρ x a)(hy:VR T E ρ y b)(e:isin x y H=some q){P:Value->Shared->Prop} :
  ((∀tk,P (.bool q) {s with toks:=tk})->wpAny (model T.prog T.w) A (compareOp .In a b) P Er s)/\((∀tk,P (.bool (!q)) {s with toks:=tk})->wpAny (model T.prog T.w) A (compareOp .NotIn a b) P Er s):=by
 refine za (isin_iff e) λx rq1 ic=>?_;subst rq1
 clear e
 refine zh (hx.ofStr) λt rq1=>?_;subst rq1
 have he:∀{us:List Value},(∀y,y∈us->∃(l:List Nat) (t:Tok),y= .str (strL l) t)->∀z,z∈us.toArray->∀t,EqAt A.in1 s z (.str (strL x) t) (z.isStr (strL x)):=by
  intro us h2 z hz t
  refine Jo (h2 z (List.mem_toArray.mp hz)) λl t' rq2=>?_;subst rq2
  exact EqAt.str_str _ _ _ _
 cases ic with
 |str cc y' hx e=>
  subst hx
  refine zh (hy.ofStr) λt' rq1=>?_;subst rq1
  have key:(!(Builtin.Str.occurrences (strL y') (strL [cc]) 0 (F0 (strL y')) 1).isEmpty)=q:=by
   rw[←e]
   exact(StrLaws.found_one ..).trans (inS_dec ..).symm
  refine⟨λh=>in_str ?_,λh=>notIn_str ?_⟩
  ·have:=h s.toks
   rw[←key] at this;exact this
  ·have:=h s.toks
   rw[←key] at this;exact this
 |tup vs e=>
  refine zy (hy.ofTup) λus aa rq2 ht hv=>?_;subst rq2
  have ht':=R.isTup C.X ht
  refine zf (J7 hv e) λh1 h2=>?_
  refine⟨λh=>in_tupleAt (λu=>u.isStr (strL x)) ht' (λz hz=>he h2 z hz _) ?_,λh=>notIn_tupleAt (λu=>u.isStr (strL x)) ht' (λz hz=>he h2 z hz _) ?_⟩<;>rw[h1]<;>exact h s.toks
 |lst i vs e1 e=>
  refine zl (hy.ofObj) λaa dd rq2 hi=>?_;subst rq2
  refine yt (R.isList e1 hi) λus n hm hl hv hn=>?_
  refine zf (J7 hv e) λh1 h2=>?_
  refine⟨λh=>in_listAt (λu=>u.isStr (strL x)) hl (λz hz=>he h2 z hz _) ?_,λh=>notIn_listAt (λu=>u.isStr (strL x)) hl (λz hz=>he h2 z hz _) ?_⟩<;>rw[h1]<;>exact h s.toks
 |dct i es e1 e=>
  refine zl (hy.ofObj) λaa dd rq2 hi=>?_;subst rq2
  refine Y9 (R.objAt e1 hi) λo kvs hm hd hv hn hs=>?_
  have hD:=(Heap.dictOf_iff.mpr ⟨o,R.inNews hm,hd.of⟩:s.heap.DictOf (strKind T.prog T.w) aa kvs)
  have key:(valueAt kvs (strL x)).isSome=q:=by
   rw[←e]
   rcases Xe x hv with⟨p1,p2⟩|⟨v,u,p1,p2,_⟩
   ·rw[p1,p2];rfl
   ·rw[p1,p2];rfl
  refine⟨λh=>wpAny_in_of (strKind_is T.prog T.w _ _) hs hD.mapOf ?_,λh=>wpAny_notIn_of (strKind_is T.prog T.w _ _) hs hD.mapOf ?_⟩
  ·show P (.bool (valueAt kvs (strL x)).isSome) _
   rw[key];exact h _
  ·show P (.bool (!(valueAt kvs (strL x)).isSome)) _
   rw[key];exact h _
noncomputable def coOf:Co->CmpOp
 |.eq=>.Eq|.ne=>.NotEq|.lt=>.Lt|.le=>.LtE|.gt=>.Gt|.ge=>.GtE|.is=>.Is|.isnot=>.IsNot|.isin=>.In|.notin=>.NotIn
theorem coIs_of{o:Co}{op:CmpOp}(h:coIs o op=true):op=coOf o:=by rcases o<;>rcases op<;>first|rfl|exact absurd h G3
theorem jV{v:V}(h:jo v=true):v= .none:=by rcases v<;>first|rfl|exact absurd h G3
theorem leO_iff{a b:V}{q:Bool}(e:leO a b=some q):(∃x y,a= .int x/\b= .int y/\decide (x<=y)=q)∨∃x y,a= .str x/\b= .str y/\(!ltS y x)=q:=by
 induction a using V.casesOn with
 |int x=>
  obtain⟨y,rfl,e⟩:=Ye (f:=λy=>some (decide (x<=y))) e
  exact .inl ⟨_,y,rfl,rfl,Ga e⟩
 |str x=>
  obtain⟨y,rfl,e⟩:=oS_iff (f:=λy=>some (!ltS y x)) e
  exact .inr ⟨_,y,rfl,rfl,Ga e⟩
 |_=>exact nn e
theorem yI{o:Co}{op:CmpOp}(hop:coIs o op=true){x y:V}{a b:Value}{q:Bool}(C:c.Ok T d)(R:c.Rep T H ρ E s.heap)(hu:A.units+1 < cLine)(hx:VR T E ρ x a)(hy:VR T E ρ y b)(e:zW o x y H=some q)
  {P:Value->Shared->Prop} (h:∀tk,P (.bool q) {s with toks:=tk}):wpAny (model T.prog T.w) A (compareOp op a b) P Er s:=by
 have hu1:A.units < cLine:=Nat.lt_of_succ_lt hu
 obtain rfl:=coIs_of hop
 clear hop
 induction o using Co.casesOn with
 |eq=>exact cmp_ofEq ((kU C R hu1 hx hy e).1 _ _ _ _ (h s.toks))
 |ne=>
  refine za (GD.mp e) λr hr rq2=>?_;subst rq2
  exact cmp_ofNotEq ((kU C R hu1 hx hy hr).2 _ _ _ _ (h s.toks))
 |lt=>
  refine za (Ye e) ?_;clear e;intro i rq1 e;subst rq1
  refine za (Ye e) ?_;clear e;intro j rq1 e;subst rq1
  obtain rfl:=Ga e
  refine zh (hx.ofInt) λt rq1=>?_;subst rq1
  refine zh (hy.ofInt) λt' rq1=>?_;subst rq1
  exact PyProof.Rows.lt_int (h s.toks)
 |le=>
  replace e:=leO_iff e
  rcases e with⟨i,j,rfl,rfl,rfl⟩|⟨i,j,rfl,rfl,rfl⟩
  ·refine zh (hx.ofInt) λt rq1=>?_;subst rq1
   refine zh (hy.ofInt) λt' rq1=>?_;subst rq1
   exact PyProof.Rows.le_int (h s.toks)
  ·refine zh (hx.ofStr) λt rq1=>?_;subst rq1
   refine zh (hy.ofStr) λt' rq1=>?_;subst rq1
   refine PySem.P.le_str ?_
   have:(decide (j < i):Bool)=ltS j i:=by
    rw[Bool.eq_iff_iff,decide_eq_true_eq,ltS_iff]
   have z:=h s.toks
   rw[←this] at z
   exact z
 |gt=>
  refine za (Ye e) ?_;clear e;intro i rq1 e;subst rq1
  refine za (Ye e) ?_;clear e;intro j rq1 e;subst rq1
  obtain rfl:=Ga e
  refine zh (hx.ofInt) λt rq1=>?_;subst rq1
  refine zh (hy.ofInt) λt' rq1=>?_;subst rq1
  exact PyProof.Rows.gt_int (h s.toks)
 |ge=>
  refine za (Ye e) ?_;clear e;intro i rq1 e;subst rq1
  refine za (Ye e) ?_;clear e;intro j rq1 e;subst rq1
  obtain rfl:=Ga e
  refine zh (hx.ofInt) λt rq1=>?_;subst rq1
  refine zh (hy.ofInt) λt' rq1=>?_;subst rq1
  exact PyProof.Rows.ge_int (h s.toks)
 |is=>
  have e:(match jo y with|true=>XJ x|false=>none)=some q:=e
  induction hn:jo y using GF with
  |false=>rw[hn] at e;exact nn e
  |true=>
   rw[hn] at e
   rw[jV hn] at hy
   rw[hy.ofNone]
   refine zf (XI hx e) λh1 h2=>?_
   exact wpAny_is_plain h1 (by rw[h2];exact h s.toks)
 |isnot=>
  have e:(match jo y with|true=>(XJ x).map (!·)|false=>none)=some q:=e
  induction hn:jo y using GF with
  |false=>rw[hn] at e;exact nn e
  |true=>
   rw[hn] at e
   rw[jV hn] at hy
   rw[hy.ofNone]
   refine za (GD.mp e) λr hr rq2=>?_;subst rq2
   refine zf (XI hx hr) λh1 h2=>?_
   exact wpAny_isNot_plain h1 (by rw[h2];exact h s.toks)
 |isin=>exact(kT C R hx hy e).1 h
 |notin=>
  refine za (GD.mp e) λr hr rq2=>?_;subst rq2
  exact(kT C R hx hy hr).2 h
theorem k6{v:V}{b:Bool}(e:yu v H=some b):v= .bool b∨(v= .none/\b=false)∨∃i vs,v= .obj i/\H[i]?=some (.list vs)/\(match vs with|[]=>false|_=>true)=b:=by
 induction v using V.casesOn with
 |none=>exact .inr (.inl ⟨rfl,(Ga e).symm⟩)
 |bool x=>exact .inl (congrArg V.bool (Ga e))
 |obj i=>
  have e:(match H[i]? with|some (.list vs)=>some (match vs with|[]=>false|_=>true)|_=>none)=some b:=e
  induction h:H[i]? using Gq with
  |none=>rw[h] at e;exact nn e
  |some o=>
   rw[h] at e
   rcases o<;>first|exact nn e|exact .inr (.inr ⟨i,_,rfl,h,Ga e⟩)
 |_=>exact nn e
theorem Z4{v:V}{u:Value}{b:Bool}{K:Bool->Shared->Prop}(R:c.Rep T H ρ E s.heap)(hv:VR T E ρ v u)(e:yu v H=some b)(h:∀tk,K b {s with toks:=tk}):wpAny (model prog w) A (truthy u) K Er s:=by
 replace e:=k6 e
 rcases e with rfl|⟨rfl,rfl⟩|⟨i,vs,rfl,e1,rfl⟩
 ·rw[hv.ofBool];exact wpAny_truthy_bool (h s.toks)
 ·rw[hv.ofNone];exact truthy_none (h s.toks)
 ·refine zl (hv.ofObj) λa dd rq2 hi=>?_;subst rq2
  refine yt (R.isList e1 hi) λus n hm hl hv hn=>?_
  refine wpAny_truthy_list hl (by have:=hv.length;simp only[lim] at hn;rw[Gv];exact om17 hn this) ?_
  cases hv
  ·exact h _
  ·exact h _
theorem Xw{j:Int}{n k:Nat}(h:j=(k:Int))(l:k < n):(if (decide (0<=j) && decide (j < (n:Int)))=true then some j.toNat else none)=some k:=by
 subst h
 exact if_pos (Gs.mpr ⟨decide_eq_true (GO k),decide_eq_true (Dk.mpr l)⟩)
theorem YK{k n:Nat}(h:k < n):seqIndex? (.ofNat k) n=some k:=Xw (if_neg (DR.mpr (GO k))) h
theorem Js{k n:Nat}(h:k < n):seqIndex? (.negSucc k) n=some (n - (k+1)):=
 Xw ((if_pos (Fu k)).trans ((Int.add_comm _ _).trans (Int.ofNat_sub h).symm)) (Nat.sub_lt (GY (D7 k) h) (Nat.succ_pos k))
set_option tactic.hygienic true in
theorem atV_ok{vs:List V}{us:List Value}{i:Int}{v:V}(hv:VRs T E ρ vs us)(hl:vs.length<=lim)(e:atV vs i=some v):∃j u,seqIndex? i us.length=some j/\us[j]?=some u/\VR T E ρ v u/\-(2 ^ 63)<=i/\i < 2 ^ 63:=by
 unfold atV at e
 have hle:=hv.length
 simp only[lim] at hl
 split at e
 ·rename_i k
  have hk:=(List.getElem?_eq_some_iff.mp e).1
  refine za (hv.at e) λu hu hr=>?_
  refine⟨k,u,YK (om12 hle hk),hu,hr,?_,?_⟩
  ·have:(0:Int)<=Gx k:=Int.ofNat_nonneg k
   exact om14 this
  ·have:(Gx k)=(k:Int):=rfl
   exact om15 hl hk this
 ·rename_i k
  split at e
  ·rename_i hb
   have hk:k < vs.length:=by simpa [DS] using hb
   refine za (hv.at e) λu hu hr=>?_
   have h2:(FJ k)=-((k:Int)+1):=by exact om11
   refine⟨us.length - (k+1),u,Js (om12 hle hk),by rw[←hle];exact hu,hr,zneg (G5 (GL hk) hl),by exact om16⟩
  ·cases e
theorem yW{e:G4}(h:Zq e=true)(o i:Value):subscripted e false o i=operate [o,i] (getItem o i):=by
 rcases e<;>first|rfl|exact absurd h G3
theorem idx_ok{va sl:G4}(hsl:Zq sl=true){x y:V}{a b:Value}{K:V->Prop}(C:c.Ok T d)(R:c.Rep T H ρ E s.heap)(hx:VR T E ρ x a)(hy:VR T E ρ y b)(e:idx x y H K){P:Value->Shared->Prop}
  (h:∀u v tk,VR T E ρ v u->K v->P u {s with toks:=tk}):wpAny (model T.prog T.w) A (subscriptTail va sl a b) P Er s:=by
 replace e:=idx_iff e
 rcases e with⟨vs,i,v,rfl,rfl,e1,hat,e⟩|⟨x,i,cc,rfl,rfl,e1,hc,e⟩|⟨j,vs,i,v,rfl,rfl,e1,hat,e⟩|⟨j,es,x,v,rfl,rfl,e1,hg,e⟩
 ·refine zy (hx.ofTup) λus aa rq2 ht hv=>?_;subst rq2
  refine zh (hy.ofInt) λt rq1=>?_;subst rq1
  refine Y9 (atV_ok hv (natB.mp e1) hat) λj u hj hu hr h1 h2=>?_
  exact item_tupleT (R.isTup C.X ht) h1 h2 hj hu (h u v s.toks hr e) (yW hsl _ _)
 ·refine zh (hx.ofStr) λt rq1=>?_;subst rq1
  refine zh (hy.ofInt) λt' rq1=>?_;subst rq1
  have hl:x.length<=1000:=natB.mp e1
  have hi:i < x.length:=(List.getElem?_eq_some_iff.mp hc).1
  have hz:(Gx i)=(i:Int):=rfl
  refine tail_any (typeIs_str _ _ _) slot_str_getitem.lookup (PyProof.Rows.getItem_str (c:=cc) ?_ ?_ ?_) (yW hsl _ _)
  ·rw[Dz];exact⟨decide_eq_false (om34 hz),decide_eq_false (om35 hl hi hz)⟩
  ·rw[zK,YK hi]
   show x.toArray[i]?=some cc
   exact List.getElem?_toArray.trans hc
  ·exact h _ _ _ (.str [cc] _) e
 ·refine zl (hx.ofObj) λaa dd rq2 hj=>?_;subst rq2
  refine zh (hy.ofInt) λt rq1=>?_;subst rq1
  refine yt (R.isList e1 hj) λus n hm hl hv hn=>?_
  refine Y9 (atV_ok hv hn hat) λk u hk hu hr h1 h2=>?_
  by_cases h0:i < 0
  ·exact kde_neg hl h0 h1 hk hu (h u v s.toks hr e) (yW hsl _ _)
  ·have hk':us[i.toNat]?=some u:=by
    unfold seqIndex? at hk
    simp only[h0,if_false] at hk
    split at hk
    ·cases hk;exact hu
    ·cases hk
   exact tail_any hl.typeIs slot_list_getitem.lookup (wpAny_getItem_list hl (DR.mp h0) h2 (List.getElem?_toArray.trans hk') (h u v s.toks hr e)) (yW hsl _ _)
 ·refine zl (hx.ofObj) λaa dd rq2 hj=>?_;subst rq2
  refine zh (hy.ofStr) λt rq1=>?_;subst rq1
  refine Y9 (R.objAt e1 hj) λo kvs hm hd hv hn hs=>?_
  have hD:=(Heap.dictOf_iff.mpr ⟨o,R.inNews hm,hd.of⟩:s.heap.DictOf (strKind T.prog T.w) aa kvs)
  rcases Xe x hv with⟨p1,p2⟩|⟨v',u,p1,p2,hr⟩
  ·rw[p1] at hg;cases hg
  ·rw[p1] at hg;cases hg
   exact tail_any hD.typeIs slot_dict_getitem.lookup (wpAny_getItem_of (strKind_is T.prog T.w _ _) hD.mapOf p2 (h u _ _ hr e)) (yW hsl _ _)
theorem YZ{α:Type}(l:List α)(k:Nat):l.take (min k l.length)=l.take k:=by
 by_cases h:k<=l.length
 ·rw[DY h]
 ·rw[Fi (om13 h),List.take_of_length_le (Gi _),List.take_of_length_le (om13 h)]
theorem XA{us:List Value}(k:Int):kms_pick us none (some k)=us.take (Yz us.length k):=by
 unfold kms_pick kms_lo kms_hi Yz
 cases k with
 |ofNat i=>
  have:¬(Gx i < 0):=DR.mpr (GO i)
  simp only[this,if_false,Fz,Nat.sub_zero]
  exact YZ us i
 |negSucc i=>
  have:FJ i < 0:=Fu i
  simp only[this,if_true,Fz,Nat.sub_zero]
  congr 1
theorem clampN(i n:Nat):max (0:Int) (min (i:Int) (n:Int))=((min i n:Nat):Int):=by
 rw[Fg (Int.le_min.mpr ⟨GO i,GO n⟩)]
 rcases Nat.le_total i n with h|h
 ·rw[DY h,Int.min_eq_left (Db.mpr h)]
 ·rw[Fi h,Int.min_eq_right (Db.mpr h)]
theorem sliceN(i j n:Nat):Du (some (i:Int)) (some (j:Int)) 1 n=Du (some ((min i n:Nat):Int)) (some ((min j n:Nat):Int)) 1 n:=by
 have nn:∀k:Nat,¬((k:Int) < 0):=λk=>DR.mpr (GO k)
 unfold Du
 have h1:(1:Int) > 0:=Int.zero_lt_one
 simp only[nn,if_false,h1,if_true,clampN,Nat.min_assoc,Nat.min_self]
theorem cut_min{x:List Nat}{i j:Nat}:(x.drop (min i x.length)).take (min j x.length - min i x.length)=cut i j x:=by
 show _=(x.take j).drop i
 rw[List.drop_take]
 by_cases h:i<=x.length
 ·rw[DY h,←Nat.sub_min_sub_right,←Dv]
  exact YZ _ _
 ·have h:=GL (Nat.not_le.mp h)
  rw[Fi h,DM (Gi _),DM h,FN,FN]
theorem cutS{x:List Nat}{i j:Nat}(h:i<=j):Txt.slice ⟨x.toArray⟩ (some (.ofNat i)) (some (.ofNat j))=strL (cut i j x):=by
 have e2:Txt.slice ⟨x.toArray⟩ (some (.ofNat i)) (some (.ofNat j))=Txt.slice ⟨x.toArray⟩ (some ((min i x.length:Nat):Int)) (some ((min j x.length:Nat):Int)):=by
  unfold Txt.slice
  rw[show(F0 ⟨x.toArray⟩)=x.length from zK x,show Du (some (.ofNat i)) (some (.ofNat j)) 1 x.length=_ from sliceN i j x.length]
 have le1:min i x.length<=min j x.length:=Nat.le_min.mpr ⟨G5 (Nat.min_le_left _ _) h,Nat.min_le_right _ _⟩
 have e3:=slice_closes (x:=⟨x.toArray⟩) (i:=((min i x.length:Nat):Int)) (j:=((min j x.length:Nat):Int)) ⟨GO _,Db.mpr le1,Db.mpr (Nat.min_le_right _ _)⟩
 rw[e2,beq_iff_eq.mp e3]
 rw[←cut_min,Int.toNat_natCast,Int.toNat_sub]
 rfl
theorem IntsAre.vrs:∀{vs:List Value} {ns:List Int},IntsAre vs ns->VRs T E ρ (ns.map .int) vs:=by
 intro vs
 induction vs with
 |nil=>
  intro xx h
  rcases xx with _|⟨_,_⟩
  ·exact .nil
  ·exact by cases h
 |cons v vs ih=>
  intro xx h
  rcases xx with _|⟨n,ns⟩
  ·exact by cases h
  ·refine zl (IntsAre.cons_inv h) λt vs' e h'=>?_
   cases e
   exact .cons (.int _ _) (ih h')
theorem slice_ok{va:G4}{lo up:Option G4}{p:Pos}{x:V}{a:Value}{K:V->Hp->Prop}{y z:V}{l u:Value}(C:c.Ok T d)(R:c.Rep T H ρ E s.heap)(hx:VR T E ρ x a)(hy:VR T E ρ y l)(hz:VR T E ρ z u)(e:slice T.ns x y z H K) :
  wpAny (model prog w) A (subscriptTail va (.Slice lo up none p) a (.ref s.heap.objs.size)) (Post T c s ρ E K) Er {s with heap:=s.heap.push {cls:=.type "slice",data:=.fields #[l,u,.none]}}:=by
 refine za (R.N) λtb hb N=>?_
 replace e:=ke e
 rcases e with⟨x,i,j,rfl,rfl,rfl,e1,e⟩|⟨i,vs,h,rfl,rfl,rfl,e1,e⟩|⟨k,rfl,rfl,rfl,e1,e⟩
 ·refine zh (hx.ofStr) λt rq1=>?_;subst rq1
  refine zh (hy.ofInt) λt1 rq1=>?_;subst rq1
  refine zh (hz.ofInt) λt2 rq1=>?_;subst rq1
  refine zf (Gs.mp e1) ?_;clear e1;intro e1 e2
  have h1:=natB.mp e1
  have h2:=natB.mp e2
  have h3:(F0 (strL x))<=sizeLine:=by rw[sizeLine_eq,zK];exact ot1 h2
  obtain⟨T',id',q1,q2,q3⟩:=SBH.sliceItem_ss (prog:=prog) (w:=w) (A:=A) (E:=Er) (x:=strL x) (t:=t) (i:=.ofNat i) (j:=.ofNat j) (ui:=t1) (uj:=t2) (s:=s) (Q:=Post T c s ρ E K) keptFrN ⟨R.F,N⟩ (λh' t' k hh=>by
   refine zf (hh) ?_;clear hh;intro F' N'
   rw[show Txt.slice (strL x) (some (.ofNat i)) (some (.ofNat j))=strL (cut i j x) from cutS h1]
   exact⟨h',k,_,H,ρ,E,rfl,⟨F',⟨tb,hb,N'⟩,R.nd,R.len,R.enc,R.ft⟩,Ext.refl _ _,.str _ _,e⟩) h3
  exact tail_any q2 q1 q3 rfl
 ·refine zl (hx.ofObj) λaa dd rq2 hi=>?_;subst rq2
  rw[hy.ofNone]
  refine zh (hz.ofInt) λt rq1=>?_;subst rq1
  ·refine yt (R.isList e1 hi) λus n hm hl hv hn=>?_
   have hsz:us.toArray.size<=sizeLine:=by rw[sizeLine_eq,Gv,←hv.length];simp only[lim] at hn;exact om39 hn
   have hl':=hl.push ({cls:=.type "slice",data:=.fields #[.none,.int h t,.none]}:Obj)
   refine tail_any (FB (s:={s with heap:=s.heap.push {cls:=.type "slice",data:=.fields #[.none,.int h t,.none]}}) hl') list_getitem_lookup
    (wpAny_getItem_list_slice hl' (FC ..) .none (.int _ _) .none (by simp) ?_ hsz) rfl
   have N1:=News.push (R.F.push {cls:=.type "slice",data:=.fields #[.none,.int h t,.none]}) (N.grown λ_ _ e=>Heap.get?_push_of_some _ e) {cls:=.type "list",data:=.seq (slicePick us.toArray none (some h) none)}
   have hp:slicePick us.toArray none (some h) none=(us.take (Yz us.length h)).toArray:=by
    rw[kms_pick_eq,Dr,XA]
   rw[hp] at N1 ⊢
   refine zC (R.newL (n:=0) hb (hv.take (Yz us.length h)) (by simp only[lim,DU] at hn ⊢;exact om40 hn) ((R.F.push _).push _) N1 (λp hp=>GR (yD N p hp) (by rw[FD];exact D4 _))) λR' x' hr=>?_
   rw[hv.length] at e
   exact⟨_,s.toks,_,_,_,_,rfl,R',x',.obj hr,e⟩
 ·rw[hx.ofScr,hy.ofNone]
  refine zh (hz.ofInt) λt rq1=>?_;subst rq1
  have hk:=natB.mp e1
  refine yQ (C.scr) λus hl0 hi hns=>?_
  have hl:s.heap.IsList T.scr us.toArray:=hl0.at λo e=>R.F.keep _ o e
  have hsz:us.toArray.size<=sizeLine:=by rw[sizeLine_eq,Gv,hi.length];exact om42 hns
  have hl':=hl.push ({cls:=.type "slice",data:=.fields #[.none,.int (.ofNat k) t,.none]}:Obj)
  refine tail_any (FB (s:={s with heap:=s.heap.push {cls:=.type "slice",data:=.fields #[.none,.int (.ofNat k) t,.none]}}) hl') list_getitem_lookup
   (wpAny_getItem_list_slice hl' (FC ..) .none (.int _ _) .none (by simp) ?_ hsz) rfl
  have N1:=News.push (R.F.push {cls:=.type "slice",data:=.fields #[.none,.int (.ofNat k) t,.none]}) (N.grown λ_ _ e=>Heap.get?_push_of_some _ e) {cls:=.type "list",data:=.seq (slicePick us.toArray none (some (.ofNat k)) none)}
  have hp:slicePick us.toArray none (some (.ofNat k)) none=(us.take k).toArray:=by
   rw[kms_pick_eq,Dr,XA];rfl
  rw[hp] at N1 ⊢
  refine zC (R.newL (n:=0) hb (IntsAre.vrs (hi.take k)) (by rw[Gm,DU];exact G5 (Nat.min_le_left ..) hk) ((R.F.push _).push _) N1 (λp hp=>GR (yD N p hp) (by rw[FD];exact D4 _))) λR' x' hr=>?_
  exact⟨_,s.toks,_,_,_,_,rfl,R',x',.obj hr,e⟩
theorem rev_ok{va st:G4}{p:Pos}{i:Nat}{a aa:Addr}{K:V->Hp->Prop}{vs:List V}{tk:Tok}(R:c.Rep T H ρ E s.heap)(hi:ρ[i]?=some (a,aa))(e1:H[i]?=some (.list vs))(e:K (.obj H.length) (H++[.list vs.reverse])) :
  wpAny (model prog w) A (subscriptTail va (.Slice none none (some st) p) (.ref a) (.ref s.heap.objs.size)) (Post T c s ρ E K) Er {s with heap:=s.heap.push {cls:=.type "slice",data:=.fields #[.none,.none,.int (-1) tk]}}:=by
 refine za (R.N) λtb hb N=>?_
 refine yt (R.isList e1 hi) λus n hm hl hv hn=>?_
 have hsz:us.toArray.size<=sizeLine:=by rw[sizeLine_eq,Gv,←hv.length];simp only[lim] at hn;exact om39 hn
 have hl':=hl.push ({cls:=.type "slice",data:=.fields #[.none,.none,.int (-1) tk]}:Obj)
 refine tail_any (FB (s:={s with heap:=s.heap.push {cls:=.type "slice",data:=.fields #[.none,.none,.int (-1) tk]}}) hl') list_getitem_lookup
  (wpAny_getItem_list_slice hl' (FC ..) .none .none (.int (-1) _) (by decide) ?_ hsz) (ops:=[.ref a,.ref s.heap.objs.size]) rfl
 have N1:=News.push (R.F.push {cls:=.type "slice",data:=.fields #[.none,.none,.int (-1) tk]}) (N.grown λ_ _ e=>Heap.get?_push_of_some _ e) {cls:=.type "list",data:=.seq (slicePick us.toArray none none (some (-1)))}
 rw[krv_pick,Dr] at N1 ⊢
 refine zC (R.newL (n:=0) hb hv.reverse (by simpa using hn) ((R.F.push _).push _) N1 (λp hp=>GR (yD N p hp) (by rw[FD];exact D4 _))) λR' x' hr=>?_
 exact⟨_,s.toks,_,_,_,_,rfl,R',x',.obj hr,e⟩
noncomputable def bfVal:Bf->Value
 |.len=>.builtin "len"|.int=>.type "int"|.str=>.type "str"|.sum=>.builtin "sum"|.tuple=>.type "tuple"|.max=>.builtin "max"|.chr=>.builtin "chr"|.ord=>.builtin "ord"|.list=>.type "list"|.range=>.type "range"
theorem bfBoot(b:Bf):bootBuiltins (bfName b)=some (bfVal b):=by
 rcases b<;>kernel_rfl
theorem Rep.same(R:c.Rep T H ρ E s.heap){h':Heap}(F':Fr c.Un c.L h' c.m){tb:Obj}(hb:TbOk T E tb)(N':News c.Un c.L h' (E++(T.tab,tb)::c.G)):c.Rep T H ρ E h':=⟨F',⟨tb,hb,N'⟩,R.nd,R.len,R.enc,R.ft⟩
theorem jA:∀(s:List Nat) (a n:Nat),s.foldl (λa c=>match a with|none=>none|some n=>match G8 48 c && G8 c 57 with|true=>some (n*10+(c - 48))|false=>none) (some a)=some n->(∀c∈s,48<=c/\c<=57)/\s.foldl (λacc c=>acc*10+(c - 48)) a=n:=by
 intro s
 induction s with
 |nil=>
  intro a n h
  exact by simp at h;simp[h]
 |cons x r ih=>
  intro a n h
  rw[DO] at h
  induction q:G8 48 x && G8 x 57 using GF with
  |false=>
   exfalso
   simp only[q] at h
   have:∀(r:List Nat),r.foldl (λa c=>match a with|none=>none|some n=>match G8 48 c && G8 c 57 with|true=>some (n*10+(c - 48))|false=>none) (none:Option Nat)=none:=by
    intro r;induction r with
    |nil=>rfl
    |cons y r ih=>rw[DO];exact ih
   rw[this] at h;cases h
  |true=>
   simp only[q] at h
   refine zf (ih _ n h) λh1 h2=>?_
   rw[GS] at q
   refine⟨λc hc=>?_,by rw[DO];exact h2⟩
   rcases Gh.mp hc with rfl|hc
   ·exact⟨natB.mp q.1,natB.mp q.2⟩
   ·exact h1 c hc
theorem jz{s:List Nat}{n:Nat}(h:digits s=some n)(h1:1<=s.length)(h2:s.length<=4):PySem.intText? (⟨s.toArray⟩:Str)=some (n:Int):=by
 refine zf (jA s 0 n h) λa b=>?_
 have:=intText_digits (x:=⟨s.toArray⟩) (by show ∀c∈s.toArray.toList,_;simpa using a) (by intro e;simp at e;subst e;simp at h1) (by simp[F0];exact om19 h2)
 rw[this]
 simp only[PySem.NumText.digitsVal]
 rw[b]
set_option tactic.hygienic true in
theorem sumI_ok{vs:List V}{us:List Value}(h:VRs T E ρ vs us):∀{n:Int},sumI vs=some n->∃ns,IntsAre us ns/\ns.sum=n:=by
 refine h.ind (Pr:=λvs us=>∀{n:Int},sumI vs=some n->∃ns,IntsAre us ns/\ns.sum=n) (λe=>⟨[],.nil,Ga e⟩) ?_
 intro v u vs us h _ ih n e
 rcases h<;>try exact nn e
 rename_i i t
 refine za (GD.mp e) λm hm rq2=>?_;subst rq2
 refine za (ih hm) λns h1 h2=>?_
 exact⟨i::ns,.cons i t h1,congrArg (i+ ·) h2⟩
theorem Jy{i:Int}(h:i.natAbs < 1000000000):i.natAbs.log2 < 1920:=by
 by_cases z:i.natAbs=0
 ·rw[z];decide
 ·have:i.natAbs.log2 < 64:=(Nat.log2_lt z).mpr (om8 h)
  exact om18 this
theorem strOf_eq(i:Int):(⟨(zv i).toArray⟩:Str)=G0 (toString i):=by
 unfold zv
 generalize G0 (toString i)=x
 cases x;simp
theorem lenP_iff{a:V}{H:Hp}{Q:V->Hp->Prop}(h:lenP a H Q):(∃x,a= .str x/\G8 x.length 1000=true/\Q (.int x.length) H)∨∃i vs,a= .obj i/\H[i]?=some (.list vs)/\Q (.int vs.length) H:=by
 induction a using V.casesOn with
 |str x=>
  refine zf (gd_iff.mp (show gd (G8 x.length 1000) (Q (.int x.length) H) from h)) ?_;clear h;intro h1 h
  exact .inl ⟨x,rfl,h1,h⟩
 |obj i=>
  obtain⟨i,vs,e,e1,h⟩:=yl (v:=.obj i) (f:=λ_ vs=>Q (.int vs.length) H) h
  exact .inr ⟨i,vs,e,e1,h⟩
 |_=>exact h.elim
theorem kZ{a:V}{H:Hp}{Q:V->Hp->Prop}(h:intFP a H Q):(∃x,a= .int x/\Q (.int x) H)∨∃x n,a= .str x/\digits x=some n/\(G8 1 x.length && G8 x.length 4)=true/\Q (.int n) H:=by
 induction a using V.casesOn with
 |int x=>exact .inl ⟨x,rfl,h⟩
 |str x=>
  obtain⟨n,e,h⟩:=zp (f:=λ(n:Nat)=>gd (G8 1 x.length && G8 x.length 4) (Q (.int n) H)) h
  replace h:=gd_iff.mp h
  obtain⟨h1,h⟩:=h
  exact .inr ⟨x,n,rfl,e,h1,h⟩
 |_=>exact h.elim
theorem bfun_ok{b:Bf}{vs:List V}{us:List Value}(C:c.Ok T d)(R:c.Rep T H ρ E s.heap)(hv:VRs T E ρ vs us)(e:bfun b vs H Q):wpAny (model prog w) c.A (call (bfVal b) us) (Post T c s ρ E Q) Er s:=by
 refine za (R.N) λtb hb N=>?_
 induction b using Bf.casesOn with
 |len=>
  refine za (yc e) ?_;clear e;intro a rq1 e;subst rq1
  refine za (hv.of1) λu rq1 h=>?_;subst rq1
  replace e:=lenP_iff e
  rcases e with⟨x,rfl,e1,e⟩|⟨i,vs,rfl,e1,e⟩
  ·refine zh (h.ofStr) λt rq1=>?_;subst rq1
   refine PyProof.Rows.len_str (by rw[zK];exact Int.not_le.mpr (z63 (natB.mp e1))) ?_
   rw[zK]
   exact Post.here R (.int _ _) e
  ·refine zl (h.ofObj) λaa dd rq2 hi=>?_;subst rq2
   refine yt (R.isList e1 hi) λus n hm hl hv hn=>?_
   have z:us.toArray.size=vs.length:=by rw[Gv,hv.length]
   refine PyProof.Rows.len_list hl (by rw[z];simp only[lim] at hn;exact om20 hn) ?_
   rw[z]
   exact Post.here R (.int _ _) e
 |int=>
  refine za (yc e) ?_;clear e;intro a rq1 e;subst rq1
  refine za (hv.of1) λu rq1 h=>?_;subst rq1
  replace e:=kZ e
  rcases e with⟨x,rfl,e⟩|⟨x,n,rfl,hn,e1,e⟩
  ·refine zh (h.ofInt) λt rq1=>?_;subst rq1
   exact call_int_int (Post.at R (.int _ _) e)
  ·refine zh (h.ofStr) λt rq1=>?_;subst rq1
   refine zf (Gs.mp e1) λh1 h2=>?_
   have h1:=natB.mp h1
   have h2:=natB.mp h2
   exact KIN.call_text (x:=strL x) (jz hn h1 h2) (by rw[zK];exact G5 h2 (Gj rfl)) (Post.here R (.int _ _) e)
 |str=>
  refine za (yc e) ?_;clear e;intro a rq1 e;subst rq1
  refine za (hv.of1) λu rq1 h=>?_;subst rq1
  refine za (zA e) ?_;clear e;intro i rq1 e;subst rq1
  refine zh (h.ofInt) λt rq1=>?_;subst rq1
  refine zf (gd_iff.mp e) ?_;clear e;intro e1 e
  rw[DS] at e1
  refine PySem.P.str_of_int (Jy e1) ?_
  rw[←strOf_eq]
  exact Post.here R (.str _ _) e
 |sum=>
  refine za (yc e) ?_;clear e;intro a rq1 e;subst rq1
  refine za (hv.of1) λu rq1 h=>?_;subst rq1
  refine zy (yl e) ?_;clear e;intro i vs rq2 e1 e;subst rq2
  refine za (zp e) ?_;clear e;intro k hk e
  refine zl (h.ofObj) λaa dd rq2 hi=>?_;subst rq2
  refine yt (R.isList e1 hi) λus n hm hl hv hn=>?_
  refine za (sumI_ok hv hk) λns h1 rq2=>?_;subst rq2
  exact sumK C.hh R.F N hl h1 λh' tk t' F' N'=>⟨h',tk,_,H,ρ,E,rfl,R.same F' hb N',Ext.refl _ _,.int _ _,e⟩
 |tuple=>
  refine za (yc e) ?_;clear e;intro a rq1 e;subst rq1
  refine za (hv.of1) λu rq1 h=>?_;subst rq1
  refine za (jK e) ?_;clear e;intro vs rq1 e;subst rq1
  refine zy (h.ofTup) λus aa rq2 ht hvs=>?_;subst rq2
  exact call_tuple_tup (R.isTup C.X ht) (Post.at R (.tup ht hvs) e)
 |max=>
  refine zl (Y8 e) ?_;clear e;intro a b rq2 e;subst rq2
  refine zy (hv.of2) λu u' rq2 h h'=>?_;subst rq2
  refine za (zA e) ?_;clear e;intro a rq1 e;subst rq1
  refine za (zA e) ?_;clear e;intro b rq1 e;subst rq1
  refine zh (h.ofInt) λt rq1=>?_;subst rq1
  refine zh (h'.ofInt) λu rq1=>?_;subst rq1
  refine max_two_N C.hh R.F N λh' tk F' N'=>⟨h',tk,.int (max a b),H,ρ,E,rfl,R.same F' hb N',Ext.refl _ _,?_,e⟩
  have:max a b=if b > a then b else a:=by
   rcases Int.lt_or_le a b with h|h
   ·rw[if_pos h,Fg (Int.le_of_lt h)]
   ·rw[if_neg (DR.mpr h),Int.max_eq_left h]
  rw[this]
  exact .int _ _
 |chr=>
  refine za (yc e) ?_;clear e;intro a rq1 e;subst rq1
  refine za (hv.of1) λu rq1 h=>?_;subst rq1
  refine za (zA e) ?_;clear e;intro i rq1 e;subst rq1
  refine za (yw e) ?_;clear e;intro i rq1 e;subst rq1
  refine zh (h.ofInt) λt rq1=>?_;subst rq1
  refine zf (gd_iff.mp e) ?_;clear e;intro e1 e
  rw[DS] at e1
  refine PySem.P.chr_of_int (by rw[Dz];exact⟨decide_eq_false (by simp),decide_eq_false (by have:(Gx i)=(i:Int):=rfl;exact om21 e1 this)⟩) ?_
  exact Post.here R (.str [i] _) e
 |ord=>
  refine za (yc e) ?_;clear e;intro a rq1 e;subst rq1
  refine za (hv.of1) λu rq1 h=>?_;subst rq1
  refine za (yH e) ?_;clear e;intro x rq1 e;subst rq1
  refine zh (h.ofStr) λt rq1=>?_;subst rq1
  rcases x with _|⟨cc,_|⟨c2,r⟩⟩
  ·exact e.elim
  ·exact PySem.P.ord_of_char (Post.here R (.int _ _) e)
  ·exact e.elim
 |range=>
  refine za (yc e) ?_;clear e;intro a rq1 e;subst rq1
  refine za (hv.of1) λu rq1 h=>?_;subst rq1
  refine za (zA e) ?_;clear e;intro n rq1 e;subst rq1
  refine za (yw e) ?_;clear e;intro n rq1 e;subst rq1
  refine zh (h.ofInt) λt rq1=>?_;subst rq1
  refine zf (gd_iff.mp e) ?_;clear e;intro e1 e
  have h1:=natB.mp e1
  refine call_range_1 ?_
  refine zf (R.one (x:=s.heap.objs.size) (o:={cls:=.type "range",data:=.fields #[.int 0 s.toks,.int (.ofNat n) t,.int 1 (s.toks+1)]}) hb (R.F.push _) (News.push R.F N _) (yD N)) λR' x'=>?_
  exact⟨_,_,.rng n,H,ρ,_,rfl,R',x',.rng ⟨_,_,_,G9 ..⟩,e⟩
 |list=>exact e.elim
theorem updOf{D:Addr}{o o':Obj}:∀{pre post:Lg},(∀p∈pre,p.1≠D)->(∀p∈post,p.1≠D)->Upd D o o' (pre++(D,o)::post) (pre++(D,o')::post):=by
 intro pre
 induction pre with
 |nil=>
  intro y1 y2 h
  exact .head h
 |cons p pre ih=>
  intro y1 h1 h
  exact .tail (h1 p (G9 ..)) (ih (λq hq=>h1 q (Gd _ hq)) h)
theorem Rep.lst(R:c.Rep T H ρ E s.heap){i:Nat}{vs:List V}{a d:Addr}(e1:H[i]?=some (.list vs))(hi:ρ[i]?=some (a,d)):∃us n tb,TbOk T E tb/\News c.Un c.L s.heap (E++(T.tab,tb)::c.G)/\
  (a,DN us.toArray n)∈E/\s.heap.IsList a us.toArray/\VRs T E ρ vs us/\vs.length<=lim/\
  ∀vs' us' n',VRs T E ρ vs' us'->vs'.length<=lim->∃E',Upd a (DN us.toArray n) (DN us'.toArray n') (E++(T.tab,tb)::c.G) (E'++(T.tab,tb)::c.G)/\
   ∀h',Fr c.Un c.L h' c.m->News c.Un c.L h' (E'++(T.tab,tb)::c.G)->c.Rep T (H.set i (.list vs')) ρ E' h'/\Ext E ρ E' ρ:=by
 refine yt (R.isList e1 hi) λus n hm hl hv hn=>?_
 refine YD (R.split hm) λu5 u6 tb he hb N n1 n2=>?_
 refine⟨us,n,tb,hb,by rw[he];simpa using N,hm,hl,hv,hn,λvs' us' n' hv' hn'=>⟨u5++(a,DN us'.toArray n')::u6,?_,λh' F' N'=>?_⟩⟩
 ·rw[he]
  simp only[Gk,Di]
  exact updOf n1 n2
 ·refine R.put (o:=.list vs) (o':=.list vs') (x:=a) e1 hi (by simp[zS]) he hb rfl (λ_=>rfl) F' (by simpa using N') λx=>⟨us',n',by simp,hv'.ext x,hn'⟩
set_option tactic.hygienic true in
theorem strs_ok{vs:List V}{us:List Value}(h:VRs T E ρ vs us):∀{ws:List (List Nat)},Mn.strsL vs=some ws->StrsAre us (ws.map strL):=by
 refine h.ind (Pr:=λvs us=>∀{ws:List (List Nat)},Mn.strsL vs=some ws->StrsAre us (ws.map strL)) (λe=>Ga e▸.nil) ?_
 intro v u vs us h _ ih ws e
 rcases h<;>try exact nn e
 rename_i x t
 refine za (GD.mp e) λm hm rq2=>?_;subst rq2
 exact .cons _ _ (ih hm)
theorem J0(sep:List Nat):∀ws:List (List Nat),Str.join (strL sep) (ws.map strL)=strL (joinS sep ws)
 |[]=>rfl
 |[x]=>rfl
 |x::y::r=>by
  have ih:=J0 sep (y::r)
  simp only[GG] at ih ⊢
  show strL x++strL sep++Str.join (strL sep) (strL y::r.map strL)=_
  rw[ih,Zi,Zi]
  rfl
set_option tactic.hygienic true in
theorem JC(c:Nat):∀(l:List Nat) (i:Nat),(JD c l i=none/\c∉l)∨∃k,JD c l i=some (i+k)/\l[k]?=some c/\∀j,j < k->l[j]?≠some c:=by
 intro l
 induction l with
 |nil=>
  intro i
  exact .inl ⟨rfl,by simp⟩
 |cons x r ih=>
  intro i
  unfold JD
  split
  ·rename_i h
   have:=natE.mp h
   subst this
   exact .inr ⟨0,rfl,rfl,λj hj=>absurd hj (Nat.not_lt_zero _)⟩
  ·rename_i h
   have hne:=natEf.mp h
   rcases ih (i+1) with⟨h1,h2⟩|⟨k,h1,h2,h3⟩
   ·exact .inl ⟨h1,by simp[Ne.symm hne,h2]⟩
   ·refine .inr ⟨k+1,by rw[h1];congr 1;exact om22,by simpa using h2,λj hj=>?_⟩
    induction j using Nat.casesOn with
    |zero=>simpa using hne
    |succ j=>simpa using h3 j (om24 hj)
theorem find_eq(x:List Nat)(c i:Nat):Txt.find3 ⟨x.toArray⟩ ⟨#[c]⟩ (.ofNat i)=(match JD c (x.drop i) i with|some j=>(j:Int)|none=>-1):=by
 have hl:(F0 ⟨x.toArray⟩)=x.length:=by simp[F0]
 have gd':∀v,v < x.length->(x.toArray.getD v 0=c↔x[v]?=some c):=λv hv=>by
  simp[Array.getD,hv,List.getElem?_eq_getElem hv]
 have hf:fromIndex x.length (Gx i)=i:=by
  unfold fromIndex
  have:¬(Gx i < 0):=DR.mpr (GO i)
  rw[if_neg this]
  have:(Gx i)=(i:Int):=rfl
  exact om23 this
 have hd:∀j,(x.drop i)[j]?=x[i+j]?:=λj=>List.getElem?_drop
 rcases JC c (x.drop i) i with⟨g1,g2⟩|⟨k',g1,g2,g3⟩
 ·rw[g1]
  rcases StrLaws.find3_spec ⟨x.toArray⟩ c (.ofNat i) with⟨h1,h2⟩|⟨k,h1,h2,h3,h4,h5⟩<;>rw[hl] at *<;>rw[hf] at *<;>rw[h1]
  exfalso
  have hk:=(gd' k h3).mp h4
  refine g2 (List.mem_iff_getElem?.mpr ⟨k - i,?_⟩)
  rw[hd,show i+(k - i)=k by exact om25 h2];exact hk
 ·rw[g1]
  rw[hd] at g2
  have hlt:i+k' < x.length:=(List.getElem?_eq_some_iff.mp g2).1
  have hc:=(gd' _ hlt).mpr g2
  rcases StrLaws.find3_spec ⟨x.toArray⟩ c (.ofNat i) with⟨h1,h2⟩|⟨k,h1,h2,h3,h4,h5⟩<;>rw[hl] at *<;>rw[hf] at *
  ·exact absurd hc (h2 (i+k') (om28) hlt)
  ·rw[h1]
   have hk:=(gd' k h3).mp h4
   have a1:¬i+k' < k:=λq=>h5 (i+k') (om28) q hc
   have a2:¬k < i+k':=λq=>by
    refine g3 (k - i) (om30 h2 q) ?_
    rw[hd,show i+(k - i)=k by exact om25 h2];exact hk
   have:k=i+k':=by exact om32 a1 a2
   simp[this]
noncomputable def bmSplit:List (List Nat)->Bool:=λl=>l.all λs=>decide (Txt.split (strL s) ⟨#[32]⟩=(yB s).map strL)
theorem Jr:∀s∈splitCs,Txt.split (strL s) ⟨#[32]⟩=(yB s).map strL:=by
 have:bmSplit splitCs=true:=by decide+kernel
 exact λs hs=>of_decide_eq_true (GA.mp this s hs)
noncomputable def bmId:Bm->String
 |.append=>"list.append"|.extend=>"list.extend"|.pop=>"list.pop"|.insert=>"list.insert"|.split=>"str.split"|.find=>"str.find"|.join=>"str.join"|.get=>"dict.get"
theorem jt{u:V}(h:isSB u=true):∃x,u= .str x:=by rcases u<;>first|exact absurd h G3|exact⟨_,rfl⟩
set_option tactic.hygienic true in
theorem isLB_of{u:V}{H:Hp}(h:isLB u H=true):∃i vs,u= .obj i/\H[i]?=some (.list vs):=by
 rcases u<;>first|exact absurd h G3|skip
 rename_i i
 have h:(match H[i]? with|some (.list _)=>true|_=>false)=true:=h
 induction e:H[i]? using Gq with
 |none=>rw[e] at h;exact absurd h G3
 |some o=>rw[e] at h;rcases o<;>first|exact absurd h G3|exact⟨i,_,rfl,e⟩
set_option tactic.hygienic true in
theorem isDB_of{u:V}{H:Hp}(h:isDB u H=true):∃i es,u= .obj i/\H[i]?=some (.dict es):=by
 rcases u<;>first|exact absurd h G3|skip
 rename_i i
 have h:(match H[i]? with|some (.dict _)=>true|_=>false)=true:=h
 induction e:H[i]? using Gq with
 |none=>rw[e] at h;exact absurd h G3
 |some o=>rw[e] at h;rcases o<;>first|exact absurd h G3|exact⟨i,_,rfl,e⟩
theorem bmGet_ok{b:Bm}{u:V}{v:Value}{pl:Sem Bool}{K:Value×List Value->Shared->Prop}(R:c.Rep T H ρ E s.heap)(hv:VR T E ρ u v)(e:YT b u H=true)(h:K (.builtin (bmId b),[v]) s) :
  wpAny (model T.prog T.w) A (getMethod v (Jk b) pl) K Er s:=by
 refine za (R.N) λtb hb N=>?_
 have hl:∀{id:String} (_:isLB u H=true),(∀{us n a},(a,DN (List.toArray us) n)∈E->v= .ref a->wpAny (model T.prog T.w) A (getMethod v (Jk b) pl) K Er s)->wpAny (model T.prog T.w) A (getMethod v (Jk b) pl) K Er s:=λ{_} e k=>by
  refine zl (isLB_of e) λi vs rq2 e1=>?_;subst rq2
  refine zl (hv.ofObj) λa dd rq2 hi=>?_;subst rq2
  refine zl (R.isList e1 hi) λus n hm _=>?_
  exact k hm rfl
 induction b using Bm.casesOn with
 |split=>obtain⟨x,rfl⟩:=jt e;obtain⟨t,rfl⟩:=hv.ofStr;exact GM.split h
 |find=>obtain⟨x,rfl⟩:=jt e;obtain⟨t,rfl⟩:=hv.ofStr;exact GM.find h
 |join=>obtain⟨x,rfl⟩:=jt e;obtain⟨t,rfl⟩:=hv.ofStr;exact GM.join h
 |get=>
  refine zl (isDB_of e) λi es rq2 e1=>?_;subst rq2
  refine zl (hv.ofObj) λa dd rq2 hi=>?_;subst rq2
  refine Y9 (R.objAt e1 hi) λo kvs hm hd hv hn hs=>?_
  exact kdg_method (knd:=strKind T.prog T.w) N (Ge _ hm) hd.of h
 |append=>exact hl (id:="") e λhm q=>by subst q;exact kl_method N (Ge _ hm) PySem.F.slot_list_append PySem.F.type_list_append h
 |extend=>exact hl (id:="") e λhm q=>by subst q;exact kl_method N (Ge _ hm) PySem.F.slot_list_extend PySem.F.type_list_extend h
 |pop=>exact hl (id:="") e λhm q=>by subst q;exact kl_method N (Ge _ hm) PySem.F.slot_list_pop PySem.F.type_list_pop h
 |insert=>exact hl (id:="") e λhm q=>by subst q;exact kl_method N (Ge _ hm) PySem.F.slot_list_insert PySem.F.type_list_insert h
theorem last_of{α:Type}{l:List α}{x:α}{r:List α}(h:l.reverse=x::r):l=r.reverse++[x]:=by
 have:=congrArg List.reverse h
 simpa using this
theorem jp(p:List Value)(y:Value):kl_last (p++[y])=some (p,y):=by
 induction p with
 |nil=>rfl
 |cons x p ih=>rw[Di,kl_last,ih]
theorem spP_iff{y:List Nat}{p:Prop}(h:(match y with|[32]=>p|_=>False)):y=[32]/\p:=by
 split at h
 ·exact⟨rfl,h⟩
 ·exact h.elim
theorem bmeth_ok{b:Bm}{u:V}{v:Value}{vs:List V}{us:List Value}(C:c.Ok T d)(R:c.Rep T H ρ E s.heap)(hu:VR T E ρ u v)(hv:VRs T E ρ vs us)(e:jC b u vs H Q):wpAny (model T.prog T.w) c.A (call (.builtin (bmId b)) (v::us)) (Post T c s ρ E Q) Er s:=by
 refine za (R.N) λtb hb N=>?_
 induction b using Bm.casesOn with
 |find=>
  refine za (yH e) ?_;clear e;intro x rq1 e;subst rq1
  refine zl (Y8 e) ?_;clear e;intro a1 a2 rq2 e;subst rq2
  refine za (yH e) ?_;clear e;intro y rq1 e;subst rq1
  refine zh (hu.ofStr) λt rq1=>?_;subst rq1
  refine zy (hv.of2) λu1 u2 rq2 h1 h2=>?_;subst rq2
  refine zh (h1.ofStr) λt1 rq1=>?_;subst rq1
  rcases y with _|⟨cc,_|⟨c2,r⟩⟩
  ·exact e.elim
  ·refine za (zA e) ?_;clear e;intro i rq1 e;subst rq1
   refine za (yw e) ?_;clear e;intro i rq1 e;subst rq1
   refine zh (h2.ofInt) λt2 rq1=>?_;subst rq1
   refine SC.find3 ?_
   rw[show Txt.find3 (strL x) (strL [cc]) (.ofNat i)=_ from find_eq x cc i]
   exact Post.here R (.int _ _) e
  ·exact e.elim
 |split=>
  refine za (yH e) ?_;clear e;intro x rq1 e;subst rq1
  refine za (yc e) ?_;clear e;intro a1 rq1 e;subst rq1
  refine za (yH e) ?_;clear e;intro y rq1 e;subst rq1
  refine zh (hu.ofStr) λt rq1=>?_;subst rq1
  refine za (hv.of1) λu1 rq1 h1=>?_;subst rq1
  refine zh (h1.ofStr) λt1 rq1=>?_;subst rq1
  refine zf (spP_iff e) ?_;clear e;intro rq0 e;subst rq0
  refine zf (gd_iff.mp e) ?_;clear e;intro e1 e
  refine za (Fh.mp e1) λcs hc hq=>?_
  obtain rfl:=eqS_iff.mp hq
  have hz:=Jr _ hc
  have hlen:∀s∈splitCs,s.length<=40/\(yB s).length<=40:=by decide
  refine KSpl.split1 R.F N rfl (λD l h' k e1 hs F' N' hlt=>?_) (by rw[sizeLine_eq,zK];have:=(hlen _ hc).1;exact om26 this)
  have e1':l.map (·.1)=(yB x).map strL:=e1.trans hz
  have hvr:VRs T E ρ ((yB x).map .str) (strValues l):=by
   clear hs N' e1
   generalize yB x=ws at e1'
   induction l generalizing ws with
   |nil=>cases ws with|nil=>exact .nil|cons _ _=>simp at e1'
   |cons p l ih=>
    induction ws using GV with
    |nil=>simp at e1'
    |cons y ws=>
     simp only[GG,List.cons.injEq] at e1'
     refine .cons ?_ (ih ws e1'.2)
     obtain⟨pa,pb⟩:=p
     refine zf (e1') ?_;clear e1';intro q1 _
     dsimp only at q1
     subst q1
     exact .str _ _
  refine zC (R.newL (n:=0) hb hvr (by rw[Gm];simp only[lim];have:=(hlen _ hc).2;exact om27 this) F' N' hlt) λR' x' hr=>?_
  exact⟨h',k,_,_,_,_,rfl,R',x',.obj hr,e⟩
 |join=>
  refine za (yH e) ?_;clear e;intro x rq1 e;subst rq1
  refine za (yc e) ?_;clear e;intro a1 rq1 e;subst rq1
  refine zy (yl e) ?_;clear e;intro i ws rq2 e1 e;subst rq2
  refine za (zp e) ?_;clear e;intro xs hx e
  refine zf (gd_iff.mp e) ?_;clear e;intro e2 e
  refine zh (hu.ofStr) λt rq1=>?_;subst rq1
  refine za (hv.of1) λu1 rq1 h1=>?_;subst rq1
  refine zl (h1.ofObj) λa dd rq2 hi=>?_;subst rq2
  refine yt (R.isList e1 hi) λus n hm hl hv hn=>?_
  have hs:=strs_ok hv hx
  have h2:=natB.mp e2
  refine join_list hl (ys:=xs.map strL) (by simpa using hs) ?_ λt' k=>?_
  ·rw[I2,show(F0 ∘ strL)=List.length from funext λa=>zK a,Gm,zK]
   have h2':(xs.map List.length).sum+xs.length*x.length<=1000:=h2;exact om29 h2'
  ·have hj:Txt.join (strL x) (xs.map strL)=strL (joinS x xs):=by
    unfold Txt.join
    rw[StrLaws.glued_eq_join]
    exact J0 x xs
   rw[hj]
   exact Post.here R (.str _ _) e
 |append=>
  refine zy (yl e) ?_;clear e;intro i xs rq2 e1 e;subst rq2
  refine za (yc e) ?_;clear e;intro a1 rq1 e;subst rq1
  refine zf (gd_iff.mp e) ?_;clear e;intro e2 e
  refine zl (hu.ofObj) λa dd rq2 hi=>?_;subst rq2
  refine za (hv.of1) λu1 rq1 h1=>?_;subst rq1
  refine Xp (R.lst e1 hi) λus0 n tb hb N hm hl hv0 hn up=>?_
  have hsz:us0.toArray.size=xs.length:=by rw[Gv,hv0.length]
  rw[DS] at e2
  refine za (up _ _ (n+1) (hv0.append (.cons h1 .nil)) (by simp only[lim,G7,D8];exact om31 e2)) λE' U k=>?_
  refine append_K R.F N (by rw[List.push_toArray];exact U) (λh' F' N'=>?_) (by rw[hsz,sizeLine_eq];exact om33 e2)
  refine zf (k h' F' N') λR' x'=>?_
  exact⟨h',s.toks,_,_,_,_,rfl,R',x',.none,e⟩
 |extend=>
  refine zy (yl e) ?_;clear e;intro i xs rq2 e1 e;subst rq2
  refine za (yc e) ?_;clear e;intro a1 rq1 e;subst rq1
  refine zy (yl e) ?_;clear e;intro j ys rq2 e2 e;subst rq2
  refine zf (gd_iff.mp e) ?_;clear e;intro e3 e
  refine zl (hu.ofObj) λa dd rq2 hi=>?_;subst rq2
  refine za (hv.of1) λu1 rq1 h1=>?_;subst rq1
  refine zl (h1.ofObj) λb db rq2 hj=>?_;subst rq2
  refine Xp (R.lst e1 hi) λus0 n tb hb N hm hl hv0 hn up=>?_
  have hsz:us0.toArray.size=xs.length:=by rw[Gv,hv0.length]
  have h3:=natB.mp e3
  refine yt (R.isList e2 hj) λws n2 hm2 hl2 hv2 hn2=>?_
  have hsz2:ws.toArray.size=ys.length:=by rw[Gv,hv2.length]
  have hd:¬(!us0.toArray.isEmpty && FT (us0.toArray.size+ws.toArray.size))=true:=by
   rw[GS]
   rintro⟨_,q⟩
   rw[hsz,hsz2] at q
   simp only[FT,decide_eq_true_eq] at q
   exact absurd q (GX (ot1 h3))
  by_cases hne:ws=[]
  ·subst hne
   have hy:ys=[]:=by
    cases hv2;rfl
   subst hy
   rw[GH] at e
   refine za (up _ _ n hv0 hn) λE' U k=>?_
   refine kxn_extend R.F N (Ge _ hm2) rfl U hd (by simp at hsz ⊢;rw[hsz,sizeLine_eq];exact ot3 h3) (by rw[hsz,hsz2,sizeLine_eq];exact DA (ot1 h3)) λh' F' N'=>?_
   refine zf (k h' F' N') λR' x'=>?_
   exact⟨h',s.toks,_,_,_,_,rfl,R',x',.none,e⟩
  ·refine za (up _ _ (n+1) (hv0.append hv2) (by rw[G7];exact h3)) λE' U k=>?_
   refine kl_extend R.F N (Ge _ hm2) (l:=us0++ws) (by simp) (by simpa using hne) U hd (by simp at hsz ⊢;rw[hsz,sizeLine_eq];exact ot3 h3) (by rw[hsz,hsz2,sizeLine_eq];exact DA (ot1 h3)) λh' F' N'=>?_
   refine zf (k h' F' N') λR' x'=>?_
   exact⟨h',s.toks,_,_,_,_,rfl,R',x',.none,e⟩
 |pop=>
  refine zy (yl e) ?_;clear e;intro i xs rq2 e1 e;subst rq2
  refine zf (arg0_iff e) ?_;clear e;intro rq0 e;subst rq0
  refine zl (hu.ofObj) λa dd rq2 hi=>?_;subst rq2
  rw[hv.of0]
  refine Xp (R.lst e1 hi) λus0 n tb hb N hm hl hv0 hn up=>?_
  have hsz:us0.toArray.size=xs.length:=by rw[Gv,hv0.length]
  replace e:(match xs.reverse with|v::r=>Q v (H.set i (.list r.reverse))|[]=>False):=e
  induction hr:xs.reverse using GV with
  |nil=>rw[hr] at e;exact e.elim
  |cons y r=>
   rw[hr] at e
   replace e:Q y (H.set i (.list r.reverse)):=e
   have hl':=last_of hr
   subst hl'
   obtain⟨p,z,rfl,hp,hz⟩:∃p z,us0=p++[z]/\VRs T E ρ r.reverse p/\VR T E ρ y z:=by
    have h1:=hv0.take r.reverse.length
    have h2:=hv0.drop r.reverse.length
    rw[List.take_left] at h1
    rw[List.drop_left] at h2
    refine za (h2.of1) ?_;clear h2;intro z hq h2
    exact⟨_,z,by rw[←hq];exact(DP _ _).symm,h1,h2⟩
   refine za (up _ _ (n+1) hp (by simp only[G7,lim] at hn ⊢;exact om36 hn)) λE' U k=>?_
   refine kl_pop R.F N (p:=p) (y:=z) (by simpa using jp p z) U (by simp only[lim] at hn;simp at hsz ⊢;rw[sizeLine_eq];simp at hn;exact om37 hsz hn) λh' F' N'=>?_
   refine zf (k h' F' N') λR' x'=>?_
   exact⟨h',s.toks,_,_,_,_,rfl,R',x',hz.ext x',e⟩
 |insert=>
  refine zy (yl e) ?_;clear e;intro i xs rq2 e1 e;subst rq2
  refine zl (Y8 e) ?_;clear e;intro a1 y0 rq2 e;subst rq2
  refine za (zA e) ?_;clear e;intro k0 rq1 e;subst rq1
  refine za (yw e) ?_;clear e;intro k0 rq1 e;subst rq1
  refine zf (gd_iff.mp e) ?_;clear e;intro e2 e
  refine zl (hu.ofObj) λa dd rq2 hi=>?_;subst rq2
  refine zy (hv.of2) λu1 u2 rq2 h1 h2=>?_;subst rq2
  refine zh (h1.ofInt) λt1 rq1=>?_;subst rq1
  refine Xp (R.lst e1 hi) λus0 n tb hb N hm hl hv0 hn up=>?_
  have hsz:us0.toArray.size=xs.length:=by rw[Gv,hv0.length]
  rw[GS,DS] at e2
  refine zf (e2) ?_;clear e2;intro e2 e3
  have h3:=natB.mp e3
  have hlen:xs.length=us0.length:=hv0.length
  refine za (up _ _ (n+1) ((hv0.take k0).append (.cons h2 (hv0.drop k0))) (by simp only[lim,G7,GB,DU,Dv];exact om38 e2)) λE' U k=>?_
  refine kl_insert R.F N (by unfold Builtin.List.listFitsIndex;simp;exact z63 h3) (l:=us0.take k0++_::us0.drop k0) ?_ U (by simp at hsz ⊢;rw[hsz,sizeLine_eq];exact om33 e2) λh' F' N'=>?_
  ·have:¬(Gx k0 < 0):=DR.mpr (GO k0)
   unfold kl_ins
   simp only[this,if_false,Dr]
   show us0.take (min k0 us0.length)++_::us0.drop (min k0 us0.length)=_
   rw[YZ]
   congr 2
   by_cases hk:k0<=us0.length
   ·rw[DY hk]
   ·rw[Fi (om13 hk),DM (Gi _),DM (om13 hk)]
  ·refine zf (k h' F' N') λR' x'=>?_
   exact⟨h',s.toks,_,_,_,_,rfl,R',x',.none,e⟩
 |get=>
  refine zy (jF e) ?_;clear e;intro i es rq2 e1 e;subst rq2
  refine zl (Y8 e) ?_;clear e;intro a1 y0 rq2 e;subst rq2
  refine za (yH e) ?_;clear e;intro k0 rq1 e;subst rq1
  refine zl (hu.ofObj) λa dd rq2 hi=>?_;subst rq2
  refine zy (hv.of2) λu1 u2 rq2 h1 h2=>?_;subst rq2
  refine zh (h1.ofStr) λt1 rq1=>?_;subst rq1
  refine Y9 (R.objAt e1 hi) λo kvs hm hd hv hn hs=>?_
  rcases Xe k0 hv with⟨p1,p2⟩|⟨v',u,p1,p2,hr⟩
  ·rw[p1] at e
   exact kdg_get2 (knd:=strKind T.prog T.w) N (Ge _ hm) hd.of hs (strKind_is T.prog T.w _ _) _ p2 (Post.here R h2 e)
  ·rw[p1] at e
   exact kdg_get2 (knd:=strKind T.prog T.w) N (Ge _ hm) hd.of hs (strKind_is T.prog T.w _ _) _ p2 (Post.here R hr e)
end
section
variable {T:Tp} {P:Prg} {Nn:Nm} {c:Cx} {s:Shared} {ρ:Rn} {E:Lg} {H:Hp} {Q:V->Hp->Prop} {Er:Value->Shared->Prop} {prog:Program} {w:World} {d:Nat} {A:Around}
noncomputable def attOk(K:Frag)(C:Addr)(name:Str):Bool:=
 plainGet K C name && hasDictIn K C && (match findIn K (.ref C) name with|some attr=>noGet K attr|none=>false) &&
 (findIn K (.ref C) "__setattr__"==some (some (.builtin "object.__setattr__"))) && plainOver K C && (takerIn K C name==some none)
noncomputable def mthOk(K:Frag)(C:Addr)(name:Str)(a:Addr):Bool:=
 plainGet K C name && (findIn K (.ref C) name==some (some (.ref a))) && isFn K (.ref a) && keepIn K (.ref a)
noncomputable def globOk(K:Frag)(name:Str)(a:Addr):Bool:=(nsIn K mainGlobals name==some (some (.ref a))) && keepIn K (.ref a)
structure TpOk (T:Tp) (P:Prg) (N:Nm):Prop where
 scr:P.scr=T.ns
 prm:T.P=T.w.params
 nat:N.attr=T.attr
 ata:P.att=T.att
 lmK:N.lamK=T.lamK
 lmP:posEq N.lamP T.lamP=true
 lmX:N.lamX=T.lamX
 lmN:N.lamN=T.lamN
 inj:∀f g,T.attr f=T.attr g->f=g
 att:∀k f C,T.att k f=true->T.cls k=some C->attOk T.K C (T.attr f)=true
 mth:∀k m g C,P.meth k m=some g->T.cls k=some C->∃a,T.fn g=some a/\mthOk T.K C (N.meth m) a=true
 apart:∀k m g f,P.meth k m=some g->T.att k f=true->T.attr f≠N.meth m
 glo:∀f x,N.glob f=some x->∃a,(T.fn f=some a∨T.cls f=some a)/\globOk T.K x a=true
theorem Kj{fs:List (Nat×V)}{es:List DictEntry}(inj:∀f g,T.attr f=T.attr g->f=g)(h:FRs T E ρ T.attr fs es)(f:Nat) :
  (getF f fs=none/\getL (T.attr f) es=some none)∨∃v u,getF f fs=some v/\getL (T.attr f) es=some (some u)/\VR T E ρ v u:=by
 induction h with
 |nil=>exact .inl ⟨rfl,rfl⟩
 |@cons k v e fs es hk hv _ ih=>
  obtain⟨hh,t,hkey⟩:=hk
  unfold getF
  by_cases q:k=f
  ·subst q
   rw[natE.mpr rfl]
   refine .inr ⟨v,e.val,rfl,?_,hv⟩
   unfold getL
   rw[List.find?_cons_of_pos]
   rw[hkey];simp[FK]
  ·have hb:Gg k f=false:=natEf.mpr q
   rw[hb]
   have hs:e.key.isStr (T.attr f)=false:=by
    rw[hkey]
    simp only[FK]
    exact beq_false_of_ne λz=>q (inj _ _ z)
   have hg:getL (T.attr f) (e::es)=getL (T.attr f) es:=by
    unfold getL
    rw[List.find?_cons_of_neg (by rw[hs];decide)]
    have:(e::es).any (·.refKey)=es.any (·.refKey):=by
     rw[Fj]
     have:e.refKey=false:=by unfold DictEntry.refKey;rw[hkey]
     rw[this];rfl
    rw[this]
   rw[hg]
   exact ih
theorem frs_miss{fs:List (Nat×V)}{es:List DictEntry}{name:Str}(h:FRs T E ρ T.attr fs es)(hn:∀p∈fs,T.attr p.1≠name):getL name es=some none:=by
 induction h with
 |nil=>rfl
 |@cons k v e fs es hk hv _ ih=>
  obtain⟨hh,t,hkey⟩:=hk
  have hs:e.key.isStr name=false:=by
   rw[hkey]
   simp only[FK]
   exact beq_false_of_ne (hn (k,v) (G9 ..))
  unfold getL
  rw[List.find?_cons_of_neg (by rw[hs];decide)]
  have:(e::es).any (·.refKey)=es.any (·.refKey):=by
   rw[Fj]
   have:e.refKey=false:=by unfold DictEntry.refKey;rw[hkey]
   rw[this];rfl
  rw[this]
  exact ih λp hp=>hn p (Gd _ hp)
theorem Ki{fs:List (Nat×V)}{es:List DictEntry}(inj:∀f g,T.attr f=T.attr g->f=g)(h:FRs T E ρ T.attr fs es)(f:Nat){v:V}{u:Value}{t:Tok}(hv:VR T E ρ v u) :
  FRs T E ρ T.attr (setF f v fs) (putL (T.attr f) (PyData.keyHash T.P (T.attr f)) (.str (T.attr f) t) u es):=by
 induction h with
 |nil=>exact .cons ⟨rfl,t,rfl⟩ hv .nil
 |@cons k v' e fs es hk hv' r ih=>
  obtain⟨hh,t',hkey⟩:=hk
  unfold setF putL
  by_cases q:k=f
  ·subst q
   rw[natE.mpr rfl,if_pos (by rw[hkey];simp[FK])]
   exact .cons ⟨hh,t',hkey⟩ hv r
  ·rw[natEf.mpr q,if_neg (by rw[hkey];simp only[FK];exact λz=>q (inj _ _ (beq_iff_eq.mp z)))]
   exact .cons ⟨hh,t',hkey⟩ hv' ih
theorem jS(f:Nat)(v:V):∀fs:List (Nat×V),(setF f v fs).length<=fs.length+1:=by
 intro fs
 induction fs with
 |nil=>
  exact by simp[setF]
 |cons hdp r ih=>
  obtain⟨k,u⟩:=hdp
  unfold setF
  split
  ·simp
  ·simp only[GB];have:=ih;exact om41 this
theorem setF_att{f:Nat}{v:V}{p:Nat->Bool}(hf:p f=true):∀fs:List (Nat×V),(∀q∈fs,p q.1=true)->∀q∈setF f v fs,p q.1=true:=by
 intro fs
 induction fs with
 |nil=>
  intro y1 q hq
  exact by simp[setF] at hq;subst hq;exact hf
 |cons hdp r ih=>
  intro h q hq
  obtain⟨k,u⟩:=hdp
  unfold setF at hq
  split at hq
  ·rcases Gh.mp hq with rfl|hq
   ·exact h (k,u) (G9 ..)
   ·exact h q (Gd _ hq)
  ·rcases Gh.mp hq with rfl|hq
   ·exact h (k,u) (G9 ..)
   ·exact ih (λq hq=>h q (Gd _ hq)) q hq
theorem JX{v:V}{u:Value}(h:VR T E ρ v u):handedIn u=true:=by rcases h<;>rfl
theorem Rep.instAt(R:c.Rep T H ρ E s.heap){i k:Nat}{fs:List (Nat×V)}{a dx:Addr}(e1:H[i]?=some (.inst k fs))(hi:ρ[i]?=some (a,dx)) :
  ∃C es n,T.cls k=some C/\InstAt s.heap a (instObj C dx) C (some (dictOf es n))/\(a,instObj C dx)∈E/\(dx,dictOf es n)∈E/\FRs T E ρ T.attr fs es/\fs.length<=100/\∀p∈fs,T.att k p.1=true:=by
 refine xe3c6 (R.objAt e1 hi) λC es n h1 h2 h3 h4 h5 h6=>?_
 refine za (R.N) λtb hb N=>?_
 exact⟨C,es,n,h1,InstAt.of_news N (Ge _ h2) (Ge _ h3),h2,h3,h4,h5,h6⟩
set_option tactic.hygienic true in
theorem getA_ok(K:TpOk T P Nn)(C:c.Ok T d)(R:c.Rep T H ρ E s.heap){i k f:Nat}{fs:List (Nat×V)}{a dx:Addr}{v:V}{expr:Bool}{S:Value->Shared->Prop}(e1:H[i]?=some (.inst k fs))(hi:ρ[i]?=some (a,dx))(ha:P.att k f=true)(hg:getF f fs=some v)
  (h:∀u tk,VR T E ρ v u->S u {s with toks:=tk}):wpAny (model prog w) A (getAttr (.ref a) (T.attr f) expr) S Er s:=by
 refine Xp (R.instAt e1 hi) λCc es n hC I m1 m2 hf hl hat=>?_
 rw[K.ata] at ha
 have z:=K.att k f Cc ha hC
 unfold attOk at z
 simp only[GS] at z
 obtain⟨⟨⟨⟨⟨z1,z2⟩,z3⟩,z4⟩,z5⟩,z6⟩:=z
 split at z3
 ·rename_i attr hat
  rcases Kj K.inj hf f with⟨q1,q2⟩|⟨v',u,q1,q2,q3⟩
  ·rw[q1] at hg;cases hg
  ·rw[q1] at hg;cases hg
   exact get_own R.F C.X I z1 z2 hat z3 q2 (JX q3) (h u _ q3)
 ·cases z3
theorem setA_ok(K:TpOk T P Nn)(C:c.Ok T d)(R:c.Rep T H ρ E s.heap){i k f:Nat}{fs:List (Nat×V)}{a dx:Addr}{v:V}{u:Value}{S:Unit->Shared->Prop}(e1:H[i]?=some (.inst k fs))(hi:ρ[i]?=some (a,dx))(ha:P.att k f=true)(hl:fs.length < 100)(hv:VR T E ρ v u)
  (h:∀h' tk E',c.Rep T (H.set i (.inst k (setF f v fs))) ρ E' h'->Ext E ρ E' ρ->S () {s with heap:=h',toks:=tk}):wpAny (model T.prog T.w) A (setAttr (.ref a) (T.attr f) u) S Er s:=by
 refine Xp (R.instAt e1 hi) λCc es n hC I m1 m2 hf _ hat=>?_
 rw[K.ata] at ha
 have z:=K.att k f Cc ha hC
 unfold attOk at z
 simp only[GS] at z
 obtain⟨⟨⟨⟨⟨z1,z2⟩,z3⟩,z4⟩,z5⟩,z6⟩:=z
 refine YD (R.split m2) λu5 u6 tb he hb N n1 n2=>?_
 have hgl:(getL (T.attr f) es).isSome=true:=by
  rcases Kj K.inj hf f with⟨_,q2⟩|⟨_,_,_,q2,_⟩<;>rw[q2]<;>rfl
 have hne:a≠dx:=by
  have:=R.ft
  have hmem:=λb hb=>jy (b:=b) hb e1 hi
  intro q
  subst q
  have nd1:((E).map (·.1)).Nodup:=by
   have:=R.nd
   rw[Gw] at this
   exact(Gu.mp this).1
  have:=Yg nd1 m1 m2 rfl
  cases this
 refine set_dict R.F C.X N I rfl (beq_iff_eq.mp z4) z5 (beq_iff_eq.mp z6) z2 hgl rfl (updOf n1 n2) ?_ λh' F' N'=>?_
 ·have:=(Ki (t:=s.toks+1) K.inj hf f hv).length
  rw[K.prm] at this
  rw[←this]
  have:=jS f v fs
  exact om43 hl this
 ·have hmem:(a,instObj Cc dx)∈u5++u6:=by
   rw[he] at m1
   rcases Gn.mp m1 with q|q
   ·exact Ge _ q
   ·rcases Gh.mp q with q|q
    ·cases q
    ·exact Gb _ q
  obtain⟨R',x'⟩:=R.put (o:=.inst k fs) (o':=.inst k (setF f v fs)) (x:=dx) e1 hi (by simp[zS]) he hb rfl (λ_=>rfl) F' N' λx=>by
   refine⟨Cc,_,_,hC,?_,Gb _ (G9 ..),?_,?_,?_⟩
   ·rcases Gn.mp hmem with q|q
    ·exact Ge _ q
    ·exact Gb _ (Gd _ q)
   ·have:=Ki (t:=s.toks+1) K.inj (hf.ext x) f (hv.ext x)
    rw[K.prm] at this;exact this
   ·have:=jS f v fs;exact om44 hl this
   ·exact setF_att ha fs hat
  exact h _ _ _ R' x'
theorem getM_ok(K:TpOk T P Nn)(C:c.Ok T d)(R:c.Rep T H ρ E s.heap){i k mm g:Nat}{fs:List (Nat×V)}{a dx:Addr}{pl:Sem Bool}{S:Value×List Value->Shared->Prop}(e1:H[i]?=some (.inst k fs))(hi:ρ[i]?=some (a,dx))(hm:P.meth k mm=some g)
  (h:∀ga,T.fn g=some ga->keepIn T.K (.ref ga)=true->S (.ref ga,[.ref a]) s):wpAny (model prog w) A (getMethod (.ref a) (Nn.meth mm) pl) S Er s:=by
 refine Xp (R.instAt e1 hi) λCc es n hC I m1 m2 hf hl hat=>?_
 refine za (K.mth k mm g Cc hm hC) λga z1 z2=>?_
 unfold mthOk at z2
 simp only[GS] at z2
 obtain⟨⟨⟨y1,y2⟩,y3⟩,y4⟩:=z2
 exact method_inst R.F C.X I y1 (beq_iff_eq.mp y2) y3 (frs_miss hf λp hp=>K.apart k mm g p.1 hm (hat p hp)) (h ga z1 y4)
end
structure ScOk (T:Tp) (lm:Bool) (sc:Scope) (c:Cx):Prop where
 glob:∀x,zw sc x .globalImplicit=true->c.fe.kindOf x=some .globalImplicit
 cell:∀x,zw sc x .cell=true->c.fe.kindOf x=some .cell
 lam:lm=true->∃cn cs a cl,c.fe=envX cn cs c.L a (.ref T.tabC) cl/\(cn++".<locals>."++"<lambda>":Str)=T.lamQ
noncomputable def CalAt(T:Tp)(E:Lg)(f:Nat)(fv:Value):Prop:=(∃a,T.fn f=some a/\fv= .ref a)∨(∃a,T.cls f=some a/\fv= .ref a)∨(∃a,LamAt T E f a/\fv= .ref a)
theorem CalAt.ext{T:Tp}{E E':Lg}{ρ ρ':Rn}(x:Ext E ρ E' ρ'){f:Nat}{fv:Value}(h:CalAt T E f fv):CalAt T E' f fv:=
 h.imp id (Or.imp id (GK λ_ h=>⟨h.1.ext x.fix,h.2⟩))
noncomputable def jH(RX:RxT)(T:Tp)(O:Orc)(d:Nat):Prop:=∀(c:Cx) (f:Nat) (as:List V) (H:Hp) (Q:V->Hp->Prop) (X:Nat->Hp->Prop) (ρ:Rn) (E:Lg) (s:Shared) (us:List Value) (fv:Value) (Er:Value->Shared->Prop),
 c.Ok T d->O f as H Q X->c.Rep T H ρ E s.heap->VRs T E ρ as us->CalAt T E f fv->(∀e s',XPost RX c s ρ E X e s'->Er e s')->wpAny (model T.prog T.w) c.A (call fv us) (Post T c s ρ E Q) Er s
inductive PostB (T:Tp) (c:Cx) (s:Shared) (ρ:Rn) (E:Lg) (Q:Bool->Hp->Prop) (b:Bool) (s':Shared):Prop
 |mk (h':Heap) (tk:Nat) (H':Hp) (ρ':Rn) (E':Lg):s'={s with heap:=h',toks:=tk}->c.Rep T H' ρ' E' h'->Ext E ρ E' ρ'->Q b H'->PostB T c s ρ E Q b s'
inductive PostL (T:Tp) (c:Cx) (s:Shared) (ρ:Rn) (E:Lg) (n:Nat) (Q:V->Hp->Prop) (us:List Value) (s':Shared):Prop
 |mk (h':Heap) (tk:Nat) (vs:List V) (H':Hp) (ρ':Rn) (E':Lg):s'={s with heap:=h',toks:=tk}->c.Rep T H' ρ' E' h'->Ext E ρ E' ρ'->VRs T E' ρ' vs us->us.length=n->Q (.tup vs) H'->PostL T c s ρ E n Q us s'
inductive PRs (T:Tp) (E:Lg) (ρ:Rn):List V->List (Value×Value)->Prop
 |nil:PRs T E ρ [] []
 |cons {k v:V} {a b:Value} {r:List V} {ps:List (Value×Value)}:VR T E ρ k a->VR T E ρ v b->PRs T E ρ r ps->PRs T E ρ (k::v::r) ((a,b)::ps)
inductive PostD (T:Tp) (c:Cx) (s:Shared) (ρ:Rn) (E:Lg) (n:Nat) (Q:V->Hp->Prop) (us:List (Value×Value)) (s':Shared):Prop
 |mk (h':Heap) (tk:Nat) (vs:List V) (H':Hp) (ρ':Rn) (E':Lg):s'={s with heap:=h',toks:=tk}->c.Rep T H' ρ' E' h'->Ext E ρ E' ρ'->PRs T E' ρ' vs us->us.length=n->Q (.tup vs) H'->PostD T c s ρ E n Q us s'
section
variable (RX:RxT) (T:Tp) (P:Prg) (N:Nm) (O:Orc) (d:Nat)
noncomputable def EvOk(e:Mn.E):Prop:=∀{x:G4} {c:Cx} {lm:Bool} {sc:Scope} {tb:List Str} {X:Nat->Hp->Prop} {L:Lc} {H:Hp} {Q:V->Hp->Prop} {ρ:Rn} {E:Lg} {s:Shared} {Er:Value->Shared->Prop},
 chkE N T.K lm sc tb e x=true->c.Ok T d->ScOk T lm sc c->ev P O e X L H Q->c.Rep T H ρ E s.heap->LOk T tb c E ρ L->(∀e s',XPost RX c s ρ E X e s'->Er e s')->wpAny (model T.prog T.w) c.A (eval x c.fe) (Post T c s ρ E Q) Er s
noncomputable def tq(Q:Bool->Hp->Prop)(u:V)(H:Hp):Prop:=ifS (yu u H) λb=>Q b H
noncomputable def TrOk(e:Mn.E):Prop:=∀{x:G4} {c:Cx} {lm:Bool} {sc:Scope} {tb:List Str} {X:Nat->Hp->Prop} {L:Lc} {H:Hp} {Q:Bool->Hp->Prop} {ρ:Rn} {E:Lg} {s:Shared} {Er:Value->Shared->Prop},
 chkE N T.K lm sc tb e x=true->c.Ok T d->ScOk T lm sc c->ev P O e X L H (tq Q)->c.Rep T H ρ E s.heap->LOk T tb c E ρ L->(∀e s',XPost RX c s ρ E X e s'->Er e s')->wpAny (model T.prog T.w) c.A (isTrue x c.fe (eval x c.fe)) (PostB T c s ρ E Q) Er s
noncomputable def LsOk(e:Mn.E):Prop:=∀{xs:List G4} {pos:Pos} {c:Cx} {lm:Bool} {sc:Scope} {tb:List Str} {X:Nat->Hp->Prop} {L:Lc} {H:Hp} {Q:V->Hp->Prop} {ρ:Rn} {E:Lg} {s:Shared} {Er:Value->Shared->Prop},
 chkL N T.K lm sc tb e xs=true->c.Ok T d->ScOk T lm sc c->ev P O e X L H Q->c.Rep T H ρ E s.heap->LOk T tb c E ρ L->(∀e s',XPost RX c s ρ E X e s'->Er e s')->wpAny (model T.prog T.w) c.A (spliced (backTo pos (starEach xs c.fe))) (PostL T c s ρ E xs.length Q) Er s
noncomputable def DcOk(e:Mn.E):Prop:=∀{ks:List (Option G4)} {xs:List G4} {pos:Pos} {c:Cx} {lm:Bool} {sc:Scope} {tb:List Str} {X:Nat->Hp->Prop} {L:Lc} {H:Hp} {Q:V->Hp->Prop} {ρ:Rn} {E:Lg} {s:Shared} {Er:Value->Shared->Prop},
 chkD N T.K lm sc tb e ks xs=true->c.Ok T d->ScOk T lm sc c->ev P O e X L H Q->c.Rep T H ρ E s.heap->LOk T tb c E ρ L->(∀e s',XPost RX c s ρ E X e s'->Er e s')->wpAny (model T.prog T.w) c.A (evalPairs (pairTrees ks xs c.fe pos)) (PostD T c s ρ E ks.length Q) Er s
end
section
variable {RX:RxT} {T:Tp} {P:Prg} {N:Nm} {O:Orc} {d:Nat}
variable {c:Cx} {s:Shared} {ρ:Rn} {E:Lg} {H:Hp} {Q:V->Hp->Prop} {X:Nat->Hp->Prop} {Er:Value->Shared->Prop}
theorem XD{l:List (Str×NameKind)}{x:Str}:l.lookup x=(l.find? λp=>zQ p.1 x).map (·.2):=by
 induction l with
 |nil=>rfl
 |cons p l ih=>
  rw[GI,List.find?_cons]
  by_cases h:x=p.1
  ·subst h
   simp[eqStr_iff.mpr rfl]
  ·have h1:(x==p.1)=false:=beq_false_of_ne h
   have h2:zQ p.1 x=false:=by
    induction q:zQ p.1 x using GF with
    |false=>rfl
    |true=>exact absurd (eqStr_iff.mp q).symm h
   rw[h1,h2]
   exact ih
theorem YP{k j:NameKind}(h:Zv k j=true):k=j:=by rcases k<;>rcases j<;>first|rfl|cases h
set_option tactic.hygienic true in
theorem zt{sc:Scope}{x:Str}{k:NameKind}(h:zw sc x k=true):sc.names.lookup x=some k:=by
 unfold zw at h
 rw[XD]
 split at h
 ·rename_i p e;rw[e];exact congrArg some (YP h)
 ·cases h
theorem Jd{x:Str}(h:(!zQ x "__debug__")=true):(x==("__debug__":Str))=false:=by
 refine beq_false_of_ne λq=>?_
 rw[q,eqStr_iff.mpr rfl] at h
 cases h
theorem YB{c:Cx}(C:c.Ok T d)(F:Fr c.Un c.L s.heap c.m){x:Str}{v:Value}{pos:Pos}{S:Value->Shared->Prop}{prog:Program}{w:World}{A:Around}(hx:c.fe.kindOf x=some .globalImplicit)(hn:nsIn T.K mainGlobals x=some (some v))(hd:(x==("__debug__":Str))=false)
  (h:S v s):wpAny (model prog w) A (eval (.Name x pos) c.fe) S Er s:=by
 refine j7 (C.top) λp loose mean mg mb top=>?_
 exact Name_function_global C.kd hx (loadGlobal_global (env:=c.fe) (by rw[C.gl];exact top.g.keeps F.keep) (mg_of C.X top.g hn) h) hd
theorem JQ{c:Cx}(C:c.Ok T d)(F:Fr c.Un c.L s.heap c.m){x:Str}{v:Value}{pos:Pos}{S:Value->Shared->Prop}{prog:Program}{w:World}{A:Around}(hx:c.fe.kindOf x=some .globalImplicit)(hn:nsIn T.K mainGlobals x=some none)(hb:bootBuiltins x=some v)(hne:x≠"__name__")(hd:(x==("__debug__":Str))=false)
  (h:S v s):wpAny (model prog w) A (eval (.Name x pos) c.fe) S Er s:=by
 refine j7 (C.top) λp loose mean mg mb top=>?_
 exact Name_function_global C.kd hx (loadGlobal_builtin (env:=c.fe) (by rw[C.gl];exact top.g.keeps F.keep) (mg_none_of C.X top.g hn) (by rw[C.bi];exact top.b.keeps F.keep) ((top.builtins x hne).trans hb) h) hd
set_option tactic.hygienic true in
theorem ZT{x:G4}{n:Str}{env:Env}(h:Yh x=true):attributeBase x n env (eval x env)=eval x env:=by
 rcases x<;>try rfl
 rename_i g xs ks p
 rcases g<;>try rfl
 rcases xs with _|⟨_,_⟩
 ·rcases ks with _|⟨_,_⟩
  ·exact absurd h G3
  ·rfl
 ·rfl
theorem yX{x:G4}{xs:List G4}{env:Env}(h:zP x=true):starEach (x::xs) env=(false,eval x env)::starEach xs env:=by
 rcases x<;>first|rfl|exact absurd h G3
theorem ZW{pos:Pos}{env:Env}: ∀{xs:List G4},(xs.all zP)=true->(backTo pos (starEach xs env)).any (·.1)=false/\(backTo pos (starEach xs env)).all (λx=>!x.1)=true:=by
 intro xs
 induction xs with
 |nil=>
  intro y0
  exact⟨rfl,rfl⟩
 |cons x xs ih=>
  intro h
  rw[FR,GS] at h
  refine zf (ih h.2) λh1 h2=>?_
  rw[yX h.1]
  refine⟨?_,?_⟩
  ·show(false ||(backTo pos (starEach xs env)).any (·.1))=false
   rw[h1];rfl
  ·show(true && (backTo pos (starEach xs env)).all (λx=>!x.1))=true
   rw[h2];rfl
theorem yP{K:Frag}{lm:Bool}{sc:Scope}{tb:List Str}{e:Mn.E}:∀{xs:List G4},chkL N K lm sc tb e xs=true->xs.all zP=true:=by
 induction e with
 |nil=>intro xs h;rw[zH h];rfl
 |cons a b _ ih=>
  intro xs h
  refine zl (iHt h) ?_;clear h;intro x r rq2 h;subst rq2
  refine zC (an3 h) λh1 _ h3=>?_
  have h1:zP x=true:=h1
  rw[FR,h1,ih h3];rfl
 |_=>intro xs h;exact absurd h G3
theorem xrUp{h₁:Heap}{tk₁:Nat}{ρ₁:Rn}{u5:Lg}(XR:∀e s',XPost RX c s ρ E X e s'->Er e s')(x:Ext E ρ u5 ρ₁):∀e s',XPost RX c {s with heap:=h₁,toks:=tk₁} ρ₁ u5 X e s'->Er e s':=λe s' q=>XR e s' (q.up x)
theorem PostB.up{Q:Bool->Hp->Prop}{h₁:Heap}{tk₁:Nat}{ρ₁:Rn}{u5:Lg}(x:Ext E ρ u5 ρ₁){u:Bool}{s':Shared}:PostB T c {s with heap:=h₁,toks:=tk₁} ρ₁ u5 Q u s'->PostB T c s ρ E Q u s'
 |⟨h',tk,H',ρ',E',e,R,x',q⟩=>⟨h',tk,H',ρ',E',e,R,x.trans x',q⟩
theorem tr_of_ev{S:Sem Value}{Q:Bool->Hp->Prop}{A:Around}(h:wpAny (model T.prog T.w) c.A S (Post T c s ρ E (tq Q)) Er s) :
  wpAny (model T.prog T.w) c.A S (λv UN=>wpAny (model T.prog T.w) A (truthy v) (PostB T c s ρ E Q) Er UN) Er s:=by
 refine wpAny_mono h (λu s' p=>?_) λ_ _ e=>e
 obtain⟨h',tk,v,H',ρ',E',rfl,R,x,hv,q⟩:=p
 refine za (zp q) ?_;clear q;intro b hb q
 exact Z4 (s:={s with heap:=h',toks:=tk}) R hv hb λtk'=>⟨h',tk',H',ρ',E',rfl,R,x,q⟩
noncomputable def pN(k:Nat):Bool:=Gg k 0 ||Gg k 5 ||Gg k 15
noncomputable def Xz(x:G4):Bool:=!pN x.ctorIdx && !oB (vUn x) λt=>isNot t.1
theorem zO{x:G4}{k:Nat}(h:x.ctorIdx=k)(q:(pN k ||Gg k 3)=false):Xz x=true:=by
 subst h
 refine Gs.mpr ⟨congrArg not (Dz.mp q).1,congrArg not (congrArg (λo=>oB o λ(t:UnaryOp×G4)=>isNot t.1) (dif_neg (Dd (Dz.mp q).2):vUn x=none))⟩
set_option tactic.hygienic true in
theorem ky{x:G4}{env:Env}{whole:Sem Value}(h:Xz x=true):isTrue x env whole=(do let v ←whole;standAt x.pos;holding [v] (truthy v)):=by
 rcases x<;>first|rfl|exact absurd h G3|skip
 rename_i op a b
 rcases op<;>first|rfl|exact absurd h G3
theorem ZZ{e:Mn.E}(h:EvOk RX T P N O d e)(hp:∀{lm sc tb x},chkE N T.K lm sc tb e x=true->Xz x=true):TrOk RX T P N O d e:=by
 intro x c lm sc tb X L H Q ρ E s Er hc C S he R Lk XR
 exact isTrue_plain (tr_of_ev (h hc C S he R Lk XR)) (ky (hp hc))
theorem ev_bad:EvOk RX T P N O d .bad:=by
 intro x c lm sc tb X L H Q ρ E s Er hc C S he R Lk XR
 exact Do he
theorem tr_bad:TrOk RX T P N O d .bad:=by
 intro x c lm sc tb X L H Q ρ E s Er hc C S he R Lk XR
 exact Do he
set_option tactic.hygienic true in
theorem lit_ok{v:V}{cst:Const}{k:Nat}{p:Pos}(h:litIs v cst=true)(R:c.Rep T H ρ E s.heap)(he:Q v H):wpAny (model T.prog T.w) c.A (eval (.Constant cst k p) c.fe) (Post T c s ρ E Q) Er s:=by
 rcases v<;>rcases cst<;>first|exact absurd h G3|skip
 ·exact wpAny_pure (Post.at R .none he)
 ·rename_i a b
  rcases a<;>rcases b<;>first|exact absurd h G3|exact wpAny_pure (Post.at R (.bool _) he)
 ·obtain rfl:=of_decide_eq_true h
  exact wpAny_mkInt (Post.here R (.int _ _) he)
 ·obtain rfl:=isS_iff.mp h
  exact wpAny_mkText (Post.here R (.str _ _) he)
theorem J6{c:Const}{i:Int}(h:intOf c=some i):c= .int i:=by rcases c<;>first|exact nn h|(cases h;rfl)
theorem ivOf_of{v:V}{i:Int}(h:ivOf v=some i):v= .int i:=by rcases v<;>first|exact nn h|(cases h;rfl)
theorem J2{o:UnaryOp}(h:JA o=true):o= .USub:=by rcases o<;>first|rfl|exact absurd h G3
theorem cst_of{v:V}{x:G4}(h:JI v x=true):(∃c k p,x= .Constant c k p/\litIs v c=true)∨∃j k p q,x= .UnaryOp .USub (.Constant (.int j) k p) q/\v= .int (-j):=by
 have key:∀y,Zp y=none->JI v y=true->oB (vUn y) (λt=>JA t.1 && oB (Zp t.2) λc=>oB (intOf c) λj=>oB (ivOf v) λi=>decide (i=-j))=true:=λy e h=>by
  unfold JI at h;rw[e] at h;exact h
 induction e:Zp x using Gq with
 |some c=>
  have e':oB (Zp x) (λz=>litIs v z)=true:=by unfold JI at h;rw[e] at h ⊢;exact h
  refine zF (Kb e') λc k p rq3 h'=>?_;subst rq3
  exact .inl ⟨c,k,p,rfl,h'⟩
 |none=>
  refine zF (iUn (key x e h)) ?_;clear h;intro o y q rq3 h;subst rq3
  refine zf (an2 h) ?_;clear h;intro h0 h
  refine zF (Kb h) ?_;clear h;intro c k p e2 h
  have e2:y= .Constant c k p:=e2
  refine za (yf h) ?_;clear h;intro j e3 h
  refine za (yf h) ?_;clear h;intro i e4 h
  have h0:JA o=true:=h0
  rw[e2,J6 e3,ivOf_of e4,J2 h0]
  exact .inr ⟨j,k,p,q,rfl,congrArg V.int (of_decide_eq_true h)⟩
theorem ev_c(v:V):EvOk RX T P N O d (.c v):=by
 intro x c lm sc tb X L H Q ρ E s Er hc C S he R Lk XR
 rcases cst_of hc with⟨cst,k,p,rfl,h⟩|⟨j,k,p,q,rfl,rfl⟩
 ·exact lit_ok h R he
 ·exact UnaryOp_ (wpAny_mkInt (PyProof.Rows.neg_int (Post.here R (.int _ _) he)))
theorem Rep.newsG(R:c.Rep T H ρ E s.heap):News c.Un c.L s.heap c.G:=by
 refine za (R.N) λtb hb Nw=>?_
 exact λp hp=>Nw p (Gb _ (Gd _ hp))
theorem ev_l(k:Nat):EvOk RX T P N O d (.l k):=by
 intro x c lm sc tb X L H Q ρ E s Er hc C S he R Lk XR
 refine zl (ZX hc) ?_;clear hc;intro x pos rq2 hc;subst rq2
 refine zf (an2 hc) ?_;clear hc;intro hc hd
 refine za (yf hc) ?_;clear hc;intro y hy hc
 obtain rfl:x=y:=eqStr_iff.mp hc
 refine za (zp he) ?_;clear he;intro v hv he
 refine zf (locO_iff hv) ?_;clear hv;intro hv hne
 refine zy (Lk k v hv hne) λz u h1 h2 h3=>?_
 rw[hy] at h1
 cases h1
 exact C.look _ u h2 (Jd hd) R.F R.newsG (Post.at R h3 he)
theorem gval_int{i:Int}{o:Option (Option Value)}(h:Kf (.int i) o=true):∃t,o=some (some (.int i t)):=by
 rcases o with _|_|u
 ·exact absurd h G3
 ·exact absurd h G3
 ·rcases u<;>first|exact absurd h G3|skip
  rw[of_decide_eq_true h]
  exact⟨_,rfl⟩
theorem gval_str{x:List Nat}{o:Option (Option Value)}(h:Kf (.str x) o=true):∃t,o=some (some (.str (strL x) t)):=by
 rcases o with _|_|u
 ·exact absurd h G3
 ·exact absurd h G3
 ·rcases u<;>first|exact absurd h G3|skip
  rw[isS_iff.mp h]
  exact⟨_,rfl⟩
theorem Post.go{t:Sem Value}{S:Value->Shared->Prop}{A:Around}(h:wpAny (model T.prog T.w) A t (Post T c s ρ E Q) Er s)
  (k:∀u v h' tk H' ρ' E',c.Rep T H' ρ' E' h'->Ext E ρ E' ρ'->VR T E' ρ' v u->Q v H'->S u {s with heap:=h',toks:=tk}):wpAny (model T.prog T.w) A t S Er s:=
 wpAny_mono h (λu s' p=>by obtain⟨h',tk,v,H',ρ',E',rfl,R,x,hv,q⟩:=p;exact k u v h' tk H' ρ' E' R x hv q) λ_ _ e=>e
theorem ev_g(K:TpOk T P N)(n:Nat)(v:V):EvOk RX T P N O d (.g n v):=by
 intro x c lm sc tb X L H Q ρ E s Er hc C S he R Lk XR
 refine zl (ZX hc) ?_;clear hc;intro x pos rq2 hc;subst rq2
 refine zC (an3 hc) ?_;clear hc;intro h1 h2 h3
 rcases v<;>first|exact absurd h2 G3|skip
 ·refine zh (gval_int h2) λt hn=>?_
  exact YB C R.F (S.glob _ h1) hn (Jd h3) (Post.at R (.int _ _) he)
 ·refine zh (gval_str h2) λt hn=>?_
  exact YB C R.F (S.glob _ h1) hn (Jd h3) (Post.at R (.str _ _) he)
theorem ev_a(K:TpOk T P N){e:Mn.E}(f:Nat)(ih:EvOk RX T P N O d e):EvOk RX T P N O d (.a e f):=by
 intro x c lm sc tb X L H Q ρ E s Er hc C S he R Lk XR
 refine zF (Ke hc) ?_;clear hc;intro x n pos rq3 hc;subst rq3
 refine zC (an3 hc) ?_;clear hc;intro h1 h2 h3
 obtain rfl:=eqStr_iff.mp h1
 refine Attribute_any_ (Post.go (ih h3 C S he R Lk XR) λu v h' tk H' ρ' E' R' x' hv q=>?_) (by rw[arm_eval_Attribute,ZT h2])
 refine Z9 (jD q) ?_;clear q;intro i k fs rq3 e1 q;subst rq3
 refine zf (gd_iff.mp q) ?_;clear q;intro ha q
 refine za (zp q) ?_;clear q;intro w hw q
 refine zl (hv.ofObj) λa dd rq2 hi=>?_;subst rq2
 rw[K.nat]
 exact getA_ok (s:={s with heap:=h',toks:=tk}) K C R' e1 hi ha hw λu tk' hu=>Post.up x' (Post.here (s:={s with heap:=h',toks:=tk}) R' hu q)
theorem ev_bin(o:Op){a b:Mn.E}(ia:EvOk RX T P N O d a)(ib:EvOk RX T P N O d b):EvOk RX T P N O d (.bin o a b):=by
 intro x c lm sc tb X L H Q ρ E s Er hc C S he R Lk XR
 refine yU (iBin hc) ?_;clear hc;intro y op z pos rq4 hc;subst rq4
 refine zC (an3 hc) ?_;clear hc;intro h1 h2 h3
 refine wpAny_BinOp (Post.go (ia h2 C S he R Lk XR) λu v h' tk H' ρ' E' R' x' hv q=>?_)
 refine Post.go (ib (s:={s with heap:=h',toks:=tk}) h3 C S q R' (Lk.ext x') (xrUp XR x')) λu2 v2 h2 tk2 H2 ρ2 E2 R2 x2 hv2 q2=>?_
 exact wpAny_mono (binop_ok (s:={s with heap:=h2,toks:=tk2}) h1 C R2 (hv.ext x2) hv2 q2) (λ_ _ p=>(p.up x2).up x') λ_ _ e=>e
theorem X8{op:CmpOp}{y:G4}(h:yi y=true):behindInMarks op y=false:=by
 rcases y<;>first|rfl|exact absurd h G3
theorem yG(C:c.Ok T d):c.A.units+1 < cLine:=by
 have:=C.un
 have h:cLine=9900:=rfl
 exact om48 this h
theorem ev_cmp(o:Co){a b:Mn.E}(ia:EvOk RX T P N O d a)(ib:EvOk RX T P N O d b):EvOk RX T P N O d (.cmp o a b):=by
 intro x c lm sc tb X L H Q ρ E s Er hc C S he R Lk XR
 refine yU (iCmp hc) ?_;clear hc;intro x ops ys pos rq4 hc;subst rq4
 refine za (iOne hc) ?_;clear hc;intro op e1 hc
 obtain rfl:ops=[op]:=e1
 refine za (iOne hc) ?_;clear hc;intro y e1 hc
 obtain rfl:ys=[y]:=e1
 refine Zo (an4 hc) ?_;clear hc;intro h1 h0 h2 h3
 show wpAny _ _ (do compareChain pos (←eval x c.fe) [op] [markedBehindIn op y (eval y c.fe)]) _ _ _
 rw[markedBehindIn_of_false (X8 h0)]
 refine wpAny_bind (Post.go (ia h2 C S he R Lk XR) λu v h' tk H' ρ' E' R' x' hv q=>?_)
 show wpAny _ _ (do let rv ←holding [u] (eval y c.fe);standAt pos;operate [u,rv] (compareOp op u rv)) _ _ _
 refine wpAny_bind (wpAny_holding (Post.go (ib (s:={s with heap:=h',toks:=tk}) h3 C S q R' (Lk.ext x') (xrUp XR x')) λu2 v2 h2 tk2 H2 ρ2 E2 R2 x2 hv2 q2=>?_))
 refine wpAny_bind (wpAny_standAt (wpAny_operate' ?_))
 refine za (zp q2) ?_;clear q2;intro r hr q2
 ·exact yI (s:={s with heap:=h2,toks:=tk2}) h1 C R2 (yG C) (hv.ext x2) hv2 hr λtk3=>Post.up x' (Post.up x2 (Post.here (s:={s with heap:=h2,toks:=tk2}) R2 (.bool _) q2))
theorem tr_cmp(o:Co){a b:Mn.E}(ia:EvOk RX T P N O d a)(ib:EvOk RX T P N O d b):TrOk RX T P N O d (.cmp o a b):=by
 intro x c lm sc tb X L H Q ρ E s Er hc C S he R Lk XR
 refine yU (iCmp hc) ?_;clear hc;intro x ops ys pos rq4 hc;subst rq4
 refine za (iOne hc) ?_;clear hc;intro op e1 hc
 obtain rfl:ops=[op]:=e1
 refine za (iOne hc) ?_;clear hc;intro y e1 hc
 obtain rfl:ys=[y]:=e1
 refine Zo (an4 hc) ?_;clear hc;intro h1 h0 h2 h3
 show wpAny _ _ (do testChain pos (←eval x c.fe) [op] [markedBehindIn op y (eval y c.fe)]) _ _ _
 rw[markedBehindIn_of_false (X8 h0)]
 refine wpAny_bind (Post.go (ia h2 C S he R Lk XR) λu v h' tk H' ρ' E' R' x' hv q=>?_)
 show wpAny _ _ (do let rv ←holding [u] (eval y c.fe);standAt pos;let cv ←operate [u,rv] (compareOp op u rv);holding [cv] (truthy cv)) _ _ _
 refine wpAny_bind (wpAny_holding (Post.go (ib (s:={s with heap:=h',toks:=tk}) h3 C S q R' (Lk.ext x') (xrUp XR x')) λu2 v2 h2 tk2 H2 ρ2 E2 R2 x2 hv2 q2=>?_))
 refine wpAny_bind (wpAny_standAt (wpAny_bind (wpAny_operate' ?_)))
 refine za (zp q2) ?_;clear q2;intro r hr q2
 ·exact yI (s:={s with heap:=h2,toks:=tk2}) h1 C R2 (yG C) (hv.ext x2) hv2 hr λtk3=>wpAny_holding (wpAny_truthy_bool (PostB.up x' (PostB.up x2 ⟨h2,tk3,H2,ρ2,E2,rfl,R2,Ext.refl _ _,q2⟩)))
theorem ev_cmp2(o p:Co){a b e:Mn.E}(ia:EvOk RX T P N O d a)(ib:EvOk RX T P N O d b)(ie:EvOk RX T P N O d e):EvOk RX T P N O d (.cmp2 o p a b e):=by
 intro x c lm sc tb X L H Q ρ E s Er hc C S he R Lk XR
 refine yU (iCmp hc) ?_;clear hc;intro x ops ys pos rq4 hc;subst rq4
 refine zl (iTwo hc) ?_;clear hc;intro op pp e1 hc
 obtain rfl:ops=[op,pp]:=e1
 refine zl (iTwo hc) ?_;clear hc;intro y z e1 hc
 obtain rfl:ys=[y,z]:=e1
 refine YE (an6 hc) ?_;clear hc;intro h1 h1' h0 h2 h3 h4
 refine Compare_chain (rs:=[]) ?_ (by show behindInMarks pp z=false;exact X8 h0)
 refine Post.go (ia h2 C S he R Lk XR) λu v h' tk H' ρ' E' R' x' hv q=>?_
 show wpAny _ _ (do let rv ←holding [u] (eval y c.fe);standAt pos;let cv ←holding [u,rv] (compareOp op u rv);release [u,rv] [cv];if ←holding [cv,rv] (truthy cv) then compareChain pos rv [pp] [eval z c.fe] else pure cv) _ _ _
 refine wpAny_bind (wpAny_holding (Post.go (ib (s:={s with heap:=h',toks:=tk}) h3 C S q R' (Lk.ext x') (xrUp XR x')) λu2 v2 h2 tk2 H2 ρ2 E2 R2 x2 hv2 q2=>?_))
 refine wpAny_bind (wpAny_standAt (wpAny_bind (wpAny_holding ?_)))
 refine za (zp q2) ?_;clear q2;intro tt hr q2
 cases tt with
 |true=>
  refine yI (s:={s with heap:=h2,toks:=tk2}) h1 C R2 (yG C) (hv.ext x2) hv2 hr λtk3=>wpAny_bind (wpAny_release (wpAny_bind (wpAny_holding (wpAny_truthy_bool ?_))))
  show wpAny _ _ (do let rv ←holding [u2] (eval z c.fe);standAt pos;operate [u2,rv] (compareOp pp u2 rv)) _ _ _
  refine wpAny_bind (wpAny_holding (Post.go (ie (s:={s with heap:=h2,toks:=tk3}) h4 C S q2 R2 ((Lk.ext x').ext x2) (xrUp (xrUp XR x') x2)) λu3 v3 h3 tk3 H3 ρ3 E3 R3 x3 hv3 q3=>?_))
  refine wpAny_bind (wpAny_standAt (wpAny_operate' ?_))
  refine za (zp q3) ?_;clear q3;intro r hr q3
  ·exact yI (s:={s with heap:=h3,toks:=tk3}) h1' C R3 (yG C) (hv2.ext x3) hv3 hr λtk4=>Post.up x' (Post.up x2 (Post.up x3 (Post.here (s:={s with heap:=h3,toks:=tk3}) R3 (.bool _) q3)))
 |false=>
  refine yI (s:={s with heap:=h2,toks:=tk2}) h1 C R2 (yG C) (hv.ext x2) hv2 hr λtk3=>wpAny_bind (wpAny_release (wpAny_bind (wpAny_holding (wpAny_truthy_bool ?_))))
  exact wpAny_pure (Post.up x' (Post.up x2 (Post.here (s:={s with heap:=h2,toks:=tk2}) R2 (.bool _) q2)))
theorem tr_cmp2(o p:Co){a b e:Mn.E}(ia:EvOk RX T P N O d a)(ib:EvOk RX T P N O d b)(ie:EvOk RX T P N O d e):TrOk RX T P N O d (.cmp2 o p a b e):=by
 intro x c lm sc tb X L H Q ρ E s Er hc C S he R Lk XR
 refine yU (iCmp hc) ?_;clear hc;intro x ops ys pos rq4 hc;subst rq4
 refine zl (iTwo hc) ?_;clear hc;intro op pp e1 hc
 obtain rfl:ops=[op,pp]:=e1
 refine zl (iTwo hc) ?_;clear hc;intro y z e1 hc
 obtain rfl:ys=[y,z]:=e1
 refine YE (an6 hc) ?_;clear hc;intro h1 h1' h0 h2 h3 h4
 refine isTrue_chain (rs:=[]) ?_ (by show behindInMarks pp z=false;exact X8 h0)
 refine Post.go (ia h2 C S he R Lk XR) λu v h' tk H' ρ' E' R' x' hv q=>?_
 show wpAny _ _ (do let rv ←holding [u] (eval y c.fe);standAt pos;let cv ←holding [u,rv] (compareOp op u rv);release [u,rv] [cv];if ←holding [cv,rv] (truthy cv) then testChain pos rv [pp] [eval z c.fe] else pure false) _ _ _
 refine wpAny_bind (wpAny_holding (Post.go (ib (s:={s with heap:=h',toks:=tk}) h3 C S q R' (Lk.ext x') (xrUp XR x')) λu2 v2 h2 tk2 H2 ρ2 E2 R2 x2 hv2 q2=>?_))
 refine wpAny_bind (wpAny_standAt (wpAny_bind (wpAny_holding ?_)))
 refine za (zp q2) ?_;clear q2;intro tt hr q2
 cases tt with
 |true=>
  refine yI (s:={s with heap:=h2,toks:=tk2}) h1 C R2 (yG C) (hv.ext x2) hv2 hr λtk3=>wpAny_bind (wpAny_release (wpAny_bind (wpAny_holding (wpAny_truthy_bool ?_))))
  show wpAny _ _ (do let rv ←holding [u2] (eval z c.fe);standAt pos;let cv ←operate [u2,rv] (compareOp pp u2 rv);holding [cv] (truthy cv)) _ _ _
  refine wpAny_bind (wpAny_holding (Post.go (ie (s:={s with heap:=h2,toks:=tk3}) h4 C S q2 R2 ((Lk.ext x').ext x2) (xrUp (xrUp XR x') x2)) λu3 v3 h3 tk3 H3 ρ3 E3 R3 x3 hv3 q3=>?_))
  refine wpAny_bind (wpAny_standAt (wpAny_bind (wpAny_operate' ?_)))
  refine za (zp q3) ?_;clear q3;intro r hr q3
  ·exact yI (s:={s with heap:=h3,toks:=tk3}) h1' C R3 (yG C) (hv2.ext x3) hv3 hr λtk4=>wpAny_holding (wpAny_truthy_bool (PostB.up x' (PostB.up x2 (PostB.up x3 ⟨h3,tk4,H3,ρ3,E3,rfl,R3,Ext.refl _ _,q3⟩))))
 |false=>
  refine yI (s:={s with heap:=h2,toks:=tk2}) h1 C R2 (yG C) (hv.ext x2) hv2 hr λtk3=>wpAny_bind (wpAny_release (wpAny_bind (wpAny_holding (wpAny_truthy_bool ?_))))
  exact wpAny_pure (PostB.up x' (PostB.up x2 ⟨h2,tk3,H2,ρ2,E2,rfl,R2,Ext.refl _ _,q2⟩))
end
section
variable {T:Tp} {Un h h':Heap} {L:Addr} {m m':Str->Option Value} {G:Lg} {H:List O} {ρ ρ':Rn} {E E':Lg}
theorem Rep.moreG(R:Rep T Un L m G H ρ E h){ex:Lg}(k:∀b o,h.get? b=some o->h'.get? b=some o)(F':Fr Un L h' m)(hx:∀p∈ex,h'.get? p.1=some p.2/\h.objs.size<=p.1)(hn:(ex.map (·.1)).Nodup):Rep T Un L m (ex++G) H ρ E h':=by
 refine za (R.N) λtb hb Nw=>?_
 have hlt:∀p∈E++(T.tab,tabObj #[])::G,p.1 < h.objs.size:=by
  intro p hp
  rcases Gn.mp hp with hp|hp
  ·exact yD Nw p (Ge _ hp)
  ·rcases Gh.mp hp with rfl|hp
   ·exact yD Nw (T.tab,tb) (Gb _ (G9 ..))
   ·exact yD Nw p (Gb _ (Gd _ hp))
 have hL:L < h.objs.size:=R.F.ns.lt
 refine⟨F',⟨tb,hb,λp hp=>?_⟩,?_,R.len,R.enc,R.ft⟩
 ·have old:p∈E++(T.tab,tb)::G∨p∈ex:=by
   simp only[Gn,Gh] at hp ⊢
   rcases hp with q|q|q|q<;>simp[q]
  rcases old with q|q
  ·exact⟨k _ _ (Nw p q).1,(Nw p q).2⟩
  ·refine⟨(hx p q).1,D6 (GR hL (hx p q).2),?_⟩
   exact Heap.get?_none_of_le (G5 R.F.above (G5 (GL hL) (hx p q).2))
 ·have nd:=R.nd
  simp only[Gw,GG] at nd ⊢
  refine zC (Gu.mp nd) λn1 n2 n3=>?_
  rw[Gr] at n2
  have lex:∀a∈ex.map (·.1),h.objs.size<=a:=λa ha=>by
   refine za (D2.mp ha) λp hp rq2=>?_;subst rq2
   exact(hx p hp).2
  have lG:∀a∈G.map (·.1),a < h.objs.size:=λa ha=>by
   refine za (D2.mp ha) λp hp rq2=>?_;subst rq2
   exact hlt p (Gb _ (Gd _ hp))
  have lE:∀a∈E.map (·.1),a < h.objs.size:=λa ha=>by
   refine za (D2.mp ha) λp hp rq2=>?_;subst rq2
   exact hlt p (Ge _ hp)
  have lt:T.tab < h.objs.size:=hlt (T.tab,tabObj #[]) (Gb _ (G9 ..))
  have ndG:(ex.map (·.1)++G.map (·.1)).Nodup:=Gu.mpr ⟨hn,n2.2,λa ha b hb e=>absurd (lG b hb) (DD.mpr (e▸lex a ha))⟩
  refine Gu.mpr ⟨n1,Gr.mpr ⟨λq=>?_,ndG⟩,λa ha b hb e=>?_⟩
  ·rcases Gn.mp q with q|q
   ·exact absurd lt (DD.mpr (lex _ q))
   ·exact n2.1 q
  ·rcases Gh.mp hb with q|q
   ·exact n3 a ha b (q▸G9 ..) e
   ·rcases Gn.mp q with q|q
    ·exact absurd (lE a ha) (DD.mpr (e▸lex b q))
    ·exact n3 a ha b (Gd _ q) e
theorem Rep.lessG{ex:Lg}(R:Rep T Un L m (ex++G) H ρ E h):Rep T Un L m G H ρ E h:=by
 refine za (R.N) λtb hb Nw=>?_
 refine⟨R.F,⟨tb,hb,λp hp=>Nw p ?_⟩,?_,R.len,R.enc,R.ft⟩
 ·simp only[Gn,Gh] at hp ⊢
  rcases hp with q|q|q<;>simp[q]
 ·have nd:=R.nd
  refine F4 (List.Sublist.map _ ?_) nd
  exact(List.Sublist.refl _).append ((List.sublist_append_right _ _).cons₂ _)
theorem Rep.takeG{x:Addr}{ob ob':Obj}(R:Rep T Un L m ((x,ob)::G) H ρ E h){tb:Obj}(hb:TbOk T E tb)(F':Fr Un L h' m')(N':News Un L h' (E++(T.tab,tb)::(x,ob')::G)){o:O}
  (ho:OAt T ((x,ob')::E) ρ x x o) (hf:zS o (x,x)=[x]):Rep T Un L m' G (H++[o]) (ρ++[(x,x)]) ((x,ob')::E) h'/\Ext E ρ ((x,ob')::E) (ρ++[(x,x)])/\(ρ++[(x,x)])[H.length]?=some (x,x):=by
 have xt:Ext E ρ ((x,ob')::E) ρ:=⟨λ_ _ e=>e,λp hp _=>Gd _ hp⟩
 have nd:=R.nd
 simp only[Gw,GG] at nd
 refine zC (Gu.mp nd) λn1 n2 n3=>?_
 rw[Gr,Gr] at n2
 have R1:Rep T Un L m' G H ρ ((x,ob')::E) h':=by
  refine⟨F',⟨tb,hb.ext λp hp _=>Gd _ hp,λp hp=>N' p ?_⟩,?_,R.len,λi o' a d h1 h2=>(R.enc i o' a d h1 h2).mono xt λ_ _ _ hm=>Gd _ hm,R.ft⟩
  ·simp only[Gn,Gh,Di] at hp ⊢
   rcases hp with q|q|q|q<;>simp[q]
  ·simp only[Di,GG,Gw,Gr]
   refine⟨λq=>?_,Gu.mpr ⟨n1,Gr.mpr ⟨λq=>n2.1 (Gd _ q),n2.2.2⟩,λa ha b hb e=>?_⟩⟩
   ·rcases Gn.mp q with q|q
    ·exact n3 x q x (Gd _ (G9 ..)) rfl
    ·rcases Gh.mp q with q|q
     ·exact n2.1 (q▸G9 ..)
     ·exact n2.2.1 q
   ·rcases Gh.mp hb with q|q
    ·exact n3 a ha b (q▸G9 ..) e
    ·exact n3 a ha b (Gd _ (Gd _ q)) e
 obtain⟨R2,x2⟩:=R1.alloc (o:=o) (a:=x) (d:=x) ho (by
  intro b hb' hm
  rw[hf,GE] at hb'
  subst hb'
  refine zh (R.key _ hm) λq hq=>?_
  exact n3 b (GC hq) b (Gd _ (G9 ..)) rfl) (by rw[hf];simp)
 exact⟨R2,xt.trans x2,by rw[←R.len];simp⟩
end
section
variable {RX:RxT} {T:Tp} {P:Prg} {N:Nm} {O:Orc} {d:Nat}
variable {c:Cx} {s:Shared} {ρ:Rn} {E:Lg} {H:Hp} {Q:V->Hp->Prop} {X:Nat->Hp->Prop} {Er:Value->Shared->Prop}
theorem PostB.go{Q:Bool->Hp->Prop}{t:Sem Bool}{α:Type}{S:Bool->Shared->Prop}{A:Around}(h:wpAny (model T.prog T.w) A t (PostB T c s ρ E Q) Er s)
  (k:∀b h' tk H' ρ' E',c.Rep T H' ρ' E' h'->Ext E ρ E' ρ'->Q b H'->S b {s with heap:=h',toks:=tk}):wpAny (model T.prog T.w) A t S Er s:=
 wpAny_mono h (λu s' p=>by obtain⟨h',tk,H',ρ',E',rfl,R,x,q⟩:=p;exact k u h' tk H' ρ' E' R x q) λ_ _ e=>e
theorem ev_eq{e:Mn.E}{L:Lc}{Q Q':V->Hp->Prop}(he:ev P O e X L H Q)(h:∀u H,Q u H=Q' u H):ev P O e X L H Q':=by
 have:Q=Q':=funext λu=>funext λH=>h u H
 subst this
 exact he
theorem J1{o:UnaryOp}(h:isNot o=true):o= .Not:=by rcases o<;>first|rfl|exact absurd h G3
theorem J5{o:BoolOp}(h:isAnd o=true):o= .And:=by rcases o<;>first|rfl|exact absurd h G3
theorem kX{o:BoolOp}(h:(!isAnd o)=true):o= .Or:=by rcases o<;>first|rfl|exact absurd h G3
theorem ev_not{a:Mn.E}(ia:EvOk RX T P N O d a):EvOk RX T P N O d (.not a):=by
 intro x c lm sc tb X L H Q ρ E s Er hc C S he R Lk XR
 refine zF (iUn hc) ?_;clear hc;intro op x pos rq3 hc;subst rq3
 refine zf (an2 hc) ?_;clear hc;intro h0 hc
 obtain rfl:=J1 h0
 refine UnaryOp_ (Post.go (ia hc C S he R Lk XR) λu v h' tk H' ρ' E' R' x' hv q=>not_of ?_)
 refine za (zp q) ?_;clear q;intro b hb q
 exact Z4 (s:={s with heap:=h',toks:=tk}) R' hv hb λtk'=>Post.up x' (Post.here (s:={s with heap:=h',toks:=tk}) R' (.bool _) q)
theorem tr_not{a:Mn.E}(ia:TrOk RX T P N O d a):TrOk RX T P N O d (.not a):=by
 intro x c lm sc tb X L H Q ρ E s Er hc C S he R Lk XR
 refine zF (iUn hc) ?_;clear hc;intro op x pos rq3 hc;subst rq3
 refine zf (an2 hc) ?_;clear hc;intro h0 hc
 obtain rfl:=J1 h0
 replace he:ev P O a X L H (tq λb H₁=>Q (!b) H₁):=he
 exact isTrue_not (wpAny_mono (ia hc C S he R Lk XR) (λb s' p=>by obtain⟨h',tk,H',ρ',E',e,R',x',q⟩:=p;exact⟨h',tk,H',ρ',E',e,R',x',q⟩) λ_ _ e=>e)
theorem ev_ifx{b a e:Mn.E}(ib:TrOk RX T P N O d b)(ia:EvOk RX T P N O d a)(ie:EvOk RX T P N O d e):EvOk RX T P N O d (.ifx b a e):=by
 intro x c lm sc tb X L H Q ρ E s Er hc C S he R Lk XR
 refine yU (iIfx hc) ?_;clear hc;intro y0 y1 y2 pos rq4 hc;subst rq4
 refine zC (an3 hc) ?_;clear hc;intro h1 h2 h3
 replace he:ev P O b X L H (tq λb H₁=>ite2 b (ev P O a X L H₁ Q) (ev P O e X L H₁ Q)):=he
 refine IfExp_ (PostB.go (α:=Unit) (ib h1 C S he R Lk XR) λb h' tk H' ρ' E' R' x' q=>?_)
 induction b using GF with
 |true=>exact wpAny_mono (ia (s:={s with heap:=h',toks:=tk}) h2 C S q R' (Lk.ext x') (xrUp XR x')) (λ_ _ p=>p.up x') λ_ _ e=>e
 |false=>exact wpAny_mono (ie (s:={s with heap:=h',toks:=tk}) h3 C S q R' (Lk.ext x') (xrUp XR x')) (λ_ _ p=>p.up x') λ_ _ e=>e
theorem tr_ifx{b a e:Mn.E}(ib:TrOk RX T P N O d b)(ia:TrOk RX T P N O d a)(ie:TrOk RX T P N O d e):TrOk RX T P N O d (.ifx b a e):=by
 intro x c lm sc tb X L H Q ρ E s Er hc C S he R Lk XR
 refine yU (iIfx hc) ?_;clear hc;intro y0 y1 y2 pos rq4 hc;subst rq4
 refine zC (an3 hc) ?_;clear hc;intro h1 h2 h3
 replace he:ev P O b X L H (tq λb H₁=>ite2 b (ev P O a X L H₁ (tq Q)) (ev P O e X L H₁ (tq Q))):=he
 refine isTrue_IfExp (PostB.go (α:=Unit) (ib h1 C S he R Lk XR) λb h' tk H' ρ' E' R' x' q=>?_)
 induction b using GF with
 |true=>exact wpAny_mono (ia (s:={s with heap:=h',toks:=tk}) h2 C S q R' (Lk.ext x') (xrUp XR x')) (λ_ _ p=>p.up x') λ_ _ e=>e
 |false=>exact wpAny_mono (ie (s:={s with heap:=h',toks:=tk}) h3 C S q R' (Lk.ext x') (xrUp XR x')) (λ_ _ p=>p.up x') λ_ _ e=>e
theorem ev_and{a b:Mn.E}(ia:EvOk RX T P N O d a)(ib:EvOk RX T P N O d b):EvOk RX T P N O d (.and a b):=by
 intro x c lm sc tb X L H Q ρ E s Er hc C S he R Lk XR
 refine zF (iBool hc) ?_;clear hc;intro op xs pos rq3 hc;subst rq3
 refine zf (an2 hc) ?_;clear hc;intro h0 hc
 obtain rfl:=J5 h0
 refine zl (iHt hc) ?_;clear hc;intro x xs' e1 hc
 obtain rfl:xs=x::xs':=e1
 refine zf (an2 hc) ?_;clear hc;intro h1 h2
 revert h2
 generalize hxs:xs'=xs
 intro h2
 rcases xs with _|⟨y,ys⟩
 ·exact absurd h2 G3
 refine BoolOp_and (Post.go (ia h1 C S he R Lk XR) λu v h' tk H' ρ' E' R' x' hv q=>?_)
 have hb:∀{X' H' ρ' E' Q'} {s':Shared},ev P O b X' L H' Q'->c.Rep T H' ρ' E' s'.heap->LOk T tb c E' ρ' L->(∀e s'',XPost RX c s' ρ' E' X' e s''->Er e s'')->wpAny (model T.prog T.w) c.A (eval (.BoolOp .And (y::ys) pos) c.fe) (Post T c s' ρ' E' Q') Er s':=by
  intro X' H' ρ' E' Q' s' he' R' Lk' XR'
  rcases ys with _|⟨z,ys⟩
  ·exact BoolOp_one (ib h2 C S he' R' Lk' XR')
  ·exact ib h2 C S he' R' Lk' XR'
 refine za (zp q) ?_;clear q;intro tt ht q
 cases tt with
 |true=>
  exact Z4 (s:={s with heap:=h',toks:=tk}) R' hv ht λtk'=>by
   rw[if_pos rfl]
   exact wpAny_mono (hb (s':={s with heap:=h',toks:=tk'}) q R' (Lk.ext x') (xrUp XR x')) (λ_ _ p=>p.up x') λ_ _ e=>e
 |false=>
  exact Z4 (s:={s with heap:=h',toks:=tk}) R' hv ht λtk'=>by
   rw[if_neg G3]
   exact Post.up x' (Post.here (s:={s with heap:=h',toks:=tk}) R' hv q)
theorem ev_or{a b:Mn.E}(ia:EvOk RX T P N O d a)(ib:EvOk RX T P N O d b):EvOk RX T P N O d (.or a b):=by
 intro x c lm sc tb X L H Q ρ E s Er hc C S he R Lk XR
 refine zF (iBool hc) ?_;clear hc;intro op xs pos rq3 hc;subst rq3
 refine zf (an2 hc) ?_;clear hc;intro h0 hc
 obtain rfl:=kX h0
 refine zl (iHt hc) ?_;clear hc;intro x xs' e1 hc
 obtain rfl:xs=x::xs':=e1
 refine zf (an2 hc) ?_;clear hc;intro h1 h2
 revert h2
 generalize hxs:xs'=xs
 intro h2
 rcases xs with _|⟨y,ys⟩
 ·exact absurd h2 G3
 refine BoolOp_or (Post.go (ia h1 C S he R Lk XR) λu v h' tk H' ρ' E' R' x' hv q=>?_)
 have hb:∀{X' H' ρ' E' Q'} {s':Shared},ev P O b X' L H' Q'->c.Rep T H' ρ' E' s'.heap->LOk T tb c E' ρ' L->(∀e s'',XPost RX c s' ρ' E' X' e s''->Er e s'')->wpAny (model T.prog T.w) c.A (eval (.BoolOp .Or (y::ys) pos) c.fe) (Post T c s' ρ' E' Q') Er s':=by
  intro X' H' ρ' E' Q' s' he' R' Lk' XR'
  rcases ys with _|⟨z,ys⟩
  ·exact BoolOp_one (ib h2 C S he' R' Lk' XR')
  ·exact ib h2 C S he' R' Lk' XR'
 refine za (zp q) ?_;clear q;intro tt ht q
 cases tt with
 |false=>
  exact Z4 (s:={s with heap:=h',toks:=tk}) R' hv ht λtk'=>by
   rw[if_neg G3]
   exact wpAny_mono (hb (s':={s with heap:=h',toks:=tk'}) q R' (Lk.ext x') (xrUp XR x')) (λ_ _ p=>p.up x') λ_ _ e=>e
 |true=>
  exact Z4 (s:={s with heap:=h',toks:=tk}) R' hv ht λtk'=>by
   rw[if_pos rfl]
   exact Post.up x' (Post.here (s:={s with heap:=h',toks:=tk}) R' hv q)
theorem tr_and{a b:Mn.E}(ia:TrOk RX T P N O d a)(ib:TrOk RX T P N O d b):TrOk RX T P N O d (.and a b):=by
 intro x c lm sc tb X L H Q ρ E s Er hc C S he R Lk XR
 refine zF (iBool hc) ?_;clear hc;intro op xs pos rq3 hc;subst rq3
 refine zf (an2 hc) ?_;clear hc;intro h0 hc
 obtain rfl:=J5 h0
 refine zl (iHt hc) ?_;clear hc;intro x xs' e1 hc
 obtain rfl:xs=x::xs':=e1
 refine zf (an2 hc) ?_;clear hc;intro h1 h2
 revert h2
 generalize hxs:xs'=xs
 intro h2
 replace he:ev P O a X L H λu H₁=>ifS (yu u H₁) λt=>ite2 t (ev P O b X L H₁ (tq Q)) (tq Q u H₁):=he
 replace he:ev P O a X L H (tq λt H₁=>ite2 t (ev P O b X L H₁ (tq Q)) (Q false H₁)):=ev_eq he λu H₁=>by
  unfold tq
  induction ht:yu u H₁ using Gq with
  |none=>rfl
  |some t=>rcases t<;>first|rfl|(dsimp only [ifS,ite2];try rw[ht])
 rcases xs with _|⟨y,ys⟩
 ·exact absurd h2 G3
 refine isTrue_and (PostB.go (α:=Unit) (ia h1 C S he R Lk XR) λt h' tk H' ρ' E' R' x' q=>?_)
 induction t using GF with
 |false=>rw[if_neg G3];exact PostB.up x' ⟨h',tk,H',ρ',E',rfl,R',Ext.refl _ _,q⟩
 |true=>
  rw[if_pos rfl]
  rcases ys with _|⟨z,ys⟩
  ·refine isTrue_and (PostB.go (α:=Unit) (ib (s:={s with heap:=h',toks:=tk}) h2 C S q R' (Lk.ext x') (xrUp XR x')) λt h'' tk' H'' ρ'' E'' R'' x'' q'=>?_)
   induction t using GF with
   |true=>rw[if_pos rfl];exact isTrue_and_nil (PostB.up x' (PostB.up x'' ⟨h'',tk',H'',ρ'',E'',rfl,R'',Ext.refl _ _,q'⟩))
   |false=>rw[if_neg G3];exact PostB.up x' (PostB.up x'' ⟨h'',tk',H'',ρ'',E'',rfl,R'',Ext.refl _ _,q'⟩)
  ·exact wpAny_mono (ib (s:={s with heap:=h',toks:=tk}) h2 C S q R' (Lk.ext x') (xrUp XR x')) (λ_ _ p=>PostB.up x' p) λ_ _ e=>e
theorem tr_or{a b:Mn.E}(ia:TrOk RX T P N O d a)(ib:TrOk RX T P N O d b):TrOk RX T P N O d (.or a b):=by
 intro x c lm sc tb X L H Q ρ E s Er hc C S he R Lk XR
 refine zF (iBool hc) ?_;clear hc;intro op xs pos rq3 hc;subst rq3
 refine zf (an2 hc) ?_;clear hc;intro h0 hc
 obtain rfl:=kX h0
 refine zl (iHt hc) ?_;clear hc;intro x xs' e1 hc
 obtain rfl:xs=x::xs':=e1
 refine zf (an2 hc) ?_;clear hc;intro h1 h2
 revert h2
 generalize hxs:xs'=xs
 intro h2
 replace he:ev P O a X L H λu H₁=>ifS (yu u H₁) λt=>ite2 t (tq Q u H₁) (ev P O b X L H₁ (tq Q)):=he
 replace he:ev P O a X L H (tq λt H₁=>ite2 t (Q true H₁) (ev P O b X L H₁ (tq Q))):=ev_eq he λu H₁=>by
  unfold tq
  induction ht:yu u H₁ using Gq with
  |none=>rfl
  |some t=>rcases t<;>(dsimp only [ifS,ite2];try rw[ht])
 rcases xs with _|⟨y,ys⟩
 ·exact absurd h2 G3
 refine isTrue_or (PostB.go (α:=Unit) (ia h1 C S he R Lk XR) λt h' tk H' ρ' E' R' x' q=>?_)
 induction t using GF with
 |true=>rw[if_pos rfl];exact PostB.up x' ⟨h',tk,H',ρ',E',rfl,R',Ext.refl _ _,q⟩
 |false=>
  rw[if_neg G3]
  rcases ys with _|⟨z,ys⟩
  ·refine isTrue_or (PostB.go (α:=Unit) (ib (s:={s with heap:=h',toks:=tk}) h2 C S q R' (Lk.ext x') (xrUp XR x')) λt h'' tk' H'' ρ'' E'' R'' x'' q'=>?_)
   induction t using GF with
   |false=>rw[if_neg G3];exact isTrue_or_nil (PostB.up x' (PostB.up x'' ⟨h'',tk',H'',ρ'',E'',rfl,R'',Ext.refl _ _,q'⟩))
   |true=>rw[if_pos rfl];exact PostB.up x' (PostB.up x'' ⟨h'',tk',H'',ρ'',E'',rfl,R'',Ext.refl _ _,q'⟩)
  ·exact wpAny_mono (ib (s:={s with heap:=h',toks:=tk}) h2 C S q R' (Lk.ext x') (xrUp XR x')) (λ_ _ p=>PostB.up x' p) λ_ _ e=>e
theorem ls_nil:LsOk RX T P N O d .nil:=by
 intro xs pos c lm sc tb X L H Q ρ E s Er hc C S he R Lk XR
 obtain rfl:=zH hc
 exact args_nil ⟨s.heap,s.toks,[],H,ρ,E,rfl,R,Ext.refl _ _,.nil,rfl,he⟩
theorem ls_cons{a b:Mn.E}(ia:EvOk RX T P N O d a)(ib:LsOk RX T P N O d b):LsOk RX T P N O d (.cons a b):=by
 intro xs pos c lm sc tb X L H Q ρ E s Er hc C S he R Lk XR
 refine zl (iHt hc) ?_;clear hc;intro x xs' e1 hc
 obtain rfl:xs=x::xs':=e1
 refine zC (an3 hc) ?_;clear hc;intro h0 h1 h2
 refine args_cons (Post.go (ia h1 C S he R Lk XR) λu v h' tk H' ρ' E' R' x' hv q=>?_) (yX h0)
 refine wpAny_mono (ib (s:={s with heap:=h',toks:=tk}) h2 C S q R' (Lk.ext x') (xrUp XR x')) (λus s' p=>?_) λ_ _ e=>e
 obtain⟨h'',tk',vs,H'',ρ'',E'',rfl,R'',x'',hvs,hl,q'⟩:=p
 exact⟨h'',tk',v::vs,H'',ρ'',E'',rfl,R'',x'.trans x'',.cons (hv.ext x'') hvs,by simp[hl],q'⟩
theorem ev_tup{a:Mn.E}(ia:LsOk RX T P N O d a):EvOk RX T P N O d (.tup a):=by
 intro x c lm sc tb X L H Q ρ E s Er hc C S he R Lk XR
 refine zF (iTup hc) ?_;clear hc;intro xs kk pos rq3 hc;subst rq3
 refine zf (an2 hc) ?_;clear hc;intro h1 h2
 have h1:=natB.mp h1
 refine Tuple_ (wpAny_mono (ia h2 C S he R Lk XR) (λus s' p=>?_) λ_ _ e=>e)
 obtain⟨h',tk,vs,H',ρ',E',rfl,R',x',hvs,hl,q⟩:=p
 refine za (R'.N) λtb' hb Nw=>?_
 refine newTuple_N (s:={s with heap:=h',toks:=tk}) R'.F Nw (λh'' F' N'=>?_) (by rw[hl,sizeLine_eq];exact ot4 h1)
 refine zf (R'.one hb F' N' (yD Nw)) λR'' x''=>?_
 exact Post.up x' ⟨h'',tk,_,_,_,_,rfl,R'',x'',.tup (.inl ⟨0,G9 ..⟩) (hvs.ext x''),q⟩
theorem ev_lst{a:Mn.E}(ia:LsOk RX T P N O d a):EvOk RX T P N O d (.lst a):=by
 intro x c lm sc tb X L H Q ρ E s Er hc C S he R Lk XR
 refine zl (iList hc) ?_;clear hc;intro xs pos rq2 hc;subst rq2
 refine List_ (wpAny_mono (ia hc C S he R Lk XR) (λus s' p=>?_) λ_ _ e=>e)
 obtain⟨h',tk,vs,H',ρ',E',rfl,R',x',hvs,hl,q⟩:=p
 refine zf (gd_iff.mp q) ?_;clear q;intro e1 q
 have h1:=natB.mp e1
 refine za (R'.N) λtb' hb Nw=>?_
 refine newList_N (s:={s with heap:=h',toks:=tk}) R'.F Nw (λh'' F' N'=>?_) (by rw[←hvs.length,sizeLine_eq];exact ot1 h1)
 refine zC (R'.newL (n:=0) hb hvs h1 F' N' (yD Nw)) λR'' x'' hr=>?_
 exact Post.up x' ⟨h'',tk,_,_,_,_,rfl,R'',x'',.obj hr,q⟩
theorem ev_idx{a b:Mn.E}(ia:EvOk RX T P N O d a)(ib:EvOk RX T P N O d b):EvOk RX T P N O d (.idx a b):=by
 intro x c lm sc tb X L H Q ρ E s Er hc C S he R Lk XR
 refine zF (iSub hc) ?_;clear hc;intro y z pos rq3 hc;subst rq3
 refine zC (an3 hc) ?_;clear hc;intro h0 h1 h2
 refine Subscript_ (Post.go (ia h1 C S he R Lk XR) λu v h' tk H' ρ' E' R' x' hv q=>?_)
 refine Post.go (ib (s:={s with heap:=h',toks:=tk}) h2 C S q R' (Lk.ext x') (xrUp XR x')) λu2 v2 h2 tk2 H2 ρ2 E2 R2 x2 hv2 q2=>?_
 exact idx_ok (s:={s with heap:=h2,toks:=tk2}) h0 C R2 (hv.ext x2) hv2 q2 λw v' tk3 hw q3=>Post.up x' (Post.up x2 (Post.here (s:={s with heap:=h2,toks:=tk2}) R2 hw q3))
set_option tactic.hygienic true in
theorem Jz{e:Mn.E}(h:ZM e=true):e= .c .none:=by
 rcases e<;>first|exact absurd h G3|skip
 rename_i v
 rcases v<;>first|rfl|exact absurd h G3
theorem Zf{l:Option G4}{lo:Mn.E}{lm:Bool}{sc:Scope}{tb:List Str}{L:Lc}
  (hc:oN l (ZM lo) (chkE N T.K lm sc tb lo)=true) (ia:EvOk RX T P N O d lo) (C:c.Ok T d) (S:ScOk T lm sc c) (he:ev P O lo X L H Q) (R:c.Rep T H ρ E s.heap) (Lk:LOk T tb c E ρ L)
  (XR:∀e s',XPost RX c s ρ E X e s'->Er e s'):wpAny (model T.prog T.w) c.A (valueOrNone (evalOpt l c.fe)) (Post T c s ρ E Q) Er s:=by
 induction l using Gq with
 |none=>
  obtain rfl:=Jz hc
  exact wpAny_pure (Post.at R .none he)
 |some y=>exact ia hc C S he R Lk XR
theorem Yq{α:Type}{o:Option α}(h:o.isNone=true):o=none:=by
 induction o using Gq with
 |none=>rfl
 |some _=>exact absurd h G3
theorem kM{x:G4}(h:negOne x=true):∃k p q,x= .UnaryOp .USub (.Constant (.int 1) k p) q:=by
 refine zF (iUn h) ?_;clear h;intro o y q rq3 h;subst rq3
 refine zf (an2 h) ?_;clear h;intro h0 h
 refine zF (Kb h) ?_;clear h;intro c k p e2 h
 refine za (yf h) ?_;clear h;intro j e3 h
 have e2:y= .Constant c k p:=e2
 have h0:JA o=true:=h0
 rw[e2,J6 e3,J2 h0,of_decide_eq_true h]
 exact⟨k,p,q,rfl⟩
theorem ev_slice{a lo hi:Mn.E}(ia:EvOk RX T P N O d a)(il:EvOk RX T P N O d lo)(ih:EvOk RX T P N O d hi)(K:TpOk T P N):EvOk RX T P N O d (.slice a lo hi):=by
 intro x c lm sc tb X L H Q ρ E s Er hc C S he R Lk XR
 refine zF (iSub hc) ?_;clear hc;intro x y pos rq3 hc;subst rq3
 refine yU (iSlice hc) ?_;clear hc;intro l u st p e1 hc
 obtain rfl:y= .Slice l u st p:=e1
 refine Zo (an4 hc) ?_;clear hc;intro h0 h1 h2 h3
 obtain rfl:=Yq h0
 refine Subscript_ (Post.go (ia h1 C S he R Lk XR) λo v h' tk H' ρ' E' R' x' hv q=>?_)
 rw[arm_eval_Slice]
 refine wpAny_bind (Post.go (Zf (s:={s with heap:=h',toks:=tk}) h2 il C S q R' (Lk.ext x') (xrUp XR x')) λo2 v2 h2 tk2 H2 ρ2 E2 R2 x2 hv2 q2=>?_)
 refine wpAny_bind (wpAny_holding (Post.go (Zf (s:={s with heap:=h2,toks:=tk2}) h3 ih C S q2 R2 ((Lk.ext x').ext x2) (xrUp (xrUp XR x') x2)) λo3 v3 h3 tk3 H3 ρ3 E3 R3 x3 hv3 q3=>?_))
 refine wpAny_bind (wpAny_holding (wpAny_pure ?_))
 refine wpAny_newObj_type ?_ (by show(3:Nat)<=_;decide)
 rw[K.scr] at q3
 exact wpAny_mono (slice_ok (s:={s with heap:=h3,toks:=tk3}) C R3 ((hv.ext x2).ext x3) (hv2.ext x3) hv3 q3) (λ_ _ p=>Post.up x' (Post.up x2 (Post.up x3 p))) λ_ _ e=>e
theorem ev_rev{a:Mn.E}(ia:EvOk RX T P N O d a):EvOk RX T P N O d (.rev a):=by
 intro x c lm sc tb X L H Q ρ E s Er hc C S he R Lk XR
 refine zF (iSub hc) ?_;clear hc;intro x y pos rq3 hc;subst rq3
 refine yU (iSlice hc) ?_;clear hc;intro l u st p e1 hc
 obtain rfl:y= .Slice l u st p:=e1
 refine Zo (an4 hc) ?_;clear hc;intro h0 h1 h2 h3
 obtain rfl:l=none:=Yq h0
 obtain rfl:u=none:=Yq h1
 refine za (yf h2) ?_;clear h2;intro z e2 h2
 obtain rfl:st=some z:=e2
 refine xe3c1 (kM h2) ?_;clear h2;intro kk kp kq rq3;subst rq3
 refine Subscript_ (Post.go (ia h3 C S he R Lk XR) λo v h' tk H' ρ' E' R' x' hv q=>?_)
 refine zy (yl q) ?_;clear q;intro i vs rq2 e1 q;subst rq2
 refine zl (hv.ofObj) λaa dd rq2 hi=>?_;subst rq2
 rw[arm_eval_Slice]
 refine wpAny_bind (wpAny_pure (wpAny_bind (wpAny_holding (wpAny_pure (wpAny_bind (wpAny_holding ?_))))))
 show wpAny _ _ (eval _ c.fe) _ _ _
 refine UnaryOp_ (wpAny_mkInt (PyProof.Rows.neg_int ?_))
 refine wpAny_newObj_type ?_ (by show(3:Nat)<=_;decide)
 exact wpAny_mono (rev_ok (s:={s with heap:=h',toks:=tk+1+1}) R' hi e1 q) (λ_ _ p=>Post.up x' p) λ_ _ e=>e
theorem XP{M:Model}{A:Around}{env:Env}{fv:Value}{xs:List G4}{pos:Pos}{S:Args->Shared->Prop}(hx:xs.all zP=true)
  (h:wpAny M A (spliced (backTo pos (starEach xs env))) (λvs UN=>S ⟨vs,[]⟩ UN) Er s):wpAny M A (evalArgs fv true (backTo pos (starEach xs env)) []) S Er s:=by
 rcases xs with _|⟨x,xs⟩
 ·show wpAny M A (evalArgs fv true [] []) S Er s
  unfold evalArgs
  show wpAny M A (spliced [] >>= _) S Er s
  refine wpAny_bind (wpAny_mono h (λvs s' h'=>?_) λ_ _ x=>x)
  refine wpAny_holding ?_
  exact wpAny_bind (wpAny_pure (wpAny_bind (wpAny_pure (wpAny_pure h'))))
 ·rw[FR,GS] at hx
  rw[yX hx.1] at h ⊢
  exact evalArgs_plain h
theorem Yy{M:Model}{A:Around}{env:Env}{fv:Value}{first:List Value}{xs:List G4}{pos:Pos}{S:Value->Shared->Prop}{Pr:Heap->Prop}(hx:xs.all zP=true)
  (hk:∀h,Pr h->∃k,(k=I3∨k=FE∨k=F9)/\Looks M h (keeperOf fv) k)
  (h:wpAny M A (spliced (backTo pos (starEach xs env))) (λvs UN=>Pr UN.heap/\wpAny M A (call fv (first++vs)) S Er UN) Er s):wpAny M A (callWith pos fv first (backTo pos (starEach xs env)) []) S Er s:=
 callWith_of (by rw[(ZW hx).1];rfl) hk (XP hx h)
theorem Yk{M:Model}{h:Heap}{fv:Value}{k:Keeper}(e:keeperOf fv=pure k):Looks M h (keeperOf fv) k:=Looks.of_pure e
theorem keep_bf(b:Bf):keeperOf (bfVal b)=pure .machine:=by rcases b<;>rfl
theorem YA{b:Mn.E}{f:Nat}{us0:List V}{first:List Value}{fv:Value}{lm:Bool}{sc:Scope}{tb:List Str}{L:Lc}{xs:List G4}{pos:Pos}{Pr:Heap->Prop}(hO:jH RX T O d)(ib:LsOk RX T P N O d b)
  (hc:chkL N T.K lm sc tb b xs=true) (C:c.Ok T d) (S:ScOk T lm sc c) (he:ev P O b X L H (λv H₁=>tupP v λvs=>O f (us0++vs) H₁ Q X)) (R:c.Rep T H ρ E s.heap) (Lk:LOk T tb c E ρ L)
  (XR:∀e s',XPost RX c s ρ E X e s'->Er e s') (hf:VRs T E ρ us0 first) (hcal:CalAt T E f fv)
  (hk:∀h,Pr h->∃k,(k=I3∨k=FE∨k=F9)/\Looks (model T.prog T.w) h (keeperOf fv) k) (hP:∀h' ρ' E',Ext E ρ E' ρ'->(∃H',c.Rep T H' ρ' E' h')->Pr h') :
  wpAny (model T.prog T.w) c.A (callWith pos fv first (backTo pos (starEach xs c.fe)) []) (Post T c s ρ E Q) Er s:=by
 refine Yy (yP hc) hk (wpAny_mono (ib hc C S he R Lk XR) (λus s' p=>?_) λ_ _ e=>e)
 obtain⟨h',tk,vs,H',ρ',E',rfl,R',x',hvs,hl,q⟩:=p
 refine⟨hP _ _ _ x' ⟨H',R'⟩,?_⟩
 exact wpAny_mono (hO c f (us0++vs) H' Q X ρ' E' {s with heap:=h',toks:=tk} (first++us) fv Er C q R' ((VRs.ext x' hf).append hvs) (hcal.ext x') (xrUp XR x')) (λ_ _ p=>Post.up x' p) λ_ _ e=>e
theorem jZ(C:c.Ok T d){a:Addr}(hk:keepIn T.K (.ref a)=true):∀h,T.K.In h->∃k,(k=I3∨k=FE∨k=F9)/\Looks (model T.prog T.w) h (keeperOf (.ref a)) k:=λh X=>keeps_K hk h X
theorem ev_call(K:TpOk T P N)(hO:jH RX T O d)(f:Nat){b:Mn.E}(ib:LsOk RX T P N O d b):EvOk RX T P N O d (.call f b):=by
 intro x c lm sc tb X L H Q ρ E s Er hc C S he R Lk XR
 refine zF (Kd hc) ?_;clear hc;intro fx xs pos rq3 hc;subst rq3
 refine zl (ZX hc) ?_;clear hc;intro y py e1 hc
 obtain rfl:fx= .Name y py:=e1
 refine Zo (an4 hc) ?_;clear hc;intro h1 h2 h3 h4
 refine za (yf h1) ?_;clear h1;intro z hz h1
 obtain rfl:=eqStr_iff.mp h1
 refine za (K.glo f z hz) λa ha hg=>?_
 refine zf (an2 hg) ?_;clear hg;intro g1 g2
 refine Call_ (YB C R.F (S.glob _ h2) (beq_iff_eq.mp g1) (Jd h3) ?_)
 refine YA (Pr:=λh=>T.K.In h) (us0:=[]) (first:=[]) (f:=f) hO ib h4 C S he R Lk XR .nil ?_ (jZ C g2) λh' ρ' E' _ ⟨H',R'⟩=>C.X.keeps R'.F.keep
 rcases ha with ha|ha
 ·exact .inl ⟨a,ha,rfl⟩
 ·exact .inr (.inl ⟨a,ha,rfl⟩)
theorem JM{o:Option (Option Value)}(h:(match o with|some none=>true|_=>false)=true):o=some none:=by
 induction o using Gq with
 |none=>exact absurd h G3
 |some u=>induction u using Gq with
  |none=>rfl
  |some _=>exact absurd h G3
theorem ev_bf(b:Bf){a:Mn.E}(ia:LsOk RX T P N O d a):EvOk RX T P N O d (.bf b a):=by
 intro x c lm sc tb X L H Q ρ E s Er hc C S he R Lk XR
 refine zF (Kd hc) ?_;clear hc;intro fx xs pos rq3 hc;subst rq3
 refine zl (ZX hc) ?_;clear hc;intro y py e1 hc
 obtain rfl:fx= .Name y py:=e1
 refine Zo (an4 hc) ?_;clear hc;intro h1 h2 h3 h4
 obtain rfl:=eqStr_iff.mp h1
 replace h3:=JM h3
 refine Call_ (JQ C R.F (S.glob _ h2) h3 (bfBoot b) ?_ ?_ ?_)
 ·rcases b<;>decide
 ·rcases b<;>decide
 ·refine Yy (Pr:=λ_=>True) (yP h4) (λh _=>⟨.machine,.inr (.inl rfl),Yk (keep_bf b)⟩) (wpAny_mono (ia h4 C S he R Lk XR) (λus s' p=>⟨trivial,?_⟩) λ_ _ e=>e)
  obtain⟨h',tk,vs,H',ρ',E',rfl,R',x',hvs,hl,q⟩:=p
  exact wpAny_mono (bfun_ok (s:={s with heap:=h',toks:=tk}) C R' hvs q) (λ_ _ p=>Post.up x' p) λ_ _ e=>e
theorem kN{o:G4}{name:Str}{ap pos:Pos}{xs:List G4}{env:Env}(h1:Yh o=true)(h2:Gg ap.endLine pos.line=true)(h3:xs.all zP=true)(h4:Gz xs.length 29=true) :
  eval (.Call (.Attribute o name ap) xs [] pos) env=(do
   let ov ←eval o env
   standAt ap.atName
   let (f,first) ←holding [ov] (getMethod ov name (do return(←importBound o env).getD true))
   callWith pos f first (backTo pos (starEach xs env)) []):=by
 rw[arm_eval_Call,ZT h1]
 have hf:methodCallForm (xs.length+([]:List Keyword).length) (backTo pos (starEach xs env)) (backToKw pos (keywordEach [] env))=true:=by
  unfold methodCallForm
  rw[(ZW h3).2]
  have:xs.length < 29:=by simpa [DS] using h4
  show(true && ((backToKw pos (keywordEach [] env)).all (·.1.isSome)) && decide (xs.length+0+(if (backToKw pos (keywordEach [] env)).isEmpty=true then 0 else 1) < 30))=true
  have e:backToKw pos (keywordEach [] env)=[]:=rfl
  rw[e]
  simp;exact om49 this
 have hp:methodCallPos true o env ap pos=pure pos:=by
  unfold methodCallPos
  have:(ap.endLine==pos.line)=true:=by rw[natE.mp h2];simp
  simp[this]
 congr 1
 funext ov
 congr 1
 funext _
 unfold methodCall
 rw[hf]
 show(do let (f,first) ←holding [ov] (getMethod ov name _);let callPos ←methodCallPos true o env ap pos;callWith callPos f first (backTo pos (starEach xs env)) (backToKw pos (keywordEach [] env)))=_
 rw[hp]
 rfl
theorem ev_meth(K:TpOk T P N)(hO:jH RX T O d)(m:Nat){a b:Mn.E}(ia:EvOk RX T P N O d a)(ib:LsOk RX T P N O d b):EvOk RX T P N O d (.meth a m b):=by
 intro x c lm sc tb X L H Q ρ E s Er hc C S he R Lk XR
 refine zF (Kd hc) ?_;clear hc;intro fx xs pos rq3 hc;subst rq3
 refine zF (Ke hc) ?_;clear hc;intro o n ap e1 hc
 obtain rfl:fx= .Attribute o n ap:=e1
 refine YE (an6 hc) ?_;clear hc;intro h1 h2 h3 h4 h5 h6
 obtain rfl:=eqStr_iff.mp h1
 refine MethodCall_ (Post.go (ia h5 C S he R Lk XR) λu v h' tk H' ρ' E' R' x' hv q=>?_) (kN h2 h3 (yP h6) h4)
 refine Z9 (jD q) ?_;clear q;intro i k fs rq3 e1 q;subst rq3
 refine za (zp q) ?_;clear q;intro g hg q
 refine zl (hv.ofObj) λaa dd rq2 hi=>?_;subst rq2
 refine getM_ok (s:={s with heap:=h',toks:=tk}) K C R' e1 hi hg λga hga hkeep=>?_
 exact wpAny_mono (YA (s:={s with heap:=h',toks:=tk}) (Pr:=λh=>T.K.In h) (us0:=[.obj i]) (f:=g) hO ib h6 C S q R' (Lk.ext x') (xrUp XR x') (.cons (.obj hi) .nil) (.inl ⟨ga,hga,rfl⟩) (jZ C hkeep) λh' ρ' E' _ ⟨H',R'⟩=>C.X.keeps R'.F.keep) (λ_ _ p=>Post.up x' p) λ_ _ e=>e
theorem ev_bm(b:Bm){a e:Mn.E}(ia:EvOk RX T P N O d a)(ib:LsOk RX T P N O d e):EvOk RX T P N O d (.bm b a e):=by
 intro x c lm sc tb X L H Q ρ E s Er hc C S he R Lk XR
 refine zF (Kd hc) ?_;clear hc;intro fx xs pos rq3 hc;subst rq3
 refine zF (Ke hc) ?_;clear hc;intro o n ap e1 hc
 obtain rfl:fx= .Attribute o n ap:=e1
 refine YE (an6 hc) ?_;clear hc;intro h1 h2 h3 h4 h5 h6
 obtain rfl:=eqStr_iff.mp h1
 refine MethodCall_ (Post.go (ia h5 C S he R Lk XR) λu v h' tk H' ρ' E' R' x' hv q=>?_) (kN h2 h3 (yP h6) h4)
 refine zf (gd_iff.mp q) ?_;clear q;intro q1 q
 refine bmGet_ok (s:={s with heap:=h',toks:=tk}) R' hv q1 ?_
 refine Yy (Pr:=λ_=>True) (yP h6) (λh _=>⟨.machine,.inr (.inl rfl),Yk rfl⟩) (wpAny_mono (ib (s:={s with heap:=h',toks:=tk}) h6 C S q R' (Lk.ext x') (xrUp XR x')) (λus s' p=>⟨trivial,?_⟩) λ_ _ e=>e)
 obtain⟨h2',tk2,vs,H2,ρ2,E2,rfl,R2,x2,hvs,hl,q2⟩:=p
 refine za (jK q2) ?_;clear q2;intro ws e3 q2
 obtain rfl:_=_:=V.noConfusion e3 λe=>e
 exact wpAny_mono (bmeth_ok (s:={s with heap:=h2',toks:=tk2}) C R2 (hv.ext x2) hvs q2) (λ_ _ p=>Post.up x' (Post.up x2 p)) λ_ _ e=>e
theorem lam_keep{k:Nat}{a:Addr}(h:LamAt T E k a){M:Model}:∀h',(∃o fd,h'.get? a=some o/\o.data= .func fd)->∃k,(k=I3∨k=FE∨k=F9)/\Looks M h' (keeperOf (.ref a)) k:=by
 rintro h' ⟨o,fd,ho,hd⟩
 refine⟨.frame,.inl rfl,(Looks.ld (part:=none) ho).andThen ?_⟩
 obtain⟨oc,od,odt,osl⟩:=o
 dsimp only at hd
 subst hd
 exact .now
theorem ev_callv(hO:jH RX T O d){a b:Mn.E}(ia:EvOk RX T P N O d a)(ib:LsOk RX T P N O d b):EvOk RX T P N O d (.callv a b):=by
 intro x c lm sc tb X L H Q ρ E s Er hc C S he R Lk XR
 refine zF (Kd hc) ?_;clear hc;intro fx xs pos rq3 hc;subst rq3
 refine zl (ZX hc) ?_;clear hc;intro y py e1 hc
 obtain rfl:fx= .Name y py:=e1
 refine zf (an2 hc) ?_;clear hc;intro h1 h2
 refine Call_ (Post.go (ia h1 C S he R Lk XR) λu v h' tk H' ρ' E' R' x' hv q=>?_)
 refine za (fnP_iff q) ?_;clear q;intro k rq1 q;subst rq1
 refine za (hv.ofFn) λa rq1 hl=>?_;subst rq1
 refine wpAny_mono (YA (s:={s with heap:=h',toks:=tk}) (us0:=[]) (first:=[]) (f:=k) hO ib h2 C S q R' (Lk.ext x') (xrUp XR x') .nil (.inr (.inr ⟨_,hl,rfl⟩)) (lam_keep hl) λh'' ρ'' E'' x'' ⟨H'',R''⟩=>?_) (λ_ _ p=>Post.up x' p) λ_ _ e=>e
 obtain⟨ar,p1,p2,csc,pm,c',ctv,oc,vs,t,_,hm,_⟩:=hl.ext x''.fix
 exact⟨_,_,R''.inNews hm,rfl⟩
theorem updFOf{D:Addr}{o:Obj}:∀{pre post:Lg},(∀p∈pre,p.1≠D)->(∀p∈post,p.1≠D)->UpdF D o (pre++(D,o)::post) (λo'=>pre++(D,o')::post):=by
 intro pre
 induction pre with
 |nil=>
  intro y1 y2 h
  exact .head h
 |cons p pre ih=>
  intro y1 h1 h
  exact .tail (h1 p (G9 ..)) (ih (λq hq=>h1 q (Gd _ hq)) h)
theorem Rep.tabApart(R:c.Rep T H ρ E s.heap):(∀p∈E,p.1≠T.tab)/\∀p∈c.G,p.1≠T.tab:=by
 have nd:=R.nd
 simp only[Gw,GG] at nd
 refine zC (Gu.mp nd) λn1 n2 n3=>?_
 rw[Gr] at n2
 exact⟨λp hp e=>n3 p.1 (GC hp) T.tab (G9 ..) e,λp hp e=>n2.1 (e▸GC hp)⟩
theorem ev_lam(K:TpOk T P N)(k:Nat):EvOk RX T P N O d (.lam k):=by
 intro x c lm sc tb X L H Q ρ E s Er hc C S he R Lk XR
 refine yU (iLam hc) ?_;clear hc;intro ps b csc pos rq4 hc;subst rq4
 refine zC (an3 hc) ?_;clear hc;intro h1 h2 h3
 refine xe0c8 (an8 h3) ?_;clear h3;intro y1 y2 y3 y4 y5 y6 y7 y8
 refine za (iLamArg y1) ?_;clear y1;intro ar rq1 y1;subst rq1
 refine zF (Ke y2) ?_;clear y2;intro bn nn p2 rq3 y2;subst rq3
 refine zl (ZX y2) ?_;clear y2;intro xx p1 e2 y2
 obtain rfl:bn= .Name xx p1:=e2
 refine zf (an2 y2) ?_;clear y2;intro y2 y2'
 rw[eqStr_iff,K.lmX] at y1
 obtain rfl:xx=T.lamX:=(eqStr_iff.mp y2).trans K.lmX
 obtain rfl:nn=T.lamN:=(eqStr_iff.mp y2').trans K.lmN
 rw[K.lmX] at y3
 have hloc:=zt y3
 have hkd:csc.kind= .function:=ZN y5
 have hk:∀x∈csc.names,x.2≠.cell/\x.2≠.free:=λx hx=>by
  have:=GA.mp y4 x hx
  rcases Dg.mp this with q|q<;>rw[YP q]<;>exact⟨by decide,by decide⟩
 have hco:csc.isCoroutine=false:=by simpa using y6
 have hge:csc.isGenerator=false:=by simpa using y7
 refine yU (S.lam h1) λcn cs fa cl hfe hq=>?_
 refine j7 (C.top) λp loose mean mg mb top=>?_
 refine za (R.N) λtb0 hb Nw=>?_
 refine zf (R.tabApart) λa1 a2=>?_
 have hqq:c.fe.qual++("<lambda>":Str)=T.lamQ:=by rw[hfe];exact hq
 have hpos:pos.line=T.lamP.line/\pos.col=T.lamP.col:=by
  have:=K.lmP
  unfold posEq at this y8
  rw[GS] at this y8
  exact⟨(natE.mp y8.1).trans (natE.mp this.1),(natE.mp y8.2).trans (natE.mp this.2)⟩
 have hkk:k=T.lamK:=by rw[←K.lmK];exact natE.mp h2
 refine kla_eval rfl ?_
 rw[hqq,hfe]
 refine za (hb) ?_;clear hb;intro tps rq1 hps;subst rq1
 rcases hps with rfl|⟨c',oc,vs,t,rfl,z1,z2,z3⟩
 ·refine kla_nest R.F Nw top C.tab rfl (updFOf a1 a2) trivial rfl (closureFor_none λx hx=>(hk x hx).2) λf c' oc vs t ctv h' tk F' N' d1 d2 l1 l2=>?_
  have hlt:∀p∈E++(T.tab,tabObj #[])::c.G,p.1 < c':=λp hp=>l1 p hp
  let new:Lg:=[(f,kla_obj "<lambda>" T.lamQ ⟨[],[ar],none,[],[],none,[]⟩ (.Attribute (.Name T.lamX p1) T.lamN p2) csc [] ((mg "__name__").getD .none) c' ctv),(c',oc)]
  have hfix:∀p∈E,yT p.2=true->p∈new++E:=λp hp _=>Gb _ hp
  have R':c.Rep T H ρ (new++E) h':=by
   refine⟨F',⟨tabObj (#[]++#[rawInt pos.line,rawInt pos.col,.ref c']),⟨_,rfl,.inr ⟨c',oc,vs,t,by rw[hpos.1,hpos.2];rfl,by simp[new],d1,d2⟩⟩,by simpa [new] using N'⟩,?_,R.len,
    λi o a dd e1 e2=>(R.enc i o a dd e1 e2).mono ⟨λ_ _ e=>e,hfix⟩ λ_ _ _ hm=>Gb _ hm,R.ft⟩
   rw[Gk,Gw]
   refine Gu.mpr ⟨by show([f,c']:List Addr).Nodup;simp;exact D6 l2,R.nd,?_⟩
   rintro a ha b' hb' rfl
   refine za (D2.mp hb') λq hq hqe=>?_
   have hq':q.1 < c':=by
    rcases Gn.mp hq with hq|hq
    ·exact hlt q (Ge _ hq)
    ·exact hlt q (Gb _ hq)
   rw[hqe] at hq'
   have l2':c' < f:=l2
   simp[new] at ha
   rcases ha with rfl|rfl
   ·exact absurd hq' (DD.mpr (GL l2'))
   ·exact absurd hq' (DE _)
  exact⟨h',tk,.fn k,H,ρ,new++E,rfl,R',⟨λ_ _ e=>e,hfix⟩,.fn ⟨ar,p1,p2,csc,_,c',ctv,oc,vs,t,hkk,Ge _ (G9 ..),y1,hloc,λx hx=>(hk x hx).1,hkd,hco,hge,Ge _ (Gd _ (G9 ..)),d1,d2⟩,he⟩
 ·refine kla_hit (c':=c') R.F Nw top C.tab rfl (Gb _ (G9 ..)) ?_ ?_ (closureFor_none λx hx=>(hk x hx).2) λf ctv h' tk F' N' l1=>?_
  ·exact trivial
  ·show codeAmong pos [rawInt T.lamP.line,rawInt T.lamP.col,.ref c']=_
   simp[codeAmong,rawInt,hpos.1,hpos.2]
  ·refine zf (R.one (tb:=tabObj #[rawInt T.lamP.line,rawInt T.lamP.col,.ref c']) ⟨_,rfl,.inr ⟨c',oc,vs,t,rfl,z1,z2,z3⟩⟩ F' N' l1) λR' x'=>?_
   exact⟨h',tk,.fn k,H,ρ,_,rfl,R',x',.fn ⟨ar,p1,p2,csc,_,c',ctv,oc,vs,t,hkk,G9 ..,y1,hloc,λx hx=>(hk x hx).1,hkd,hco,hge,Gd _ z1,z2,z3⟩,he⟩
noncomputable def Cx.add(c:Cx)(ex:Lg):Cx:={c with G:=ex++c.G}
theorem Cx.Ok.add(C:c.Ok T d)(ex:Lg):(c.add ex).Ok T d where
 B:=C.B
 kd:=C.kd
 gl:=C.gl
 bi:=C.bi
 X:=C.X
 top:=C.top
 tab:=C.tab
 hh:=C.hh
 dep:=C.dep
 un:=C.un
 scr:=C.scr
 look:=λx u h hd=>λF N q=>C.look x u h hd F (λp hp=>N p (Gb _ hp)) q
 cel:=λx h=>by
  refine za (C.cel x h) λa h1 h2=>?_
  exact⟨a,h1,λu hu=>by
   refine za (h2 u hu) λo ho hd=>?_
   exact⟨o,Gb _ ho,hd⟩⟩
theorem ScOk.add{lm:Bool}{sc:Scope}(S:ScOk T lm sc c)(ex:Lg):ScOk T lm sc (c.add ex):=⟨S.glob,S.cell,S.lam⟩
theorem Yl(k:List Nat)(v:V){es:List (List Nat×V)}{kvs:List (Str×Value)}{u:Value}(h:KVs T E ρ es kvs)(nd:(kvs.map (·.1)).Nodup)(hv:VR T E ρ v u):KVs T E ρ (setD k v es) (stored kvs (strL k) u):=by
 induction h with
 |nil=>exact .cons hv .nil
 |@cons x v' u' fs es hx hs ih=>
  rw[GG,Gr] at nd
  unfold setD
  induction q:eqS x k using GF with
  |true=>
   obtain rfl:=eqS_iff.mp q
   have e:stored ((strL x,u')::es) (strL x) u=(strL x,u)::es:=by
    unfold stored
    rw[Fj]
    simp only[decide_true,Bool.true_or,if_true,GG]
    congr 1
    refine(Fw λp hp=>?_).trans (List.map_id _)
    have:p.1≠strL x:=λe=>nd.1 (e▸GC (f:=(·.1)) hp)
    rw[if_neg this];rfl
   rw[e]
   exact .cons hv hs
  |false=>
   have hne:¬strL x=strL k:=λe=>by
    rw[jO] at e
    rw[e,eqS_iff.mpr rfl] at q
    cases q
   have ih:=ih nd.2
   have e:stored ((strL x,u')::es) (strL k) u=(strL x,u')::stored es (strL k) u:=by
    unfold stored
    rw[Fj]
    simp only[hne,decide_false,Bool.false_or,GG,if_false]
    split<;>rfl
   rw[e]
   exact .cons hx ih
set_option tactic.hygienic true in
theorem Xt{kvs:List (Str×Value)}{k:Str}{v:Value}(nd:(kvs.map (·.1)).Nodup):((stored kvs k v).map (·.1)).Nodup:=by
 unfold stored
 split
 ·have:(kvs.map λkv=>if kv.1=k then (kv.1,v) else kv).map (·.1)=kvs.map (·.1):=by
   rw[I2]
   refine Fw λp hp=>?_
   simp only[Function.comp_apply]
   split<;>rfl
  rw[this];exact nd
 ·rename_i h
  rw[Gw]
  refine Gu.mpr ⟨nd,by simp,λa ha b hb e=>h ?_⟩
  simp only[GG,F8,GE] at hb
  refine za (D2.mp ha) λp hp rq2=>?_;subst rq2
  exact Fh.mpr ⟨p,hp,decide_eq_true (e.trans hb)⟩
theorem Xs{k v:V}{r:List V}(h:ZF (k::v::r)=true):∃x,k= .str x/\ZF r=true:=by
 rcases k<;>first|exact absurd h G3|exact⟨_,rfl,h⟩
theorem JH{vs:List V}{us:List (Value×Value)}(h:PRs T E ρ vs us)(hk:ZF vs=true):∃kvs:List (Str×Value),Carries (strKind T.prog T.w) us kvs/\kvs.length=us.length/\
  ∀acc accK,KVs T E ρ acc accK->(accK.map (·.1)).Nodup->KVs T E ρ (Ju acc vs) (merged accK kvs):=by
 induction h with
 |nil=>exact⟨[],trivial,rfl,λacc accK h _=>h⟩
 |@cons k v a b r ps h1 h2 _ ih=>
  refine za (Xs hk) ?_;clear hk;intro x rq1 hk;subst rq1
  refine zh (h1.ofStr) λt rq1=>?_;subst rq1
  refine yQ (ih hk) λkvs c1 c2 c3=>?_
  refine⟨(strL x,b)::kvs,⟨strKind_is T.prog T.w _ _,rfl,c1⟩,congrArg (·+ 1) c2,λacc accK ha hn=>?_⟩
  exact c3 _ _ (Yl x v ha hn h2) (Xt hn)
theorem dc_nil:DcOk RX T P N O d .nil:=by
 intro ks xs pos c lm sc tb X L H Q ρ E s Er hc C S he R Lk XR
 replace hc:=an2 hc
 obtain rfl:=zH hc.1
 obtain rfl:=zH hc.2
 exact evalPairs_nil ⟨s.heap,s.toks,[],H,ρ,E,rfl,R,Ext.refl _ _,.nil,rfl,he⟩
theorem j1{K:Frag}{lm:Bool}{sc:Scope}{tb:List Str}{a b e:Mn.E}{ks:List (Option G4)}{xs:List G4}(hc:chkD N K lm sc tb (.cons a (.cons b e)) ks xs=true) :
  ∃k kr x xr,ks=some k::kr/\xs=x::xr/\chkE N K lm sc tb a k=true/\chkE N K lm sc tb b x=true/\chkD N K lm sc tb e kr xr=true:=by
 refine zl (iHt hc) ?_;clear hc;intro k1 kr rq2 hc;subst rq2
 refine za (yf hc) ?_;clear hc;intro k e1 hc
 refine zl (iHt hc) ?_;clear hc;intro x xr rq2 hc;subst rq2
 replace hc:=an3 hc
 obtain rfl:k1=some k:=e1
 exact⟨k,kr,x,xr,rfl,rfl,hc⟩
theorem dc_cons{a b e:Mn.E}(ia:EvOk RX T P N O d a)(ib:EvOk RX T P N O d b)(ie:DcOk RX T P N O d e):DcOk RX T P N O d (.cons a (.cons b e)):=by
 intro ks xs pos c lm sc tb X L H Q ρ E s Er hc C S he R Lk XR
 refine Xo (j1 hc) λk kr x xr rq4 rq5 h1 h2 h3=>?_;subst rq4;subst rq5
 refine evalPairs_cons (Post.go (ia h1 C S he R Lk XR) λu v h' tk H' ρ' E' R' x' hv q=>?_)
 refine wpAny_bind (Post.go (ib (s:={s with heap:=h',toks:=tk}) h2 C S q R' (Lk.ext x') (xrUp XR x')) λu2 v2 h2' tk2 H2 ρ2 E2 R2 x2 hv2 q2=>wpAny_bind (wpAny_standAt (wpAny_pure ?_)))
 refine wpAny_mono (ie (s:={s with heap:=h2',toks:=tk2}) h3 C S (ev_eq q2 λ_ _=>rfl) R2 ((Lk.ext x').ext x2) (xrUp (xrUp XR x') x2)) (λus s' p=>?_) λ_ _ e=>e
 obtain⟨h3',tk3,vs,H3,ρ3,E3,rfl,R3,x3,hvs,hl,q3⟩:=p
 exact⟨h3',tk3,v::v2::vs,H3,ρ3,E3,rfl,R3,(x'.trans x2).trans x3,.cons ((hv.ext x2).ext x3) (hv2.ext x3) hvs,by simp[hl],q3⟩
set_option tactic.hygienic true in
theorem ZA{K:Frag}{lm:Bool}{sc:Scope}{tb:List Str}{ks:List (Option G4)}{xs:List G4}{e:Mn.E}(h:chkD N K lm sc tb e ks xs=true):e= .nil∨∃a b r,e= .cons a (.cons b r):=by
 rcases e<;>first|exact .inl rfl|exact absurd h G3|skip
 rename_i a b
 rcases b<;>first|exact absurd h G3|exact .inr ⟨_,_,_,rfl⟩
theorem JL{K:Frag}{lm:Bool}{sc:Scope}{tb:List Str}:∀{ks:List (Option G4)} {xs:List G4} {e:Mn.E},chkD N K lm sc tb e ks xs=true->ks.all (·.isSome)=true/\ks.length=xs.length:=by
 intro ks
 induction ks with
 |nil=>
  intro xs e h
  rcases ZA h with rfl|⟨a,b,r,rfl⟩
  ·obtain rfl:=zH (an2 h).2;exact⟨rfl,rfl⟩
  ·exact absurd h G3
 |cons k0 ks ih=>
  intro xs e h
  rcases ZA h with rfl|⟨a,b,r,rfl⟩
  ·exact absurd (an2 h).1 G3
  ·refine Xo (j1 h) λk kr x xr e1 rq5 h1 h2 h3=>?_;subst rq5
   cases e1
   refine zf (ih h3) λg1 g2=>?_
   exact⟨g1,congrArg (·+ 1) g2⟩
theorem chkD_nil{K:Frag}{lm:Bool}{sc:Scope}{tb:List Str}{e:Mn.E}(h:chkD N K lm sc tb e [] []=true):e= .nil:=by
 rcases ZA h with rfl|⟨a,b,r,rfl⟩
 ·rfl
 ·exact absurd h G3
theorem ev_dct{a:Mn.E}(ia:DcOk RX T P N O d a):EvOk RX T P N O d (.dct a):=by
 intro x c lm sc tb X L H Q ρ E s Er hc C S he R Lk XR
 refine zF (iDict hc) ?_;clear hc;intro ks xs pos rq3 hc;subst rq3
 have hc:=an2 hc
 have h1:G8 ks.length 15=true:=hc.1
 have h3:chkD N T.K lm sc tb a ks xs=true:=hc.2
 clear hc
 refine zf (JL h3) λg1 g2=>?_
 refine j7 (C.top) λp loose mean mg mb top=>?_
 have hD:c.Un.get? s.heap.objs.size=none:=Heap.get?_none_of_le (G5 R.F.above (GL R.F.ns.lt))
 have R0:(c.add [(s.heap.objs.size,dictOf [] 0)]).Rep T H ρ E (s.heap.push {cls:=.type "dict",data:=.dict #[]}):=
  R.moreG (λ_ _ e=>Heap.get?_push_of_some _ e) (R.F.push _) (by intro p hp;simp only[GE] at hp;subst hp;exact⟨Heap.get?_push_size _ rfl,Gi _⟩) (by simp)
 by_cases h2:ks=[]
 ·subst h2
  obtain rfl:xs=[]:=DL g2.symm
  obtain rfl:=chkD_nil h3
  refine wpAny_Dict_empty ?_
  refine za R0.N λtb0 hb Nw=>?_
  refine zC (Rep.takeG R0 hb R0.F Nw (o:=.dict []) ⟨_,_,G9 ..,⟨_,⟨rfl,rfl,rfl⟩,rfl,(by intro e he;simp at he),.nil,List.nodup_nil⟩,.nil,D7 _,R.F.notModules (modules_low top.nolimit)⟩ rfl) ?_
  intro R3 x3 hr
  exact⟨_,_,_,_,_,_,rfl,R3,x3,.obj hr,he⟩
 refine wpAny_Dict_any g1 g2 h2 (natB.mp h1) ?_
 refine wpAny_mono (ia (c:=c.add [(s.heap.objs.size,dictOf [] 0)]) (s:={s with heap:=s.heap.push {cls:=.type "dict",data:=.dict #[]}}) (Er:=Er) h3 (C.add _) (S.add _) he R0 Lk (λe s' q=>absurd q XPost.no)) (λus s' p=>?_) λ_ _ e=>e
 obtain⟨h',tk,vs,H',ρ',E',rfl,R',x',hvs,hl,q⟩:=p
 refine zf (gd_iff.mp q) ?_;clear q;intro e1 q
 refine yQ (JH hvs e1) λkvs c1 c2 c3=>?_
 refine za (R'.N) λtb0 hb Nw=>?_
 have hmem:h'.get? s.heap.objs.size=some (dictOf [] 0):=(Nw (s.heap.objs.size,dictOf [] 0) (by simp[Cx.add])).1
 have hd0:DictN T.prog T.w (dictOf [] 0) []:=⟨_,⟨rfl,rfl,rfl⟩,rfl,by intro e he;simp at he,.nil,by simp⟩
 refine Jq us kvs [] {s with heap:=h',toks:=tk} _ _ c1 hmem hd0 (by rw[D5,c2,hl,sizeLine_eq];exact G5 (FZ (GU _)) (G5 (natB.mp h1) (Gj rfl))) λh2 o2 ho2 hdo hs2=>?_
 have hkv:=c3 [] [] .nil (by simp)
 have hlen:(Ju [] vs).length<=lim:=by
  rw[hkv.length]
  exact G5 (merged_length_le ([]:List (Str×Value)) kvs) (G5 (FZ ((GU _).trans (c2.trans hl))) (G5 (natB.mp h1) (Gj rfl)))
 have hL:s.heap.objs.size≠c.L:=D6 R.F.ns.lt
 have F2:Fr c.Un c.L h2 c.m:=R'.F.change hs2 hL hD
 have N2:News c.Un c.L h2 (E'++(T.tab,tb0)::(s.heap.objs.size,o2)::c.G):=by
  have nd:=R'.nd
  intro p hp
  by_cases hpx:p.1=s.heap.objs.size
  ·have:p=(s.heap.objs.size,o2):=by
    simp only[Gn,Gh] at hp
    simp only[Cx.add,Gw,GG,List.singleton_append,F8,Di] at nd
    refine zC (Gu.mp nd) λn1 n2 n3=>?_
    rw[Gr,Gr] at n2
    rcases hp with q|q|q|q
    ·exact absurd hpx (n3 p.1 (GC q) _ (by simp))
    ·subst q;exact absurd hpx (λe=>n2.1 (by simp[←e]))
    ·exact q
    ·exact absurd (GC (f:=(·.1)) q) (by rw[hpx];exact n2.2.1)
   subst this
   exact⟨ho2,hL,hD⟩
  ·have hp':p∈E'++(T.tab,tb0)::(c.add [(s.heap.objs.size,dictOf [] 0)]).G:=by
    simp only[Gn,Gh,Cx.add,List.singleton_append] at hp ⊢
    rcases hp with q|q|q|q
    ·simp[q]
    ·simp[q]
    ·subst q;exact absurd rfl hpx
    ·simp[q]
   exact⟨(hs2.2 p.1 hpx).trans (Nw p hp').1,(Nw p hp').2⟩
 refine zC (Rep.takeG (h':=h2) (m':=c.m) (ob':=o2) R' hb F2 N2 (o:=.dict (Ju [] vs)) ⟨o2,_,G9 ..,hdo,hkv.ext ⟨λ_ _ e=>e,λp hp _=>Gd _ hp⟩,hlen,R.F.notModules (modules_low top.nolimit)⟩ rfl) λR3 x3 hr=>?_
 exact Post.up x' ⟨h2,_,_,_,_,_,rfl,R3,x3,.obj hr,q⟩
end
mutual
theorem KT:∀{a b:V},beqV a b=true->a=b
 |.none,b,h=>by rcases b<;>first|exact absurd h G3|rfl
 |.bool a,b,h=>by rcases b<;>first|exact absurd h G3|exact congrArg V.bool (of_decide_eq_true h)
 |.int a,b,h=>by rcases b<;>first|exact absurd h G3|exact congrArg V.int (of_decide_eq_true h)
 |.str a,b,h=>by rcases b<;>first|exact absurd h G3|exact congrArg V.str (eqS_iff.mp h)
 |.obj a,b,h=>by rcases b<;>first|exact absurd h G3|exact congrArg V.obj (natE.mp h)
 |.tup a,b,h=>by rcases b<;>first|exact absurd h G3|exact congrArg V.tup (Xm h)
 |.fn a,b,h=>by rcases b<;>first|exact absurd h G3|exact congrArg V.fn (natE.mp h)
 |.rng _,_,h=>absurd h G3
 |.scr,_,h=>absurd h G3
 |.bad,_,h=>absurd h G3
theorem Xm:∀{a b:List V},Z2 a b=true->a=b
 |[],b,h=>by
  rcases b with _|⟨b,bs⟩
  ·rfl
  ·exact absurd h G3
 |a::as,b,h=>by
  rcases b with _|⟨b,bs⟩
  ·exact absurd h G3
  ·rw[KT (an2 h).1,Xm (an2 h).2]
end
theorem eqKs_eq:∀{a b:List (List Nat×V)},eqKs a b=true->a.map (·.1)=b.map (·.1):=by
 intro a
 induction a with
 |nil=>
  intro b h
  rcases b with _|⟨b,bs⟩
  ·rfl
  ·exact absurd h G3
 |cons a as ih=>
  intro b h
  rcases b with _|⟨b,bs⟩
  ·exact absurd h G3
  ·rw[GG,GG,eqS_iff.mp (an2 h).1,ih (an2 h).2]
noncomputable def It.Sta:It->Hp->Prop
 |.vals _,_=>True
 |.lst i vs,H=>H[i]?=some (.list vs)
 |.keys i es,H=>∃fs,H[i]?=some (.dict fs)/\fs.map (·.1)=es.map (·.1)
theorem It.sta_of{it:It}{H:Hp}(h:it.stands H=true):it.Sta H:=by
 rcases it with _|⟨i,vs⟩|⟨i,es⟩
 ·trivial
 ·have h:(match H[i]? with|some (.list us)=>Z2 us vs|_=>false)=true:=h
  rcases e:H[i]? with _|o
  ·rw[e] at h;exact absurd h G3
  ·rw[e] at h
   rcases o with _|us|_|_
   ·exact absurd h G3
   ·rw[←Xm h];exact e
   ·exact absurd h G3
   ·exact absurd h G3
 ·have h:(match H[i]? with|some (.dict fs)=>eqKs fs es|_=>false)=true:=h
  rcases e:H[i]? with _|o
  ·rw[e] at h;exact absurd h G3
  ·rw[e] at h
   rcases o with _|_|fs|_
   ·exact absurd h G3
   ·exact absurd h G3
   ·exact⟨fs,e,eqKs_eq h⟩
   ·exact absurd h G3
inductive ItO (T:Tp) (E:Lg) (ρ:Rn):It->Nat->Obj->Prop
 |tup {vs:List V} {us:List Value} {t:Addr} {j:Nat} {o:Obj}:TupAt T.K E t us->VRs T E ρ vs us->o.cls= .type "tuple_iterator"->o.data= .fields #[.ref t,.int j 0]->ItO T E ρ (.vals vs) j o
 |str {x:List Nat} {t:Tok} {j:Nat} {o:Obj}:o.cls= .type (strIterType (strL x))->o.data= .fields #[.str (strL x) t,.int j 0]->ItO T E ρ (.vals (x.map λc=>.str [c])) j o
 |rng {n j:Nat}:j<=n->ItO T E ρ (.vals ((D0 n).map λ(i:Nat)=>V.int (i:Int))) j {cls:=.type "range_iterator",dict:=none,data:=.fields #[rawInt (j:Int),rawInt ((n:Int) - j),rawInt 1],slots:=#[]}
 |lst {i:Nat} {vs:List V} {a d:Addr} {j:Nat} {o:Obj}:ρ[i]?=some (a,d)->o.cls= .type "list_iterator"->o.data= .fields #[.ref a,.int j 0]->ItO T E ρ (.lst i vs) j o
 |keys {i:Nat} {es:List (List Nat×V)} {a d:Addr} {j:Nat} {o:Obj}:ρ[i]?=some (a,d)->o.cls= .type "dict_keyiterator"->o.data= .fields #[.ref a,.int j 0,.int es.length 0,.int es.length 0]->ItO T E ρ (.keys i es) j o
theorem ItO.ext{T:Tp}{E E':Lg}{ρ ρ':Rn}(x:Ext E ρ E' ρ'){it:It}{j:Nat}{o:Obj}(h:ItO T E ρ it j o):ItO T E' ρ' it j o:=
 ItO.rec (motive:=λit j o _=>ItO T E' ρ' it j o) (λh1 h2 h3 h4=>.tup (h1.ext x.fix) (h2.ext x) h3 h4) (λh1 h2=>.str h1 h2) (λh=>.rng h) (λh1 h2 h3=>.lst (x.pre _ _ h1) h2 h3) (λh1 h2 h3=>.keys (x.pre _ _ h1) h2 h3) h
section
variable {T:Tp} {Un h h':Heap} {L:Addr} {m m':Str->Option Value} {G:Lg} {H:List O} {ρ ρ':Rn} {E E':Lg}
theorem Rep.setG{x:Addr}{ob ob':Obj}(R:Rep T Un L m ((x,ob)::G) H ρ E h)(sb:F7 x h h')(ho:h'.get? x=some ob'):Rep T Un L m ((x,ob')::G) H ρ E h':=by
 refine za (R.N) λtb hb Nw=>?_
 have nd:=R.nd
 have hx:=Nw (x,ob) (by simp)
 refine⟨R.F.change sb hx.2.1 hx.2.2,⟨tb,hb,λp hp=>?_⟩,by simpa using nd,R.len,R.enc,R.ft⟩
 by_cases hpx:p.1=x
 ·have:p=(x,ob'):=by
   simp only[Gw,GG] at nd
   refine zC (Gu.mp nd) λn1 n2 n3=>?_
   rw[Gr,Gr] at n2
   simp only[Gn,Gh] at hp
   rcases hp with q|q|q|q
   ·exact absurd hpx (n3 p.1 (GC q) _ (by simp))
   ·subst q;exact absurd hpx (λe=>n2.1 (by simp[←e]))
   ·exact q
   ·exact absurd (GC (f:=(·.1)) q) (by rw[hpx];exact n2.2.1)
  subst this
  exact⟨ho,hx.2.1,hx.2.2⟩
 ·have hp':p∈E++(T.tab,tb)::(x,ob)::G:=by
   simp only[Gn,Gh] at hp ⊢
   rcases hp with q|q|q|q
   ·simp[q]
   ·simp[q]
   ·subst q;exact absurd rfl hpx
   ·simp[q]
  exact⟨(sb.2 p.1 hpx).trans (Nw p hp').1,(Nw p hp').2⟩
theorem Rep.dropG{x:Addr}{ob:Obj}(R:Rep T Un L m ((x,ob)::G) H ρ E h)(sb:Heap.ExtBut x h h'):Rep T Un L m G H ρ E h':=by
 refine za (R.N) λtb hb Nw=>?_
 have nd:=R.nd
 have hx:=Nw (x,ob) (by simp)
 have R':=Rep.lessG (ex:=[(x,ob)]) R
 have sz:Fr Un L h' m:=⟨R.F.ns.at λo e=>sb L o (Ne.symm hx.2.1) e,λb o e=>sb b o (λq=>by rw[q,hx.2.2] at e;cases e) (R.F.keep b o e),R.F.above⟩
 refine⟨sz,⟨tb,hb,λp hp=>?_⟩,R'.nd,R.len,R.enc,R.ft⟩
 have hpx:p.1≠x:=λhpx=>by
  simp only[Gw,GG] at nd
  refine zC (Gu.mp nd) λn1 n2 n3=>?_
  rw[Gr,Gr] at n2
  simp only[Gn,Gh] at hp
  rcases hp with q|q|q
  ·exact absurd hpx (n3 p.1 (GC q) _ (by simp))
  ·subst q;exact absurd hpx (λe=>n2.1 (by simp[←e]))
  ·exact absurd (GC (f:=(·.1)) q) (by rw[hpx];exact n2.2.1)
 have hp':p∈E++(T.tab,tb)::(x,ob)::G:=by
  simp only[Gn,Gh] at hp ⊢
  rcases hp with q|q|q<;>simp[q]
 exact⟨sb p.1 p.2 hpx (Nw p hp').1,(Nw p hp').2⟩
end
section
variable {T:Tp} {P:Prg} {N:Nm} {d:Nat}
variable {c:Cx} {s:Shared} {ρ:Rn} {E:Lg} {H:Hp} {Er:Value->Shared->Prop}
theorem kvs_key{es:List (List Nat×V)}{kvs:List (Str×Value)}(h:KVs T E ρ es kvs):kvs.map (·.1)=es.map λe=>strL e.1:=
 KVs.rec (motive:=λes kvs _=>kvs.map (·.1)=es.map λe=>strL e.1) rfl (λ{k _ _ _ _} _ _ r=>congrArg (strL k::·) r) h
theorem jh{n:Nat}(h:n<=1000):Builtin.Range.small 0 (n:Int) 1=true/\FX 0 (n:Int) 1=(n:Int):=by
 have h1:FX 0 (n:Int) 1=(n:Int):=by rw[rangeSize_nat];exact om50
 exact⟨small_one (by decide) (by decide) (Int.le_trans (by decide:(-2 ^ 62:Int)<=0) (GO n)) (om51 h),h1⟩
theorem it_if{b:Bool}{x it:It}(h:(match b with|true=>some x|false=>none)=some it):b=true/\x=it:=by
 rcases b with _|_
 ·exact nn h
 ·exact⟨rfl,Ga h⟩
theorem it_obj{i:Nat}{H:Hp}{it:It}(h:zU (.obj i) H=some it):(∃vs,H[i]?=some (.list vs)/\.lst i vs=it)∨∃es,H[i]?=some (.dict es)/\.keys i es=it:=by
 replace h:(match H[i]? with|some (.list vs)=>some (It.lst i vs)|some (.dict es)=>some (.keys i es)|_=>none)=some it:=h
 rcases e:H[i]? with _|o
 ·rw[e] at h;exact nn h
 ·rw[e] at h
  rcases o with _|vs|es|_
  ·exact nn h
  ·exact .inl ⟨vs,rfl,Ga h⟩
  ·exact .inr ⟨es,rfl,Ga h⟩
  ·exact nn h
set_option tactic.hygienic true in
theorem Ym{u:V}{v:Value}{it:It}{K:Value->Shared->Prop}(C:c.Ok T d)(R:c.Rep T H ρ E s.heap)(hv:VR T E ρ u v)(e:zU u H=some it)
  (h:∀o,(c.add [(s.heap.objs.size,o)]).Rep T H ρ E (s.heap.push o)->ItO T E ρ it 0 o->it.Sta H->it.items.length<=1000->K (.ref s.heap.objs.size) {s with heap:=s.heap.push o}) :
  wpAny (model T.prog T.w) c.A (pyIter v) K Er s:=by
 refine j7 (C.top) λp loose mean mg mb top=>?_
 have more:∀o:Obj,o.isFreed=false->(c.add [(s.heap.objs.size,o)]).Rep T H ρ E (s.heap.push o):=λo ho=>
  R.moreG (λ_ _ e=>Heap.get?_push_of_some _ e) (R.F.push _) (by intro p hp;simp only[GE] at hp;subst hp;exact⟨Heap.get?_push_size _ ho,Gi _⟩) (by simp)
 rcases hv<;>try exact nn e
 case tup vs us a ht hvs=>
  refine zf (it_if e) λhl e=>?_;subst e
  refine wpAny_pyIter_tuple (ZL (R.isTup C.X ht)) (h _ (more _ rfl) (.tup ht hvs rfl rfl) trivial (natB.mp hl))
 case str x t=>
  refine zf (it_if e) λhl e=>?_;subst e
  refine wpAny_pyIter_strU (h _ (more _ rfl) (.str rfl rfl) trivial ?_)
  show(x.map _).length<=_
  rw[Gm];exact natB.mp hl
 case rng n a ha=>
  refine zf (it_if e) λhl e=>?_;subst e
  refine xe3c1 (ha) ?_;clear ha;intro t1 t2 t3 hm
  refine zf (jh (natB.mp hl)) λr1 r2=>?_
  refine wpAny_pyIter_range (R.inNews hm) r1 ?_
  rw[r2]
  refine h _ (more _ rfl) ?_ trivial ?_
  ·have:=ItO.rng (T:=T) (E:=E) (ρ:=ρ) (n:=n) (j:=0) (D7 _)
   simpa using this
  ·show((D0 n).map _).length<=_
   rw[Gm,List.length_range];exact natB.mp hl
 case obj i a dd hi=>
  rcases it_obj e with⟨vs,e1,rfl⟩|⟨es,e1,rfl⟩
  ·refine yt (R.isList e1 hi) λus n hm hl hvs hn=>?_
   refine wpAny_pyIter_list hl (h _ (more _ rfl) (.lst hi rfl rfl) e1 hn)
  ·refine Y9 (R.objAt e1 hi) λo kvs hm hd hvs hn hs=>?_
   have hlen:es.length=kvs.length:=hvs.length
   refine wpAny_pyIter_dict hs (hd.at (R.inNews hm)) ?_
   rw[←hlen]
   refine h _ (more _ rfl) (.keys hi rfl rfl) ⟨es,e1,rfl⟩ ?_
   ·show(es.map _).length<=_
    rw[Gm];exact hn
theorem vals_str{x:List Nat}{j:Nat}{v:V}(h:(x.map λc=>V.str [c])[j]?=some v):∃k,x[j]?=some k/\v= .str [k]:=by
 rw[List.getElem?_map] at h
 refine za (GD.mp h) λk h1 rq2=>?_;subst rq2
 exact⟨k,h1,rfl⟩
set_option tactic.hygienic true in
theorem Yn{I:Addr}{o:Obj}{it:It}{j:Nat}{v:V}{G:Lg}{L:Addr}{m:Str->Option Value}{Un:Heap}{A:Around}{K:Option Value->Shared->Prop}(X:T.K.In Un)
  (R:Rep T Un L m ((I,o)::G) H ρ E s.heap) (hi:ItO T E ρ it j o) (st:it.Sta H) (e:it.items[j]?=some v)
  (h:∀h' tk o' u,Rep T Un L m ((I,o')::G) H ρ E h'->ItO T E ρ it (j+1) o'->VR T E ρ v u->K (some u) {s with heap:=h',toks:=tk}) :
  wpAny (model T.prog T.w) A (pyNext (.ref I)) K Er s:=by
 refine za (id R.N) λtb hb N=>?_
 have hI:s.heap.get? I=some o:=(N (I,o) (by simp)).1
 cases hi with
 |@tup vs us t _ _ h1 h2 h3 h4=>
  refine za (h2.at e) λu hu hr=>?_
  refine wpAny_pyNext_tuple_item ⟨o,hI,h3,h4⟩ (ZL (R.isTup X h1)) (x:=u) (by simpa using hu) λh' hit sb=>?_
  refine yQ (hit) ?_;clear hit;intro o' ho hc hd
  exact h h' _ o' u (R.setG sb ho) (.tup h1 h2 hc hd) hr
 |@str x t _ _ h1 h2=>
  refine za (vals_str e) λk hk rq2=>?_;subst rq2
  have hk':(strL x).cps[j]?=some k:=by simpa [strL] using hk
  unfold strIterType at h1
  split at h1
  ·rename_i q
   refine wpAny_pyNext_ascii_item ⟨o,hI,h1,h2⟩ hk' λh' hit sb=>?_
   refine yQ (hit) ?_;clear hit;intro o' ho hc hd
   exact h h' _ o' _ (R.setG sb ho) (.str (by unfold strIterType;rw[if_pos q];exact hc) hd) (.str [k] _)
  ·rename_i q
   refine wpAny_pyNext_wide_item ⟨o,hI,h1,h2⟩ hk' λh' hit sb=>?_
   refine yQ (hit) ?_;clear hit;intro o' ho hc hd
   exact h h' _ o' _ (R.setG sb ho) (.str (by unfold strIterType;rw[if_neg q];exact hc) hd) (.str [k] _)
 |@rng n _ hj=>
  rw[It.items,List.getElem?_map] at e
  refine za (GD.mp e) λk hk rq2=>?_;subst rq2
  have hjn:j < n:=by
   have:=(List.getElem?_eq_some_iff.mp hk).1
   simpa using this
  have hkj:k=j:=by
   obtain⟨q1,q2⟩:=List.getElem?_eq_some_iff.mp hk
   simpa using q2.symm
  subst hkj
  refine wpAny_pyNext_range_item (x:=(k:Int)) (left:=(n:Int) - k) (step:=1) hI (om53 hjn) λh' hit sb=>?_
  refine h h' _ _ _ (R.setG sb hit) ?_ (.int _ _)
  have:=ItO.rng (T:=T) (E:=E) (ρ:=ρ) (n:=n) (j:=k+1) hjn
  have e1:((k:Int)+1)=((k+1:Nat):Int):=by exact om54
  have e2:((n:Int) - k - 1)=(n:Int) - ((k+1:Nat):Int):=by exact om55
  rw[e1,e2];exact this
 |@lst i vs a dd _ _ h1 h2 h3=>
  refine yt (R.isList st h1) λus n hm hl hvs hn=>?_
  refine za (hvs.at e) λu hu hr=>?_
  refine wpAny_pyNext_list_item ⟨o,hI,h2,h3⟩ hl (x:=u) (by simpa using hu) λh' hit sb=>?_
  refine yQ (hit) ?_;clear hit;intro o' ho hc hd
  exact h h' _ o' u (R.setG sb ho) (.lst h1 hc hd) hr
 |@keys i es a dd _ _ h1 h2 h3=>
  refine za (st) ?_;clear st;intro fs e1 e2
  refine Y9 (R.objAt e1 h1) λob kvs hm hdn hvs hn hs=>?_
  have hlen:es.length=kvs.length:=by rw[←hvs.length];have:=congrArg List.length e2;simpa using this.symm
  have hkk:=kvs_key hvs
  rw[It.items,List.getElem?_map] at e
  refine za (GD.mp e) λp hp rq2=>?_;subst rq2
  have:(kvs.map (·.1))[j]?=some (strL p.1):=by
   have e3:fs.map (λe=>strL e.1)=es.map λe=>strL e.1:=by
    have:=congrArg (List.map strL) e2
    rw[I2,I2] at this
    exact this
   rw[hkk,e3,List.getElem?_map,hp];rfl
  rw[List.getElem?_map] at this
  obtain⟨⟨k,w⟩,hq,hq'⟩:=GD.mp this
  have hq':k=strL p.1:=hq'
  subst hq'
  refine wpAny_pyNext_dict_item (knd:=strKind T.prog T.w) (kvs:=kvs) (ep:=kvs.length) ⟨o,hI,h2,by rw[←hlen];exact h3⟩ (hdn.at (R.inNews hm)) hq λkey h' hkey hit sb=>?_
  refine zh (Value.isStrOf_shape hkey) λt rq1=>?_;subst rq1
  refine yQ (hit) ?_;clear hit;intro o' ho hc hd
  exact h h' _ o' _ (R.setG sb ho) (.keys h1 hc (by rw[hlen];exact hd)) (.str p.1 t)
theorem Xb{I:Addr}{o:Obj}{it:It}{j:Nat}{G:Lg}{L:Addr}{m:Str->Option Value}{Un:Heap}{A:Around}{K:Option Value->Shared->Prop}(X:T.K.In Un)(hh:A.handled=none)
  (R:Rep T Un L m ((I,o)::G) H ρ E s.heap) (hi:ItO T E ρ it j o) (st:it.Sta H) (e:it.items[j]?=none)
  (h:∀h',Rep T Un L m G H ρ E h'->K none {s with heap:=h'}) :
  wpAny (model T.prog T.w) A (pyNext (.ref I)) K Er s:=by
 refine za (id R.N) λtb hb N=>?_
 have hI:s.heap.get? I=some o:=(N (I,o) (by simp)).1
 cases hi with
 |@tup vs us t _ _ h1 h2 h3 h4=>
  refine wpAny_pyNext_tuple_end hh ⟨o,hI,h3,h4⟩ (ZL (R.isTup X h1)) ?_ λh' sb=>h h' (R.dropG sb)
  have:=List.getElem?_eq_none_iff.mp e
  rw[It.items,h2.length] at this
  simpa using this
 |@str x t _ _ h1 h2=>
  have hk':(strL x).cps[j]?=none:=by
   rw[It.items,List.getElem?_map,Option.map_eq_none_iff] at e
   simpa [strL] using e
  unfold strIterType at h1
  split at h1
  ·exact wpAny_pyNext_ascii_end hh ⟨o,hI,h1,h2⟩ hk' λh' sb=>h h' (R.dropG sb)
  ·exact wpAny_pyNext_wide_end hh ⟨o,hI,h1,h2⟩ hk' λh' sb=>h h' (R.dropG sb)
 |@rng n _ hj=>
  rw[It.items,List.getElem?_map,Option.map_eq_none_iff] at e
  have hjn:n<=j:=by simpa using e
  exact wpAny_pyNext_range_end (x:=(j:Int)) (left:=(n:Int) - j) (step:=1) hh hI (om52 hjn) λh' sb=>h h' (R.dropG sb)
 |@lst i vs a dd _ _ h1 h2 h3=>
  refine yt (R.isList st h1) λus n hm hl hvs hn=>?_
  refine wpAny_pyNext_list_end hh ⟨o,hI,h2,h3⟩ hl ?_ λh' sb=>h h' (R.dropG sb)
  have:=List.getElem?_eq_none_iff.mp e
  rw[It.items,hvs.length] at this
  simpa using this
 |@keys i es a dd _ _ h1 h2 h3=>
  refine za (st) ?_;clear st;intro fs e1 e2
  refine Y9 (R.objAt e1 h1) λob kvs hm hdn hvs hn hs=>?_
  have hlen:es.length=kvs.length:=by rw[←hvs.length];have:=congrArg List.length e2;simpa using this.symm
  refine wpAny_pyNext_dict_end (knd:=strKind T.prog T.w) (kvs:=kvs) (ep:=kvs.length) hh ⟨o,hI,h2,by rw[←hlen];exact h3⟩ (hdn.at (R.inNews hm)) ?_ λh' sb=>h h' (R.dropG sb)
  have:=List.getElem?_eq_none_iff.mp e
  rw[It.items,Gm,hlen] at this
  exact List.getElem?_eq_none_iff.mpr this
end
theorem ZS{env:Env}:∀{names:List (Str×NameKind)} {x:Str},
  (names.map λ(n,k)=>if (k==DG && env.scope.kind==.function && env.kindOf n==some .cell) then (n,FU) else (n,k)).lookup x=
   (names.lookup x).map λk=>if (k==DG && env.scope.kind==.function && env.kindOf x==some .cell) then FU else k
 |[],x=>rfl
 |(n,k)::r,x=>by
  have ih:=@ZS env r x
  show Fq x ((if (k==DG && env.scope.kind==.function && env.kindOf n==some .cell)=true then (n,FU) else (n,k))::_)=_
  induction hx:x==n using GF with
  |true=>
   have:x=n:=eq_of_beq hx
   subst this
   by_cases hc:(k==DG && env.scope.kind==.function && env.kindOf x==some .cell)=true
   ·rw[if_pos hc];simp only[GI,hx,DZ,if_pos hc]
   ·rw[if_neg hc];simp only[GI,hx,DZ,if_neg hc]
  |false=>
   by_cases hc:(k==DG && env.scope.kind==.function && env.kindOf n==some .cell)=true
   ·rw[if_pos hc];simp only[GI,hx];exact ih
   ·rw[if_neg hc];simp only[GI,hx];exact ih
theorem Z8{csc:Scope}{cl:List (Str×Addr)}{C:Addr}{env:Env}{x:Str}:(compEnvC csc cl C env).kindOf x=(csc.names.lookup x).map λk=>if (k==DG && env.scope.kind==.function && env.kindOf x==some .cell) then FU else k:=ZS
set_option tactic.hygienic true in
theorem ZY{csc:Scope}{env:Env}(h:∀p∈csc.names,p.2= .free->∃a,env.cells.lookup p.1=some a) :
  ∃cl,closureFor csc env=pure cl/\(∀x a,cl.lookup x=some a->env.cells.lookup x=some a)/\∀p∈csc.names,p.2= .free->cl.lookup p.1=env.cells.lookup p.1:=by
 have key:∀(ns:List (Str×NameKind)) (acc:List (Str×Addr)),(∀p∈ns,p.2= .free->∃a,env.cells.lookup p.1=some a)->(∀x a,acc.lookup x=some a->env.cells.lookup x=some a)->
   ∃cl,(forIn ns acc λx r=>match x with|(name,kind)=>if (kind==DG)=true then do let a ←cellOf env name;pure (Dq ((name,a)::r)) else pure (Dq r):Sem (List (Str×Addr)))=pure cl/\
    (∀x a,cl.lookup x=some a->env.cells.lookup x=some a)/\(∀x a,acc.lookup x=some a->cl.lookup x=some a)/\∀p∈ns,p.2= .free->cl.lookup p.1=env.cells.lookup p.1:=by
  intro ns
  induction ns with
  |nil=>intro acc _ ha;exact⟨acc,rfl,ha,λ_ _ e=>e,λp hp=>nomatch hp⟩
  |cons p r ih=>
   intro acc hf ha
   obtain⟨n,k⟩:=p
   rw[List.forIn_cons]
   by_cases hk:k= .free
   ·subst hk
    refine zh (hf (n,.free) (G9 ..) rfl) λa e=>?_
    have e:env.cells.lookup n=some a:=e
    have hacc:∀x b,((n,a)::acc).lookup x=some b->env.cells.lookup x=some b:=λx b q=>by
     rw[GI] at q
     split at q
     ·rename_i hx;cases q;rw[eq_of_beq hx];exact e
     ·exact ha x b q
    refine j8 (ih ((n,a)::acc) (λp hp=>hf p (Gd _ hp)) hacc) λcl h1 h2 h3 h4=>?_
    refine⟨cl,?_,h2,λx b q=>?_,λp hp hpf=>?_⟩
    ·simp only[beq_self_eq_true,if_true,cellOf,e]
     exact h1
    ·by_cases hx:x=n
     ·subst hx
      have:((x,a)::acc).lookup x=some a:=by simp[GI]
      rw[h3 x a this]
      rw[←e];exact ha x b q
     ·exact h3 x b (by rw[GI,beq_false_of_ne hx];exact q)
    ·rcases Gh.mp hp with rfl|hp
     ·have:((n,a)::acc).lookup n=some a:=by simp[GI]
      exact(h3 n a this).trans e.symm
     ·exact h4 p hp hpf
   ·refine j8 (ih acc (λp hp=>hf p (Gd _ hp)) ha) λcl h1 h2 h3 h4=>?_
    refine⟨cl,?_,h2,h3,λp hp hpf=>?_⟩
    ·have hb:(k==DG)=false:=by simpa using hk
     simp only[hb,F5,if_false]
     exact h1
    ·rcases Gh.mp hp with rfl|hp
     ·exact absurd hpf hk
     ·exact h4 p hp hpf
 refine j8 (key csc.names [] h (λx a q=>by simp at q)) λcl h1 h2 h3 h4=>?_
 refine⟨cl,?_,h2,h4⟩
 simp only[closureFor]
 first|(rw[h1];rfl)|(simp only[h1];rfl)|exact(congrArg (· >>= pure) h1)
noncomputable def Xi(c:Cx)(csc:Scope)(cl:List (Str×Addr))(C:Addr)(G:Lg)(m':Str->Option Value):Cx:=
 {A:=c.A,fe:=compEnvC csc cl C c.fe,Un:=c.Un,L:=c.L,m:=c.m,G:=G,nm:=λx=>match csc.names.lookup x with|some .local=>m' x|some .free=>c.nm x|_=>none}
section
variable {RX:RxT} {T:Tp} {P:Prg} {N:Nm} {O:Orc} {d:Nat}
variable {c:Cx} {s:Shared} {ρ:Rn} {E:Lg} {H:Hp} {X:Nat->Hp->Prop} {Er:Value->Shared->Prop}
theorem yL:∀{l:List Str},YN l=true->l.Nodup:=by
 intro l
 induction l with
 |nil=>
  intro y0
  exact .nil
 |cons x r ih=>
  intro h
  have h:=an2 h
  refine Gr.mpr ⟨λhm=>?_,ih h.2⟩
  have:=GA.mp h.1 x hm
  rw[eqStr_iff.mpr rfl] at this
  cases this
structure CscOk (sc csc:Scope):Prop where
 kd:csc.kind= .function
 cel:∀p∈csc.names,p.2≠.cell
 loc:∀p∈csc.names,p.2= .local->csc.names.lookup p.1=some .local
 fr:∀p∈csc.names,p.2= .free->zw sc p.1 .cell=true
theorem KG{sc csc:Scope}{tg cap:List Str}(h:Y4 sc csc tg cap=true):CscOk sc csc/\(∀x∈tg,csc.names.lookup x=some .local)/\(∀x∈cap,csc.names.lookup x=some .free)/\(∀x∈tg,x∉cap)/\tg.Nodup:=by
 refine YE (an6 h) ?_;clear h;intro h1 h2 h3 h4 h5 h6
 have hk:∀p∈csc.names,p.2≠.cell/\(p.2= .local->csc.names.lookup p.1=some .local)/\(p.2= .free->zw sc p.1 .cell=true):=λp hp=>by
  refine zC (an3 (GA.mp h2 p hp)) λq1 q2 q3=>?_
  refine⟨λe=>?_,λe=>?_,λe=>?_⟩
  ·rw[e] at q1;cases q1
  ·rw[e] at q2;exact zt (q2)
  ·rw[e] at q3;exact q3
 refine⟨⟨?_,λp hp=>(hk p hp).1,λp hp=>(hk p hp).2.1,λp hp=>(hk p hp).2.2⟩,λx hx=>zt (GA.mp h3 x hx),λx hx=>zt (GA.mp h4 x hx),λx hx hc=>?_,yL h6⟩
 ·exact ZN h1
 ·have:=GA.mp (GA.mp h5 x hx) x hc
  rw[eqStr_iff.mpr rfl] at this
  cases this
set_option tactic.hygienic true in
theorem yx{names:List (Str×NameKind)}{x:Str}{k:NameKind}(h:names.lookup x=some k):(x,k)∈names:=by
 induction names with
 |nil=>simp at h
 |cons p r ih=>
  obtain⟨n,j⟩:=p
  rw[GI] at h
  split at h
  ·rename_i hx;cases h;rw[eq_of_beq hx];exact G9 ..
  ·exact Gd _ (ih h)
theorem yS{lm:Bool}{sc csc:Scope}(C:c.Ok T d)(S:ScOk T lm sc c)(K:CscOk sc csc) :
  ∃cl,closureFor csc c.fe=pure cl/\∀x,csc.names.lookup x=some .free->c.fe.kindOf x=some .cell/\∃a,cl.lookup x=some a/\c.fe.cells.lookup x=some a:=by
 obtain⟨cl,h1,h2,h3⟩:=ZY (csc:=csc) (env:=c.fe) λp hp hf=>by
  refine za (C.cel p.1 (S.cell _ (K.fr p hp hf))) λa e _=>?_
  exact⟨a,e⟩
 refine⟨cl,h1,λx hx=>?_⟩
 have hm:=yx hx
 have hc:=S.cell _ (K.fr _ hm rfl)
 refine za (C.cel x hc) λa e _=>?_
 exact⟨hc,a,(h3 _ hm rfl).trans e,e⟩
set_option tactic.hygienic true in
theorem cmpOk{lm:Bool}{sc csc:Scope}{cl:List (Str×Addr)}{Cc:Addr}{oC:Obj}{G ex:Lg}{m':Str->Option Value}(C:c.Ok T d)(K:CscOk sc csc)
  (hcl:∀x,csc.names.lookup x=some .free->c.fe.kindOf x=some .cell/\∃a,cl.lookup x=some a/\c.fe.cells.lookup x=some a)
  (hG:G=ex++c.G) (hC:(Cc,oC)∈ex) (ho:NsObj oC m'):(Xi c csc cl Cc G m').Ok T d/\ScOk T false csc (Xi c csc cl Cc G m'):=by
 have hfk:(compEnvC csc cl Cc c.fe).scope.kind= .function:=K.kd
 refine⟨⟨C.B,hfk,C.gl,C.bi,C.X,C.top,C.tab,C.hh,C.dep,C.un,C.scr,?_,?_⟩,⟨?_,?_,λh=>by cases h⟩⟩
 ·intro x u hu hd prog w A s Q Er pos F Nw q
  have hu:(match csc.names.lookup x with|some .local=>m' x|some .free=>c.nm x|_=>none)=some u:=hu
  split at hu
  ·rename_i hx
   have hkx:(compEnvC csc cl Cc c.fe).kindOf x=some .local:=by rw[Z8,hx];rfl
   refine wpAny_Name (wpAny_loadName_local (env:=compEnvC csc cl Cc c.fe) hfk hkx (ho.ns (Nw (Cc,oC) ?_).1) hu q) hd
   show(Cc,oC)∈G
   rw[hG];exact Ge _ hC
  ·rename_i hx
   obtain⟨k1,a,k2,k3⟩:=hcl x hx
   refine za (C.cel x k1) λa' e1 e2=>?_
   rw[k3] at e1;cases e1
   refine za (e2 u hu) λo e3 e4=>?_
   have hkx:(compEnvC csc cl Cc c.fe).kindOf x=some .cell:=by
    rw[Z8,hx,DZ,k1,C.kd];rfl
   refine wpAny_Name (wpAny_loadName_cell (env:=compEnvC csc cl Cc c.fe) hfk hkx k2 ⟨o,(Nw (a,o) ?_).1,e4⟩ q) hd
   show(a,o)∈G
   rw[hG];exact Gb _ e3
  ·cases hu
 ·intro x hx
  have hx:(compEnvC csc cl Cc c.fe).kindOf x=some .cell:=hx
  rw[Z8] at hx
  refine za (GD.mp hx) λk hk hk2=>?_
  have hkf:k= .free:=by
   split at hk2
   ·rename_i q
    simp only[GS,beq_iff_eq] at q
    exact q.1.1
   ·subst hk2;exact absurd rfl (K.cel _ (yx hk))
  subst hkf
  obtain⟨k1,a,k2,k3⟩:=hcl x hk
  refine za (C.cel x k1) λa' e1 e2=>?_
  rw[k3] at e1;cases e1
  refine⟨a,k2,λu hu=>?_⟩
  have hu:(match csc.names.lookup x with|some .local=>m' x|some .free=>c.nm x|_=>none)=some u:=hu
  rw[hk] at hu
  refine za (e2 u hu) λo e3 e4=>?_
  refine⟨o,?_,e4⟩
  show(a,o)∈G
  rw[hG];exact Gb _ e3
 ·intro x hx
  show(compEnvC csc cl Cc c.fe).kindOf x=_
  rw[Z8,zt hx];rfl
 ·intro x hx
  exact absurd rfl (K.cel _ (yx (zt hx)))
noncomputable def Ze:List Str->List Value->(Str->Option Value)->Str->Option Value
 |x::xs,u::us,m=>Ze xs us λz=>if z=x then some u else m z
 |_,_,m=>m
set_option tactic.hygienic true in
theorem zT{e:G4}{es:List G4}{ts:List Str}(h:ya (e::es)=some ts):∃x q ts',e= .Name x q/\ts=x::ts'/\ya es=some ts':=by
 rcases e<;>try exact nn h
 rename_i x q
 refine za (GD.mp h) λts' h1 h2=>?_
 exact⟨x,q,ts',rfl,h2.symm,h1⟩
theorem Zk{ts:List Str}(h:ya []=some ts):ts=[]:=by
 exact(Ga h).symm
theorem j5{env:Env}(hp:(env.scope.kind==.class ||(env.scope.kind==.module && env.locals != env.globals))=false){prog:Program}{w:World}{A:Around}{Q:Unit->Shared->Prop} :
  ∀{es:List G4} {ts:List Str} {us:List Value} {m:Str->Option Value} {s:Shared},ya es=some ts->us.length=ts.length->(∀x∈ts,env.kindOf x=some .local)->s.heap.Ns env.locals m->
   (∀h' tk,h'.Ns env.locals (Ze ts us m)->F7 env.locals s.heap h'->Q () {s with heap:=h',toks:=tk})->
   wpAny (model prog w) A (assignInOrder ((assignEach es env).map (·.2)) us) Q Er s:=by
 intro es
 induction es with
 |nil=>
  intro ts us m s ht hl hk hn h
  have:=Zk ht
  subst this
  induction us using GV with
  |nil=>exact assignInOrder_nil (h s.heap s.toks hn (.refl ..))
  |cons _ _=>simp at hl
 |cons e es ih=>
  intro ts us m s ht hl hk hn h
  refine Z9 (zT ht) λx q ts' rq3 rq4 ht'=>?_;subst rq3;subst rq4
  induction us using GV with
  |nil=>simp at hl
  |cons u us=>
   show wpAny _ _ (assignInOrder (assign (.Name x q) env::(assignEach es env).map (·.2)) (u::us)) _ _ _
   refine assignInOrder_cons (wpAny_assign_Name (wpAny_storeName_local (hk x (G9 ..)) hn (λh₁ Ug Uk=>?_) hp))
   exact ih (s:={s with heap:=h₁,toks:=_}) ht' (by simpa using hl) (λy hy=>hk y (Gd _ hy)) Ug λh' tk hn' hs'=>h h' tk hn' (Uk.trans hs')
theorem Jc{env:Env}: ∀{es:List G4} {ts:List Str},ya es=some ts->(assignEach es env).length=ts.length/\(assignEach es env).findIdx? (·.1)=none:=by
 intro es
 induction es with
 |nil=>
  intro ts ht
  exact by have:=Zk ht;subst this;exact⟨rfl,rfl⟩
 |cons e es ih=>
  intro ts ht
  refine Z9 (zT ht) λx q ts' rq3 rq4 ht'=>?_;subst rq3;subst rq4
  refine zf (ih ht') λh1 h2=>?_
  have e1:assignEach (.Name x q::es) env=(false,assign (.Name x q) env)::assignEach es env:=rfl
  rw[e1]
  refine⟨by simp[h1],?_⟩
  rw[List.findIdx?_cons,h2];rfl
end
section
variable {T:Tp} {Un h h':Heap} {L:Addr} {m m':Str->Option Value} {G G':Lg} {H:List O} {ρ ρ':Rn} {E E':Lg}
theorem Rep.perm(R:Rep T Un L m G H ρ E h)(p:G.Perm G'):Rep T Un L m G' H ρ E h:=by
 refine za (R.N) λtb hb N=>?_
 refine⟨R.F,⟨tb,hb,λq hq=>N q ?_⟩,?_,R.len,R.enc,R.ft⟩
 ·rcases Gn.mp hq with hq|hq
  ·exact Ge _ hq
  ·rcases Gh.mp hq with hq|hq
   ·exact Gb _ (hq▸G9 ..)
   ·exact Gb _ (Gd _ (p.mem_iff.mpr hq))
 ·have:((E++(T.tab,tabObj #[])::G).map (·.1)).Perm ((E++(T.tab,tabObj #[])::G').map (·.1)):=(((p.cons _).append_left _).map _)
  exact this.nodup_iff.mp R.nd
end
section
variable {prog:Program} {w:World} {A:Around} {E:Value->Shared->Prop} {s:Shared}
theorem X9{tg:G4}{I:Addr}{o:Obj}{v:Value}{vs:Array Value}{n:String}{Q:Unit->Shared->Prop}(ho:s.heap.get? I=some o)(hc:o.cls= .type n)(hd:o.data= .fields vs)
  (hn:(["enumerate","zip","dict_itemiterator","dict_reverseitemiterator","odict_iterator","itertools.zip_longest","itertools.pairwise"].contains n)=false) (h:Q () s) :
  wpAny (model prog w) A (letOwnedTupleGo tg (.ref I) v) Q E s:=by
 have key:wpAny (model prog w) A (do
   let (.ref r,.ref a):=((.ref I,v):Value×Value)|return
   let o ←load r
   match o.cls,o.data with
   |.type n,.fields vs=>
    if ["enumerate","zip","dict_itemiterator","dict_reverseitemiterator","odict_iterator","itertools.zip_longest","itertools.pairwise"].contains n && vs[0]?==some (rawInt a) then
     rule "for.unpacks-the-owned-tuple"
     updateField r 0 .none
   |_,_=>pure ()) Q E s:=by
  rcases v<;>first|exact wpAny_pure h|skip
  refine wpAny_bind (wpAny_load ho ?_)
  rw[hc,hd]
  simp only[hn,Bool.false_and,F5,if_false]
  exact wpAny_pure h
 rcases tg<;>first|exact key|exact wpAny_pure h
noncomputable def Xa(e:G4)(dp:Nat)(elt target iter:G4)(ifs:List G4)(it acc:Value)(env:Env):Sem Fin:=do
 standAt iter.pos
 match ←pyNext it with
 |none=>pure (.done .next)
 |some v=>
  letOwnedTupleGo target it v
  assign target env v
  let mut ok:=true
  for c in ifs do
   if ok then ok ←isTrue c env (eval c env)
  if ok then
   (do let _ ←call (.builtin "list.append") [acc,←eval elt env])
  again (.compLoop e dp it acc env)
theorem Zd{el elt target iter:G4}{gens:List Comprehension}{dp:Nat}{ifs:List G4}{scope:Scope}{pos:Pos}{it acc:Value}{env:Env}{R:Result->Shared->Prop}(I:Nat->Shared->Prop)
  (turn:∀n s,I n s->wpAny (model prog w) A (pyNext it) (λr UN=>match r with
   |none=>R (.ok .next) UN
   |some v=>wpAny (model prog w) A (letOwnedTupleGo target it v) (λ_ UM=>wpAny (model prog w) A (assign target env v) (λ_ UO=>
     wpAny (model prog w) A (forIn ifs true λc r=>if r=true then do let ok ←isTrue c env (eval c env);pure (Dq ok) else pure (Dq r)) (λok UP=>
      if ok=true then wpAny (model prog w) A (eval elt env) (λx UQ=>
       wpAny (model prog w) A (call (.builtin "list.append") [acc,x]) (λ_ UR=>∃m,m < n/\I m UR) (notedBy (model prog w) A env λe s'=>R (.error e) s') UQ) (notedBy (model prog w) A env λe s'=>R (.error e) s') UP
      else ∃m,m < n/\I m UP) (notedBy (model prog w) A env λe s'=>R (.error e) s') UO)
     (notedBy (model prog w) A env λe s'=>R (.error e) s') UM) (notedBy (model prog w) A env λe s'=>R (.error e) s') UN) (notedBy (model prog w) A env λe s'=>R (.error e) s') s)
  (ht:compTurn (.ListComp el gens scope pos) dp it acc env=Xa (.ListComp el gens scope pos) dp elt target iter ifs it acc env) (n:Nat) (h:I n s):codeAny (model prog w) A (.compLoop (.ListComp el gens scope pos) dp it acc env) R s:=by
 refine codeAny_loop rfl I (λn s hI=>?_) n h
 show wpAny _ A ((compTurn (.ListComp el gens scope pos) dp it acc env).onRaise (λx=>do noteFrame x env;theTreesLotGoes x)) _ _ s
 refine wpAny_noted ?_
 rw[ht]
 unfold Xa
 refine wpAny_bind (wpAny_standAt (wpAny_bind (wpAny_mono (turn n s hI) (λr UN h₁=>?_) λ_ _ h'=>h')))
 induction r using Gq with
 |none=>exact wpAny_pure h₁
 |some v=>
  refine wpAny_bind (wpAny_mono h₁ (λ_ UM Uo=>?_) λ_ _ h'=>h')
  refine wpAny_bind (wpAny_mono Uo (λ_ UO Uq=>wpAny_bind (wpAny_mono Uq (λok UP Ur=>?_) λ_ _ h'=>h')) λ_ _ h'=>h')
  induction ok using GF with
  |false=>exact wpAny_pure ⟨rfl,Ur⟩
  |true=>exact wpAny_bind (wpAny_bind (wpAny_mono Ur (λx UQ Ut=>wpAny_bind (wpAny_mono Ut (λ_ UR Uu=>wpAny_pure (wpAny_pure ⟨rfl,Uu⟩)) λ_ _ h'=>h')) λ_ _ h'=>h'))
end
section
variable {T:Tp} {P:Prg} {N:Nm} {d:Nat}
variable {c:Cx} {s:Shared} {ρ:Rn} {E:Lg} {H:Hp} {Er:Value->Shared->Prop}
theorem ItO.shape{it:It}{j:Nat}{o:Obj}(h:ItO T E ρ it j o):∃n vs,o.cls= .type n/\o.data= .fields vs/\(["enumerate","zip","dict_itemiterator","dict_reverseitemiterator","odict_iterator","itertools.zip_longest","itertools.pairwise"].contains n)=false:=by
 cases h with
 |tup _ _ h3 h4=>exact⟨_,_,h3,h4,by decide⟩
 |@str x _ _ _ h1 h2=>exact⟨_,_,h1,h2,by unfold strIterType;split<;>decide⟩
 |rng _=>exact⟨_,_,rfl,rfl,by decide⟩
 |lst _ h2 h3=>exact⟨_,_,h2,h3,by decide⟩
 |keys _ h2 h3=>exact⟨_,_,h2,h3,by decide⟩
theorem j3:∀{ts:List Str} {us:List Value} {m:Str->Option Value} {x:Str},x∉ts->Ze ts us m x=m x:=by
 intro ts
 induction ts with
 |nil=>
  intro us m x y4
  exact by rcases us<;>rfl
 |cons t ts ih=>
  intro xx m x h
  rcases xx with _|⟨u,us⟩
  ·exact rfl
  ·simp only[Gh,not_or] at h
   exact(ih h.2).trans (if_neg h.1)
theorem bindM_at:∀{ts:List Str} {us:List Value} {m:Str->Option Value} {k:Nat} {x:Str} {u:Value},ts.Nodup->ts[k]?=some x->us[k]?=some u->Ze ts us m x=some u:=by
 intro ts
 induction ts with
 |nil=>exact λ_ h=>nn h
 |cons t ts ih=>
  intro us m k x v nd h1 h2
  rcases us with _|⟨u,us⟩
  ·exact nn h2
  ·rcases k with _|k
   ·obtain rfl:t=x:=Ga h1
    obtain rfl:u=v:=Ga h2
    exact(j3 (Gr.mp nd).1).trans (if_pos rfl)
   ·exact ih (Gr.mp nd).2 h1 h2
set_option tactic.hygienic true in
theorem jc{e:G4}{ts:List Str}(h:ZE e=some ts):(∃x p,e= .Name x p/\ts=[x])∨∃xs k p,e= .Tuple xs k p/\ya xs=some ts/\Gg ts.length 1=false/\xs≠[]:=by
 rcases e<;>first|exact nn h|exact .inl ⟨_,_,rfl,(Ga h).symm⟩|skip
 rename_i xs k p
 rcases xs with _|⟨a,_|⟨b,r⟩⟩
 ·exact nn h
 ·exact nn h
 ·have h:ya (a::b::r)=some ts:=h
  refine .inr ⟨_,_,_,rfl,h,?_,λq=>nomatch q⟩
  refine Z9 (zT h) λx p' ts' e1 e2 h'=>?_
  refine Z9 (zT h') λx2 p2 ts2 e3 e4 h2=>?_
  rw[e2,e4];rfl
theorem KN{env:Env}{tg:G4}{ts:List Str}{m UA:Str->Option Value}{v:V}{u:Value}{A:Around}{Q:Unit->Shared->Prop}{prog:Program}{w:World}{G:Lg}{L:Addr}{Un:Heap}(X:T.K.In Un)(R:Rep T Un L UA G H ρ E s.heap)(ht:ZE tg=some ts)(hh:A.handled=none)
  (hp:(env.scope.kind==.class ||(env.scope.kind==.module && env.locals != env.globals))=false) (hk:∀x∈ts,env.kindOf x=some .local) (hv:VR T E ρ v u) (hn:s.heap.Ns env.locals m)
  (hl:(zR (Gg ts.length 1) v).length=ts.length)
  (h:∀us h' tk,VRs T E ρ (zR (Gg ts.length 1) v) us->us.length=ts.length->h'.Ns env.locals (Ze ts us m)->(∀b o,b≠env.locals->s.heap.get? b=some o->h'.get? b=some o)->(∀b,s.heap.objs.size<=b->True)->Q () {s with heap:=h',toks:=tk}) :
  wpAny (model prog w) A (assign tg env u) Q Er s:=by
 rcases jc ht with⟨x,q,rfl,rfl⟩|⟨xs,kk,pp,rfl,ht,hne,hx0⟩
 ·refine wpAny_assign_Name (wpAny_storeName_local (hk x (G9 ..)) hn (λh₁ Ug Uk=>?_) hp)
  exact h [u] h₁ _ (.cons hv .nil) rfl Ug (λb o hb e=>Uk.extBut b o hb e) λ_ _=>trivial
 ·skip
  rw[hne] at hl h
  cases hv with
  |@tup vs us a htu hvs=>
   have hus:us.length=ts.length:=by rw[←hvs.length];exact hl
   refine zf (Jc (env:=env) ht) λe1 e2=>?_
   refine assign_Tuple_tuple hh (R.isTup X htu) (by rw[e1];simpa using hus.symm) e2 λh₁ he=>?_
   have hL:env.locals≠s.heap.objs.size:=D1 hn.lt
   refine j5 hp (s:={s with heap:=h₁}) (m:=m) ht (by simpa using hus) hk (hn.at' λo e=>he _ o hL e) λh' tk hn' hs'=>?_
   exact h us h' tk hvs hus (by simpa using hn') (λb o hb e=>hs'.extBut b o hb (he b o (D1 (Heap.lt_size e)) e)) λ_ _=>trivial
  |_=>
   induction ts using GV with
   |cons _ _=>simp[zR] at hl
   |nil=>
    induction xs using GV with
    |cons e es=>obtain⟨x,q,ts',_,e,_⟩:=zT ht;cases e
    |nil=>exact absurd rfl hx0
end
section
variable {T:Tp} {Un h h':Heap} {L:Addr} {m m':Str->Option Value} {G G':Lg} {H:List O} {ρ ρ':Rn} {E E':Lg}
theorem Rep.setE{x:Addr}{ob ob':Obj}(R:Rep T Un L m ((x,ob)::G) H ρ E h)(sb:∀b o,b≠x->h.get? b=some o->h'.get? b=some o)(ho:h'.get? x=some ob'):Rep T Un L m ((x,ob')::G) H ρ E h':=by
 refine za (R.N) λtb hb Nw=>?_
 have nd:=R.nd
 have hx:=Nw (x,ob) (by simp)
 have F':Fr Un L h' m:=⟨R.F.ns.at λo e=>sb L o (Ne.symm hx.2.1) e,λb o e=>sb b o (λq=>by rw[q,hx.2.2] at e;cases e) (R.F.keep b o e),R.F.above⟩
 refine⟨F',⟨tb,hb,λp hp=>?_⟩,by simpa using nd,R.len,R.enc,R.ft⟩
 by_cases hpx:p.1=x
 ·have:p=(x,ob'):=by
   simp only[Gw,GG] at nd
   refine zC (Gu.mp nd) λn1 n2 n3=>?_
   rw[Gr,Gr] at n2
   simp only[Gn,Gh] at hp
   rcases hp with q|q|q|q
   ·exact absurd hpx (n3 p.1 (GC q) _ (by simp))
   ·subst q;exact absurd hpx (λe=>n2.1 (by simp[←e]))
   ·exact q
   ·exact absurd (GC (f:=(·.1)) q) (by rw[hpx];exact n2.2.1)
  subst this
  exact⟨ho,hx.2.1,hx.2.2⟩
 ·have hp':p∈E++(T.tab,tb)::(x,ob)::G:=by
   simp only[Gn,Gh] at hp ⊢
   rcases hp with q|q|q|q
   ·simp[q]
   ·simp[q]
   ·subst q;exact absurd rfl hpx
   ·simp[q]
  exact⟨sb p.1 p.2 hpx (Nw p hp').1,(Nw p hp').2⟩
end
section
variable {T:Tp} {P:Prg} {N:Nm} {d:Nat}
variable {c:Cx} {s:Shared} {ρ:Rn} {E:Lg} {H:Hp} {Er:Value->Shared->Prop} {prog:Program} {w:World} {A:Around}
theorem XG{I:Addr}{o:Obj}{it:It}{j:Nat}{K:Value->Shared->Prop}(ho:s.heap.get? I=some o)(hi:ItO T E ρ it j o)(h:K (.ref I) s):wpAny (model prog w) A (pyIter (.ref I)) K Er s:=by
 cases hi with
 |tup _ _ h3 h4=>exact wpAny_pyIter_tupleiter ⟨o,ho,h3,h4⟩ h
 |@str x t _ _ h1 h2=>
  unfold strIterType at h1
  split at h1
  ·exact wpAny_pyIter_striter_ascii ⟨o,ho,h1,h2⟩ h
  ·exact wpAny_pyIter_striter_wide ⟨o,ho,h1,h2⟩ h
 |rng _=>exact wpAny_pyIter_rangeiter ho h
 |lst _ h2 h3=>exact wpAny_pyIter_listiter ⟨o,ho,h2,h3⟩ h
 |keys _ h2 h3=>exact wpAny_pyIter_keyiter ⟨o,ho,h2,h3⟩ h
end
section
variable {RX:RxT} {T:Tp} {P:Prg} {N:Nm} {O:Orc} {d:Nat}
variable {c:Cx} {s:Shared} {ρ:Rn} {E:Lg} {H:Hp} {X:Nat->Hp->Prop} {Er:Value->Shared->Prop}
noncomputable def cndF(cond:Mn.E):Lc->Hp->(Bool->Hp->Prop)->Prop:=λl H q=>ev P O cond (λ_ _=>False) l H λv H'=>ifS (yu v H') λb=>q b H'
noncomputable def Xh(N:Nm)(K:Frag)(sc:Scope)(tb:List Str)(cond:Mn.E)(ifs:List G4):Bool:=match ifs with
 |[]=>js cond
 |ct::r=>none? r && chkE N K false sc tb cond ct
set_option tactic.hygienic true in
theorem jr{e:Mn.E}(h:js e=true):e= .c (.bool true):=by
 rcases e<;>first|exact absurd h G3|skip
 rename_i v
 rcases v<;>first|exact absurd h G3|skip
 rename_i b
 rcases b<;>first|exact absurd h G3|rfl
theorem cond_ok{cond:Mn.E}{ifs:List G4}{c:Cx}{sc:Scope}{tb:List Str}{l:Lc}{q:Bool->Hp->Prop}(ic:TrOk RX T P N O d cond)
  (hc:Xh N T.K sc tb cond ifs=true)
  (C:c.Ok T d) (S:ScOk T false sc c) (he:cndF (P:=P) (O:=O) cond l H q) (R:c.Rep T H ρ E s.heap) (Lk:LOk T tb c E ρ l) :
  wpAny (model T.prog T.w) c.A (forIn ifs true λt r=>if r=true then do let ok ←isTrue t c.fe (eval t c.fe);pure (Dq ok) else pure (Dq r)) (PostB T c s ρ E q) Er s:=by
 induction ifs using GV with
 |nil=>
  obtain rfl:=jr hc
  exact wpAny_tests_nil ⟨s.heap,s.toks,H,ρ,E,rfl,R,Ext.refl _ _,he⟩
 |cons ct r=>
  refine zf (an2 hc) ?_;clear hc;intro h1 h2
  obtain rfl:=zH h1
  exact wpAny_tests_one (ic h2 C S he R Lk λe s' q=>absurd q XPost.no)
inductive CompI (P:Prg) (O:Orc) (T:Tp) (c:Cx) (s:Shared) (ρ:Rn) (E:Lg) (elt cond:Mn.E) (ts:List Str) (cap:Lc) (it:It) (I Cc D:Addr) (UB:Str->Option Value) (uO:Nat) (K:List V->Hp->Prop) (n:Nat) (s':Shared):Prop
 |mk (h':Heap) (tk j:Nat) (oI oC:Obj) (m':Str->Option Value) (ys:List Value) (acc:List V) (H':Hp) (ρ':Rn) (E':Lg):s'={s with heap:=h',toks:=tk}->n=it.items.length - j->
   Mn.Rep T c.Un c.L c.m ((I,oI)::(Cc,oC)::(D,lst ys)::c.G) H' ρ' E' h'->Ext E ρ E' ρ'->ItO T E' ρ' it j oI->it.Sta H'->NsObj oC m'->VRs T E' ρ' acc.reverse ys->acc.length<=uO+j->
   Zm (ev P O elt (λ_ _=>False)) (cndF (P:=P) (O:=O) cond) ts.length cap it (it.items.drop j) acc H' K->(∀y,y∉ts->m' y=UB y)->CompI P O T c s ρ E elt cond ts cap it I Cc D UB uO K n s'
noncomputable def CapOk(T:Tp)(c:Cx)(csc:Scope)(ts:List Str)(UB:Str->Option Value)(E:Lg)(ρ:Rn)(ctb:List Str)(cap:Lc):Prop:=∀(k:Nat) (w:V),cap[k]?=some w->w≠.bad->∃y z,ctb[k]?=some y/\
 ((csc.names.lookup y=some .free/\c.nm y=some z)∨(csc.names.lookup y=some .local/\y∉ts/\UB y=some z))/\VR T E ρ w z
theorem capOk{csc:Scope}{tb ts:List Str}{caps:List Nat}{L:Lc}{UB:Str->Option Value}(Lk:LOk T tb c E ρ L)(hcp:∀x∈pick tb caps,csc.names.lookup x=some .free):CapOk T c csc ts UB E ρ (pick tb caps) (caps.map λk=>(L[k]?).getD .bad):=by
 intro k w hw hne
 rw[List.getElem?_map] at hw
 refine za (GD.mp hw) λcp hcp1 hcp2=>?_
 have hLc:L[cp]?=some w:=by
  rcases hq:L[cp]? with _|w'
  ·rw[hq] at hcp2;exact absurd hcp2.symm hne
  ·rw[hq] at hcp2;exact congrArg some hcp2
 refine zy (Lk cp w hLc hne) λy z e1 e2 e3=>?_
 have hpk:(pick tb caps)[k]?=some y:=by
  unfold pick
  rw[List.getElem?_map,hcp1,DZ,e1];rfl
 exact⟨y,z,hpk,.inl ⟨hcp y (List.mem_of_getElem? hpk),e2⟩,e3⟩
theorem XW{elt cond:Mn.E}{el x iter tg:G4}{gens:List Comprehension}{dp:Nat}{ifs:List G4}{lm:Bool}{sc csc:Scope}{pos:Pos}{cl:List (Str×Addr)}{ctb ts:List Str}{cap:Lc}{it:It}{I Cc D:Addr}{RR:Result->Shared->Prop}{K:List V->Hp->Prop}{kk:Nat}
  (hturn:∀it acc env,compTurn (.ListComp el gens csc pos) dp it acc env=Xa (.ListComp el gens csc pos) dp x tg iter ifs it acc env)
  (ie:EvOk RX T P N O d elt) (ic:TrOk RX T P N O d cond)
  (C:c.Ok T d) (Kc:CscOk sc csc) (hcl:∀x,csc.names.lookup x=some .free->c.fe.kindOf x=some .cell/\∃a,cl.lookup x=some a/\c.fe.cells.lookup x=some a)
  (ht:ZE tg=some ts) (hts:∀x∈ts,csc.names.lookup x=some .local) (nd:ts.Nodup) (hk:kk=ts.length)
  (hce:chkE N T.K false csc (ts++ctb) elt x=true)
  (hcc:Xh N T.K csc (ts++ctb) cond ifs=true)
  (hil:it.items.length<=1000)
  {h₁:Heap} {tk₁:Nat} {UK UG:Obj} {UB:Str->Option Value} {acc₀:List V} {wj:List Value} (U5:acc₀.length<=1000)
  (fin:∀h' tk oC m' ys vs H' ρ' E',Mn.Rep T c.Un c.L c.m ((Cc,oC)::(D,lst ys)::c.G) H' ρ' E' h'->Ext E ρ E' ρ'->NsObj oC m'->VRs T E' ρ' vs ys->K vs H'->(∀y,y∉ts->m' y=UB y)->RR (.ok .next) {s with heap:=h',toks:=tk})
  (R:Mn.Rep T c.Un c.L c.m ((I,UK)::(Cc,UG)::(D,lst wj)::c.G) H ρ E h₁) (hi:ItO T E ρ it 0 UK) (st:it.Sta H) (hns:NsObj UG UB) (Um:VRs T E ρ acc₀.reverse wj) (hcap:CapOk T c csc ts UB E ρ ctb cap)
  (he:Zm (ev P O elt (λ_ _=>False)) (cndF (P:=P) (O:=O) cond) kk cap it it.items acc₀ H K) :
  codeAny (model T.prog T.w) c.A (.compLoop (.ListComp el gens csc pos) dp (.ref I) (.ref D) (compEnvC csc cl Cc c.fe)) RR {s with heap:=h₁,toks:=tk₁}:=by
 subst hk
 have hp:(csc.kind==.class ||(csc.kind==.module && (compEnvC csc cl Cc c.fe).locals != (compEnvC csc cl Cc c.fe).globals))=false:=by rw[Kc.kd];rfl
 refine Zd
  (CompI P O T c s ρ E elt cond ts cap it I Cc D UB acc₀.length K) ?_ (hturn _ _ _) it.items.length
  ⟨h₁,tk₁,0,UK,UG,UB,wj,acc₀,H,ρ,E,rfl,rfl,R,Ext.refl _ _,hi,st,hns,Um,Gi _,he,λ_ _=>rfl⟩
 rintro n s' ⟨h',tk,j,oI,oC,m',ys,acc,H',ρ',E',rfl,rfl,R',x',hi',st',hns',hv',hal,he',hm'⟩
 induction hj:it.items[j]? using Gq with
 |none=>
  refine Xb (s:={s with heap:=h',toks:=tk}) C.X C.hh R' hi' st' hj λUq uH=>?_
  have hd:it.items.drop j=[]:=Fa (List.getElem?_eq_none_iff.mp hj)
  rw[hd] at he'
  exact fin Uq tk oC m' ys acc.reverse H' ρ' E' uH x' hns' hv' he' hm'
 |some v=>
  have hjl:j < it.items.length:=(List.getElem?_eq_some_iff.mp hj).1
  have hd:it.items.drop j=v::it.items.drop (j+1):=by
   rw[DW hjl]
   congr 1
   exact Ga ((List.getElem?_eq_getElem hjl).symm.trans hj)
  rw[hd] at he'
  refine Yn (s:={s with heap:=h',toks:=tk}) C.X R' hi' st' hj λUq UY UJ u uH Ub hu=>?_
  refine za (id uH.N) λUU U7 uB=>?_
  refine zy (Ub.shape) λn0 vs0 q1 q2 q3=>?_
  refine X9 (s:={s with heap:=Uq,toks:=UY}) (uB (I,UJ) (by simp)).1 q1 q2 q3 ?_
  have uY:Uq.get? Cc=some oC:=(uB (Cc,oC) (by simp)).1
  refine zf (gd_iff.mp he') λg1 he3=>?_
  have hlen:(zR (Gg ts.length 1) v).length=ts.length:=by
   have:=natE.mp g1
   rw[G7] at this
   exact om57 this
  refine KN (s:={s with heap:=Uq,toks:=UY}) (env:=compEnvC csc cl Cc c.fe) C.X uH ht C.hh hp (λy hy=>by rw[Z8,hts y hy];rfl) hu (hns'.ns uY) hlen λus Ur UZ hus hul Uh Uy _=>?_
  refine za (ns_obj Uh) λUH uZ Ue=>?_
  have uI:Mn.Rep T c.Un c.L c.m ((I,UJ)::(Cc,UH)::(D,lst ys)::c.G) H' ρ' E' Ur:=
   (Rep.setE (ob':=UH) (uH.perm (Dl _ _ _)) (λb o hb e=>Uy b o hb e) uZ).perm (Dl _ _ _)
  refine zf (cmpOk (lm:=lm) (G:=(I,UJ)::(Cc,UH)::(D,lst ys)::c.G) (ex:=[(I,UJ),(Cc,UH),(D,lst ys)]) (Cc:=Cc) (oC:=UH) C Kc hcl rfl (Gd _ (G9 ..)) Ue) λu0 uM=>?_
  have Ud:∀y,y∉ts->Ze ts us m' y=UB y:=λy hy=>(j3 hy).trans (hm' y hy)
  have uu:LOk T (ts++ctb) (Xi c csc cl Cc ((I,UJ)::(Cc,UH)::(D,lst ys)::c.G) (Ze ts us m')) E' ρ' (zR (Gg ts.length 1) v++cap):=by
   intro k w hw hne
   by_cases hkl:k < ts.length
   ·rw[List.getElem?_append_left (by rw[hlen];exact hkl)] at hw
    refine za (hus.at hw) λz hz hr=>?_
    refine⟨ts[k],z,by rw[List.getElem?_append_left hkl,List.getElem?_eq_getElem hkl],?_,hr⟩
    show(match csc.names.lookup ts[k] with|some .local=>Ze ts us m' ts[k]|some .free=>c.nm ts[k]|_=>none)=some z
    rw[hts _ (List.getElem_mem hkl)]
    exact bindM_at nd (List.getElem?_eq_getElem hkl) hz
   ·rw[List.getElem?_append_right (by rw[hlen];exact DD.mp hkl),hlen] at hw
    refine zy (hcap _ w hw hne) λy z e1 e2 e3=>?_
    refine⟨y,z,by rw[List.getElem?_append_right (DD.mp hkl)];exact e1,?_,e3.ext x'⟩
    show(match csc.names.lookup y with|some .local=>Ze ts us m' y|some .free=>c.nm y|_=>none)=some z
    rcases e2 with⟨e4,e5⟩|⟨e4,e5,e6⟩
    ·rw[e4];exact e5
    ·rw[e4];exact(Ud y e5).trans e6
  refine wpAny_mono (cond_ok (s:={s with heap:=Ur,toks:=UZ}) (c:=Xi c csc cl Cc ((I,UJ)::(Cc,UH)::(D,lst ys)::c.G) (Ze ts us m')) ic hcc u0 uM he3 uI uu) (λb UQ p=>?_) λ_ _ e=>e
  obtain⟨Ut,w6,ul,ρ₄,u7,rfl,uJ,wh,hq⟩:=p
  induction b using GF with
  |false=>
   simp only[F5,if_false]
   refine zf (gd_iff.mp hq) λg2 he5=>?_
   exact⟨it.items.length - (j+1),by exact om58 hjl,Ut,w6,j+1,UJ,UH,_,ys,acc,ul,ρ₄,u7,rfl,rfl,uJ,x'.trans wh,Ub.ext wh,It.sta_of g2,Ue,hv'.ext wh,by exact om59 hal,he5,Ud⟩
  |true=>
   simp only[if_true]
   refine wpAny_mono (ie (s:={s with heap:=Ut,toks:=w6}) (c:=Xi c csc cl Cc ((I,UJ)::(Cc,UH)::(D,lst ys)::c.G) (Ze ts us m')) (X:=λ_ _=>False) hce u0 uM hq uJ (uu.ext wh) (λe s' q=>absurd q XPost.no)) (λy UR p=>?_) λ_ _ e=>e
   obtain⟨Uu,w9,yv,um,ρ₅,u8,rfl,uK,wi,hy,hq5⟩:=p
   refine zf (gd_iff.mp hq5) λg2 he5=>?_
   refine za (id uK.N) λUW U9 uE=>?_
   have U0:Uu.get? D=some (lst ys):=(uE (D,lst ys) (by simp[Xi])).1
   have hyl:ys.length=acc.length:=by rw[←hv'.length,Dh]
   refine append_at (s:={s with heap:=Uu,toks:=w9}) (hsz:=by rw[sizeLine_eq,Gv];exact om60 hil U5 hal hjl hyl) U0 λUv Ul U1=>?_
   have U4:Uv.get? D=some (lst (ys++[y])):=U1.trans (congrArg some (lst_snoc ys y))
   have pm:((I,UJ)::(Cc,UH)::(D,lst ys)::c.G).Perm ((D,lst ys)::(I,UJ)::(Cc,UH)::c.G):=by
    refine(Ig _ (Dl _ _ _)).trans (Dl _ _ _)
   have pm2:((D,lst (ys++[y]))::(I,UJ)::(Cc,UH)::c.G).Perm ((I,UJ)::(Cc,UH)::(D,lst (ys++[y]))::c.G):=by
    refine(Dl _ _ _).trans (Ig _ (Dl _ _ _))
   have uL:=(Rep.setE (ob':=lst (ys++[y])) (uK.perm pm) (λb o hb e=>Ul.extBut b o hb e) U4).perm pm2
   exact⟨it.items.length - (j+1),by exact om58 hjl,Uv,w9,j+1,UJ,UH,_,ys++[y],yv::acc,um,ρ₅,u8,rfl,rfl,uL,(x'.trans wh).trans wi,(Ub.ext wh).ext wi,It.sta_of g2,Ue,by
    rw[Dc];exact((hv'.ext wh).ext wi).append (.cons hy .nil),by simp;exact om61 hal,he5,Ud⟩
theorem yC{e:G4}{env:Env}(h:yi e=true):∀x,foldedSetIterable e env x=pure x:=by
 intro x
 rcases e<;>first|rfl|exact absurd h G3
noncomputable def compF(P:Prg)(O:Orc)(elt cond:Mn.E)(n:Nat)(caps:List Nat)(L:Lc)(K:List V->Hp->Prop)(u:V)(H₁:Hp):Prop:=
 ifS (zU u H₁) λit=>Zm (ev P O elt (λ_ _=>False)) (cndF (P:=P) (O:=O) cond) n (caps.map λk=>(L[k]?).getD .bad) it it.items [] H₁ K
theorem XX{iter:Mn.E}{x ix tg:G4}{ifs:List G4}{rest:List Comprehension}{lm:Bool}{sc csc:Scope}{pos:Pos}{cl:List (Str×Addr)}{tb:List Str}{L:Lc}{RR:Value->Addr->Result->Shared->Prop}{KK:It->Hp->Prop}
  (ii:EvOk RX T P N O d iter) (C:c.Ok T d) (S:ScOk T lm sc c) (Kc:CscOk sc csc) (hci:chkE N T.K lm sc tb iter ix=true)
  (R:c.Rep T H ρ E s.heap) (Lk:LOk T tb c E ρ L) (XR:∀e s',XPost RX c s ρ E X e s'->Er e s')
  (hloop:∀Ur UZ it I Cc D o oC m' H₁ ρ₁ u5,Mn.Rep T c.Un c.L c.m ((I,o)::(Cc,oC)::(D,lst [])::c.G) H₁ ρ₁ u5 Ur->Ext E ρ u5 ρ₁->ItO T u5 ρ₁ it 0 o->it.Sta H₁->it.items.length<=1000->NsObj oC m'->KK it H₁->
   codeAny (model T.prog T.w) c.A (.compLoop (.ListComp x (⟨tg,ix,ifs,0⟩::rest) csc pos) 0 (.ref I) (.ref D) (compEnvC csc cl Cc c.fe)) (RR (.ref D) Cc) {s with heap:=Ur,toks:=UZ})
  (he:ev P O iter X L H λu H₁=>ifS (zU u H₁) λit=>KK it H₁) :
  wpAny (model T.prog T.w) c.A (eval ix c.fe) (λxv UN=>wpAny (model T.prog T.w) c.A (pyIter xv) (λit UO=>wpAny (model T.prog T.w) c.A (newList []) (λacc UP=>
   wpAny (model T.prog T.w) c.A (newFunctionEnv csc c.fe.globals cl [] c.fe.qual none .none (some c.fe)) (λcenv UQ=>
    codeAny (model T.prog T.w) c.A (.compStart (.ListComp x (⟨tg,ix,ifs,0⟩::rest) csc pos) 0 it acc {cenv with scope:=relabel csc c.fe}) (RR acc cenv.locals) UQ) Er UP) Er UO) Er UN) Er s:=by
 refine Post.go (ii hci C S he R Lk XR) λu v h₁ tk₁ H₁ ρ₁ u5 uG we hv q=>?_
 refine za (zp q) ?_;clear q;intro it hit q
 ·refine Ym (s:={s with heap:=h₁,toks:=tk₁}) C uG hv hit λo uH hi st hil=>?_
  refine wpAny_newObj_type (wpAny_newFunctionEnv Kc.cel (by intro y hy;simp at hy) (λUr Uf Uj=>?_) Kc.kd)
  dsimp only at Uf Uj uH ⊢
  generalize hh1:h₁.push o=H1 at Uf Uj uH ⊢
  generalize hH2:H1.push {cls:=.type "list",dict:=none,data:=.seq ([]:List Value).toArray}=H2 at Uf Uj ⊢
  have hC:H2.objs.size=H1.objs.size+1:=by rw[←hH2,FD]
  have hDC:H1.objs.size≠H2.objs.size:=by rw[hC];exact D1 (D9 _)
  have old:∀b o,H1.get? b=some o->Ur.get? b=some o:=λb o e=>Uj.extBut b o (D1 (by rw[hC];exact Dm (Heap.lt_size e))) (Heap.get?_push_of_some _ (hH2▸Heap.get?_push_of_some _ e))
  have hacc:Ur.get? H1.objs.size=some (lst []):=Uj.extBut _ _ hDC (Heap.get?_push_of_some _ (hH2▸Heap.get?_push_size _ rfl))
  refine za (ns_obj Uf) λoC hoC hno=>?_
  have uI:Mn.Rep T c.Un c.L c.m ([(H2.objs.size,oC),(H1.objs.size,lst [])]++(h₁.objs.size,o)::c.G) H₁ ρ₁ u5 Ur:=
   Rep.moreG uH old (uH.F.keeps old) (by
    intro p hp
    simp only[Gh,GN,or_false] at hp
    rcases hp with rfl|rfl
    ·exact⟨hoC,by rw[hC];exact D4 _⟩
    ·exact⟨hacc,Gi _⟩) (by simp[hC])
  have uJ:Mn.Rep T c.Un c.L c.m ((h₁.objs.size,o)::(H2.objs.size,oC)::(H1.objs.size,lst [])::c.G) H₁ ρ₁ u5 Ur:=by
   refine uI.perm ?_
   exact(Da (l₁:=[(H2.objs.size,oC),(H1.objs.size,lst [])]) (a:=(h₁.objs.size,o)) (l₂:=c.G))
  have loop:∀UZ,codeAny (model T.prog T.w) c.A (.compLoop (.ListComp x (⟨tg,ix,ifs,0⟩::rest) csc pos) 0 (.ref h₁.objs.size) (.ref H1.objs.size) (compEnvC csc cl H2.objs.size c.fe)) (RR (.ref H1.objs.size) H2.objs.size) {s with heap:=Ur,toks:=UZ}:=λUZ=>
   hloop _ _ _ _ _ _ _ _ _ _ _ _ uJ we hi st hil hno q
  refine za (id uJ.N) λUV U8 uD=>?_
  exact codeAny_compStart_list (loop _) (XG (uD (h₁.objs.size,o) (by simp)).1 hi (loop _))
theorem XY{elt iter cond:Mn.E}{x ix tg:G4}{ifs:List G4}{lm:Bool}{sc csc:Scope}{pos:Pos}{cl:List (Str×Addr)}{tb ts:List Str}{caps:List Nat}{L:Lc}{RR:Value->Addr->Result->Shared->Prop}{K:List V->Hp->Prop}{kk:Nat}
  (ii:EvOk RX T P N O d iter) (ie:EvOk RX T P N O d elt) (ic:TrOk RX T P N O d cond)
  (C:c.Ok T d) (S:ScOk T lm sc c) (Kc:CscOk sc csc) (hcl:∀x,csc.names.lookup x=some .free->c.fe.kindOf x=some .cell/\∃a,cl.lookup x=some a/\c.fe.cells.lookup x=some a)
  (ht:ZE tg=some ts) (hts:∀x∈ts,csc.names.lookup x=some .local) (hcp:∀x∈pick tb caps,csc.names.lookup x=some .free) (nd:ts.Nodup) (hk:kk=ts.length)
  (hci:chkE N T.K lm sc tb iter ix=true)
  (hce:chkE N T.K false csc (ts++pick tb caps) elt x=true)
  (hcc:Xh N T.K csc (ts++pick tb caps) cond ifs=true)
  (R:c.Rep T H ρ E s.heap) (Lk:LOk T tb c E ρ L) (XR:∀e s',XPost RX c s ρ E X e s'->Er e s')
  (fin:∀D Cc h' tk oC m' ys vs H' ρ' E',Mn.Rep T c.Un c.L c.m ((Cc,oC)::(D,lst ys)::c.G) H' ρ' E' h'->Ext E ρ E' ρ'->NsObj oC m'->VRs T E' ρ' vs ys->K vs H'->RR (.ref D) Cc (.ok .next) {s with heap:=h',toks:=tk})
  (he:ev P O iter X L H (compF P O elt cond kk caps L K)) :
  wpAny (model T.prog T.w) c.A (eval ix c.fe) (λxv UN=>wpAny (model T.prog T.w) c.A (pyIter xv) (λit UO=>wpAny (model T.prog T.w) c.A (newList []) (λacc UP=>
   wpAny (model T.prog T.w) c.A (newFunctionEnv csc c.fe.globals cl [] c.fe.qual none .none (some c.fe)) (λcenv UQ=>
    codeAny (model T.prog T.w) c.A (.compStart (.ListComp x [⟨tg,ix,ifs,0⟩] csc pos) 0 it acc {cenv with scope:=relabel csc c.fe}) (RR acc cenv.locals) UQ) Er UP) Er UO) Er UN) Er s:=by
 refine XX (rest:=[]) ii C S Kc hci R Lk XR (λUr UZ it I Cc D o oC m' H₁ ρ₁ u5 uJ we hi st hil hno q=>?_) he
 exact XW (tk₁:=UZ) (lm:=lm) (sc:=sc) (kk:=kk) (acc₀:=[]) (λ_ _ _=>rfl) ie ic C Kc hcl ht hts nd hk hce hcc hil (D7 _)
  (λh' tk oC' m' ys vs H' ρ' E' Rr xr no vr k _=>fin _ _ h' tk oC' m' ys vs H' ρ' E' Rr (we.trans xr) no vr k) uJ hi st hno .nil (capOk (Lk.ext we) hcp) q
theorem XV{D:Addr}{ys:List Value}{vs:List V}{h:Heap}{m:Str->Option Value}(R:Mn.Rep T c.Un c.L m ((D,lst ys)::c.G) H ρ E h)(hv:VRs T E ρ vs ys)(hl:vs.length<=1000) :
  Mn.Rep T c.Un c.L m c.G (H++[.list vs]) (ρ++[(D,D)]) ((D,lst ys)::E) h/\Ext E ρ ((D,lst ys)::E) (ρ++[(D,D)])/\(ρ++[(D,D)])[H.length]?=some (D,D):=by
 refine za (id R.N) λtb hb N=>?_
 exact Rep.takeG (ob':=lst ys) R hb R.F N (o:=.list vs) ⟨ys,ys.length,G9 ..,hv.ext ⟨λ_ _ e=>e,λp hp _=>Gd _ hp⟩,hl⟩ rfl
theorem Xj{elt iter cond:Mn.E}{n:Nat}{caps:List Nat}{x:G4}{lm:Bool}{sc:Scope}{tb:List Str}(h:chkE N T.K lm sc tb (.comp elt iter cond n caps) x=true) :
  ∃y tg ix ifs csc pos ts,x= .ListComp y [⟨tg,ix,ifs,0⟩] csc pos/\ZE tg=some ts/\n=ts.length/\Y4 sc csc ts (pick tb caps)=true/\yi ix=true/\chkE N T.K lm sc tb iter ix=true/\chkE N T.K false csc (ts++pick tb caps) elt y=true/\Xh N T.K csc (ts++pick tb caps) cond ifs=true:=by
 refine yU (iComp h) ?_;clear h;intro y gens csc pos rq4 h;subst rq4
 replace h:=iOne h
 obtain⟨⟨tg,ix,ifs,as⟩,rfl',h⟩:=h
 refine zf (an2 h) ?_;clear h;intro h0 h
 obtain rfl:as=0:=of_decide_eq_true h0
 refine za (yf h) ?_;clear h;intro ts hts h
 refine YE (an6 h) ?_;clear h;intro h1 h2 h3 h4 h5 h6
 obtain rfl:gens=[⟨tg,ix,ifs,0⟩]:=rfl'
 exact⟨y,tg,ix,ifs,csc,pos,ts,rfl,hts,(natE.mp h1).symm,h2,h3,h4,h5,h6⟩
theorem JE{elt iter cond:Mn.E}{n:Nat}{caps:List Nat}{L:Lc}{Q:V->Hp->Prop}:ev P O (.comp elt iter cond n caps) X L H Q=ev P O iter X L H (compF P O elt cond n caps L λvs uh=>gd (G8 vs.length 1000) (Q (.obj uh.length) (uh++[.list vs]))):=by
 rfl
theorem Ku{elt iter cond:Mn.E}(n:Nat)(caps:List Nat)(ii:EvOk RX T P N O d iter)(ie:EvOk RX T P N O d elt)(ic:TrOk RX T P N O d cond):EvOk RX T P N O d (.comp elt iter cond n caps):=by
 intro x c lm sc tb X L H Q ρ E s Er hc C S he R Lk XR
 obtain⟨y,tg,ix,ifs,csc,pos,ts,rfl,ht,hn,hsc,hns,hci,hce,hcc⟩:=Xj hc
 refine j9 (KG hsc) λKc k1 k2 k3 k4=>?_
 refine za (yS C S Kc) λcl hclos hcl=>?_
 rw[JE] at he
 rw[eval_ListComp]
 refine wpAny_comprehension_free (use:=none) rfl (yC hns) hclos Kc.kd Kc.loc (XY (RR:=λacc Cc=>compPost (model T.prog T.w) c.A Er none (Post T c s ρ E Q) acc Cc) ii ie ic C S Kc hcl ht k1 k2 k4 hn hci hce hcc R Lk XR (λD Cc h' tk oC m' ys vs H' ρ' E' R' x' no vr q=>?_) he)
 refine zf (gd_iff.mp q) ?_;clear q;intro g1 q
 refine za (id R'.N) λUT U6 uA=>?_
 refine⟨m',no.ns (uA (Cc,oC) (by simp)).1,λh'' hs''=>?_⟩
 refine zC (XV (R'.dropG hs''.extBut) vr (natB.mp g1)) λR2 x2 hr=>?_
 exact⟨h'',tk,_,_,_,_,rfl,R2,x'.trans x2,.obj hr,q⟩
theorem tr_comp{elt iter cond:Mn.E}(n:Nat)(caps:List Nat)(ii:EvOk RX T P N O d iter)(ie:EvOk RX T P N O d elt)(ic:TrOk RX T P N O d cond):TrOk RX T P N O d (.comp elt iter cond n caps):=by
 refine ZZ (Ku n caps ii ie ic) ?_
 intro lm sc tb x h
 refine xe7c2 (Xj h) λy tg ix ifs csc pos ts rq7 _=>?_;subst rq7
 rfl
end
theorem yR{α β:Type}{M:Model}{A:Around}{t:Sem α}{a:α}{f:α->Sem β}{Q:β->Shared->Prop}{E:Value->Shared->Prop}{s:Shared}(h:t=pure a)(k:wpAny M A (f a) Q E s):wpAny M A (t >>= f) Q E s:=by
 rw[h];exact wpAny_bind (wpAny_pure k)
section
variable {prog:Program} {w:World} {A:Around} {E:Value->Shared->Prop} {s:Shared}
noncomputable def XN(e t1 i1 i2:G4)(it acc:Value)(env:Env):Sem Fin:=do
 standAt i1.pos
 match ←pyNext it with
 |none=>pure (.done .next)
 |some v=>
  letOwnedTupleGo t1 it v
  assign t1 env v
  let x ←eval i2 env
  standAt i2.pos
  let x ←foldedSetIterable i2 env x
  let _ ←runOwn (.compStart e 1 (←holding [x] (pyIter x)) acc env) env
  again (.compLoop e 0 it acc env)
theorem XZ(elt t1 i1 t2 i2:G4)(scope:Scope)(pos:Pos)(it acc:Value)(env:Env) :
  compTurn (.ListComp elt [⟨t1,i1,[],0⟩,⟨t2,i2,[],0⟩] scope pos) 0 it acc env=XN (.ListComp elt [⟨t1,i1,[],0⟩,⟨t2,i2,[],0⟩] scope pos) t1 i1 i2 it acc env:=rfl
theorem Zz{elt t1 i1 t2 i2:G4}{scope:Scope}{pos:Pos}{it acc:Value}{env:Env}{R:Result->Shared->Prop}
  (h0:codeAny (model prog w) A (.compLoop (.ListComp elt [⟨t1,i1,[],0⟩,⟨t2,i2,[],0⟩] scope pos) 1 it acc env) R s)
  (h:wpAny (model prog w) A (pyIter it) (λit' s'=>codeAny (model prog w) A (.compLoop (.ListComp elt [⟨t1,i1,[],0⟩,⟨t2,i2,[],0⟩] scope pos) 1 it' acc env) R s')
   (notedBy (model prog w) A env λx s'=>R (.error x) s') s) :
  codeAny (model prog w) A (.compStart (.ListComp elt [⟨t1,i1,[],0⟩,⟨t2,i2,[],0⟩] scope pos) 1 it acc env) R s:=by
 refine codeAny_of_tree ?_
 show wpAny _ _ ((compStart (.ListComp elt [⟨t1,i1,[],0⟩,⟨t2,i2,[],0⟩] scope pos) 1 it acc env).onRaise (λx=>do noteFrame x env;standAt theWindowsPlace)) _ _ s
 refine wpAny_notedAt ?_
 unfold compStart
 show wpAny _ _ (ask >>= _) _ _ s
 refine wpAny_bind (wpAny_askSetting (wpAny_ite ?_))
 split
 ·first
   |exact wpAny_bind (wpAny_pure (wpAny_pure (DV rfl h0)))
   |exact wpAny_pure (DV rfl h0)
 ·first
   |exact wpAny_bind (wpAny_rule (wpAny_bind (wpAny_standAt (wpAny_bind (wpAny_mono h (λit' s' h'=>wpAny_pure (DV rfl h')) λ_ _ x=>x)))))
   |(refine wpAny_bind (wpAny_rule ?_);show wpAny _ _ (standAt i2.pos >>= _) _ _ s;exact wpAny_bind (wpAny_standAt (wpAny_bind (wpAny_mono h (λit' s' h'=>wpAny_pure (DV rfl h')) λ_ _ x=>x))))
theorem Zc{elt t1 i1 t2 i2:G4}{scope:Scope}{pos:Pos}{it acc:Value}{env:Env}{R:Result->Shared->Prop}(I:Nat->Shared->Prop)(hs:yi i2=true)
  (turn:∀n s,I n s->wpAny (model prog w) A (pyNext it) (λr UN=>match r with
   |none=>R (.ok .next) UN
   |some v=>wpAny (model prog w) A (letOwnedTupleGo t1 it v) (λ_ UM=>wpAny (model prog w) A (assign t1 env v) (λ_ UO=>
     wpAny (model prog w) A (eval i2 env) (λx UP=>wpAny (model prog w) A (pyIter x) (λit2 UQ=>
      wpAny (model prog w) A (runOwn (.compStart (.ListComp elt [⟨t1,i1,[],0⟩,⟨t2,i2,[],0⟩] scope pos) 1 it2 acc env) env) (λ_ UR=>∃m,m < n/\I m UR) (notedBy (model prog w) A env λe s'=>R (.error e) s') UQ)
      (notedBy (model prog w) A env λe s'=>R (.error e) s') UP) (notedBy (model prog w) A env λe s'=>R (.error e) s') UO)
     (notedBy (model prog w) A env λe s'=>R (.error e) s') UM) (notedBy (model prog w) A env λe s'=>R (.error e) s') UN) (notedBy (model prog w) A env λe s'=>R (.error e) s') s)
  (n:Nat) (h:I n s):codeAny (model prog w) A (.compLoop (.ListComp elt [⟨t1,i1,[],0⟩,⟨t2,i2,[],0⟩] scope pos) 0 it acc env) R s:=by
 refine codeAny_loop rfl I (λn s hI=>?_) n h
 show wpAny _ A ((compTurn (.ListComp elt [⟨t1,i1,[],0⟩,⟨t2,i2,[],0⟩] scope pos) 0 it acc env).onRaise (λx=>do noteFrame x env;theTreesLotGoes x)) _ _ s
 refine wpAny_noted ?_
 rw[XZ]
 unfold XN
 refine wpAny_bind (wpAny_standAt (wpAny_bind (wpAny_mono (turn n s hI) (λr UN h₁=>?_) λ_ _ h'=>h')))
 induction r using Gq with
 |none=>exact wpAny_pure h₁
 |some v=>
  refine wpAny_bind (wpAny_mono h₁ (λ_ UM Uo=>?_) λ_ _ h'=>h')
  refine wpAny_bind (wpAny_mono Uo (λ_ UO Uq=>wpAny_bind (wpAny_mono Uq (λx UP Ur=>?_) λ_ _ h'=>h')) λ_ _ h'=>h')
  refine wpAny_bind (wpAny_standAt (yR (yC hs x) ?_))
  refine wpAny_bind (wpAny_holding (wpAny_mono Ur (λit2 UQ Ut=>?_) λ_ _ h'=>h'))
  exact wpAny_bind (wpAny_mono Ut (λ_ UR Uu=>wpAny_pure ⟨rfl,Uu⟩) λ_ _ h'=>h')
end
section
variable {RX:RxT} {T:Tp} {P:Prg} {N:Nm} {O:Orc} {d:Nat}
variable {c:Cx} {s:Shared} {ρ:Rn} {E:Lg} {H:Hp} {X:Nat->Hp->Prop} {Er:Value->Shared->Prop}
set_option tactic.hygienic true in
theorem plC{v:V}{lm:Bool}{sc:Scope}{tb:List Str}{x:G4}(h:chkE N T.K lm sc tb (.c v) x=true):Xz x=true:=by
 replace h:JI v x=true:=h
 rcases x<;>first|rfl|exact absurd h G3|skip
 rename_i op _ _
 rcases op<;>first|rfl|exact absurd h G3
theorem Yv{elt t1 i1 t2 i2:G4}{scope:Scope}{pos:Pos}{I:Addr}{o:Obj}{it:It}{j:Nat}{acc:Value}{env:Env}{A:Around}{R:Result->Shared->Prop}(ho:s.heap.get? I=some o)(hi:ItO T E ρ it j o)
  (h:codeAny (model T.prog T.w) A (.compLoop (.ListComp elt [⟨t1,i1,[],0⟩,⟨t2,i2,[],0⟩] scope pos) 1 (.ref I) acc env) R s) :
  codeAny (model T.prog T.w) A (.compStart (.ListComp elt [⟨t1,i1,[],0⟩,⟨t2,i2,[],0⟩] scope pos) 1 (.ref I) acc env) R s:=
 Zz h (XG ho hi h)
inductive Comp2I (P:Prg) (O:Orc) (T:Tp) (c:Cx) (s:Shared) (ρ:Rn) (E:Lg) (elt i2:Mn.E) (it:It) (I Cc D:Addr) (K:List V->Hp->Prop) (n:Nat) (s':Shared):Prop
 |mk (h':Heap) (tk j:Nat) (oI oC:Obj) (m':Str->Option Value) (ys:List Value) (acc:List V) (H':Hp) (ρ':Rn) (E':Lg):s'={s with heap:=h',toks:=tk}->n=it.items.length - j->
   Mn.Rep T c.Un c.L c.m ((I,oI)::(Cc,oC)::(D,lst ys)::c.G) H' ρ' E' h'->Ext E ρ E' ρ'->ItO T E' ρ' it j oI->it.Sta H'->NsObj oC m'->VRs T E' ρ' acc.reverse ys->
   Zy it (ev P O i2 (λ_ _=>False)) (ev P O elt (λ_ _=>False)) (it.items.drop j) acc H' K->Comp2I P O T c s ρ E elt i2 it I Cc D K n s'
theorem JK{elt e2:Mn.E}{x i1 i2:G4}{x1 x2:Str}{p1 p2:Pos}{sc csc:Scope}{pos:Pos}{cl:List (Str×Addr)}{it:It}{I Cc D:Addr}{RR:Result->Shared->Prop}{K:List V->Hp->Prop}
  (ie:EvOk RX T P N O d elt) (i2ok:EvOk RX T P N O d e2)
  (C:c.Ok T d) (Kc:CscOk sc csc) (hcl:∀x,csc.names.lookup x=some .free->c.fe.kindOf x=some .cell/\∃a,cl.lookup x=some a/\c.fe.cells.lookup x=some a)
  (h1:csc.names.lookup x1=some .local) (h2:csc.names.lookup x2=some .local) (hne:x1≠x2) (hs:yi i2=true)
  (hc2:chkE N T.K false csc [x1] e2 i2=true) (hce:chkE N T.K false csc [x2,x1] elt x=true)
  (fin:∀h' tk oC m' ys vs H' ρ' E',Mn.Rep T c.Un c.L c.m ((Cc,oC)::(D,lst ys)::c.G) H' ρ' E' h'->Ext E ρ E' ρ'->NsObj oC m'->VRs T E' ρ' vs ys->K vs H'->RR (.ok .next) {s with heap:=h',toks:=tk})
  {h₁:Heap} {tk₁:Nat} {UK UG:Obj} {UB:Str->Option Value} (R:Mn.Rep T c.Un c.L c.m ((I,UK)::(Cc,UG)::(D,lst [])::c.G) H ρ E h₁) (hi:ItO T E ρ it 0 UK) (st:it.Sta H) (hns:NsObj UG UB)
  (he:Zy it (ev P O e2 (λ_ _=>False)) (ev P O elt (λ_ _=>False)) it.items [] H K) :
  codeAny (model T.prog T.w) c.A (.compLoop (.ListComp x [⟨.Name x1 p1,i1,[],0⟩,⟨.Name x2 p2,i2,[],0⟩] csc pos) 0 (.ref I) (.ref D) (compEnvC csc cl Cc c.fe)) RR {s with heap:=h₁,toks:=tk₁}:=by
 have hp:(csc.kind==.class ||(csc.kind==.module && (compEnvC csc cl Cc c.fe).locals != (compEnvC csc cl Cc c.fe).globals))=false:=by rw[Kc.kd];rfl
 refine Zc (Comp2I P O T c s ρ E elt e2 it I Cc D K) hs ?_ it.items.length
  ⟨h₁,tk₁,0,UK,UG,UB,[],[],H,ρ,E,rfl,rfl,R,Ext.refl _ _,hi,st,hns,.nil,he⟩
 rintro n s' ⟨h',tk,j,oI,oC,m',ys,acc,H',ρ',E',rfl,rfl,R',x',hi',st',hns',hv',he'⟩
 induction hj:it.items[j]? using Gq with
 |none=>
  refine Xb (s:={s with heap:=h',toks:=tk}) C.X C.hh R' hi' st' hj λUq uH=>?_
  have hd:it.items.drop j=[]:=Fa (List.getElem?_eq_none_iff.mp hj)
  rw[hd] at he'
  exact fin Uq tk oC m' ys acc.reverse H' ρ' E' uH x' hns' hv' he'
 |some v=>
  have hjl:j < it.items.length:=(List.getElem?_eq_some_iff.mp hj).1
  have hd:it.items.drop j=v::it.items.drop (j+1):=by
   rw[DW hjl]
   congr 1
   exact Ga ((List.getElem?_eq_getElem hjl).symm.trans hj)
  rw[hd] at he'
  refine Yn (s:={s with heap:=h',toks:=tk}) C.X R' hi' st' hj λUq UY UJ u uH Ub hu=>?_
  refine za (id uH.N) λUU U7 uB=>?_
  refine zy (Ub.shape) λn0 vs0 q1 q2 q3=>?_
  refine X9 (s:={s with heap:=Uq,toks:=UY}) (uB (I,UJ) (by simp)).1 q1 q2 q3 ?_
  have uY:Uq.get? Cc=some oC:=(uB (Cc,oC) (by simp)).1
  refine zf (gd_iff.mp he') λg1 he3=>?_
  refine KN (s:={s with heap:=Uq,toks:=UY}) (env:=compEnvC csc cl Cc c.fe) (ts:=[x1]) C.X uH rfl C.hh hp (λy hy=>by rw[GE.mp hy,Z8,h1];rfl) hu (hns'.ns uY) rfl λus Ur UZ hus hul Uh Uy _=>?_
  refine za (ns_obj Uh) λUH uZ Ue=>?_
  refine za (VRs.of1 hus) λu1 rq1 hu1=>?_;subst rq1
  have uI:Mn.Rep T c.Un c.L c.m ((I,UJ)::(Cc,UH)::(D,lst ys)::c.G) H' ρ' E' Ur:=
   (Rep.setE (ob':=UH) (uH.perm (Dl _ _ _)) (λb o hb e=>Uy b o hb e) uZ).perm (Dl _ _ _)
  refine zf (cmpOk (lm:=false) (G:=(I,UJ)::(Cc,UH)::(D,lst ys)::c.G) (ex:=[(I,UJ),(Cc,UH),(D,lst ys)]) (Cc:=Cc) (oC:=UH) C Kc hcl rfl (Gd _ (G9 ..)) Ue) λu0 uM=>?_
  have hb1:Ze [x1] [u1] m' x1=some u1:=if_pos rfl
  have uu:LOk T [x1] (Xi c csc cl Cc ((I,UJ)::(Cc,UH)::(D,lst ys)::c.G) (Ze [x1] [u1] m')) E' ρ' [v]:=by
   intro k w hw hne
   rcases k with _|k
   ·obtain rfl:=Ga hw
    refine⟨x1,u1,rfl,?_,hu1⟩
    show(match csc.names.lookup x1 with|some .local=>Ze [x1] [u1] m' x1|some .free=>c.nm x1|_=>none)=some u1
    rw[h1];exact hb1
   ·exact nn hw
  refine Post.go (i2ok (s:={s with heap:=Ur,toks:=UZ}) (c:=Xi c csc cl Cc ((I,UJ)::(Cc,UH)::(D,lst ys)::c.G) (Ze [x1] [u1] m')) (X:=λ_ _=>False) hc2 u0 uM he3 uI uu (λe s' q=>absurd q XPost.no)) λu2 v2 Ut w6 ul ρ₄ u7 uJ wh hv2 q=>?_
  refine za (zp q) ?_;clear q;intro it2 hit2 q
  refine Ym (s:={s with heap:=Ut,toks:=w6}) (c:=Xi c csc cl Cc ((I,UJ)::(Cc,UH)::(D,lst ys)::c.G) (Ze [x1] [u1] m')) u0 uJ hv2 hit2 λo2 uK hi2 st2 hil2=>?_
  have uL:Mn.Rep T c.Un c.L c.m ((Ut.objs.size,o2)::(Cc,UH)::(D,lst ys)::(I,UJ)::c.G) ul ρ₄ u7 (Ut.push o2):=
   Rep.perm (G:=(Ut.objs.size,o2)::(I,UJ)::(Cc,UH)::(D,lst ys)::c.G) uK (Ig _ (Da (l₁:=[(Cc,UH),(D,lst ys)]) (a:=(I,UJ)) (l₂:=c.G)).symm)
  refine wpAny_runOwn ?_
  refine za (id uL.N) λUX Ua uF=>?_
  refine Yv ((uF (Ut.objs.size,o2) (by simp)).1) hi2 ?_
  exact
   XW (s:=s) (c:=c.add [(I,UJ)]) (sc:=sc) (lm:=false) (cond:=.c (.bool true)) (kk:=1) (ts:=[x2]) (ctb:=[x1]) (cap:=[v]) (acc₀:=acc) (λ_ _ _=>rfl) ie (ZZ (ev_c (.bool true)) plC) (C.add _) Kc hcl rfl
    (λy hy=>by rw[GE.mp hy];exact h2) (Gr.mpr ⟨GN,List.nodup_nil⟩) rfl hce rfl hil2 (natB.mp g1)
    (λUv wa UI UE wm wc uo ρ₆ u9 Rr xr no vr k _=>by
     refine zf (gd_iff.mp k) λg2 he5=>?_
     have Rr:Mn.Rep T c.Un c.L c.m ((Cc,UI)::(D,lst wm)::(I,UJ)::c.G) uo ρ₆ u9 Uv:=Rr
     exact⟨it.items.length - (j+1),by exact om58 hjl,Uv,wa,j+1,UJ,UI,UE,wm,wc.reverse,uo,ρ₆,u9,rfl,rfl,Rr.perm (Da (l₁:=[(Cc,UI),(D,lst wm)]) (a:=(I,UJ)) (l₂:=c.G)),(x'.trans wh).trans xr,(Ub.ext wh).ext xr,It.sta_of g2,no,
      by rw[DB];exact vr,he5⟩)
    uL hi2 st2 Ue (hv'.ext wh) (λk w hw hne'=>by
     rcases k with _|k
     ·obtain rfl:=Ga hw
      exact⟨x1,u1,rfl,.inr ⟨h1,λhm=>hne (GE.mp hm),hb1⟩,hu1.ext wh⟩
     ·exact nn hw) q
theorem YS{elt e1 e2:Mn.E}{x i1 i2:G4}{x1 x2:Str}{p1 p2:Pos}{lm:Bool}{sc csc:Scope}{pos:Pos}{cl:List (Str×Addr)}{tb:List Str}{L:Lc}{RR:Value->Addr->Result->Shared->Prop}{K:List V->Hp->Prop}
  (ii:EvOk RX T P N O d e1) (i2ok:EvOk RX T P N O d e2) (ie:EvOk RX T P N O d elt)
  (C:c.Ok T d) (S:ScOk T lm sc c) (Kc:CscOk sc csc) (hcl:∀x,csc.names.lookup x=some .free->c.fe.kindOf x=some .cell/\∃a,cl.lookup x=some a/\c.fe.cells.lookup x=some a)
  (h1:csc.names.lookup x1=some .local) (h2:csc.names.lookup x2=some .local) (hne:x1≠x2) (hs:yi i2=true)
  (hci:chkE N T.K lm sc tb e1 i1=true) (hc2:chkE N T.K false csc [x1] e2 i2=true) (hce:chkE N T.K false csc [x2,x1] elt x=true)
  (R:c.Rep T H ρ E s.heap) (Lk:LOk T tb c E ρ L) (XR:∀e s',XPost RX c s ρ E X e s'->Er e s')
  (fin:∀D Cc h' tk oC m' ys vs H' ρ' E',Mn.Rep T c.Un c.L c.m ((Cc,oC)::(D,lst ys)::c.G) H' ρ' E' h'->Ext E ρ E' ρ'->NsObj oC m'->VRs T E' ρ' vs ys->K vs H'->RR (.ref D) Cc (.ok .next) {s with heap:=h',toks:=tk})
  (he:ev P O e1 X L H λu H₁=>ifS (zU u H₁) λit=>Zy it (ev P O e2 (λ_ _=>False)) (ev P O elt (λ_ _=>False)) it.items [] H₁ K) :
  wpAny (model T.prog T.w) c.A (eval i1 c.fe) (λxv UN=>wpAny (model T.prog T.w) c.A (pyIter xv) (λit UO=>wpAny (model T.prog T.w) c.A (newList []) (λacc UP=>
   wpAny (model T.prog T.w) c.A (newFunctionEnv csc c.fe.globals cl [] c.fe.qual none .none (some c.fe)) (λcenv UQ=>
    codeAny (model T.prog T.w) c.A (.compStart (.ListComp x [⟨.Name x1 p1,i1,[],0⟩,⟨.Name x2 p2,i2,[],0⟩] csc pos) 0 it acc {cenv with scope:=relabel csc c.fe}) (RR acc cenv.locals) UQ) Er UP) Er UO) Er UN) Er s:=by
 refine XX (rest:=[⟨.Name x2 p2,i2,[],0⟩]) ii C S Kc hci R Lk XR (λUr UZ it I Cc D o oC m' H₁ ρ₁ u5 uJ we hi st hil hno q=>?_) he
 exact JK (tk₁:=UZ) ie i2ok C Kc hcl h1 h2 hne hs hc2 hce
  (λh' tk oC' m' ys vs H' ρ' E' Rr xr no vr k=>fin _ _ h' tk oC' m' ys vs H' ρ' E' Rr (we.trans xr) no vr k) uJ hi st hno q
theorem Yw{elt e1 e2:Mn.E}{x:G4}{lm:Bool}{sc:Scope}{tb:List Str}(h:chkE N T.K lm sc tb (.comp2 elt e1 e2) x=true) :
  ∃y x1 p1 i1 x2 p2 i2 csc pos,x= .ListComp y [⟨.Name x1 p1,i1,[],0⟩,⟨.Name x2 p2,i2,[],0⟩] csc pos/\CscOk sc csc/\csc.names.lookup x1=some .local/\csc.names.lookup x2=some .local/\x1≠x2/\yi i1=true/\yi i2=true/\
   chkE N T.K lm sc tb e1 i1=true/\chkE N T.K false csc [x1] e2 i2=true/\chkE N T.K false csc [x2,x1] elt y=true:=by
 replace h:=iComp h
 obtain⟨y,gens,csc,pos,rfl,h⟩:=h
 replace h:=iTwo h
 obtain⟨⟨t1,i1,f1,a1⟩,⟨t2,i2,f2,a2⟩,rq,h⟩:=h
 refine j9 (an5 h) λh1 h2 h3 h4 h=>?_
 obtain rfl:a1=0:=of_decide_eq_true h1
 obtain rfl:a2=0:=of_decide_eq_true h2
 obtain rfl:f1=[]:=zH h3
 obtain rfl:f2=[]:=zH h4
 replace h:=ZX h
 obtain⟨x1,p1,rq1,h⟩:=h
 obtain rfl:t1= .Name x1 p1:=rq1
 replace h:=ZX h
 obtain⟨x2,p2,rq2,h⟩:=h
 obtain rfl:t2= .Name x2 p2:=rq2
 obtain rfl:=rq
 refine xe0c7 (an7 h) λy1 y2 y3 y4 y5 y6 y7=>?_
 refine j9 (KG y1) λKc k1 _ _ _=>?_
 exact⟨y,x1,p1,i1,x2,p2,i2,csc,pos,rfl,Kc,k1 x1 (G9 ..),k1 x2 (Gd _ (G9 ..)),(λe=>by rw[e,eqStr_iff.mpr rfl] at y2;exact absurd y2 G3),y3,y4,y5,y6,y7⟩
theorem Ja{elt e1 e2:Mn.E}(ii:EvOk RX T P N O d e1)(i2ok:EvOk RX T P N O d e2)(ie:EvOk RX T P N O d elt):EvOk RX T P N O d (.comp2 elt e1 e2):=by
 intro x c lm sc tb X L H Q ρ E s Er hc C S he R Lk XR
 obtain⟨y,x1,p1,i1,x2,p2,i2,csc,pos,rfl,Kc,k1,k2,k3,hs1,hs2,hci,hc2,hce⟩:=Yw hc
 refine za (yS C S Kc) λcl hclos hcl=>?_
 rw[eval_ListComp]
 refine wpAny_comprehension_free (use:=none) rfl (yC hs1) hclos Kc.kd Kc.loc (YS (RR:=λacc Cc=>compPost (model T.prog T.w) c.A Er none (Post T c s ρ E Q) acc Cc) (K:=λvs uh=>gd (G8 vs.length 1000) (Q (.obj uh.length) (uh++[Mn.O.list vs]))) ii i2ok ie C S Kc hcl k1 k2 k3 hs2 hci hc2 hce R Lk XR (λD Cc h' tk oC m' ys vs H' ρ' E' R' x' no vr q=>?_) he)
 refine zf (gd_iff.mp q) λg1 q=>?_
 refine za (R'.N) λUT U6 uA=>?_
 refine⟨m',no.ns (uA (Cc,oC) (by simp)).1,λh'' hs''=>?_⟩
 refine zC (XV (R'.dropG hs''.extBut) vr (natB.mp g1)) λR2 x2' hr=>?_
 exact⟨h'',tk,_,_,_,_,rfl,R2,x'.trans x2',.obj hr,q⟩
theorem tr_comp2{elt e1 e2:Mn.E}(ii:EvOk RX T P N O d e1)(i2ok:EvOk RX T P N O d e2)(ie:EvOk RX T P N O d elt):TrOk RX T P N O d (.comp2 elt e1 e2):=by
 refine ZZ (Ja ii i2ok ie) ?_
 intro lm sc tb x h
 obtain⟨y,x1,p1,i1,x2,p2,i2,csc,pos,rfl,_⟩:=Yw h
 rfl
end
section
variable {RX:RxT} {T:Tp} {P:Prg} {N:Nm} {O:Orc} {d:Nat}
structure AllOk (RX:RxT) (T:Tp) (P:Prg) (N:Nm) (O:Orc) (d:Nat) (e:Mn.E):Prop where
 ev:EvOk RX T P N O d e
 tr:TrOk RX T P N O d e
 ls:LsOk RX T P N O d e
 dc:DcOk RX T P N O d e
 pr:∀a b,e= .cons a b->EvOk RX T P N O d a/\DcOk RX T P N O d b
noncomputable def notLs(e:Mn.E):Bool:=G8 e.ctorIdx 25
theorem ls_no{e:Mn.E}(h:notLs e=true):LsOk RX T P N O d e:=by
 intro xs pos c lm sc tb X L H Q ρ E s Er hc
 exfalso
 rcases e<;>first|exact absurd h G3|exact absurd hc G3
theorem dc_no{e:Mn.E}(h:notLs e=true):DcOk RX T P N O d e:=by
 intro ks xs pos c lm sc tb X L H Q ρ E s Er hc
 rcases ZA hc with rfl|⟨_,_,_,rfl⟩<;>exact absurd h G3
theorem Zg{e:Mn.E}(h1:EvOk RX T P N O d e)(h2:TrOk RX T P N O d e)(h:notLs e=true):AllOk RX T P N O d e:=
 ⟨h1,h2,ls_no h,dc_no h,λa b q=>by subst q;exact absurd h G3⟩
theorem yo{e:Mn.E}(h1:EvOk RX T P N O d e)(hp:∀{lm sc tb x},chkE N T.K lm sc tb e x=true->Xz x=true)(h:notLs e=true):AllOk RX T P N O d e:=
 Zg h1 (ZZ h1 hp) h
theorem ev_nil:EvOk RX T P N O d .nil:=by
 intro x c lm sc tb X L H Q ρ E s Er hc
 exact absurd hc G3
theorem ev_cons(a b:Mn.E):EvOk RX T P N O d (.cons a b):=by
 intro x c lm sc tb X L H Q ρ E s Er hc
 exact absurd hc G3
theorem tr_nil:TrOk RX T P N O d .nil:=by
 intro x c lm sc tb X L H Q ρ E s Er hc
 exact absurd hc G3
theorem tr_cons(a b:Mn.E):TrOk RX T P N O d (.cons a b):=by
 intro x c lm sc tb X L H Q ρ E s Er hc
 exact absurd hc G3
theorem chkD_cc{K:Frag}{lm:Bool}{sc:Scope}{tb:List Str}{a b:Mn.E}{ks:List (Option G4)}{vs:List G4}(h:chkD N K lm sc tb (.cons a b) ks vs=true):∃x y,b= .cons x y:=by
 rcases ZA h with e|⟨a',b',r,e⟩
 ·exact nomatch e
 ·cases e;exact⟨b',r,rfl⟩
theorem zZ(K:TpOk T P N)(hO:jH RX T O d)(e:E):AllOk RX T P N O d e:=by
 induction e with
 |bad=>
  exact Zg ev_bad tr_bad rfl
 |c v=>
  exact yo (ev_c v) plC rfl
 |l k=>
  exact yo (ev_l k) (λh=>zO (zI h) rfl) rfl
 |g n v=>
  exact yo (ev_g K n v) (λh=>zO (zI h) rfl) rfl
 |a e f i_e=>
  exact yo (ev_a K f (i_e).ev) (λh=>zO (zI h) rfl) rfl
 |bin o a b i_a i_b=>
  exact yo (ev_bin o (i_a).ev (i_b).ev) (λh=>zO (zI h) rfl) rfl
 |cmp o a b i_a i_b=>
  exact Zg (ev_cmp o (i_a).ev (i_b).ev) (tr_cmp o (i_a).ev (i_b).ev) rfl
 |cmp2 o p a b e i_a i_b i_e=>
  exact Zg (ev_cmp2 o p (i_a).ev (i_b).ev (i_e).ev) (tr_cmp2 o p (i_a).ev (i_b).ev (i_e).ev) rfl
 |not a i_a=>
  exact Zg (ev_not (i_a).ev) (tr_not (i_a).tr) rfl
 |and a b i_a i_b=>
  exact Zg (ev_and (i_a).ev (i_b).ev) (tr_and (i_a).tr (i_b).tr) rfl
 |or a b i_a i_b=>
  exact Zg (ev_or (i_a).ev (i_b).ev) (tr_or (i_a).tr (i_b).tr) rfl
 |ifx b a e i_b i_a i_e=>
  exact Zg (ev_ifx (i_b).tr (i_a).ev (i_e).ev) (tr_ifx (i_b).tr (i_a).tr (i_e).tr) rfl
 |call f b i_b=>
  exact yo (ev_call K hO f (i_b).ls) (λh=>zO (zI h) rfl) rfl
 |bf f b i_b=>
  exact yo (ev_bf f (i_b).ls) (λh=>zO (zI h) rfl) rfl
 |meth a m b i_a i_b=>
  exact yo (ev_meth K hO m (i_a).ev (i_b).ls) (λh=>zO (zI h) rfl) rfl
 |bm m a b i_a i_b=>
  exact yo (ev_bm m (i_a).ev (i_b).ls) (λh=>zO (zI h) rfl) rfl
 |callv a b i_a i_b=>
  exact yo (ev_callv hO (i_a).ev (i_b).ls) (λh=>zO (zI h) rfl) rfl
 |idx a b i_a i_b=>
  exact yo (ev_idx (i_a).ev (i_b).ev) (λh=>zO (zI h) rfl) rfl
 |slice a l h i_a i_l i_h=>
  exact yo (ev_slice (i_a).ev (i_l).ev (i_h).ev K) (λh=>zO (zI h) rfl) rfl
 |rev a i_a=>
  exact yo (ev_rev (i_a).ev) (λh=>zO (zI h) rfl) rfl
 |tup a i_a=>
  exact yo (ev_tup (i_a).ls) (λh=>zO (zI h) rfl) rfl
 |lst a i_a=>
  exact yo (ev_lst (i_a).ls) (λh=>zO (zI h) rfl) rfl
 |dct a i_a=>
  exact yo (ev_dct (i_a).dc) (λh=>zO (zI h) rfl) rfl
 |comp elt iter cond n caps i_elt i_iter i_cond=>
  exact Zg (Ku n caps (i_iter).ev (i_elt).ev (i_cond).tr) (tr_comp n caps (i_iter).ev (i_elt).ev (i_cond).tr) rfl
 |comp2 a b e i_a i_b i_e=>
  exact Zg (Ja (i_b).ev (i_e).ev (i_a).ev) (tr_comp2 (i_b).ev (i_e).ev (i_a).ev) rfl
 |lam k=>
  exact yo (ev_lam K k) (λh=>zO (zI h) rfl) rfl
 |nil=>
  exact⟨ev_nil,tr_nil,ls_nil,dc_nil,λa b q=>by cases q⟩
 |cons a b i_a i_b=>
  exact⟨ev_cons a b,tr_cons a b,ls_cons (i_a).ev (i_b).ls,by
   intro ks xs pos c lm sc tb X L H Q ρ E s Er hc
   obtain⟨x,y,rfl⟩:=chkD_cc hc
   exact dc_cons (i_a).ev (i_b.pr x y rfl).1 (i_b.pr x y rfl).2 hc,λx y q=>by cases q;exact⟨(i_a).ev,(i_b).dc⟩⟩
end
structure Fm where
 A:Around
 fe:Env
 Un:Heap
 L:Addr
noncomputable def Fm.cx(f:Fm)(m cm:Str->Option Value)(G:Lg):Cx:=
 {A:=f.A,fe:=f.fe,Un:=f.Un,L:=f.L,m:=m,G:=G,nm:=λx=>match f.fe.kindOf x with|some .local=>m x|some .cell=>cm x|_=>none}
structure Fm.Ok (f:Fm) (T:Tp) (d:Nat):Prop where
 B:∃KY base outer env,Below KY base outer f.Un/\f.A.frames=some (env::outer)/\env.frame=some f.L/\env.scope.kind= .function
 kd:f.fe.scope.kind= .function
 gl:f.fe.globals=mainGlobals
 bi:f.fe.builtins=builtinsNs
 X:T.K.In f.Un
 top:∃p loose mean mg mb,Top p loose mean mg mb f.Un
 tab:CodeHd f.Un T.tabC T.tab
 hh:f.A.handled=none
 dep:f.A.depth+4*d+8<=1000
 un:f.A.units+16*d+200<=9900
 scr:∃vs,f.Un.IsList T.scr vs.toArray/\IntsAre vs T.ns/\T.ns.length<=1048576
 loc:f.fe.locals=f.L
 cel:∀x,f.fe.kindOf x=some .cell->∃a,(x,a)∈f.fe.cells
 cnd:(f.fe.cells.map (·.1)).Nodup
inductive CG (cm:Str->Option Value):List (Str×Addr)->Lg->Prop
 |nil:CG cm [] []
 |cons {x:Str} {a:Addr} {o:Obj} {r:List (Str×Addr)} {G:Lg}:o.data= .cell (cm x)->CG cm r G->CG cm ((x,a)::r) ((a,o)::G)
theorem CG.at{cm:Str->Option Value}{cs:List (Str×Addr)}{G:Lg}{x:Str}{a:Addr}(h:CG cm cs G)(hm:(x,a)∈cs):∃o,(a,o)∈G/\o.data= .cell (cm x):=by
 induction h with
 |nil=>exact absurd hm GN
 |@cons y b o r G h _ ih=>
  rcases Gh.mp hm with e|hm
  ·obtain rfl:x=y:=congrArg Prod.fst e
   obtain rfl:a=b:=congrArg Prod.snd e
   exact⟨o,G9 ..,h⟩
  ·exact(ih hm).imp λ_ q=>⟨Gd _ q.1,q.2⟩
theorem CG.out{cm:Str->Option Value}{x:Str}{v:Option Value}{cs:List (Str×Addr)}{G:Lg}(h:CG cm cs G)(hn:x∉cs.map (·.1)):CG (λz=>if z=x then v else cm z) cs G:=by
 induction h with
 |nil=>exact .nil
 |@cons y b o r G h _ ih=>exact .cons (h.trans (congrArg Data.cell (if_neg λ(e:y=x)=>hn (e▸G9 ..)).symm)) (ih λq=>hn (Gd _ q))
theorem CG.upd{cm:Str->Option Value}{x:Str}{a:Addr}{cs:List (Str×Addr)}{G:Lg}(h:CG cm cs G)(nd:(cs.map (·.1)).Nodup)(hm:(x,a)∈cs) :
  ∃G1 o G2,G=G1++(a,o)::G2/\o.data= .cell (cm x)/\∀(o':Obj) (v:Option Value),o'.data= .cell v->CG (λz=>if z=x then v else cm z) cs (G1++(a,o')::G2):=by
 induction h with
 |nil=>exact absurd hm GN
 |@cons y b o r G h rr ih=>
  have nd:=Gr.mp nd
  rcases Gh.mp hm with e|hm
  ·obtain rfl:x=y:=congrArg Prod.fst e
   obtain rfl:a=b:=congrArg Prod.snd e
   exact⟨[],o,G,rfl,h,λo' v hv=>.cons (hv.trans (congrArg Data.cell (if_pos rfl).symm)) (rr.out nd.1)⟩
  ·refine Z9 (ih nd.2 hm) λG1 o1 G2 rq3 h2 h3=>?_;subst rq3
   exact⟨(b,o)::G1,o1,G2,rfl,h2,λo' v hv=>.cons (h.trans (congrArg Data.cell (if_neg λe=>nd.1 (by rw[e];exact GC (f:=(·.1)) hm)).symm)) (h3 o' v hv)⟩
theorem Zl{α:Type}{x:Str}{a:α}{cs:List (Str×α)}(nd:(cs.map (·.1)).Nodup)(hm:(x,a)∈cs):cs.lookup x=some a:=by
 induction cs with
 |nil=>exact absurd hm GN
 |cons p r ih=>
  have nd:=Gr.mp nd
  rw[GI]
  rcases Gh.mp hm with e|hm
  ·rw[←e,beq_self_eq_true]
  ·rw[beq_false_of_ne λ(e:x=p.1)=>nd.1 (Eq.subst (motive:=λz=>z∈r.map (·.1)) e (GC (f:=(·.1)) hm))]
   exact ih nd.2 hm
section
variable {T:Tp} {d:Nat} {f:Fm} {m cm:Str->Option Value} {s:Shared} {ρ:Rn} {E:Lg} {H:Hp} {Er:Value->Shared->Prop}
set_option tactic.hygienic true in
theorem Fm.Ok.cx(F:f.Ok T d){ex Gc:Lg}(cg:CG cm f.fe.cells Gc):(f.cx m cm (ex++Gc)).Ok T d where
 B:=F.B
 kd:=F.kd
 gl:=F.gl
 bi:=F.bi
 X:=F.X
 top:=F.top
 tab:=F.tab
 hh:=F.hh
 dep:=F.dep
 un:=F.un
 scr:=F.scr
 look:=λx u hu hd=>by
  intro prog w A s Q Er pos Fr' N q
  have hu:(match f.fe.kindOf x with|some .local=>m x|some .cell=>cm x|_=>none)=some u:=hu
  split at hu
  ·rename_i hk
   exact wpAny_Name (wpAny_loadName_local (env:=f.fe) F.kd hk (by rw[F.loc];exact Fr'.ns) hu q) hd
  ·rename_i hk
   refine zh (F.cel x hk) λa ha=>?_
   refine za (cg.at ha) λo h1 h2=>?_
   rw[hu] at h2
   exact wpAny_Name (wpAny_loadName_cell (env:=f.fe) F.kd hk (Zl F.cnd ha) ⟨o,(N (a,o) (Gb _ h1)).1,h2⟩ q) hd
  ·cases hu
 cel:=λx hx=>by
  refine zh (F.cel x hx) λa ha=>?_
  refine za (cg.at ha) λo h1 h2=>?_
  refine⟨a,Zl F.cnd ha,λu hu=>⟨o,Gb _ h1,?_⟩⟩
  have hx:f.fe.kindOf x=some .cell:=hx
  have hu:(match f.fe.kindOf x with|some .local=>m x|some .cell=>cm x|_=>none)=some u:=hu
  rw[hx] at hu
  have hu:cm x=some u:=hu
  rw[h2,hu]
theorem Rep.setM{Un h h':Heap}{L:Addr}{m m':Str->Option Value}{G:Lg}(R:Mn.Rep T Un L m G H ρ E h)(hn:h'.Ns L m')(hs:F7 L h h'):Mn.Rep T Un L m' G H ρ E h':=by
 refine za (R.N) λtb hb N=>?_
 exact⟨R.F.set hn hs,⟨tb,hb,λp hp=>⟨(hs.2 p.1 (N p hp).2.1).trans (N p hp).1,(N p hp).2⟩⟩,R.nd,R.len,R.enc,R.ft⟩
theorem nodup_at{α:Type}{l:List α}{j k:Nat}{x y:α}(nd:l.Nodup)(h1:l[j]?=some x)(h2:l[k]?=some y)(n:j≠k):x≠y:=by
 rintro rfl
 exact n ((List.getElem?_inj (List.getElem?_eq_some_iff.mp h1).1 nd).mp (h1.trans h2.symm))
theorem Z5{tb:List Str}{L:Lc}{k:Nat}{x:Str}{v:V}{u:Value}{ex Gc:Lg}{Q:Unit->Shared->Prop}{prog:Program}{w:World}{A:Around}(F:f.Ok T d)(cg:CG cm f.fe.cells Gc)(R:(f.cx m cm (ex++Gc)).Rep T H ρ E s.heap)
  (Lk:LOk T tb (f.cx m cm (ex++Gc)) E ρ L) (hk:f.fe.kindOf x=some .local∨f.fe.kindOf x=some .cell) (ht:tb[k]?=some x) (nd:tb.Nodup) (hv:VR T E ρ v u)
  (h:∀h' tk m' cm' Gc',CG cm' f.fe.cells Gc'->(f.cx m' cm' (ex++Gc')).Rep T H ρ E h'->LOk T tb (f.cx m' cm' (ex++Gc')) E ρ (setL k v L)->Q () {s with heap:=h',toks:=tk}) :
  wpAny (model prog w) A (storeName f.fe x u) Q Er s:=by
 have lk:∀m' cm' Gc',(f.cx m' cm' (ex++Gc')).nm x=some u->(∀y,y≠x->(f.cx m' cm' (ex++Gc')).nm y=(f.cx m cm (ex++Gc)).nm y)->LOk T tb (f.cx m' cm' (ex++Gc')) E ρ (setL k v L):=by
  intro m' cm' Gc' h1 h2 j w hw hne
  unfold setL at hw
  by_cases hj:k=j
  ·subst hj
   rw[List.getElem?_set] at hw
   simp only[if_true] at hw
   split at hw
   ·cases hw;exact⟨x,u,ht,h1,hv⟩
   ·cases hw
  ·rw[List.getElem?_set_ne hj] at hw
   refine zy (Lk j w hw hne) λy z e1 e2 e3=>?_
   exact⟨y,z,e1,(h2 y (nodup_at nd e1 ht (Ne.symm hj))).trans e2,e3⟩
 rcases hk with hk|hk
 ·refine wpAny_storeName_local hk (m:=m) (by rw[F.loc];exact R.F.ns) (λh' hn hs=>?_) (by rw[F.kd];rfl)
  rw[F.loc] at hn hs
  have R':(f.cx (λz=>if z=x then some u else m z) cm (ex++Gc)).Rep T H ρ E h':=Rep.setM R hn hs
  refine h h' _ (λz=>if z=x then some u else m z) cm Gc cg R' (lk _ _ _ ?_ λy hy=>?_)
  ·show(match f.fe.kindOf x with|some .local=>if x=x then some u else m x|some .cell=>cm x|_=>none)=some u
   rw[hk];exact if_pos rfl
  ·show(match f.fe.kindOf y with|some .local=>if y=x then some u else m y|some .cell=>cm y|_=>none)=(match f.fe.kindOf y with|some .local=>m y|some .cell=>cm y|_=>none)
   rw[if_neg hy]
 ·refine zh (F.cel x hk) λa ha=>?_
  refine Z9 (cg.upd F.cnd ha) λG1 o G2 rq3 h1 h2=>?_;subst rq3
  refine za (id R.N) λUS hb N=>?_
  have hm:s.heap.get? a=some o:=(N (a,o) (by simp[Fm.cx])).1
  refine wpAny_storeName_cell F.kd hk (Zl F.cnd ha) ⟨o,hm,h1⟩ λh' hc hs=>?_
  refine za (hc) ?_;clear hc;intro o' ho' hd'
  have p1:(ex++(G1++(a,o)::G2)).Perm ((a,o)::((ex++G1)++G2)):=by rw[←Gk];exact Da
  have p2:((a,o')::((ex++G1)++G2)).Perm (ex++(G1++(a,o')::G2)):=by rw[←Gk];exact Da.symm
  have R':=(Rep.setE (ob':=o') (Rep.perm R p1) (λb o hb e=>hs.extBut b o hb e) ho').perm p2
  refine h h' s.toks m (λz=>if z=x then some u else cm z) _ (h2 o' (some u) hd') R' (lk _ _ _ ?_ λy hy=>?_)
  ·show(match f.fe.kindOf x with|some .local=>m x|some .cell=>if x=x then some u else cm x|_=>none)=some u
   rw[hk];exact if_pos rfl
  ·show(match f.fe.kindOf y with|some .local=>m y|some .cell=>if y=x then some u else cm y|_=>none)=(match f.fe.kindOf y with|some .local=>m y|some .cell=>cm y|_=>none)
   rw[if_neg hy]
end
theorem natL{a b:Nat}:Gz a b=true↔a < b:=by rw[DS]
set_option tactic.hygienic true in
theorem ju{e:Mn.E}(h:ZM e=true):e= .c .none:=by
 rcases e<;>first|exact absurd h G3|skip
 rename_i v
 rcases v<;>first|exact absurd h G3|rfl
noncomputable def ZI(x:G4):Bool:=!(Gg x.ctorIdx 8 ||Gg x.ctorIdx 9 ||Gg x.ctorIdx 10)
noncomputable def kJ(x:G4):Bool:=!Gg x.ctorIdx 25
noncomputable def k7(sc:Scope)(x:Str)(p:Pos)(e:G4):Bool:=oB (JZ e) λt=>zw sc x .local && Gg p.line t.2.2.2.line && t.2.2.1.names.all λn=>!(zQ n.1 x) ||!(Zv n.2 .local ||Zv n.2 .cell)
noncomputable def J4:Mn.E->Bool
 |.comp ..=>true
 |.comp2 ..=>true
 |_=>false
noncomputable def Y3(x:G4):Bool:=Gg x.ctorIdx 24 ||Gg x.ctorIdx 16
noncomputable def Xu(tb:List Str)(k:Nat)(x:Str):Bool:=oB tb[k]? (zQ x)
noncomputable def ksOk(sc:Scope)(tb:List Str):List Nat->List Str->Bool
 |[],xs=>none? xs
 |k::ks,xs=>oB (ht? xs) λx=>Xu tb k x.1 && zw sc x.1 .local && ksOk sc tb ks x.2
noncomputable def vwS{α:Type}(x:Gy)(k:Nat)(g:x.ctorIdx=k->Option α):Option α:=if e:x.ctorIdx=k then g e else none
theorem Yc{α:Type}{x:Gy}{k:Nat}{g:x.ctorIdx=k->Option α}{f:α->Bool}(h:oB (vwS x k g) f=true):x.ctorIdx=k:=
 FF λn=>absurd h ((congrArg (oB · f) (dif_neg n:vwS x k g=none)).symm▸G3)
noncomputable def vPass(x:Gy):Bool:=Gg x.ctorIdx 25
noncomputable def vBrk(x:Gy):Bool:=Gg x.ctorIdx 26
noncomputable def vRet(x:Gy):Option (Option G4):=vwS x 3 λe=>I4 x e λo _=>some o
noncomputable def vExpr(x:Gy):Option G4:=vwS x 24 λe=>Ih x e λx _=>some x
noncomputable def vAsg(x:Gy):Option (List G4×G4):=vwS x 5 λe=>I5 x e λts v _=>some (ts,v)
noncomputable def vIfS(x:Gy):Option (G4×List Gy×List Gy):=vwS x 12 λe=>PySem.Stmt.If.elim x e λt x y _=>some (t,x,y)
noncomputable def vWhl(x:Gy):Option (G4×List Gy×List Gy):=vwS x 11 λe=>Ia x e λt x y _=>some (t,x,y)
noncomputable def vFor(x:Gy):Option (G4×G4×List Gy×List Gy):=vwS x 9 λe=>PySem.Stmt.For.elim x e λt i x y _=>some (t,i,x,y)
noncomputable def JY(x:Gy):Option (Option G4×Option G4):=vwS x 16 λe=>Ib x e λx y _=>some (x,y)
theorem iPass{x:Gy}(h:vPass x=true):∃p,x= .Pass p:=PySem.Stmt.Pass.elim (motive_2:=λx=>∃p,x= .Pass p) x (Go h) λa0=>⟨a0,rfl⟩
theorem iBrk{x:Gy}(h:vBrk x=true):∃p,x= .Break p:=PySem.Stmt.Break.elim (motive_2:=λx=>∃p,x= .Break p) x (Go h) λa0=>⟨a0,rfl⟩
theorem iRet{x:Gy}{f:Option G4->Bool}(h:oB (vRet x) f=true):∃o p,x= .Return o p/\f o=true:=I4 (motive_2:=λx=>oB (vRet x) f=true->∃o p,x= .Return o p/\f o=true) x (Yc h) (λa0 a1 h=>⟨a0,a1,rfl,h⟩) h
theorem iExpr{x:Gy}{f:G4->Bool}(h:oB (vExpr x) f=true):∃o p,x= .Expr o p/\f o=true:=Ih (motive_2:=λx=>oB (vExpr x) f=true->∃o p,x= .Expr o p/\f o=true) x (Yc h) (λa0 a1 h=>⟨a0,a1,rfl,h⟩) h
theorem iAsg{x:Gy}{f:List G4×G4->Bool}(h:oB (vAsg x) f=true):∃ts v p,x= .Assign ts v p/\f (ts,v)=true:=I5 (motive_2:=λx=>oB (vAsg x) f=true->∃ts v p,x= .Assign ts v p/\f (ts,v)=true) x (Yc h) (λa0 a1 a2 h=>⟨a0,a1,a2,rfl,h⟩) h
theorem iIfS{x:Gy}{f:G4×List Gy×List Gy->Bool}(h:oB (vIfS x) f=true):∃t a b p,x= .If t a b p/\f (t,a,b)=true:=PySem.Stmt.If.elim (motive_2:=λx=>oB (vIfS x) f=true->∃t a b p,x= .If t a b p/\f (t,a,b)=true) x (Yc h) (λa0 a1 a2 a3 h=>⟨a0,a1,a2,a3,rfl,h⟩) h
theorem iWhl{x:Gy}{f:G4×List Gy×List Gy->Bool}(h:oB (vWhl x) f=true):∃t a b p,x= .While t a b p/\f (t,a,b)=true:=Ia (motive_2:=λx=>oB (vWhl x) f=true->∃t a b p,x= .While t a b p/\f (t,a,b)=true) x (Yc h) (λa0 a1 a2 a3 h=>⟨a0,a1,a2,a3,rfl,h⟩) h
theorem iFor{x:Gy}{f:G4×G4×List Gy×List Gy->Bool}(h:oB (vFor x) f=true):∃t i a b p,x= .For t i a b p/\f (t,i,a,b)=true:=PySem.Stmt.For.elim (motive_2:=λx=>oB (vFor x) f=true->∃t i a b p,x= .For t i a b p/\f (t,i,a,b)=true) x (Yc h) (λa0 a1 a2 a3 a4 h=>⟨a0,a1,a2,a3,a4,rfl,h⟩) h
theorem iRaise{x:Gy}{f:Option G4×Option G4->Bool}(h:oB (JY x) f=true):∃a b p,x= .Raise a b p/\f (a,b)=true:=Ib (motive_2:=λx=>oB (JY x) f=true->∃a b p,x= .Raise a b p/\f (a,b)=true) x (Yc h) (λa0 a1 a2 h=>⟨a0,a1,a2,rfl,h⟩) h
noncomputable def chkS(N:Nm)(K:Frag)(lm:Bool)(sc:Scope)(tb:List Str):S->List Gy->Bool
 |.bad,_=>true
 |.nop,xs=>(match xs with|[]=>true|x::r=>none? r && vPass x)
 |.seq a b,xs=>oB (ht? xs) λu=>chkS N K lm sc tb a [u.1] && chkS N K lm sc tb b u.2
 |.ret e,xs=>oB (one? xs) λx=>oB (vRet x) λo=>oN o (ZM e) (chkE N K lm sc tb e)
 |.ex e,xs=>oB (one? xs) λx=>oB (vExpr x) λx=>ZI x && chkE N K lm sc tb e x
 |.set k e,xs=>oB (one? xs) λx=>oB (vAsg x) λt=>oB (one? t.1) λg=>oB (Za g) λn=>Xu tb k n.1 && (zw sc n.1 .local ||zw sc n.1 .cell) && (match J4 e with|true=>k7 sc n.1 n.2 t.2|false=>ZI t.2) && chkE N K lm sc tb e t.2
 |.setA a f e,xs=>oB (one? xs) λx=>oB (vAsg x) λt=>oB (one? t.1) λg=>oB (jb g) λn=>zQ (N.attr f) n.2.1 && chkE N K lm sc tb e t.2 && chkE N K lm sc tb a n.1
 |.setI a i e,xs=>oB (one? xs) λx=>oB (vAsg x) λt=>oB (one? t.1) λg=>oB (vSub g) λn=>Zq n.2 && chkE N K lm sc tb e t.2 && chkE N K lm sc tb a n.1 && chkE N K lm sc tb i n.2
 |.unp ks e,xs=>oB (one? xs) λx=>oB (vAsg x) λt=>oB (one? t.1) λg=>oB (vTup g) λts=>kJ t.2 && ZI t.2 && oB (ya ts) (ksOk sc tb ks) && chkE N K lm sc tb e t.2
 |.unp2 Uw Ux a b,xs=>oB (one? xs) λx=>oB (vAsg x) λt=>oB (one? t.1) λg=>oB (vTup g) λts=>oB (two? ts) λl=>oB (Za l.1) λm=>oB (Za l.2) λn=>oB (vTup t.2) λrs=>oB (two? rs) λr=>
   Y3 r.1 && zP r.2 && Gg n.2.line m.2.line && !zQ m.1 n.1 && ksOk sc tb [Uw,Ux] [m.1,n.1] && chkE N K lm sc tb a r.1 && chkE N K lm sc tb b r.2
 |.ifs c a b,xs=>oB (one? xs) λx=>oB (vIfS x) λt=>chkE N K lm sc tb c t.1 && chkS N K lm sc tb a t.2.1 && chkS N K lm sc tb b t.2.2
 |.whl c b,xs=>oB (one? xs) λx=>oB (vWhl x) λt=>none? t.2.2 && chkE N K lm sc tb c t.1 && chkS N K lm sc tb b t.2.1
 |.for_ k e b,xs=>oB (one? xs) λx=>oB (vFor x) λt=>oB (Za t.1) λn=>none? t.2.2.2 && ksOk sc tb [k] [n.1] && yi t.2.1 && chkE N K lm sc tb e t.2.1 && chkS N K lm sc tb b t.2.2.1
 |.forT ks e b,xs=>oB (one? xs) λx=>oB (vFor x) λt=>oB (vTup t.1) λts=>none? t.2.2.2 && !none? ts && oB (ya ts) (ksOk sc tb ks) && yi t.2.1 && chkE N K lm sc tb e t.2.1 && chkS N K lm sc tb b t.2.2.1
 |.brk,xs=>oB (one? xs) vBrk
 |.raise e,xs=>oB (one? xs) λx=>oB (JY x) λt=>t.2.isNone && oB t.1 (chkE N K lm sc tb e)
 |.try_ _ _ _,_=>false
structure FSc (T:Tp) (lm:Bool) (sc:Scope) (f:Fm):Prop where
 glob:∀x,zw sc x .globalImplicit=true->f.fe.kindOf x=some .globalImplicit
 cell:∀x,zw sc x .cell=true->f.fe.kindOf x=some .cell
 loc:∀x,zw sc x .local=true->f.fe.kindOf x=some .local
 lam:lm=true->∃cn cs a cl,f.fe=envX cn cs f.L a (.ref T.tabC) cl/\(cn++".<locals>."++"<lambda>":Str)=T.lamQ
theorem FSc.cx{T:Tp}{lm:Bool}{sc:Scope}{f:Fm}(S:FSc T lm sc f)(m cm:Str->Option Value)(G:Lg):ScOk T lm sc (f.cx m cm G):=⟨S.glob,S.cell,S.lam⟩
inductive FlOk (T:Tp) (E:Lg) (ρ:Rn):Fl->Flow->Prop
 |next:FlOk T E ρ .next .next
 |brk:FlOk T E ρ .brk .brk
 |ret {v:V} {u:Value}:VR T E ρ v u->FlOk T E ρ (.ret v) (.ret u)
inductive SPost (T:Tp) (f:Fm) (s:Shared) (ρ:Rn) (E:Lg) (tb:List Str) (ex:Lg) (Q:KS) (fl:Flow) (s':Shared):Prop
 |mk (h':Heap) (tk:Nat) (m' cm':Str->Option Value) (Gc':Lg) (F:Fl) (L':Lc) (H':Hp) (ρ':Rn) (E':Lg):s'={s with heap:=h',toks:=tk}->CG cm' f.fe.cells Gc'->(f.cx m' cm' (ex++Gc')).Rep T H' ρ' E' h'->Ext E ρ E' ρ'->LOk T tb (f.cx m' cm' (ex++Gc')) E' ρ' L'->FlOk T E' ρ' F fl->Q F L' H'->SPost T f s ρ E tb ex Q fl s'
theorem SPost.up{T:Tp}{f:Fm}{s:Shared}{ρ:Rn}{E:Lg}{tb:List Str}{ex:Lg}{Q:KS}{fl:Flow}{s':Shared}{h₁:Heap}{tk₁:Nat}{ρ₁:Rn}{u5:Lg}(x:Ext E ρ u5 ρ₁) :
  SPost T f {s with heap:=h₁,toks:=tk₁} ρ₁ u5 tb ex Q fl s'->SPost T f s ρ E tb ex Q fl s'
 |⟨h',tk,m',cm',Gc',F,L',H',ρ',E',e,cg,R,x',lk,fo,q⟩=>⟨h',tk,m',cm',Gc',F,L',H',ρ',E',e,cg,R,x.trans x',lk,fo,q⟩
noncomputable def XRf(RX:RxT)(f:Fm)(s:Shared)(ρ:Rn)(E:Lg)(X:Nat->Hp->Prop)(Er:Value->Shared->Prop):Prop:=∀m cm G e s',XPost RX (f.cx m cm G) s ρ E X e s'->Er e s'
theorem XRf.up{RX:RxT}{f:Fm}{s:Shared}{ρ:Rn}{E:Lg}{X:Nat->Hp->Prop}{Er:Value->Shared->Prop}{h₁:Heap}{tk₁:Nat}{ρ₁:Rn}{u5:Lg}(h:XRf RX f s ρ E X Er)(x:Ext E ρ u5 ρ₁):XRf RX f {s with heap:=h₁,toks:=tk₁} ρ₁ u5 X Er:=
 λm cm G e s' q=>h m cm G e s' (q.up x)
noncomputable def StOk(RX:RxT)(T:Tp)(P:Prg)(N:Nm)(O:Orc)(d w:Nat)(st:S):Prop:=∀{xs:List Gy} {f:Fm} {lm:Bool} {sc:Scope} {tb:List Str} {X:Nat->Hp->Prop} {L:Lc} {H:Hp} {Q:KS} {ρ:Rn} {E:Lg} {s:Shared} {Er:Value->Shared->Prop} {m cm:Str->Option Value} {ex Gc:Lg},
 chkS N T.K lm sc tb st xs=true->tb.Nodup->f.Ok T d->FSc T lm sc f->Mn.ex P O X w st L H Q->CG cm f.fe.cells Gc->(f.cx m cm (ex++Gc)).Rep T H ρ E s.heap->LOk T tb (f.cx m cm (ex++Gc)) E ρ L->
 PassesOwn (model T.prog T.w) f.A f.fe Er->XRf RX f s ρ E X Er->wpAny (model T.prog T.w) f.A (execs xs f.fe) (SPost T f s ρ E tb ex Q) Er s
section
variable {RX:RxT} {T:Tp} {P:Prg} {N:Nm} {O:Orc} {d w:Nat}
variable {f:Fm} {s:Shared} {ρ:Rn} {E:Lg} {H:Hp} {Er:Value->Shared->Prop} {m cm:Str->Option Value} {ex Gc:Lg} {tb:List Str} {L:Lc} {Q:KS}
theorem zL(x:Gy)(env:Env):execs [x] env=exec x env:=by
 rw[execs_cons]
 have:(λf:Flow=>match f with|.next=>execs [] env|f=>pure f)=(pure:Flow->Sem Flow):=by
  funext f
  rcases f<;>rfl
 show(exec x env >>= λf=>match f with|.next=>execs [] env|f=>pure f)=_
 rw[this,bind_pure]
theorem SPost.here{F:Fl}{fl:Flow}{tk:Nat}(cg:CG cm f.fe.cells Gc)(R:(f.cx m cm (ex++Gc)).Rep T H ρ E s.heap)(lk:LOk T tb (f.cx m cm (ex++Gc)) E ρ L)(fo:FlOk T E ρ F fl)(q:Q F L H):SPost T f s ρ E tb ex Q fl {s with toks:=tk}:=
 ⟨s.heap,tk,m,cm,Gc,F,L,H,ρ,E,rfl,cg,R,Ext.refl _ _,lk,fo,q⟩
theorem st_bad:StOk RX T P N O d w .bad:=by
 intro xs f lm sc tb X L H Q ρ E s Er m cm ex Gc hc nd F S he cg R Lk PO XR
 exact Do he
theorem st_nop:StOk RX T P N O d w .nop:=by
 intro xs f lm sc tb X L H Q ρ E s Er m cm ex Gc hc nd F S he cg R Lk PO XR
 induction xs using GV with
 |nil=>exact wpAny_execs_nil (SPost.here (F:=.next) (tk:=s.toks) cg R Lk .next he)
 |cons x r=>
  refine zf (an2 hc) ?_;clear hc;intro h1 h2
  obtain rfl:=zH h1
  refine zh (iPass h2) λp rq1=>?_;subst rq1
  rw[zL]
  exact wpAny_Pass (SPost.here (F:=.next) (tk:=s.toks) cg R Lk .next he)
theorem st_seq{a b:S}(ia:StOk RX T P N O d w a)(ib:StOk RX T P N O d w b):StOk RX T P N O d w (.seq a b):=by
 intro xs f lm sc tb X L H Q ρ E s Er m cm ex Gc hc nd F S he cg R Lk PO XR
 refine zl (iHt hc) ?_;clear hc;intro x xs rq2 hc;subst rq2
 replace hc:=an2 hc
 have:=ia hc.1 nd F S he cg R Lk PO XR
 rw[zL] at this
 refine wpAny_execs_cons (wpAny_mono this (λfl s' p=>?_) λ_ _ e=>e)
 obtain⟨h',tk,m',cm',Gc',fl',L',H',ρ',E',rfl,cg',R',x',lk',fo,q⟩:=p
 cases fo
 ·exact wpAny_mono (ib (s:={s with heap:=h',toks:=tk}) hc.2 nd F S q cg' R' lk' PO (XR.up x')) (λfl s' p=>p.up x') λ_ _ e=>e
 ·exact⟨h',tk,m',cm',Gc',.brk,L',H',ρ',E',rfl,cg',R',x',lk',.brk,q⟩
 ·exact⟨h',tk,m',cm',Gc',_,L',H',ρ',E',rfl,cg',R',x',lk',.ret (by assumption),q⟩
theorem yO{e:Mn.E}(ih:EvOk RX T P N O d e){x:G4}{lm:Bool}{sc:Scope}{X:Nat->Hp->Prop}{Q:V->Hp->Prop}{K:Value->Shared->Prop}(hc:chkE N T.K lm sc tb e x=true)(F:f.Ok T d)(S:FSc T lm sc f)(he:ev P O e X L H Q)(cg:CG cm f.fe.cells Gc)
  (R:(f.cx m cm (ex++Gc)).Rep T H ρ E s.heap) (Lk:LOk T tb (f.cx m cm (ex++Gc)) E ρ L) (XR:XRf RX f s ρ E X Er)
  (k:∀u v h' tk H' ρ' E',(f.cx m cm (ex++Gc)).Rep T H' ρ' E' h'->Ext E ρ E' ρ'->VR T E' ρ' v u->Q v H'->LOk T tb (f.cx m cm (ex++Gc)) E' ρ' L->XRf RX f {s with heap:=h',toks:=tk} ρ' E' X Er->K u {s with heap:=h',toks:=tk}) :
  wpAny (model T.prog T.w) f.A (eval x f.fe) K Er s:=by
 refine wpAny_mono (ih (c:=f.cx m cm (ex++Gc)) hc (F.cx cg) (S.cx _ _ _) he R Lk (XR m cm (ex++Gc))) (λu s' p=>?_) λ_ _ e=>e
 obtain⟨h',tk,v,H',ρ',E',rfl,R',x',hv,q⟩:=p
 exact k u v h' tk H' ρ' E' R' x' hv q (Lk.ext x') (XR.up x')
theorem trOk_f{e:Mn.E}(ih:TrOk RX T P N O d e){x:G4}{lm:Bool}{sc:Scope}{X:Nat->Hp->Prop}{Q:Bool->Hp->Prop}{K:Bool->Shared->Prop}(hc:chkE N T.K lm sc tb e x=true)(F:f.Ok T d)(S:FSc T lm sc f)(he:ev P O e X L H (tq Q))(cg:CG cm f.fe.cells Gc)
  (R:(f.cx m cm (ex++Gc)).Rep T H ρ E s.heap) (Lk:LOk T tb (f.cx m cm (ex++Gc)) E ρ L) (XR:XRf RX f s ρ E X Er)
  (k:∀b h' tk H' ρ' E',(f.cx m cm (ex++Gc)).Rep T H' ρ' E' h'->Ext E ρ E' ρ'->Q b H'->LOk T tb (f.cx m cm (ex++Gc)) E' ρ' L->XRf RX f {s with heap:=h',toks:=tk} ρ' E' X Er->K b {s with heap:=h',toks:=tk}) :
  wpAny (model T.prog T.w) f.A (isTrue x f.fe (eval x f.fe)) K Er s:=by
 refine wpAny_mono (ih (c:=f.cx m cm (ex++Gc)) hc (F.cx cg) (S.cx _ _ _) he R Lk (XR m cm (ex++Gc))) (λu s' p=>?_) λ_ _ e=>e
 obtain⟨h',tk,H',ρ',E',rfl,R',x',q⟩:=p
 exact k u h' tk H' ρ' E' R' x' q (Lk.ext x') (XR.up x')
theorem st_ret{e:Mn.E}(ih:EvOk RX T P N O d e):StOk RX T P N O d w (.ret e):=by
 intro xs f lm sc tb X L H Q ρ E s Er m cm ex Gc hc nd F S he cg R Lk PO XR
 refine za (iOne hc) ?_;clear hc;intro x rq1 hc;subst rq1
 refine zl (iRet hc) ?_;clear hc;intro vo p rq2 hc;subst rq2
 rw[zL]
 induction vo using Gq with
 |some x=>
  refine wpAny_Return_some (yO ih hc F S he cg R Lk XR λu v h' tk H' ρ' E' R' x' hv q Lk' XR'=>?_)
  exact⟨h',tk,m,cm,Gc,.ret v,L,H',ρ',E',rfl,cg,R',x',Lk',.ret hv,q⟩
 |none=>
  obtain rfl:=ju hc
  exact wpAny_Return_none (SPost.here (F:=.ret .none) (tk:=s.toks) cg R Lk (.ret VR.none) he)
theorem jN{v:G4}{t:Option G4}{n:Nat}{env:Env}(h:ZI v=true):swapsWith v t n env=pure false:=by
 rcases v<;>first|rfl|exact absurd h G3
theorem kI{env:Env}(h:env.scope.kind= .function):interactive env=false:=by
 unfold interactive;rw[h];rfl
theorem yY{k:Nat}{x:Str}(h:Xu tb k x=true):tb[k]?=some x:=by
 refine za (yf h) ?_;clear h;intro y e h
 rw[e,eqStr_iff.mp h]
theorem st_ex{e:Mn.E}(ih:EvOk RX T P N O d e):StOk RX T P N O d w (.ex e):=by
 intro xs f lm sc tb X L H Q ρ E s Er m cm ex Gc hc nd F S he cg R Lk PO XR
 refine za (iOne hc) ?_;clear hc;intro x rq1 hc;subst rq1
 refine zl (iExpr hc) ?_;clear hc;intro x p rq2 hc;subst rq2
 replace hc:=an2 hc
 rw[zL]
 refine wpAny_Expr ?_ (kI F.kd) (jN hc.1)
 refine yO ih hc.2 F S he cg R Lk XR λu v h' tk H' ρ' E' R' x' hv q Lk' XR'=>?_
 refine zf (Zr q) ?_;clear q;intro rq0 q;subst rq0
 obtain rfl:=hv.ofNone
 exact⟨h',tk,m,cm,Gc,.next,L,H',ρ',E',rfl,cg,R',x',Lk',.next,q⟩
theorem st_brk:StOk RX T P N O d w .brk:=by
 intro xs f lm sc tb X L H Q ρ E s Er m cm ex Gc hc nd F S he cg R Lk PO XR
 refine za (iOne hc) ?_;clear hc;intro x rq1 hc;subst rq1
 refine zh (iBrk hc) λp rq1=>?_;subst rq1
 rw[zL]
 exact wpAny_Break (SPost.here (F:=.brk) (tk:=s.toks) cg R Lk .brk he)
theorem st_ifs{b:Mn.E}{st se:S}(ib:TrOk RX T P N O d b)(ia:StOk RX T P N O d w st)(ie:StOk RX T P N O d w se):StOk RX T P N O d w (.ifs b st se):=by
 intro xs f lm sc tb X L H Q ρ E s Er m cm ex Gc hc nd F S he cg R Lk PO XR
 refine za (iOne hc) ?_;clear hc;intro x rq1 hc;subst rq1
 refine yU (iIfS hc) ?_;clear hc;intro t xs ys p rq4 hc;subst rq4
 refine zC (an3 hc) ?_;clear hc;intro h1 h2 h3
 rw[zL]
 refine wpAny_If (trOk_f ib h1 F S (Q:=λq H₁=>ite2 q (Mn.ex P O X w st L H₁ Q) (Mn.ex P O X w se L H₁ Q)) he cg R Lk XR λq h' tk H' ρ' E' R' x' hq Lk' XR'=>?_)
 induction q using GF with
 |true=>exact wpAny_mono (ia (s:={s with heap:=h',toks:=tk}) h2 nd F S hq cg R' Lk' PO XR') (λfl s' p=>p.up x') λ_ _ e=>e
 |false=>exact wpAny_mono (ie (s:={s with heap:=h',toks:=tk}) h3 nd F S hq cg R' Lk' PO XR') (λfl s' p=>p.up x') λ_ _ e=>e
theorem kinds{sc:Scope}{x:Str}{lm:Bool}(S:FSc T lm sc f)(h:(zw sc x .local ||zw sc x .cell)=true):f.fe.kindOf x=some .local∨f.fe.kindOf x=some .cell:=by
 rcases Dg.mp h with h|h
 ·exact .inl (S.loc x h)
 ·exact .inr (S.cell x h)
theorem JJ{Un h:Heap}{L:Addr}{m:Str->Option Value}{G:Lg}{D:Addr}{ys:List Value}{vs:List V}(R:Mn.Rep T Un L m ((D,lst ys)::G) H ρ E h)(hv:VRs T E ρ vs ys)(hl:vs.length<=1000) :
  Mn.Rep T Un L m G (H++[.list vs]) (ρ++[(D,D)]) ((D,lst ys)::E) h/\Ext E ρ ((D,lst ys)::E) (ρ++[(D,D)])/\(ρ++[(D,D)])[H.length]?=some (D,D):=by
 refine za (id R.N) λtb hb N=>?_
 exact Rep.takeG (ob':=lst ys) R hb R.F N (o:=.list vs) ⟨ys,ys.length,G9 ..,hv.ext ⟨λ_ _ e=>e,λp hp _=>Gd _ hp⟩,hl⟩ rfl
theorem jR{k:Nat}{x:Str}{p q pos:Pos}{y ix tg:G4}{ifs:List G4}{rest:List Comprehension}{sc csc:Scope}{lm:Bool}{cl:List (Str×Addr)}(F:f.Ok T d)(S:FSc T lm sc f)(nd:tb.Nodup)(h1:Xu tb k x=true)
  (h3:k7 sc x p (.ListComp y (⟨tg,ix,ifs,0⟩::rest) csc pos)=true) (hns:yi ix=true) (hclos:closureFor csc f.fe=pure cl) (Kc:CscOk sc csc) (cg:CG cm f.fe.cells Gc) (Lk:LOk T tb (f.cx m cm (ex++Gc)) E ρ L)
  (core:∀{RR:Value->Addr->Result->Shared->Prop},(∀D Cc h' tk oC m' ys vs H' ρ' E',Mn.Rep T f.Un f.L m ((Cc,oC)::(D,lst ys)::(ex++Gc)) H' ρ' E' h'->Ext E ρ E' ρ'->NsObj oC m'->VRs T E' ρ' vs ys->
    gd (G8 vs.length 1000) (Q .next (setL k (.obj H'.length) L) (H'++[.list vs]))->RR (.ref D) Cc (.ok .next) {s with heap:=h',toks:=tk})->
   wpAny (model T.prog T.w) f.A (eval ix f.fe) (λxv UN=>wpAny (model T.prog T.w) f.A (pyIter xv) (λit UO=>wpAny (model T.prog T.w) f.A (newList []) (λacc UP=>
    wpAny (model T.prog T.w) f.A (newFunctionEnv csc f.fe.globals cl [] f.fe.qual none .none (some f.fe)) (λcenv UQ=>
     codeAny (model T.prog T.w) f.A (.compStart (.ListComp y (⟨tg,ix,ifs,0⟩::rest) csc pos) 0 it acc {cenv with scope:=relabel csc f.fe}) (RR acc cenv.locals) UQ) Er UP) Er UO) Er UN) Er s) :
  wpAny (model T.prog T.w) f.A (exec (.Assign [.Name x p] (.ListComp y (⟨tg,ix,ifs,0⟩::rest) csc pos) q) f.fe) (SPost T f s ρ E tb ex Q) Er s:=by
 refine zC (an3 h3) ?_;clear h3;intro g1 g2 g3
 have hloc:=S.loc x g1
 have hsw:swapsWith (.ListComp y (⟨tg,ix,ifs,0⟩::rest) csc pos) (some (.Name x p)) q.line f.fe=pure true:=by
  have hbk:f.fe.blockKind= .function:=by unfold Env.blockKind;rw[F.kd];rfl
  have hany:(csc.names.any λ(n,k)=>n==x && (k==.local ||k==.cell))=false:=by
   rw[List.any_eq_false]
   intro⟨n,k⟩ hm
   have:=GA.mp g3 (n,k) hm
   simp only[Bool.or_eq_true,Fb] at this
   simp only[GS,Bool.or_eq_true,beq_iff_eq,not_and,not_or]
   rintro rfl
   rcases this with e|e
   ·rw[eqStr_iff.mpr rfl] at e;cases e
   ·rw[Dz] at e
    refine⟨λq=>?_,λq=>?_⟩
    ·rw[q] at e;exact absurd e.1 (by decide)
    ·rw[q] at e;exact absurd e.2 (by decide)
  show(pure (f.fe.blockKind==.function && f.fe.kindOf x==some .local && p.line==pos.line && !(csc.names.any λ(n,k)=>n==x && (k==.local ||k==.cell))):Sem Bool)=pure true
  rw[hbk,hloc,hany,natE.mp g2]
  simp
 rw[exec_Assign_Name_used _ _ _ _ hsw]
 refine wpAny_bind (wpAny_standAt (wpAny_bind ?_))
 show wpAny _ f.A (do let _ ←comprehension (.ListComp y (⟨tg,ix,ifs,0⟩::rest) csc pos) csc f.fe _ (newList []) false (eval ix f.fe) (some (assign (.Name x p) f.fe))) _ _ s
 refine wpAny_bind (wpAny_mono (wpAny_comprehension_free (use:=some (assign (.Name x p) f.fe)) (Q:=λ_ s'=>SPost T f s ρ E tb ex Q .next s') rfl (yC hns) hclos Kc.kd Kc.loc
  (core (RR:=λacc Cc=>compPost (model T.prog T.w) f.A Er (some (assign (.Name x p) f.fe)) (λ_ s'=>SPost T f s ρ E tb ex Q .next s') acc Cc) (λD Cc h' tk oC m' ys vs H' ρ' E' R' x' no vr qq=>?_))) (λ_ s' hq=>wpAny_pure (wpAny_pure hq)) λ_ _ e=>e)
 refine zf (gd_iff.mp qq) ?_;clear qq;intro gl qq
 refine zC (JJ (R'.perm (Dl _ _ _)) vr (natB.mp gl)) λR2 x2 hr=>?_
 have R2:(f.cx m cm (((Cc,oC)::ex)++Gc)).Rep T (H'++[.list vs]) (ρ'++[(D,D)]) ((D,lst ys)::E') h':=R2
 show wpAny _ f.A (assign (.Name x p) f.fe (.ref D)) _ _ _
 refine wpAny_assign_Name (Z5 (s:={s with heap:=h',toks:=tk}) (ex:=(Cc,oC)::ex) F cg R2 ((Lk.ext x').ext x2) (.inl hloc) (yY h1) nd (.obj hr) λh'' tk'' m'' cm' Gc' cg' R'' Lk''=>?_)
 refine za (id R''.N) λUT U6 uA=>?_
 refine⟨m',no.ns (uA (Cc,oC) (by simp[Fm.cx])).1,λh3 hs3=>?_⟩
 have R3:(f.cx m'' cm' (ex++Gc')).Rep T (H'++[.list vs]) (ρ'++[(D,D)]) ((D,lst ys)::E') h3:=Rep.dropG R'' hs3.extBut
 exact⟨h3,tk'',m'',cm',Gc',.next,_,_,_,_,rfl,cg',R3,x'.trans x2,Lk'',.next,qq⟩
theorem kY{e:Mn.E}(h:J4 e=true):(∃a b c n l,e= .comp a b c n l)∨∃a b c,e= .comp2 a b c:=by
 rcases e<;>first|exact absurd h G3|exact .inl ⟨_,_,_,_,_,rfl⟩|exact .inr ⟨_,_,_,rfl⟩
theorem st_set{e:Mn.E}(k:Nat)(ih:EvOk RX T P N O d e)(hcomp:∀elt iter cond n caps,e= .comp elt iter cond n caps->EvOk RX T P N O d iter/\EvOk RX T P N O d elt/\TrOk RX T P N O d cond)
  (hcomp2:∀elt e1 e2,e= .comp2 elt e1 e2->EvOk RX T P N O d e1/\EvOk RX T P N O d e2/\EvOk RX T P N O d elt):StOk RX T P N O d w (.set k e):=by
 intro xs f lm sc tb X L H Q ρ E s Er m cm ex Gc hc nd F S he cg R Lk PO XR
 have hsh:∃x p v q,xs=[.Assign [.Name x p] v q]/\Xu tb k x=true/\(zw sc x .local ||zw sc x .cell)=true/\(match J4 e with|true=>k7 sc x p v|false=>ZI v)=true/\chkE N T.K lm sc tb e v=true:=by
  refine za (iOne hc) ?_;clear hc;intro x rq1 hc;subst rq1
  refine zF (iAsg hc) ?_;clear hc;intro ts v q rq3 hc;subst rq3
  refine za (iOne hc) ?_;clear hc;intro t e1 hc
  obtain rfl:ts=[t]:=e1
  refine zl (ZX hc) ?_;clear hc;intro x p rq2 hc;subst rq2
  exact⟨x,p,v,q,rfl,an4 hc⟩
 refine Xo (hsh) ?_;clear hsh;intro x p v q rq4 h1 h2 h3 h4;subst rq4
 rw[zL]
 induction hic:J4 e using GF with
 |false=>
  rw[hic] at h3
  refine wpAny_Assign_Name ?_ (jN h3)
  refine yO ih h4 F S he cg R Lk XR λu v h' tk H' ρ' E' R' x' hv q Lk' XR'=>?_
  refine Z5 (s:={s with heap:=h',toks:=tk}) F cg R' Lk' (kinds S h2) (yY h1) nd hv λh'' tk'' m' cm' Gc' cg' R'' Lk''=>?_
  exact⟨h'',tk'',m',cm',Gc',.next,_,H',ρ',E',rfl,cg',R'',x',Lk'',.next,q⟩
 |true=>
  rw[hic] at h3
  rcases kY hic with⟨elt,iter,cond,n,caps,rfl⟩|⟨elt,e1,e2,rfl⟩
  ·refine zC (hcomp _ _ _ _ _ rfl) λii ie ic=>?_
   obtain⟨y,tg,ix,ifs,csc,pos,ts,rfl,ht,hn,hsc,hns,hci,hce,hcc⟩:=Xj h4
   refine j9 (KG hsc) λKc k1 k2 k3 k4=>?_
   have C:=F.cx (m:=m) (ex:=ex) cg
   refine za (yS C (S.cx m cm (ex++Gc)) Kc) λcl hclos hcl=>?_
   replace he:ev P O iter X L H (compF P O elt cond n caps L λvs uh=>gd (G8 vs.length 1000) (Q .next (setL k (.obj uh.length) L) (uh++[.list vs]))):=he
   exact jR (m:=m) (cm:=cm) F S nd h1 h3 hns hclos Kc cg Lk λfin=>XY (c:=f.cx m cm (ex++Gc)) ii ie ic C (S.cx m cm (ex++Gc)) Kc hcl ht k1 k2 k4 hn hci hce hcc R Lk (XR m cm (ex++Gc)) fin he
  ·refine zC (hcomp2 _ _ _ rfl) λii i2 ie=>?_
   obtain⟨y,x1,p1,i1,x2,p2,ix2,csc,pos,rfl,Kc,k1,k2,k3,hs1,hs2,hci,hc2,hce⟩:=Yw h4
   have C:=F.cx (m:=m) (ex:=ex) cg
   refine za (yS C (S.cx m cm (ex++Gc)) Kc) λcl hclos hcl=>?_
   exact jR (m:=m) (cm:=cm) F S nd h1 h3 hs1 hclos Kc cg Lk λfin=>YS (c:=f.cx m cm (ex++Gc)) (K:=λvs uh=>gd (G8 vs.length 1000) (Q .next (setL k (.obj uh.length) L) (uh++[Mn.O.list vs]))) ii i2 ie C (S.cx m cm (ex++Gc)) Kc hcl k1 k2 k3 hs2 hci hc2 hce R Lk (XR m cm (ex++Gc)) fin he
theorem sw_attr{v o:G4}{a:Str}{p:Pos}{n:Nat}{env:Env}:swapsWith v (some (.Attribute o a p)) n env=pure false:=by rcases v<;>rfl
theorem sw_sub{v o i:G4}{p:Pos}{n:Nat}{env:Env}:swapsWith v (some (.Subscript o i p)) n env=pure false:=by rcases v<;>rfl
theorem st_setA(K:TpOk T P N){a e:Mn.E}(g:Nat)(ia:EvOk RX T P N O d a)(ih:EvOk RX T P N O d e):StOk RX T P N O d w (.setA a g e):=by
 intro xs f lm sc tb X L H Q ρ E s Er m cm ex Gc hc nd F S he cg R Lk PO XR
 have hsh:∃o n p v q,xs=[.Assign [.Attribute o n p] v q]/\zQ (N.attr g) n=true/\chkE N T.K lm sc tb e v=true/\chkE N T.K lm sc tb a o=true:=by
  refine za (iOne hc) ?_;clear hc;intro x rq1 hc;subst rq1
  refine zF (iAsg hc) ?_;clear hc;intro ts v q rq3 hc;subst rq3
  refine za (iOne hc) ?_;clear hc;intro t e1 hc
  obtain rfl:ts=[t]:=e1
  refine zF (Ke hc) ?_;clear hc;intro o n p rq3 hc;subst rq3
  exact⟨o,n,p,v,q,rfl,an3 hc⟩
 refine xe5c4 (hsh) ?_;clear hsh;intro o n p v q rq5 h1 h2 h3;subst rq5
 rw[eqStr_iff] at h1
 subst h1
 rw[zL]
 refine plainObj_wpAny_Assign_Attribute (yO ih h2 F S he cg R Lk XR λu v' h' tk H' ρ' E' R' x' hv q' Lk' XR'=>?_) sw_attr
 refine yO (s:={s with heap:=h',toks:=tk}) ia h3 F S q' cg R' Lk' XR' λu2 v2 h2 tk2 H2 ρ2 E2 R2 x2 hv2 q2 Lk2 XR2=>?_
 refine Z9 (jD q2) ?_;clear q2;intro i k fs rq3 e1 q2;subst rq3
 refine zf (gd_iff.mp q2) ?_;clear q2;intro ha q2
 replace ha:=an2 ha
 refine zl (hv2.ofObj) λaa dd rq2 hi=>?_;subst rq2
 rw[K.nat]
 exact setA_ok (s:={s with heap:=h2,toks:=tk2}) K (F.cx cg) R2 e1 hi ha.1 (natL.mp ha.2) (hv.ext x2) λh3 tk3 E3 R3 x3=>
  ⟨h3,tk3,m,cm,Gc,.next,_,_,_,_,rfl,cg,R3,(x'.trans x2).trans x3,Lk2.ext x3,.next,q2⟩
theorem ki{c:Cx}{i n:Nat}{vs:List V}{a dd:Addr}{v:V}{u:Value}{tk:Tok}{K:Unit->Shared->Prop}{prog:Program}{wo:World}{A:Around}(R:c.Rep T H ρ E s.heap)(e1:H[i]?=some (.list vs))(hi:ρ[i]?=some (a,dd))(hn:n < vs.length)(hv:VR T E ρ v u)
  (h:∀h' E',c.Rep T (H.set i (.list (vs.set n v))) ρ E' h'->Ext E ρ E' ρ->K () {s with heap:=h'}):wpAny (model prog wo) A (setItem (.ref a) (.int (n:Int) tk) u) K Er s:=by
 refine yt (R.isList e1 hi) λus k hm hl hvs hlim=>?_
 refine YD (R.split hm) λu5 u6 tb he hb Nw n1 n2=>?_
 have hz:us.length=vs.length:=hvs.length.symm
 have hm':s.heap.get? a=some (DN us.toArray k):=R.inNews hm
 have hlim':vs.length<=1000:=hlim
 refine ki_setAt hm' (om62) (om63 hn hlim') (by rw[Gv];exact om64 hn hz) ?_
 have hx:=Nw (a,DN us.toArray k) (by simp)
 have hset:us.toArray.setIfInBounds (n:Int).toNat u=(us.set n u).toArray:=by simp
 have N':News c.Un c.L (s.heap.update a (Obj.mapSeq (·.setIfInBounds (n:Int).toNat u))) (u5++(a,DN (us.set n u).toArray k)::(u6++(T.tab,tb)::c.G)):=
  ki_turn (·.setIfInBounds (n:Int).toNat u) Nw n1 n2 hset (by simp)
 obtain⟨R',x'⟩:=R.put (o:=.list vs) (o':=.list (vs.set n v)) (x:=a) e1 hi (by simp[zS]) he hb rfl (λ_=>rfl) (R.F.change (Fv ..) hx.2.1 hx.2.2) N' λx=>⟨_,k,by simp,(hvs.ext x).set n (hv.ext x),by rw[GQ];exact hlim⟩
 exact h _ _ R' x'
theorem km{c:Cx}{i:Nat}{es:List (List Nat×V)}{k:List Nat}{a dd:Addr}{v:V}{u:Value}{tk:Tok}{K:Unit->Shared->Prop}{A:Around}(R:c.Rep T H ρ E s.heap)(e1:H[i]?=some (.dict es))(hi:ρ[i]?=some (a,dd))(hn:es.length < 1000)(hv:VR T E ρ v u)
  (h:∀h' tk E',c.Rep T (H.set i (.dict (setD k v es))) ρ E' h'->Ext E ρ E' ρ->K () {s with heap:=h',toks:=tk}):wpAny (model T.prog T.w) A (setItem (.ref a) (.str (strL k) tk) u) K Er s:=by
 refine Y9 (R.objAt e1 hi) λo kvs hm hd hvs hlim hs=>?_
 refine YD (R.split hm) λu5 u6 tb he hb Nw n1 n2=>?_
 have hm':s.heap.get? a=some o:=R.inNews hm
 have hlen:es.length=kvs.length:=hvs.length
 refine kh (k:=strL k) (strKind_is T.prog T.w _ _) hm' hd (λh' o' ho' hd' sb=>?_) (by rw[sizeLine_eq];exact om65 hn hlen)
 have hx:=Nw (a,o) (by simp)
 have N':News c.Un c.L h' (u5++(a,o')::(u6++(T.tab,tb)::c.G)):=news_set Nw n1 n2 sb ho'
 have hf:yT o=false:=by
  refine yQ (hd) ?_;clear hd;intro es' _ h2 _
  exact Z7 h2
 have hl2:(setD k v es).length<=lim:=by
  have:=(Yl k v hvs hd.choose_spec.2.2.2.2 hv).length
  have:=stored_length_le kvs (strL k) u
  simp only[lim];exact on1 hn hlen (by assumption) this
 obtain⟨R',x'⟩:=R.put (o:=.dict es) (o':=.dict (setD k v es)) (x:=a) e1 hi (by simp[zS]) he hb hf (λ_=>rfl) (R.F.change sb hx.2.1 hx.2.2) N' λx=>
  ⟨o',stored kvs (strL k) u,by simp,hd',Yl k v (hvs.ext x) hd.choose_spec.2.2.2.2 (hv.ext x),hl2,hs⟩
 exact h _ _ _ R' x'
theorem setI_iff{k u:V}{v:V}{H:Hp}{Q:Hp->Prop}(h:(match kd k with
  |2=>intP k λn=>natP n λn=>atL u H λj vs=>gd (Gz n vs.length) (Q (H.set j (.list (vs.set n v))))
  |_=>strP k λs=>atD u H λj es=>gd (Gz es.length 1000) (Q (H.set j (.dict (setD s v es)))))) :
  (∃n j vs,k= .int (.ofNat n)/\u= .obj j/\H[j]?=some (.list vs)/\Gz n vs.length=true/\Q (H.set j (.list (vs.set n v))))∨
  ∃x j es,k= .str x/\u= .obj j/\H[j]?=some (.dict es)/\Gz es.length 1000=true/\Q (H.set j (.dict (setD x v es))):=by
 induction k using V.casesOn with
 |int n=>
  obtain⟨n,rfl,h⟩:=yw (f:=λn=>atL u H λj vs=>gd (Gz n vs.length) (Q (H.set j (.list (vs.set n v))))) h
  obtain⟨j,vs,e,e1,h⟩:=yl h
  obtain⟨h1,h⟩:=gd_iff.mp h
  exact .inl ⟨n,j,vs,rfl,e,e1,h1,h⟩
 |str x=>
  obtain⟨j,es,e,e1,h⟩:=jF (f:=λj es=>gd (Gz es.length 1000) (Q (H.set j (.dict (setD x v es))))) h
  obtain⟨h1,h⟩:=gd_iff.mp h
  exact .inr ⟨x,j,es,rfl,e,e1,h1,h⟩
 |_=>exact h.elim
theorem st_setI{a i e:Mn.E}(ia:EvOk RX T P N O d a)(ii:EvOk RX T P N O d i)(ih:EvOk RX T P N O d e):StOk RX T P N O d w (.setI a i e):=by
 intro xs f lm sc tb X L H Q ρ E s Er m cm ex Gc hc nd F S he cg R Lk PO XR
 have hsh:∃o j p v q,xs=[.Assign [.Subscript o j p] v q]/\Zq j=true/\chkE N T.K lm sc tb e v=true/\chkE N T.K lm sc tb a o=true/\chkE N T.K lm sc tb i j=true:=by
  refine za (iOne hc) ?_;clear hc;intro x rq1 hc;subst rq1
  refine zF (iAsg hc) ?_;clear hc;intro ts v q rq3 hc;subst rq3
  refine za (iOne hc) ?_;clear hc;intro t e1 hc
  obtain rfl:ts=[t]:=e1
  refine zF (iSub hc) ?_;clear hc;intro o j p rq3 hc;subst rq3
  exact⟨o,j,p,v,q,rfl,an4 hc⟩
 refine YV (hsh) ?_;clear hsh;intro o j p v q rq5 h1 h2 h3 h4;subst rq5
 rw[zL]
 refine wpAny_Assign_Subscript (yO ih h2 F S he cg R Lk XR λu v' h' tk H' ρ' E' R' x' hv q' Lk' XR'=>?_) sw_sub
 refine yO (s:={s with heap:=h',toks:=tk}) ia h3 F S q' cg R' Lk' XR' λu2 v2 h2 tk2 H2 ρ2 E2 R2 x2 hv2 q2 Lk2 XR2=>?_
 refine yO (s:={s with heap:=h2,toks:=tk2}) ii h4 F S q2 cg R2 Lk2 XR2 λu3 v3 h3 tk3 H3 ρ3 E3 R3 x3 hv3 q3 Lk3 XR3=>?_
 replace q3:=setI_iff q3
 rcases q3 with⟨n,j,vs,rfl,rfl,e1,ha,q3⟩|⟨kk,j,es,rfl,rfl,e1,ha,q3⟩
 ·refine zl (hv2.ofObj) λaa dd rq2 hi=>?_;subst rq2
  refine zh (hv3.ofInt) λt rq1=>?_;subst rq1
  exact ki (s:={s with heap:=h3,toks:=tk3}) R3 e1 (x3.pre _ _ hi) (natL.mp ha) ((hv.ext x2).ext x3) λh4 E4 R4 x4=>
   ⟨h4,tk3,m,cm,Gc,.next,_,_,_,_,rfl,cg,R4,((x'.trans x2).trans x3).trans x4,Lk3.ext x4,.next,q3⟩
 ·refine zl (hv2.ofObj) λaa dd rq2 hi=>?_;subst rq2
  refine zh (hv3.ofStr) λt rq1=>?_;subst rq1
  exact km (s:={s with heap:=h3,toks:=tk3}) R3 e1 (x3.pre _ _ hi) (natL.mp ha) ((hv.ext x2).ext x3) λh4 tk4 E4 R4 x4=>
   ⟨h4,tk4,m,cm,Gc,.next,_,_,_,_,rfl,cg,R4,((x'.trans x2).trans x3).trans x4,Lk3.ext x4,.next,q3⟩
theorem Rep.toHeap{Un h h':Heap}{L:Addr}{m:Str->Option Value}{G:Lg}(R:Mn.Rep T Un L m G H ρ E h)(he:Heap.ExtBut h.objs.size h h'):Mn.Rep T Un L m G H ρ E h':=by
 refine za (R.N) λtb hb N=>?_
 exact⟨R.F.extBut he (Gi _),⟨tb,hb,N.extBut he (Gi _)⟩,R.nd,R.len,R.enc,R.ft⟩
theorem j6{prog:Program}{wo:World}{A:Around}{lm:Bool}{sc:Scope}{Qu:Unit->Shared->Prop}(F:f.Ok T d)(S:FSc T lm sc f)(nd:tb.Nodup):∀{es:List G4} {ts:List Str} {ks:List Nat} {vs:List V} {us:List Value} {L uw:Lc} {m cm:Str->Option Value} {Gc:Lg} {s:Shared},ya es=some ts->ksOk sc tb ks ts=true->VRs T E ρ vs us->YF ks vs L=some uw->
   CG cm f.fe.cells Gc->(f.cx m cm (ex++Gc)).Rep T H ρ E s.heap->LOk T tb (f.cx m cm (ex++Gc)) E ρ L->
   (∀h' tk m' cm' Gc',CG cm' f.fe.cells Gc'->(f.cx m' cm' (ex++Gc')).Rep T H ρ E h'->LOk T tb (f.cx m' cm' (ex++Gc')) E ρ uw->Qu () {s with heap:=h',toks:=tk})->
   wpAny (model prog wo) A (assignInOrder ((assignEach es f.fe).map (·.2)) us) Qu Er s:=by
 intro es
 induction es with
 |nil=>
  intro ts ks vs us L uw m cm Gc s ht hk hv hl cg R Lk h
  have:=Zk ht
  subst this
  induction ks using GV with
  |cons _ _=>exact absurd hk G3
  |nil=>
   induction vs using GV with
   |cons _ _=>exact nn hl
   |nil=>
    cases hv
    obtain rfl:=Ga hl
    exact assignInOrder_nil (h s.heap s.toks m cm Gc cg R Lk)
 |cons e es ih=>
  intro ts ks vs us L uw m cm Gc s ht hk hv hl cg R Lk h
  refine Z9 (zT ht) λx q ts' rq3 rq4 ht'=>?_;subst rq3;subst rq4
  induction ks using GV with
  |nil=>exact absurd hk G3
  |cons k ks=>
   refine zC (an3 hk) ?_;clear hk;intro k1 k2 k3
   cases hv with
   |nil=>exact nn hl
   |@cons v u vs us hv hvs=>
    show wpAny _ _ (assignInOrder (assign (.Name x q) f.fe::(assignEach es f.fe).map (·.2)) (u::us)) _ _ _
    refine assignInOrder_cons (wpAny_assign_Name (Z5 F cg R Lk (.inl (S.loc x k2)) (yY k1) nd hv λh₁ tk₁ UB uS uc uP uG ur=>?_))
    exact ih ht' k3 hvs hl uP uG ur λh' tk m' cm' Gc' cg' R' Lk'=>h h' tk m' cm' Gc' cg' R' Lk'
theorem jY{sc:Scope}: ∀{ks:List Nat} {xs:List Str},ksOk sc tb ks xs=true->ks.length=xs.length:=by
 intro ks
 induction ks with
 |nil=>
  intro xs h
  exact by obtain rfl:=zH h;rfl
 |cons k ks ih=>
  intro xs h
  refine zl (iHt h) ?_;clear h;intro x r rq2 h;subst rq2
  exact congrArg (·+ 1) (ih (an3 h).2.2)
theorem Xv:∀{ks:List Nat} {vs:List V} {L uw:Lc},YF ks vs L=some uw->ks.length=vs.length:=by
 intro ks
 induction ks with
 |nil=>
  intro vs y1 y2 h
  exact by cases vs with
  |nil=>rfl
  |cons _ _=>exact nn h
 |cons k ks ih=>
  intro vs L uw h
  exact by cases vs with
  |nil=>exact nn h
  |cons v vs=>exact congrArg (·+ 1) (ih h)
theorem k5{v:V}{vs:List V}(h:unpOf v H=some vs):v= .tup vs∨∃i,v= .obj i/\H[i]?=some (.list vs):=by
 induction v using V.casesOn with
 |tup us=>exact .inl (congrArg V.tup (Ga h))
 |obj i=>
  have h:(match H[i]? with|some (.list vs)=>some vs|_=>none)=some vs:=h
  induction e:H[i]? using Gq with
  |none=>rw[e] at h;exact nn h
  |some o=>
   rw[e] at h
   induction o using O.casesOn with
   |list us=>cases Ga h;exact .inr ⟨i,rfl,e⟩
   |_=>exact nn h
 |_=>exact nn h
theorem Xq{v:V}{u:Value}{es:List G4}{kk pos}{ts:List Str}{ks:List Nat}{vs:List V}{lm:Bool}{sc:Scope}{L uw:Lc}{Qu:Unit->Shared->Prop}{prog:Program}{wo:World}(F:f.Ok T d)(S:FSc T lm sc f)(nd:tb.Nodup)
  (e:unpOf v H=some vs)
  (hn:ya es=some ts) (hk:ksOk sc tb ks ts=true) (hv:VR T E ρ v u) (hl:YF ks vs L=some uw) (cg:CG cm f.fe.cells Gc) (R:(f.cx m cm (ex++Gc)).Rep T H ρ E s.heap) (Lk:LOk T tb (f.cx m cm (ex++Gc)) E ρ L)
  (h:∀h' tk m' cm' Gc',CG cm' f.fe.cells Gc'->(f.cx m' cm' (ex++Gc')).Rep T H ρ E h'->LOk T tb (f.cx m' cm' (ex++Gc')) E ρ uw->Qu () {s with heap:=h',toks:=tk}) :
  wpAny (model prog wo) f.A (assign (.Tuple es kk pos) f.fe u) Qu Er s:=by
 refine zf (Jc (env:=f.fe) hn) λe1 e2=>?_
 have e3:=jY hk
 have e4:=Xv hl
 replace e:=k5 e
 rcases e with rfl|⟨i,rfl,h1⟩
 ·refine zy (hv.ofTup) λus a rq2 htu hvs=>?_;subst rq2
  have e5:=hvs.length
  refine assign_Tuple_tuple F.hh (R.isTup F.X htu) (by rw[e1,Gv];exact om66 e3 e4 e5) e2 λh₁ he=>?_
  exact j6 (s:={s with heap:=h₁}) F S nd hn hk hvs hl cg (Rep.toHeap R he) Lk h
 ·refine zl (hv.ofObj) λaa dd rq2 hi=>?_;subst rq2
  refine yt (R.isList h1 hi) λus n hm hil hvs hlim=>?_
  have e5:=hvs.length
  refine za (id R.N) λUS hb Nw=>?_
  refine kun_list R.F Nw hil F.hh (by rw[e1,Gv];exact om66 e3 e4 e5) e2 λh₁ F' N'=>?_
  have R':(f.cx m cm (ex++Gc)).Rep T H ρ E h₁:=⟨F',⟨US,hb,N'⟩,R.nd,R.len,R.enc,R.ft⟩
  exact j6 (s:={s with heap:=h₁}) F S nd hn hk hvs hl cg R' Lk h
theorem tup_sole{ts:List G4}{k:Nat}{tp:Pos}{v:G4}{ln:Nat}{env:Env}:swapsWithSole [.Tuple ts k tp] v ln env=pure false:=by rcases v<;>rfl
theorem tup_swap{ts:List G4}{k:Nat}{tp:Pos}{v:G4}{env:Env}(h:kJ v=true):swappedStores [.Tuple ts k tp] v env=pure none:=by rcases v<;>first|rfl|exact absurd h G3
theorem st_unp(ks:List Nat){e:Mn.E}(ih:EvOk RX T P N O d e):StOk RX T P N O d w (.unp ks e):=by
 intro xs f lm sc tb X L H Q ρ E s Er m cm ex Gc hc nd F S he cg R Lk PO XR
 have hsh:∃ts kk p v q zs,xs=[.Assign [.Tuple ts kk p] v q]/\kJ v=true/\ZI v=true/\ya ts=some zs/\ksOk sc tb ks zs=true/\chkE N T.K lm sc tb e v=true:=by
  refine za (iOne hc) ?_;clear hc;intro x rq1 hc;subst rq1
  refine zF (iAsg hc) ?_;clear hc;intro ts v q rq3 hc;subst rq3
  refine za (iOne hc) ?_;clear hc;intro t e1 hc
  obtain rfl:ts=[t]:=e1
  refine zF (iTup hc) ?_;clear hc;intro ts kk p rq3 hc;subst rq3
  refine Zo (an4 hc) ?_;clear hc;intro h1 h2 h3 h4
  refine za (yf h3) ?_;clear h3;intro zs hz h3
  exact⟨ts,kk,p,v,q,zs,rfl,h1,h2,hz,h3,h4⟩
 refine xe6c6 (hsh) ?_;clear hsh;intro ts kk p v q zs rq6 h1 h2 h3 h4 h5;subst rq6
 rw[zL]
 refine Assign_Tuple (yO ih h5 F S he cg R Lk XR λu v' h' tk H' ρ' E' R' x' hv q' Lk' XR'=>?_) tup_sole (tup_swap h1)
 refine za (zp q') ?_;clear q';intro vs hvs q'
 refine za (zp q') ?_;clear q';intro uw hl q'
 exact Xq (s:={s with heap:=h',toks:=tk}) F S nd hvs h3 h4 hv hl cg R' Lk' λh2 tk2 m2 cm2 Gc2 cg2 R2 Lk2=>
  ⟨h2,tk2,m2,cm2,Gc2,.next,_,_,_,_,rfl,cg2,R2,x',Lk2,.next,q'⟩
theorem Jp{Uw Ux:Nat}{a b:Mn.E}{xs:List Gy}{lm:Bool}{sc:Scope}(hc:chkS N T.K lm sc tb (.unp2 Uw Ux a b) xs=true):∃x p y q k1 t1 v w k2 t2 ps,xs=[.Assign [.Tuple [.Name x p,.Name y q] k1 t1] (.Tuple [v,w] k2 t2) ps]/\Y3 v=true/\zP w=true/\Gg q.line p.line=true/\(!zQ x y)=true/\ksOk sc tb [Uw,Ux] [x,y]=true/\chkE N T.K lm sc tb a v=true/\chkE N T.K lm sc tb b w=true:=by
 refine za (iOne hc) ?_;clear hc;intro x rq1 hc;subst rq1
 refine zF (iAsg hc) ?_;clear hc;intro ts v q rq3 hc;subst rq3
 refine za (iOne hc) ?_;clear hc;intro t e1 hc
 obtain rfl:ts=[t]:=e1
 refine zF (iTup hc) ?_;clear hc;intro ts k1 t1 rq3 hc;subst rq3
 refine zl (iTwo hc) ?_;clear hc;intro x y rq2 hc;subst rq2
 refine zl (ZX hc) ?_;clear hc;intro x p rfl' hc
 refine zl (ZX hc) ?_;clear hc;intro y r rfl'' hc
 cases rfl'
 cases rfl''
 refine zF (iTup hc) ?_;clear hc;intro rs k2 t2 rfl' hc
 refine zl (iTwo hc) ?_;clear hc;intro v1 w1 rq2 hc;subst rq2
 cases rfl'
 exact⟨_,_,_,_,_,_,_,_,_,_,_,rfl,an7 hc⟩
theorem ZU{α:Type}{c:Prop}[Decidable c]{x y r:α}(h:¬c)(k:y=r):(if c then x else y)=r:=(if_neg h).trans k
theorem or_ff{a b:Bool}(h:a=false)(k:b=false):¬(a ||b)=true:=λq=>(Dg.mp q).elim (λe=>G3 (h.symm.trans e)) (λe=>G3 (k.symm.trans e))
theorem Yf{w:G4}(h:zP w=true):(λx:G4=>PySem.swappedStores.match_5 (λ_=>Bool) x (λ_ _=>true) λ_=>false) w=false:=by
 rcases w<;>first|rfl|exact absurd h G3
theorem sw_tail{names:List Str}{x y:Str}{vs:List G4}(n:names=[x,y])(hne:x≠y)(h3:vs.all (foldedForSure 8)=false)(h4:vs.all (constantsAlone 8)=false) :
  (if (names.length != 2 ||names.eraseDups.length != names.length)=true then pure none else if vs.all (foldedForSure 8)=true then pure none else if vs.all (constantsAlone 8)=true then (do let r ←(unsupported "assign.tuple-of-constant-expressions:order-of-the-stores":Sem PUnit);(λ_=>pure (some names)) r) else pure (some names):Sem (Option (List Str)))=pure (some [x,y]):=by
 subst n
 refine ZU (or_ff rfl ?_) (ZU (λq=>G3 (h3.symm.trans q)) (ZU (λq=>G3 (h4.symm.trans q)) rfl))
 rw[List.eraseDups_cons,List.filter_cons_of_pos (by rw[beq_false_of_ne (Ne.symm hne)];rfl)]
 rfl
theorem je{fe:Env}{x y:Str}{p q:Pos}{kk1 kk2:Nat}{t1 t2:Pos}{v w':G4}(hbk:fe.blockKind= .function) 
  (h0:zP v=true) (h3:foldedForSure 8 v=false) (h4:constantsAlone 8 v=false)
  (h2:zP w'=true) (hx:fe.kindOf x=some .local) (hy:fe.kindOf y=some .local) (hne:x≠y) (hl:q.line=p.line) :
  swappedStores [.Tuple [.Name x p,.Name y q] kk1 t1] (.Tuple [v,w'] kk2 t2) fe=pure (some [x,y]):=by
 unfold swappedStores
 refine ZU (or_ff rfl (by rw[hbk];rfl)) (ZU (or_ff (Yf h0) (Bool.eq_false_iff.mpr (or_ff (Yf h2) rfl))) ?_)
 refine sw_tail (vs:=[v,w']) ((List.filterMap_cons_some (b:=x) ?_).trans (congrArg (x::·) (List.filterMap_cons_some (b:=y) ?_))) hne (congrArg (· && _) h3) (congrArg (· && _) h4)
 ·show(if (fe.kindOf x==some NameKind.local && p.line==p.line)=true then some x else none)=some x
  rw[hx,beq_self_eq_true p.line];rfl
 ·show(if (fe.kindOf y==some NameKind.local && q.line==p.line)=true then some y else none)=some y
  rw[hy,hl,beq_self_eq_true p.line];rfl
theorem X7{v:G4}(h1:Y3 v=true):zP v=true:=(Dg.mp h1).elim (λe=>by rw[zP,Go e];rfl) (λe=>by rw[zP,Go e];rfl)
theorem jd{fe:Env}{x y:Str}{p q:Pos}{kk1 kk2:Nat}{t1 t2:Pos}{v w':G4}(hbk:fe.blockKind= .function)(h1:Y3 v=true)(h2:zP w'=true)(hx:fe.kindOf x=some .local)(hy:fe.kindOf y=some .local)(hne:x≠y)(hl:q.line=p.line) :
  swappedStores [.Tuple [.Name x p,.Name y q] kk1 t1] (.Tuple [v,w'] kk2 t2) fe=pure (some [x,y]):=by
 have key:zP v=true/\foldedForSure 8 v=false/\constantsAlone 8 v=false:=(Dg.mp h1).elim
  (λe=>Fp (motive_1:=λv=>zP v=true/\foldedForSure 8 v=false/\constantsAlone 8 v=false) v (Go e) λ_ _=>⟨rfl,rfl,rfl⟩)
  (λe=>Fo (motive_1:=λv=>zP v=true/\foldedForSure 8 v=false/\constantsAlone 8 v=false) v (Go e) λ_ _ _ _=>⟨rfl,rfl,rfl⟩)
 exact je hbk key.1 key.2.1 key.2.2 h2 hx hy hne hl
theorem st_unp2(Uw Ux:Nat){a b:Mn.E}(ia:EvOk RX T P N O d a)(ib:EvOk RX T P N O d b):StOk RX T P N O d w (.unp2 Uw Ux a b):=by
 intro xs f lm sc tb X L H Q ρ E s Er m cm ex Gc hc nd F S he cg R Lk PO XR
 obtain⟨x,p,y,q,kk1,t1,v,w',kk2,t2,ps,rfl,h1,h2,h3,h4,h5,h6,h7⟩:=Jp hc
 rw[zL]
 refine zC (an3 h5) ?_;clear h5;intro g1 g2 h5
 refine zC (an3 h5) ?_;clear h5;intro g3 g4 _
 have hne:x≠y:=λe=>by rw[e,eqStr_iff.mpr rfl] at h4;cases h4
 have hx:=S.loc x g2
 have hy:=S.loc y g4
 have hbk:f.fe.blockKind= .function:=by unfold Env.blockKind;rw[F.kd];rfl
 have hsw:=jd (kk1:=kk1) (kk2:=kk2) (t1:=t1) (t2:=t2) hbk h1 h2 hx hy hne (natE.mp h3)
 refine Assign_Tuple_swapped ?_ rfl hsw
 have CC:(f.cx m cm (ex++Gc)).Ok T d:=F.cx cg
 refine Tuple_ (args_cons (yO ia h6 F S he cg R Lk XR λu1 z1 h' tk H' ρ' E' R' x' hv q' Lk' XR'=>?_) (yX (X7 h1)))
 refine args_cons (yO (s:={s with heap:=h',toks:=tk}) ib h7 F S q' cg R' Lk' XR' λu2 z2 h2' tk2 H2 ρ2 E2 R2 x2 hv2 q2 Lk2 XR2=>?_) (yX h2)
 refine args_nil ?_
 refine za (R2.N) λtb' hb Nw=>?_
 refine newTuple_N (s:={s with heap:=h2',toks:=tk2}) R2.F Nw (λh3 F3 N3=>?_) (by rw[sizeLine_eq];simp)
 refine zf (R2.one hb F3 N3 (yD Nw)) λR3 x3=>?_
 have R3:(f.cx m cm (ex++Gc)).Rep T H2 ρ2 _ h3:=R3
 have ht:IsTup h3 h2'.objs.size [u1,u2].toArray:=by
  have q:=(N3 _ (G9 ..)).1
  exact⟨_,q,rfl,_,rfl⟩
 show wpAny _ _ (unpackItems (.ref h2'.objs.size) [u1,u2].toArray.size none) _ _ _
 refine unpackItems_tuple (s:={s with heap:=h3,toks:=tk2}) F.hh ht λh4 he4=>?_
 have R4:=Rep.toHeap R3 he4
 have R4:(f.cx m cm (ex++Gc)).Rep T H2 ρ2 _ h4:=R4
 show wpAny _ _ (assignInOrder [λv=>bindName f.fe y v,λv=>bindName f.fe x v] [u2,u1]) _ _ _
 have nk:Uw≠Ux:=λe=>by
  have:=yY g1;rw[e,yY g3] at this;cases this;exact hne rfl
 refine assignInOrder_cons (bindName_ (Z5 (s:={s with heap:=h4,toks:=tk2}) F cg R4 (Lk2.ext x3) (.inl hy) (yY g3) nd (hv2.ext x3) λh5 tk5 m5 cm5 Gc5 cg5 R5 Lk5=>?_))
 refine assignInOrder_cons (bindName_ (Z5 (s:={s with heap:=h5,toks:=tk5}) F cg5 R5 Lk5 (.inl hx) (yY g1) nd ((hv.ext x2).ext x3) λh6 tk6 m6 cm6 Gc6 cg6 R6 Lk6=>?_))
 refine assignInOrder_nil ?_
 refine⟨h6,tk6,m6,cm6,Gc6,.next,_,H2,ρ2,_,rfl,cg6,R6,(x'.trans x2).trans x3,?_,.next,q2⟩
 have:setL Ux z2 (setL Uw z1 L)=setL Uw z1 (setL Ux z2 L):=by
  unfold setL;rw[List.set_comm _ _ nk]
 rw[this];exact Lk6
end
section
variable {prog:Program} {w:World} {A:Around} {E:Value->Shared->Prop} {s:Shared}
theorem Zn{R:Result->Shared->Prop}{target:G4}{it:Value}{body:List Gy}{env:Env}(I:Nat->Shared->Prop)
  (turn:∀n s,I n s->wpAny (model prog w) A (pyNext it) (λr UN=>match r with
   |none=>R (.ok .next) UN
   |some v=>wpAny (model prog w) A (letOwnedTupleGo target it v) (λ_ UM=>wpAny (model prog w) A (assign target env v) (λ_ UO=>wpAny (model prog w) A (execs body env) (λf UP=>match f with
     |.next|.cont=>∃m,m < n/\I m UP
     |.brk=>R (.ok .next) UP
     |.ret v=>R (.ok (.ret v)) UP) (notedBy (model prog w) A env λe s'=>R (.error e) s') UO) (notedBy (model prog w) A env λe s'=>R (.error e) s') UM) (notedBy (model prog w) A env λe s'=>R (.error e) s') UN) (notedBy (model prog w) A env λe s'=>R (.error e) s') s)
  (n:Nat) (h:I n s):codeAny (model prog w) A (.forLoop target it body [] env) R s:=by
 refine codeAny_loop' rfl I (λn s hI=>?_) n h
 show wpAny _ _ ((forTurn target it body [] env).onRaise (λx=>do noteFrame x env;theTreesLotGoes x)) _ _ s
 refine wpAny_noted ?_
 simp only[forTurn]
 refine wpAny_bind (wpAny_standAt (wpAny_bind (wpAny_onRaise (wpAny_mono (turn n s hI) (λr UN h₁=>?_) λ_ _ h'=>wpAny_standAt h'))))
 induction r using Gq with
 |none=>exact wpAny_pure (.inr ⟨rfl,codeAny_block (wpAny_execs_nil h₁)⟩)
 |some v=>
  refine wpAny_bind (wpAny_mono h₁ (λ_ UM Un=>?_) λ_ _ h'=>h')
  refine wpAny_bind (wpAny_mono Un (λ_ UO Uq=>wpAny_bind (wpAny_mono Uq (λf UP Ur=>?_) λ_ _ h'=>h')) λ_ _ h'=>h')
  cases f with
  |next=>exact wpAny_pure (.inl ⟨rfl,Ur⟩)
  |cont=>exact wpAny_pure (.inl ⟨rfl,Ur⟩)
  |brk=>exact wpAny_pure Ur
  |ret v=>exact wpAny_pure Ur
end
section
variable {RX:RxT} {T:Tp} {P:Prg} {N:Nm} {O:Orc} {d w:Nat}
variable {f:Fm} {s:Shared} {ρ:Rn} {E:Lg} {H:Hp} {Er:Value->Shared->Prop} {m cm:Str->Option Value} {ex Gc:Lg} {tb:List Str} {L:Lc} {Q:KS}
noncomputable def AsOk(T:Tp)(f:Fm)(tb:List Str)(ks:List Nat)(one:Bool)(tg:G4):Prop:=
 ∀{v:V} {u:Value} {L uw:Lc} {m cm:Str->Option Value} {Gc ex:Lg} {ρ:Rn} {E:Lg} {H:Hp} {s:Shared} {Qu:Unit->Shared->Prop} {Er:Value->Shared->Prop},YF ks (zR one v) L=some uw->VR T E ρ v u->
  CG cm f.fe.cells Gc->(f.cx m cm (ex++Gc)).Rep T H ρ E s.heap->LOk T tb (f.cx m cm (ex++Gc)) E ρ L->
  (∀h' tk m' cm' Gc',CG cm' f.fe.cells Gc'->(f.cx m' cm' (ex++Gc')).Rep T H ρ E h'->LOk T tb (f.cx m' cm' (ex++Gc')) E ρ uw->Qu () {s with heap:=h',toks:=tk})->
  wpAny (model T.prog T.w) f.A (assign tg f.fe u) Qu Er s
theorem asOk_one{lm:Bool}{sc:Scope}{k:Nat}{x:Str}{p:Pos}(F:f.Ok T d)(S:FSc T lm sc f)(nd:tb.Nodup)(hk:ksOk sc tb [k] [x]=true):AsOk T f tb [k] true (.Name x p):=by
 intro v u L uw m cm Gc ex ρ E H s Qu Er hl hv cg R Lk h
 have hk:=an3 hk
 obtain rfl:=Ga hl
 exact wpAny_assign_Name (Z5 F cg R Lk (.inl (S.loc x hk.2.1)) (yY hk.1) nd hv h)
theorem asOk_tup{lm:Bool}{sc:Scope}{ks:List Nat}{es:List G4}{ts:List Str}{kk:Nat}{p:Pos}(F:f.Ok T d)(S:FSc T lm sc f)(nd:tb.Nodup)(hn:ya es=some ts)(hk:ksOk sc tb ks ts=true)(hne:ks≠[]):AsOk T f tb ks false (.Tuple es kk p):=by
 intro v u L uw m cm Gc ex ρ E H s Qu Er hl hv cg R Lk h
 have hz:∃us,v= .tup us:=by
  rcases v<;>first|exact⟨_,rfl⟩|(exfalso;simp only[zR] at hl;have:=Xv hl;exact hne (DL this))
 refine zh (hz) ?_;clear hz;intro us rq1;subst rq1
 exact Xq F S nd rfl hn hk hv hl cg R Lk h
inductive ForI (P:Prg) (O:Orc) (T:Tp) (f:Fm) (s:Shared) (ρ:Rn) (E:Lg) (X:Nat->Hp->Prop) (w:Nat) (b:S) (ks:List Nat) (one:Bool) (it:It) (tb:List Str) (ex:Lg) (I:Addr) (Q:KS) (n:Nat) (s':Shared):Prop
 |mk (h':Heap) (tk:Nat) (m' cm':Str->Option Value) (Gc':Lg) (L':Lc) (H':Hp) (ρ':Rn) (E':Lg) (j:Nat) (o:Obj):s'={s with heap:=h',toks:=tk}->CG cm' f.fe.cells Gc'->(f.cx m' cm' (((I,o)::ex)++Gc')).Rep T H' ρ' E' h'->Ext E ρ E' ρ'->
   LOk T tb (f.cx m' cm' (((I,o)::ex)++Gc')) E' ρ' L'->ItO T E' ρ' it j o->it.Sta H'->forL (Mn.ex P O X w b) ks one it (it.items.drop j) L' H' Q->j<=it.items.length->n=it.items.length+1 - j->ForI P O T f s ρ E X w b ks one it tb ex I Q n s'
theorem forL_ok{tg:G4}{one:Bool}{ks:List Nat}{it:It}{b:S}{body:List Gy}{lm:Bool}{sc:Scope}{X:Nat->Hp->Prop}{I:Addr}{o:Obj}{UN:Shared}{UB uS:Str->Option Value}{uc:Lg}{uw:Lc}{H₁:Hp}{ρ₁:Rn}{u5:Lg}{h₁:Heap}{tk₁:Nat}
  (ib:StOk RX T P N O d w b) (hb:chkS N T.K lm sc tb b body=true) (nd:tb.Nodup) (F:f.Ok T d) (S:FSc T lm sc f) (PO:PassesOwn (model T.prog T.w) f.A f.fe Er) (XR:XRf RX f s ρ E X Er) (hA:AsOk T f tb ks one tg)
  (uX:UN={s with heap:=h₁,toks:=tk₁}) (cg:CG uS f.fe.cells uc) (R:(f.cx UB uS (((I,o)::ex)++uc)).Rep T H₁ ρ₁ u5 h₁) (we:Ext E ρ u5 ρ₁) (Lk:LOk T tb (f.cx UB uS (((I,o)::ex)++uc)) u5 ρ₁ uw)
  (hi:ItO T u5 ρ₁ it 0 o) (st:it.Sta H₁) (he:forL (Mn.ex P O X w b) ks one it it.items uw H₁ Q) :
  codeAny (model T.prog T.w) f.A (.forLoop tg (.ref I) body [] f.fe) (λr s'=>match r with|.ok fl=>SPost T f s ρ E tb ex Q fl s'|.error e=>cameBackBy (model T.prog T.w) f.A f.fe Er e s') UN:=by
 refine Zn (ForI P O T f s ρ E X w b ks one it tb ex I Q) ?_ (it.items.length+1)
  ⟨h₁,tk₁,UB,uS,uc,uw,H₁,ρ₁,u5,0,o,uX,cg,R,we,Lk,hi,st,by simpa using he,D7 _,rfl⟩
 rintro n s' ⟨h',tk,m',cm',Gc',L',H',ρ',E',j,o',rfl,cg',R',x',Lk',hi',st',he',hj,rfl⟩
 have R':Mn.Rep T f.Un f.L m' ((I,o')::(ex++Gc')) H' ρ' E' h':=R'
 induction hd:it.items[j]? using Gq with
 |none=>
  refine Xb (s:={s with heap:=h',toks:=tk}) F.X F.hh R' hi' st' hd λUq uH=>?_
  have hdrop:it.items.drop j=[]:=Fa (List.getElem?_eq_none_iff.mp hd)
  rw[hdrop] at he'
  exact⟨Uq,tk,m',cm',Gc',.next,L',H',ρ',E',rfl,cg',uH,x',Lk',.next,he'⟩
 |some v=>
  have hlt:=(List.getElem?_eq_some_iff.mp hd).1
  have hdrop:it.items.drop j=v::it.items.drop (j+1):=by
   rw[DW hlt,(List.getElem?_eq_some_iff.mp hd).2]
  rw[hdrop] at he'
  refine za (zp he') ?_;clear he';intro ux hset he'
  refine Yn (s:={s with heap:=h',toks:=tk}) F.X R' hi' st' hd λUq UY UL u uH Ub hv=>?_
  refine za (id uH.N) λUU U7 uB=>?_
  refine zy (Ub.shape) λUF wb uV uW Ux=>?_
  refine X9 (uB (I,UL) (by simp)).1 uV uW Ux ?_
  have uH:(f.cx m' cm' (((I,UL)::ex)++Gc')).Rep T H' ρ' E' Uq:=uH
  refine hA (s:={s with heap:=Uq,toks:=UY}) hset hv cg' uH Lk' λUr UZ UC uT ud uQ uI uu=>?_
  refine wpAny_passesOwn PO ?_
  refine wpAny_mono (ib (s:={s with heap:=Ur,toks:=UZ}) hb nd F S he' uQ uI uu PO (XR.up x')) (λfl UQ p=>?_) λ_ _ e=>e
  obtain⟨Ut,w6,UD,uU,ue,fl',uy,ul,ρ₄,u7,rfl,uR,uJ,wh,Uz,fo,q⟩:=p
  cases fo with|next=>?_|brk=>?_|ret hr=>?_
  ·refine zf (gd_iff.mp q) ?_;clear q;intro g q
   exact⟨_,by exact om67 hlt,Ut,w6,UD,uU,ue,uy,ul,ρ₄,u7,j+1,UL,rfl,uR,uJ,x'.trans wh,Uz,Ub.ext wh,It.sta_of g,q,hlt,rfl⟩
  ·exact⟨Ut,w6,UD,uU,ue,.next,uy,ul,ρ₄,u7,rfl,uR,Rep.lessG (ex:=[(I,UL)]) uJ,x'.trans wh,Uz,.next,q⟩
  ·exact⟨Ut,w6,UD,uU,ue,.ret _,uy,ul,ρ₄,u7,rfl,uR,Rep.lessG (ex:=[(I,UL)]) uJ,x'.trans wh,Uz,.ret hr,q⟩
theorem for_ok{tg ix:G4}{one:Bool}{ks:List Nat}{e:Mn.E}{b:S}{body:List Gy}{pos:Pos}{lm:Bool}{sc:Scope}{X:Nat->Hp->Prop}
  (ih:EvOk RX T P N O d e) (ib:StOk RX T P N O d w b) (hs:yi ix=true) (hx:chkE N T.K lm sc tb e ix=true) (hb:chkS N T.K lm sc tb b body=true) (nd:tb.Nodup) (F:f.Ok T d) (S:FSc T lm sc f) (hA:AsOk T f tb ks one tg)
  (he:ev P O e X L H λu H₁=>ifS (zU u H₁) λit=>forL (Mn.ex P O X w b) ks one it it.items L H₁ Q)
  (cg:CG cm f.fe.cells Gc) (R:(f.cx m cm (ex++Gc)).Rep T H ρ E s.heap) (Lk:LOk T tb (f.cx m cm (ex++Gc)) E ρ L) (PO:PassesOwn (model T.prog T.w) f.A f.fe Er) (XR:XRf RX f s ρ E X Er) :
  wpAny (model T.prog T.w) f.A (exec (.For tg ix body [] pos) f.fe) (SPost T f s ρ E tb ex Q) Er s:=by
 refine wpAny_For (yO ih hx F S he cg R Lk XR λu v h' tk H' ρ' E' R' x' hv q Lk' XR'=>?_) (yC hs)
 refine za (zp q) ?_;clear q;intro it hit q
 ·refine Ym (c:=f.cx m cm (ex++Gc)) (s:={s with heap:=h',toks:=tk}) (F.cx cg) R' hv hit λo uH hi st hil=>?_
  have uH:(f.cx m cm (((h'.objs.size,o)::ex)++Gc)).Rep T H' ρ' E' (h'.push o):=uH
  exact forL_ok (h₁:=h'.push o) (tk₁:=tk) ib hb nd F S PO XR hA rfl cg uH x' Lk' hi st q
theorem st_for(k:Nat){e:Mn.E}{b:S}(ih:EvOk RX T P N O d e)(ib:StOk RX T P N O d w b):StOk RX T P N O d w (.for_ k e b):=by
 intro xs f lm sc tb X L H Q ρ E s Er m cm ex Gc hc nd F S he cg R Lk PO XR
 have hsh:∃x q it body p,xs=[.For (.Name x q) it body [] p]/\ksOk sc tb [k] [x]=true/\yi it=true/\chkE N T.K lm sc tb e it=true/\chkS N T.K lm sc tb b body=true:=by
  refine za (iOne hc) ?_;clear hc;intro x rq1 hc;subst rq1
  refine JS (iFor hc) ?_;clear hc;intro tg it body oe p rq5 hc;subst rq5
  refine zl (ZX hc) ?_;clear hc;intro x q e1 hc
  cases e1
  refine zf (an5 hc) ?_;clear hc;intro h1 hc
  replace h1:=zH h1
  cases h1
  exact⟨_,_,_,_,_,rfl,hc⟩
 refine YV (hsh) ?_;clear hsh;intro x q it body p rq5 h1 h2 h3 h4;subst rq5
 rw[zL]
 exact for_ok ih ib h2 h3 h4 nd F S (asOk_one F S nd h1) he cg R Lk PO XR
theorem st_forT(ks:List Nat){e:Mn.E}{b:S}(ih:EvOk RX T P N O d e)(ib:StOk RX T P N O d w b):StOk RX T P N O d w (.forT ks e b):=by
 intro xs f lm sc tb X L H Q ρ E s Er m cm ex Gc hc nd F S he cg R Lk PO XR
 have hsh:∃ts kk q it body p zs,xs=[.For (.Tuple ts kk q) it body [] p]/\none? ts=false/\ya ts=some zs/\ksOk sc tb ks zs=true/\yi it=true/\chkE N T.K lm sc tb e it=true/\chkS N T.K lm sc tb b body=true:=by
  refine za (iOne hc) ?_;clear hc;intro x rq1 hc;subst rq1
  refine JS (iFor hc) ?_;clear hc;intro tg it body oe p rq5 hc;subst rq5
  refine zF (iTup hc) ?_;clear hc;intro ts kk q e1 hc
  cases e1
  refine Zo (an6 hc) ?_;clear hc;intro h1 h2 h3 hc
  replace h1:=zH h1
  cases h1
  refine za (yf h3) ?_;clear h3;intro zs hz h3
  exact⟨_,_,_,_,_,_,zs,rfl,(Fb _).mp h2,hz,h3,hc⟩
 obtain⟨ts,kk,q,it,body,p,zs,rfl,hnn,hz,h1,h2,h3,h4⟩:=hsh
 rw[zL]
 have hne:ks≠[]:=λe=>by
  have l1:=jY h1
  induction ts using GV with
  |nil=>cases hnn
  |cons t ts=>
   refine Z9 (zT hz) λy q' ts' rq3 rq4 _=>?_;subst rq3;subst rq4
   rw[e] at l1;cases l1
 exact for_ok ih ib h2 h3 h4 nd F S (asOk_tup F S nd hz h1 hne) he cg R Lk PO XR
noncomputable def whT(P:Prg)(O:Orc)(X:Nat->Hp->Prop)(c:Mn.E):Lc->Hp->(Bool->Hp->Prop)->Prop:=λL H q=>ev P O c X L H λu H₁=>ifS (yu u H₁) λt=>q t H₁
inductive WhI (P:Prg) (O:Orc) (T:Tp) (f:Fm) (s:Shared) (ρ:Rn) (E:Lg) (X:Nat->Hp->Prop) (w:Nat) (c:Mn.E) (b:S) (tb:List Str) (ex:Lg) (Q:KS) (n:Nat) (s':Shared):Prop
 |mk (h':Heap) (tk:Nat) (m' cm':Str->Option Value) (Gc':Lg) (L':Lc) (H':Hp) (ρ':Rn) (E':Lg):s'={s with heap:=h',toks:=tk}->CG cm' f.fe.cells Gc'->(f.cx m' cm' (ex++Gc')).Rep T H' ρ' E' h'->Ext E ρ E' ρ'->
   LOk T tb (f.cx m' cm' (ex++Gc')) E' ρ' L'->Yb (whT P O X c) (Mn.ex P O X w b) n L' H' Q->WhI P O T f s ρ E X w c b tb ex Q n s'
theorem JV{c:Mn.E}{b:S}{t:G4}{body:List Gy}{lm:Bool}{sc:Scope}{X:Nat->Hp->Prop}{n:Nat}
  (ic:TrOk RX T P N O d c) (ib:StOk RX T P N O d w b) (hx:chkE N T.K lm sc tb c t=true) (hb:chkS N T.K lm sc tb b body=true) (nd:tb.Nodup) (F:f.Ok T d) (S:FSc T lm sc f) (PO:PassesOwn (model T.prog T.w) f.A f.fe Er) (XR:XRf RX f s ρ E X Er)
  (cg:CG cm f.fe.cells Gc) (R:(f.cx m cm (ex++Gc)).Rep T H ρ E s.heap) (Lk:LOk T tb (f.cx m cm (ex++Gc)) E ρ L)
  (he:Yb (whT P O X c) (Mn.ex P O X w b) n L H Q) :
  codeAny (model T.prog T.w) f.A (.whileLoop t body [] f.fe) (λr s'=>match r with|.ok fl=>SPost T f s ρ E tb ex Q fl s'|.error e=>cameBackBy (model T.prog T.w) f.A f.fe Er e s') s:=by
 refine codeAny_whileLoop (WhI P O T f s ρ E X w c b tb ex Q) ?_ n
  ⟨s.heap,s.toks,m,cm,Gc,L,H,ρ,E,rfl,cg,R,Ext.refl _ _,Lk,he⟩
 rintro n s' ⟨h',tk,m',cm',Gc',L',H',ρ',E',rfl,cg',R',x',Lk',he'⟩
 induction n using Nat.casesOn with
 |zero=>exact Do he'
 |succ n=>
  refine wpAny_passesOwn PO (trOk_f (s:={s with heap:=h',toks:=tk}) ic hx F S (Q:=λq H₁=>ite2 q (Mn.ex P O X w b L' H₁ λf ux uh=>flP f (Yb (whT P O X c) (Mn.ex P O X w b) n ux uh Q) (Q .next ux uh) λv=>Q (.ret v) ux uh) (Q .next L' H₁)) he' cg' R' Lk' (XR.up x') λq Uq UY uh ρ₂ u6 uH wg hq ut uN=>?_)
  induction q using GF with
  |false=>
   rw[if_neg G3]
   exact wpAny_execs_nil ⟨Uq,UY,m',cm',Gc',.next,L',uh,ρ₂,u6,rfl,cg',uH,x'.trans wg,ut,.next,hq⟩
  |true=>
   rw[if_pos rfl]
   refine wpAny_passesOwn PO (wpAny_mono (ib (s:={s with heap:=Uq,toks:=UY}) hb nd F S hq cg' uH ut PO uN) (λfl UP p=>?_) λ_ _ e=>e)
   obtain⟨Ut,w6,UD,uU,ue,fl',uy,ul,ρ₄,u7,rfl,uR,uJ,wh,Uz,fo,q⟩:=p
   cases fo with|next=>?_|brk=>?_|ret hr=>?_
   ·exact⟨n,D9 n,Ut,w6,UD,uU,ue,uy,ul,ρ₄,u7,rfl,uR,uJ,(x'.trans wg).trans wh,Uz,q⟩
   ·exact⟨Ut,w6,UD,uU,ue,.next,uy,ul,ρ₄,u7,rfl,uR,uJ,(x'.trans wg).trans wh,Uz,.next,q⟩
   ·exact⟨Ut,w6,UD,uU,ue,.ret _,uy,ul,ρ₄,u7,rfl,uR,uJ,(x'.trans wg).trans wh,Uz,.ret hr,q⟩
theorem st_whl{c:Mn.E}{b:S}(ic:TrOk RX T P N O d c)(ib:StOk RX T P N O d w b):StOk RX T P N O d w (.whl c b):=by
 intro xs f lm sc tb X L H Q ρ E s Er m cm ex Gc hc nd F S he cg R Lk PO XR
 have hsh:∃t body p,xs=[.While t body [] p]/\chkE N T.K lm sc tb c t=true/\chkS N T.K lm sc tb b body=true:=by
  refine za (iOne hc) ?_;clear hc;intro x rq1 hc;subst rq1
  refine yU (iWhl hc) ?_;clear hc;intro t body oe p rq4 hc;subst rq4
  refine zf (an3 hc) ?_;clear hc;intro h1 hc
  replace h1:=zH h1
  cases h1
  exact⟨_,_,_,rfl,hc⟩
 refine Z9 (hsh) ?_;clear hsh;intro t body p rq3 h1 h2;subst rq3
 rw[zL]
 exact wpAny_While (JV ic ib h1 h2 nd F S PO XR cg R Lk he)
theorem st_try(a:S)(k:Nat)(b:S):StOk RX T P N O d w (.try_ a k b):=by
 intro xs f lm sc tb X L H Q ρ E s Er m cm ex Gc hc nd F S he cg R Lk PO XR
 exact Do he
noncomputable def RaOk(RX:RxT)(T:Tp)(P:Prg)(N:Nm)(O:Orc)(d w:Nat):Prop:=∀e:Mn.E,EvOk RX T P N O d e->StOk RX T P N O d w (.raise e)
theorem st_ok(K:TpOk T P N)(hO:jH RX T O d)(hR:RaOk RX T P N O d w)(st:S):StOk RX T P N O d w st:=by
 induction st with
 |bad=>
  exact st_bad
 |nop=>
  exact st_nop
 |seq a b i_a i_b=>
  exact st_seq (i_a) (i_b)
 |ret e=>
  exact st_ret (zZ K hO e).ev
 |ex e=>
  exact st_ex (zZ K hO e).ev
 |set k e=>
  exact st_set k (zZ K hO e).ev (λelt iter cond n caps q=>⟨(zZ K hO iter).ev,(zZ K hO elt).ev,(zZ K hO cond).tr⟩) λelt e1 e2 q=>⟨(zZ K hO e1).ev,(zZ K hO e2).ev,(zZ K hO elt).ev⟩
 |setA a g e=>
  exact st_setA K g (zZ K hO a).ev (zZ K hO e).ev
 |setI a i e=>
  exact st_setI (zZ K hO a).ev (zZ K hO i).ev (zZ K hO e).ev
 |unp ks e=>
  exact st_unp ks (zZ K hO e).ev
 |unp2 Uw Ux a b=>
  exact st_unp2 Uw Ux (zZ K hO a).ev (zZ K hO b).ev
 |ifs c a b i_a i_b=>
  exact st_ifs (zZ K hO c).tr (i_a) (i_b)
 |whl c b i_b=>
  exact st_whl (zZ K hO c).tr (i_b)
 |for_ k e b i_b=>
  exact st_for k (zZ K hO e).ev (i_b)
 |forT ks e b i_b=>
  exact st_forT ks (zZ K hO e).ev (i_b)
 |brk=>
  exact st_brk
 |raise e=>
  exact hR e (zZ K hO e).ev
 |try_ a k b i_a i_b=>
  exact st_try a k b
end
theorem Jx:∀{names:List Str} {us:List Value} {i:Nat} {x:Str},names.Nodup->names[i]?=some x->(names.zip us).lookup x=us[i]?:=by
 intro names
 induction names with
 |nil=>exact λ_ h=>nn h
 |cons n names ih=>
  intro us i x nd h
  rcases us with _|⟨u,us⟩
  ·rw[List.zip_nil_right];exact List.getElem?_nil.symm
  ·rw[Dj,GI]
   rcases i with _|i
   ·rw[show n=x from Ga h,beq_self_eq_true];rfl
   ·have hm:x∈names:=List.mem_of_getElem? h
    rw[beq_false_of_ne λ(e:x=n)=>(Gr.mp nd).1 (e▸hm)]
    exact ih (Gr.mp nd).2 h
theorem Yj{names:List Str}{us:List Value}{x:Str}(h:x∉names):(names.zip us).lookup x=none:=by
 induction names generalizing us with
 |nil=>simp
 |cons n names ih=>
  induction us using GV with
  |nil=>simp
  |cons u us=>
   simp only[Gh,not_or] at h
   rw[Dj,GI,beq_false_of_ne h.1]
   exact ih h.2
theorem Zx:∀{names:List Str} {us:List Value} {sl:List (Str×Value)},names.length=us.length->(∀(i:Nat) (x:Str),names[i]?=some x->sl.lookup x=us[i]?)->names.filterMap (λn=>(sl.lookup n).map (n,·))=names.zip us
 |[],us,sl,_,_=>by simp
 |n::names,[],sl,h,_=>by simp at h
 |n::names,u::us,sl,hl,h=>by
  have h0:=h 0 n rfl
  simp only[List.getElem?_cons_zero] at h0
  rw[List.filterMap_cons,h0]
  simp only[DZ,Dj]
  rw[Zx (names:=names) (us:=us) (by simpa using hl) λi x hx=>by simpa using h (i+1) x (by simpa using hx)]
noncomputable def yn(b:List (Str×Value))(p:Str×Value):List (Str×Value):=if (b.lookup p.1).isNone then b++[p] else b
theorem Km:∀{ns:List Str} {ds:List Value} {sl:List (Str×Value)},(∀x∈ns,(sl.lookup x).isSome=true)->(ns.zip ds).foldl yn sl=sl:=by
 intro ns
 induction ns with
 |nil=>
  intro y9 y2 y3
  exact by simp
 |cons n ns ih=>
  intro xx sl h
  rcases xx with _|⟨d,ds⟩
  ·exact by simp
  ·have h0:=h n (G9 ..)
   rw[Dj,DO]
   have:yn sl (n,d)=sl:=by
    unfold yn
    rw[if_neg]
    induction e:sl.lookup n using Gq with
    |none=>rw[e] at h0;cases h0
    |some _=>simp
   rw[this]
   exact ih λx hx=>h x (Gd _ hx)
theorem zip_snoc{α β:Type}:∀{as:List α} {bs:List β} {a:α} {b:β},as.length=bs.length->(as++[a]).zip (bs++[b])=as.zip bs++[(a,b)]:=by
 intro as
 induction as with
 |nil=>
  intro xx y2 y3 h
  rcases xx with _|⟨_,_⟩
  ·exact rfl
  ·exact by simp at h
 |cons z0 as ih=>
  intro xx a b h
  rcases xx with _|⟨_,bs⟩
  ·exact by simp at h
  ·exact by simp only[Di,Dj];rw[ih (by simpa using h)]
theorem J9:∀{ns:List Str} {ds:List Value} {pre:List Str} {us:List Value},pre.length=us.length->(pre++ns).Nodup->ns.length=ds.length->(ns.zip ds).foldl yn (pre.zip us)=(pre++ns).zip (us++ds)
 |[],[],pre,us,_,_,_=>by simp
 |n::ns,d::ds,pre,us,hl,nd,hd=>by
  rw[Dj,DO]
  have hn:n∉pre:=λhm=>by
   have:=(Gu.mp nd).2.2 n hm n (G9 ..)
   exact this rfl
  have:yn (pre.zip us) (n,d)=(pre++[n]).zip (us++[d]):=by
   unfold yn
   rw[Yj hn,if_pos (by rfl),zip_snoc hl]
  rw[this]
  have:=J9 (ns:=ns) (ds:=ds) (pre:=pre++[n]) (us:=us++[d]) (by simp[hl]) (by simpa using nd) (by simpa using hd)
  simpa using this
 |[],_::_,_,_,_,_,h=>by simp at h
 |_::_,[],_,_,_,_,h=>by simp at h
theorem Xf:∀(l:List (Str×Value)) (b:List (Str×Value)),
  (forIn l b λx r=>if (Fq x.fst r).isNone=true then (pure (Dq (r++[(x.fst,x.snd)])):Sem (ForInStep (List (Str×Value)))) else pure (Dq r))=pure (l.foldl yn b):=by
 intro l
 induction l with
 |nil=>
  intro b
  exact rfl
 |cons hdp l ih=>
  intro b
  obtain⟨n,d⟩:=hdp
  rw[List.forIn_cons,DO]
  have ih:=ih (yn b (n,d))
  by_cases h:(Fq n b).isNone=true
  ·have e:yn b (n,d)=b++[(n,d)]:=by unfold yn;rw[if_pos h]
   simp only[h,if_true,pure_bind]
   rw[e] at ih;rw[e];exact ih
  ·have e:yn b (n,d)=b:=by unfold yn;rw[if_neg h]
   simp only[h,if_false,pure_bind,F5]
   rw[e] at ih;rw[e];exact ih
theorem Yi:∀{pre post:List Str} {us:List Value} {x:Str},x∈pre->pre.length<=us.length->(((pre++post).zip us).lookup x).isSome=true:=by
 intro pre
 induction pre with
 |nil=>
  intro y1 y9 y3 h y5
  exact nomatch h
 |cons n pre ih=>
  intro post xx x h hl
  rcases xx with _|⟨u,us⟩
  ·exact absurd hl (D3 _)
  ·rw[Di,Dj,GI]
   rcases e:x==n with _|_
   ·rcases Gh.mp h with q|q
    ·rw[q,beq_self_eq_true] at e;cases e
    ·exact ih q (De hl)
   ·rfl
inductive BpS (names:List Str) (us ds:List Value):Prop
 |mk (n1 n2 n3:List Str) (d1 d2:List Value):names=n1++(n2++n3)->ds=d1++d2->n1.length=names.length - ds.length->(n1++n2).length=us.length->n2.length=d1.length->n3.length=d2.length->d1.length=us.length+ds.length - names.length->BpS names us ds
theorem bp_split{names:List Str}{us ds:List Value}(h1:us.length<=names.length)(h2:names.length<=us.length+ds.length)(h3:ds.length<=names.length):BpS names us ds:=by
 have l1:(names.take (names.length - ds.length)).length=names.length - ds.length:=Fc (Nat.sub_le _ _)
 have l2:(ds.take (us.length+ds.length - names.length)).length=us.length+ds.length - names.length:=Fc (by clear l1;exact om68 h1)
 have l3:((names.drop (names.length - ds.length)).take (us.length+ds.length - names.length)).length=us.length+ds.length - names.length:=Fc (by rw[Dv];clear l1 l2;exact om69 h1 h3)
 refine⟨names.take (names.length - ds.length),(names.drop (names.length - ds.length)).take (us.length+ds.length - names.length),(names.drop (names.length - ds.length)).drop (us.length+ds.length - names.length),
  ds.take (us.length+ds.length - names.length),ds.drop (us.length+ds.length - names.length),?_,(DP _ _).symm,l1,?_,l3.trans l2.symm,?_,l2⟩
 ·rw[DP,DP]
 ·rw[G7,l1,l3];clear l1 l2 l3;exact om70 h2 h3
 ·rw[Dv,Dv,Dv];clear l1 l2 l3;exact om71 h3
theorem JR{as bs:List Str}{us:List Value}(h:as.length=us.length):(as++bs).zip us=as.zip us:=by
 have:=List.zip_append (l₁:=as) (r₁:=bs) (l₂:=us) (r₂:=[]) h
 rw[GH,List.zip_nil_right,GH] at this
 exact this
theorem bp_fold{names:List Str}{us ds:List Value}(nd:names.Nodup)(b:BpS names us ds) :
  (names.take (names.length - ds.length)).filter (λn=>((names.zip us).lookup n).isNone)=[]/\
  ((names.drop (names.length - ds.length)).zip ds).foldl yn (names.zip us)=names.zip (us++ds.drop (us.length+ds.length - names.length))/\
  names.length=(us++ds.drop (us.length+ds.length - names.length)).length:=by
 obtain⟨n1,n2,n3,d1,d2,e1,e2,l1,l2,l3,l4,l5⟩:=b
 have t1:names.take (names.length - ds.length)=n1:=by rw[←l1,e1];exact List.take_left
 have t2:names.drop (names.length - ds.length)=n2++n3:=by rw[←l1,e1];exact List.drop_left
 have t3:ds.drop (us.length+ds.length - names.length)=d2:=by rw[←l5,e2];exact List.drop_left
 have t4:names=(n1++n2)++n3:=by rw[e1,Gk]
 have hs:∀x∈n1++n2,((names.zip us).lookup x).isSome=true:=λx hx=>by
  rw[t4];exact Yi hx (FZ l2)
 refine⟨?_,?_,?_⟩
 ·rw[t1]
  refine List.filter_eq_nil_iff.mpr λx hx q=>?_
  have:=hs x (Ge _ hx)
  rw[Option.isNone_iff_eq_none.mp q] at this
  cases this
 ·rw[t2,t3,e2,List.zip_append l3,List.foldl_append,Km λx hx=>hs x (Gb _ hx),t4,JR l2]
  exact J9 l2 (t4▸nd) l4
 ·rw[t3,t4,G7,l2,l4,G7]
theorem Ya{α:Type}{M:Model}{A:Around}{c:Prop}[Decidable c]{x y:Sem α}{Q:α->Shared->Prop}{E:Value->Shared->Prop}{s:Shared}(h:¬c)(k:wpAny M A y Q E s):wpAny M A (if c then x else y) Q E s:=by
 rw[if_neg h];exact k
theorem JO{fd:FuncData}{ps:List Arg}{dl:List G4}{us ds:List Value}{s:Shared}(hp:fd.params=⟨[],ps,none,[],[],none,dl⟩)(nd:(ps.map (·.arg)).Nodup)(h1:us.length<=ps.length)(h2:ps.length<=us.length+ds.length)(h3:ds.length<=ps.length)
  (hd:∀{M:Model} {A:Around} {E:Value->Shared->Prop} {Q:Option (Array Value)->Shared->Prop},(∀r,(r.getD #[]).toList=ds->Q r s)->wpAny M A (seqItems? fd.defaults) Q E s) :
  BindsTo s fd ⟨us,[]⟩ ((ps.map (·.arg)).zip (us++ds.drop (us.length+ds.length - ps.length))):=by
 have e1:(ps.map (·.arg)).length=ps.length:=Gm _
 revert nd
 rw[←e1] at h1 h2 h3 ⊢
 intro nd M A E Q hQ
 obtain⟨e3,e4,e5⟩:=bp_fold nd (bp_split h1 h2 h3)
 unfold bindArgs
 rw[hp]
 refine yR (a:=((ps.map (·.arg)).zip us,[])) rfl ?_
 refine wpAny_bind (hd λr hr=>?_)
 subst hr
 refine Ya (λq=>absurd (of_decide_eq_true (an2 q).1) (DD.mpr h1)) (Ya ?_ (yR (a:=(ps.map (·.arg)).zip (us++(r.getD #[]).toList.drop (us.length+(r.getD #[]).toList.length - (ps.map (·.arg)).length))) ?_ ?_))
 ·simp only[F8,Ft];rw[Nat.sub_eq_zero_of_le h3,Fz,e3];exact G3
 ·simp only[F8,Ft];rw[Nat.sub_eq_zero_of_le h3,Fz,Xf,e4]
 ·dsimp only
  refine yR (a:=(_,[])) rfl ?_
  refine Ya G3 ?_
  simp only[F8,Ft,GH]
  rw[Zx e5 λi x hx=>Jx nd hx]
  exact wpAny_pure hQ
noncomputable def KJ:Value->Option Bool
 |.bool b=>some b
 |_=>none
noncomputable def intVal:Value->Option Int
 |.int i _=>some i
 |_=>none
noncomputable def strVal:Value->Option Str
 |.str s _=>some s
 |_=>none
noncomputable def jU:Value->Option Addr
 |.ref a=>some a
 |_=>none
noncomputable def jn:Value->Bool
 |.none=>true
 |_=>false
theorem iBoolVal{u:Value}{f:Bool->Bool}(h:oB (KJ u) f=true):∃b,u= .bool b/\f b=true:=by rcases u<;>first|exact absurd h G3|exact⟨_,rfl,h⟩
theorem iIntVal{u:Value}{f:Int->Bool}(h:oB (intVal u) f=true):∃b t,u= .int b t/\f b=true:=by rcases u<;>first|exact absurd h G3|exact⟨_,_,rfl,h⟩
theorem iStrVal{u:Value}{f:Str->Bool}(h:oB (strVal u) f=true):∃b t,u= .str b t/\f b=true:=by rcases u<;>first|exact absurd h G3|exact⟨_,_,rfl,h⟩
theorem Xd{u:Value}{f:Addr->Bool}(h:oB (jU u) f=true):∃b,u= .ref b/\f b=true:=by rcases u<;>first|exact absurd h G3|exact⟨_,rfl,h⟩
theorem J8{u:Value}(h:jn u=true):u= .none:=by rcases u<;>first|exact absurd h G3|rfl
noncomputable def dvF(v:V)(u:Value):Bool:=match v with
 |.none=>jn u
 |.bool a=>oB (KJ u) λb=>decide (a=b)
 |.int i=>oB (intVal u) λj=>decide (i=j)
 |.str s=>oB (strVal u) λx=>isS x s
 |_=>false
noncomputable def dvFs:List V->List Value->Bool
 |[],us=>none? us
 |v::vs,us=>oB (ht? us) λu=>dvF v u.1 && dvFs vs u.2
noncomputable def ko(K:Frag)(t:Addr):Option (String×List Value):=match K.lookup t with
 |some ⟨.type n,_,.seq us _,_⟩=>some (n,us.toList)
 |_=>none
theorem Xx{K:Frag}{t:Addr}{n:String}{us:List Value}(h:ko K t=some (n,us)):∃d k sl,K.lookup t=some ⟨.type n,d,.seq us.toArray k,sl⟩:=by
 have h:(match K.lookup t with|some ⟨.type n,_,.seq us _,_⟩=>some (n,us.toList)|_=>none)=some (n,us):=h
 induction e:K.lookup t using Gq with
 |none=>rw[e] at h;exact nn h
 |some o=>
  rw[e] at h
  obtain⟨oc,od,odt,osl⟩:=o
  rcases oc<;>first|exact nn h|skip
  rcases odt<;>first|exact nn h|skip
  cases h
  exact⟨_,_,_,rfl⟩
noncomputable def dvOk(K:Frag)(v:V)(u:Value):Bool:=match v with
 |.tup vs=>oB (jU u) λt=>oB (ko K t) λq=>q.1=="tuple" && dvFs vs q.2
 |v=>dvF v u
noncomputable def JG(K:Frag):List V->List Value->Bool
 |[],us=>none? us
 |v::vs,us=>oB (ht? us) λu=>dvOk K v u.1 && JG K vs u.2
noncomputable def Kv:List Str->List Str->Bool
 |[],ys=>none? ys
 |x::xs,ys=>oB (ht? ys) λy=>zQ x y.1 && Kv xs y.2
theorem JF:∀{xs ys:List Str},Kv xs ys=true->xs=ys:=by
 intro xs
 induction xs with
 |nil=>
  intro ys h
  exact(zH h).symm
 |cons x xs ih=>
  intro ys h
  refine zl (iHt h) ?_;clear h;intro y r rq2 h;subst rq2
  rw[eqStr_iff.mp (an2 h).1,ih (an2 h).2]
noncomputable def kz(ps:Arguments):Option (List Arg):=match none? ps.posonlyargs && ps.vararg.isNone && none? ps.kwonlyargs && none? ps.kw_defaults && ps.kwarg.isNone with
 |true=>some ps.args
 |false=>none
theorem Jt{ps:Arguments}{as:List Arg}(h:kz ps=some as):∃dl,ps=⟨[],as,none,[],[],none,dl⟩:=by
 obtain⟨b1,b2,b3,b4,b5,b6,b7⟩:=ps
 have h:(match none? b1 && b3.isNone && none? b4 && none? b5 && b6.isNone with|true=>some b2|false=>none)=some as:=h
 induction e:none? b1 && b3.isNone && none? b4 && none? b5 && b6.isNone using GF with
 |false=>rw[e] at h;exact nn h
 |true=>
  rw[e] at h
  refine j9 (an5 e) ?_;clear e;intro e1 e2 e3 e4 e5
  obtain rfl:=Ga h
  exact⟨b7,by rw[zH e1,Zs e2,zH e3,zH e4,Zs e5]⟩
noncomputable def parOk(ps:Arguments)(names:List Str):Bool:=oB (kz ps) λas=>Kv (as.map (·.arg)) names
noncomputable def dfOk(K:Frag)(n:Nat)(ds:List V)(dV:Value):Bool:=match none? ds with
 |true=>jn dV
 |false=>oB (jU dV) λt=>oB (ko K t) λq=>JG K ds q.2 && G8 ds.length n
noncomputable def lamHere(tabC:Addr)(lamQ:Str)(lm:Bool)(qual:Str)(cdv:Value):Bool:=match lm with
 |false=>true
 |true=>oB (jU cdv) (λc=>Gg c tabC) && zQ (qual++".<locals>."++"<lambda>") lamQ
noncomputable def fnChk(N:Nm)(K:Frag)(tabC:Addr)(lamQ:Str)(fn:Fn)(lm:Bool)(tb:List Str)(qual:Str)(params:Arguments)(body:List Gy)(scope:Scope)(dV cdv:Value):Bool:=
 codeIn K cdv qual && !scope.isCoroutine && !scope.isGenerator && J3 scope.kind && chkS N K lm scope tb fn.body body && YN tb &&
 parOk params (tb.take fn.n) && Gg tb.length fn.loc && G8 fn.n fn.loc && ((tb.take fn.n).all λx=>zw scope x .local ||zw scope x .cell) && YN ((cellsFrom 0 scope.names []).map (·.1)) &&
 dfOk K fn.n fn.dflt dV &&
 lamHere tabC lamQ lm qual cdv
inductive FnAt (T:Tp) (N:Nm) (fn:Fn) (a:Addr):Prop
 |mk (oc od osl name qual params body scope dV kV doc pm an cdv ct lm tb) (ho:T.K.lookup a=some ⟨oc,od,.func (fnOf name qual params body scope dV kV doc pm an cdv ct),osl⟩) (hc:fnChk N T.K T.tabC T.lamQ fn lm tb qual params body scope dV cdv=true):FnAt T N fn a
section
variable {T:Tp} {ρ:Rn} {E:Lg}
theorem dvF_vr{v:V}{u:Value}(h:dvF v u=true):VR T E ρ v u:=by
 induction v using V.casesOn with
 |none=>obtain rfl:=J8 h;exact .none
 |bool a=>replace h:=iBoolVal h;obtain⟨b,rfl,h⟩:=h;rw[of_decide_eq_true h];exact .bool _
 |int i=>replace h:=iIntVal h;obtain⟨b,t,rfl,h⟩:=h;rw[of_decide_eq_true h];exact .int _ _
 |str x=>replace h:=iStrVal h;obtain⟨b,t,rfl,h⟩:=h;replace h:=isS_iff.mp h;subst h;exact .str _ _
 |_=>exact absurd h G3
theorem dvFs_vr:∀{vs:List V} {us:List Value},dvFs vs us=true->VRs T E ρ vs us:=by
 intro vs
 induction vs with
 |nil=>
  intro us h
  exact by obtain rfl:=zH h;exact .nil
 |cons v vs ih=>
  intro us h
  refine zl (iHt h) ?_;clear h;intro u r rq2 h;subst rq2
  exact .cons (dvF_vr (an2 h).1) (ih (an2 h).2)
theorem dvOk_vr{v:V}{u:Value}(h:dvOk T.K v u=true):VR T E ρ v u:=by
 induction v using V.casesOn with
 |tup vs=>
  refine za (Xd h) ?_;clear h;intro t rq1 h;subst rq1
  obtain⟨⟨n,us⟩,e,h⟩:=yf h
  refine zf (an2 h) λh1 h2=>?_
  obtain rfl:n= "tuple":=eq_of_beq h1
  refine xe3c1 (Xx e) λd k sl hk=>?_
  exact .tup (.inr ⟨_,_,_,hk⟩) (dvFs_vr h2)
 |_=>exact dvF_vr h
theorem dvOks_vr:∀{vs:List V} {us:List Value},JG T.K vs us=true->VRs T E ρ vs us:=by
 intro vs
 induction vs with
 |nil=>
  intro us h
  exact by obtain rfl:=zH h;exact .nil
 |cons v vs ih=>
  intro us h
  refine zl (iHt h) ?_;clear h;intro u r rq2 h;subst rq2
  exact .cons (dvOk_vr (an2 h).1) (ih (an2 h).2)
theorem Kz{K:Frag}: ∀{vs:List V} {us:List Value},JG K vs us=true->vs.length=us.length:=by
 intro vs
 induction vs with
 |nil=>
  intro us h
  exact by obtain rfl:=zH h;rfl
 |cons v vs ih=>
  intro us h
  refine zl (iHt h) ?_;clear h;intro u r rq2 h;subst rq2
  exact congrArg (·+ 1) (ih (an2 h).2)
end
theorem KO{k:Str->Option NameKind}: ∀{bs:List (Str×Value)} {m:Str->Option Value} {x:Str},x∉bs.map (·.1)->bindL k bs m x=m x:=by
 intro bs
 induction bs with
 |nil=>
  intro y0 y1 y2
  exact rfl
 |cons hdp r ih=>
  intro m x h
  obtain⟨n,v⟩:=hdp
  simp only[GG,Gh,not_or] at h
  rw[bindL,ih h.2]
  split
  ·exact if_neg h.1
  ·rfl
theorem bindL_at{k:Str->Option NameKind}:∀{bs:List (Str×Value)} {m:Str->Option Value} {x:Str} {u:Value},(bs.map (·.1)).Nodup->(x,u)∈bs->k x=some .local->bindL k bs m x=some u:=by
 intro bs
 induction bs with
 |nil=>intro m x u nd h hk;exact absurd h GN
 |cons hdp r ih=>
  intro m x u nd h hk
  obtain⟨n,v⟩:=hdp
  rw[GG,Gr] at nd
  rw[bindL]
  rcases Gh.mp h with e|h
  ·cases e
   rw[KO nd.1,if_pos hk]
   exact if_pos rfl
  ·exact ih nd.2 h hk
theorem KP{k:Str->Option NameKind}: ∀{bs:List (Str×Value)} {m:Str->Option Value} {x:Str},x∉bs.map (·.1)->bindC k bs m x=m x:=by
 intro bs
 induction bs with
 |nil=>
  intro y0 y1 y2
  exact rfl
 |cons hdp r ih=>
  intro m x h
  obtain⟨n,v⟩:=hdp
  simp only[GG,Gh,not_or] at h
  rw[bindC,ih h.2]
  split
  ·rfl
  ·exact if_neg h.1
theorem bindC_at{k:Str->Option NameKind}:∀{bs:List (Str×Value)} {m:Str->Option Value} {x:Str} {u:Value},(bs.map (·.1)).Nodup->(x,u)∈bs->k x≠some .local->bindC k bs m x=some u:=by
 intro bs
 induction bs with
 |nil=>intro m x u nd h hk;exact absurd h GN
 |cons hdp r ih=>
  intro m x u nd h hk
  obtain⟨n,v⟩:=hdp
  rw[GG,Gr] at nd
  rw[bindC]
  rcases Gh.mp h with e|h
  ·cases e
   rw[KP nd.1,if_neg hk]
   exact if_pos rfl
  ·exact ih nd.2 h hk
theorem ZV:∀(names:List (Str×NameKind)) (n:Nat) (acc:List (Str×Addr)),(∀p∈acc,p.2 < n)->(acc.map (·.2)).Nodup->(∀p∈cellsFrom n names acc,p∈acc∨n<=p.2)/\((cellsFrom n names acc).map (·.2)).Nodup:=by
 intro names
 induction names with
 |nil=>
  intro n acc h nd
  exact⟨λp hp=>.inl hp,nd⟩
 |cons hdp r ih=>
  intro n acc h nd
  obtain⟨x,k⟩:=hdp
  unfold cellsFrom
  split
  ·obtain⟨h1,h2⟩:=ih (n+1) ((x,n)::acc) (λp hp=>by
    rcases Gh.mp hp with rfl|hp
    ·exact D9 _
    ·exact Dm (h p hp)) (by
    rw[GG,Gr]
    exact⟨λhm=>by
     refine za (D2.mp hm) λp hp e=>?_
     have:=h p hp
     rw[e] at this
     exact DE _ this,nd⟩)
   refine⟨λp hp=>?_,h2⟩
   rcases h1 p hp with q|q
   ·rcases Gh.mp q with rfl|q
    ·exact .inr (Gi _)
    ·exact .inl q
   ·exact .inr (Nat.le_of_succ_le q)
  ·exact ih n acc h nd
theorem ZB{cm:Str->Option Value}{cs:List (Str×Addr)}{cells:Lg}(h:CellsAre cm cs cells):cells.map (·.1)=cs.map (·.2)/\CG cm cs cells:=by
 induction h with
 |nil=>exact⟨rfl,.nil⟩
 |cons h _ ih=>exact⟨by simp[ih.1],.cons h ih.2⟩
set_option tactic.hygienic true in
theorem yM{cs:List (Str×Addr)}{x:Str}(h:(cs.lookup x).isSome=true):∃a,(x,a)∈cs:=by
 induction e:cs.lookup x using Gq with
 |none=>rw[e] at h;cases h
 |some a=>
  refine⟨a,?_⟩
  clear h
  induction cs with
  |nil=>simp at e
  |cons p r ih=>
   obtain⟨n,b⟩:=p
   rw[GI] at e
   split at e
   ·rename_i hx;cases e;rw[eq_of_beq hx];exact G9 ..
   ·exact Gd _ (ih e)
noncomputable def RX0:RxT:=λ_ _ _ _ _ _ _=>False
theorem XPost.no0{c:Cx}{s:Shared}{ρ:Rn}{E:Lg}{X:Nat->Hp->Prop}{e:Value}{s':Shared}:¬XPost RX0 c s ρ E X e s':=λ⟨_,_,_,_,_,_,_,_,_,r⟩=>r
section
variable {T:Tp} {P:Prg} {N:Nm} {O:Orc} {d w:Nat} {c:Cx} {s:Shared} {ρ:Rn} {E:Lg} {H:Hp} {Q:V->Hp->Prop} {X:Nat->Hp->Prop} {Er:Value->Shared->Prop}
noncomputable def callR(T:Tp)(c:Cx)(s:Shared)(ρ:Rn)(E:Lg)(Q:V->Hp->Prop)(Er:Value->Shared->Prop)(r:Result)(s':Shared):Prop:=match r with
 |.ok (.ret v)=>Post T c s ρ E Q v s'
 |.ok _=>False
 |.error e=>Er e s'
noncomputable def flVal(fl:Flow):Value:=match fl with|.ret v=>v|_=>.none
theorem JP{names:List Str}{vs:List V}{us:List Value}{kind:Str->Option NameKind}{i:Nat}{v:V}(nd:names.Nodup)(hn:names.length=us.length)(hv:VRs T E ρ vs us)(hi:vs[i]?=some v)
  (hk:∀x∈names,kind x=some .local∨kind x=some .cell):∃x u,names[i]?=some x/\(match kind x with|some .local=>bindL kind (names.zip us) (λ_=>none) x|some .cell=>bindC kind (names.zip us) (λ_=>none) x|_=>none)=some u/\VR T E ρ v u:=by
 refine za (hv.at hi) λu hu hr=>?_
 have hlt:i < names.length:=by rw[hn];exact(List.getElem?_eq_some_iff.mp hu).1
 have hx:names[i]?=some names[i]:=List.getElem?_eq_getElem hlt
 refine⟨names[i],u,hx,?_,hr⟩
 have hm:(names[i],u)∈names.zip us:=by
  refine List.mem_of_getElem? (i:=i) ?_
  rw[List.getElem?_zip_eq_some]
  exact⟨hx,hu⟩
 have hz:((names.zip us).map (·.1))=names:=List.map_fst_zip (om72 hn)
 have nd':((names.zip us).map (·.1)).Nodup:=by rw[hz];exact nd
 rcases hk _ (List.getElem_mem hlt) with q|q
 ·rw[q];exact bindL_at nd' hm q
 ·rw[q];exact bindC_at nd' hm (by rw[q];simp)
theorem kB{ps:Arguments}{names:List Str}(h:parOk ps names=true):∃as dl,ps=⟨[],as,none,[],[],none,dl⟩/\as.map (·.arg)=names:=by
 refine za (yf h) ?_;clear h;intro as e h
 refine zh (Jt e) ?_;clear e;intro dl e
 exact⟨as,dl,e,JF h⟩
theorem j4{f:Fn}{as:List V}{L:Lc}(h:bindA f as=some L):as.length<=f.n/\f.n<=as.length+f.dflt.length/\L=as++f.dflt.drop (as.length+f.dflt.length - f.n)++F6 (f.loc - f.n) .bad:=by
 have h:(match G8 as.length f.n,G8 f.n (as.length+f.dflt.length) with|true,true=>some (as++f.dflt.drop (as.length+f.dflt.length - f.n)++F6 (f.loc - f.n) V.bad)|_,_=>none)=some L:=h
 induction e1:G8 as.length f.n using GF with
 |false=>rw[e1] at h;exact nn h
 |true=>
  rw[e1] at h
  induction e2:G8 f.n (as.length+f.dflt.length) using GF with
  |false=>rw[e2] at h;exact nn h
  |true=>rw[e2] at h;exact⟨natB.mp e1,natB.mp e2,(Ga h).symm⟩
theorem dfOk_at{n:Nat}{ds:List V}{dV:Value}{h:Heap}{ρ:Rn}{E:Lg}(z:dfOk T.K n ds dV=true)(X:T.K.In h)(hn:ds.length<=n):∃us:List Value,VRs T E ρ ds us/\us.length<=n/\∀{M:Model} {A:Around} {E:Value->Shared->Prop} {Q:Option (Array Value)->Shared->Prop} {s:Shared},s.heap=h->(∀r,(r.getD #[]).toList=us->Q r s)->wpAny M A (seqItems? dV) Q E s:=by
 induction ds using GV with
 |nil=>
  obtain rfl:=J8 z
  exact⟨[],.nil,D7 _,λ_ h=>wpAny_pure (h none rfl)⟩
 |cons d ds=>
  obtain⟨t,rfl,z⟩:=Xd (f:=λt=>oB (ko T.K t) λq=>JG T.K (d::ds) q.2 && G8 (d::ds).length n) z
  obtain⟨⟨m,us⟩,e,z⟩:=yf z
  obtain⟨dd,k,sl,hk⟩:=Xx e
  obtain⟨z1,z2⟩:=an2 z
  have hl:(d::ds).length=us.length:=Kz z1
  refine⟨us,dvOks_vr z1,by rw[←hl];exact hn,λ{M A E' Q s} e h=>?_⟩
  exact wpAny_seqItems (s:=s) (show s.heap.get? t=some ⟨.type m,dd,.seq us.toArray k,sl⟩ by rw[e];exact X _ _ hk) rfl (h (some us.toArray) rfl)
theorem dfOk_len{n:Nat}{ds:List V}{dV:Value}(z:dfOk T.K n ds dV=true):ds.length<=n:=by
 induction ds using GV with
 |nil=>exact D7 _
 |cons d ds=>
  obtain⟨t,_,z⟩:=Xd (f:=λt=>oB (ko T.K t) λq=>JG T.K (d::ds) q.2 && G8 (d::ds).length n) z
  refine za (yf z) ?_;clear z;intro _ _ z
  exact natB.mp (an2 z).2
theorem rr_mem{α:Type}{E G C:List α}{t q:α}(h:q∈E++t::(G++C)):q∈C++(E++t::G):=
 (Gn.mp h).elim (λa=>Gb _ (Ge _ a)) λa=>(Gh.mp a).elim (λe=>Gb _ (Gb _ (e▸.head _))) λa=>
  (Gn.mp a).elim (λa=>Gb _ (Gb _ (.tail _ a))) (λa=>Ge _ a)
theorem rr_mem2{α:Type}{E G C:List α}{t q:α}(h:q∈E++t::G):q∈E++t::(G++C):=
 (Gn.mp h).elim (λa=>Ge _ a) λa=>(Gh.mp a).elim (λe=>Gb _ (e▸.head _)) λa=>Gb _ (.tail _ (Ge _ a))
theorem rr_low{cs:List (Str×Addr)}{L:Nat}(h:∀p∈cs,p∈([]:List (Str×Addr))∨L<=p.2):∀a∈cs.map (·.2),L<=a:=λa ha=>by
 obtain⟨q,hq,e⟩:=D2.mp ha
 exact e▸(h q hq).resolve_left GN
theorem rr_nd{E G C:Lg}{x:Addr}{o o':Obj}{L:Nat}{ks:List Addr}(nd:((E++(x,o)::G).map (·.1)).Nodup)(k:C.map (·.1)=ks)(kn:ks.Nodup)(kl:∀a∈ks,L+1<=a)(hl:∀p∈E++(x,o')::G,p.1 < L):((E++(x,o)::(G++C)).map (·.1)).Nodup:=by
 rw[show E++(x,o)::(G++C)=(E++(x,o)::G)++C from(Gk E ((x,o)::G) C).symm,Gw,k]
 refine Gu.mpr ⟨nd,kn,λa ha b hb e=>?_⟩
 subst e
 rw[show(E++(x,o)::G).map (·.1)=(E++(x,o')::G).map (·.1) by rw[Gw,Gw];rfl] at ha
 obtain⟨p,hp,e⟩:=D2.mp ha
 exact absurd (hl p hp) (DD.mpr (Nat.le_of_succ_le (e▸kl _ hb)))
theorem call_fn0{f:Nat}{fn:Fn}{a:Addr}{as:List V}{us:List Value}(FA:FnAt T N fn a)(hst:∀st,StOk RX0 T P N O d w st)(C:c.Ok T (d+1))(R:c.Rep T H ρ E s.heap)(hv:VRs T E ρ as us)(he:ZO P w O fn f as H Q X) :
  codeAny (model T.prog T.w) c.A (.call (.ref a) ⟨us,[]⟩) (callR T c s ρ E Q Er) s:=by
 obtain⟨oc,od,osl,name,qual,params,body,scope,dV,kV,doc,pm,an,cdv,ct,lm,tb,ho,hchk⟩:=FA
 refine YE (an6 hchk) ?_;clear hchk;intro hchk z9 z10 z11 z12 z13
 refine xe0c8 (an8 hchk) ?_;clear hchk;intro z1 z2 z3 z4 z5 z6 z7 z8
 have hk:scope.kind= .function:=ZN z4
 have hco:scope.isCoroutine=false:=(Fb _).mp z2
 have hgen:scope.isGenerator=false:=(Fb _).mp z3
 have ndt:=yL z6
 have z8:=natE.mp z8
 have z9:=natB.mp z9
 refine zl (kB z7) λaps dl hp hpn=>?_
 refine xe4c4 (C.B) λKY base outer env B hA hf hke=>?_
 refine j7 (C.top) λp loose mean mg mb top=>?_
 refine za (id R.N) λUS hb Nw=>?_
 refine za (zp he) ?_;clear he;intro uv hL he
 refine zC (j4 hL) ?_;clear hL;intro b1 b2 rq2;subst rq2
 have hnames:(tb.take fn.n).length=fn.n:=by rw[DU];exact om73 z8 z9
 have haps:aps.length=fn.n:=by rw[←hnames,←hpn,Gm]
 have hlen:=hv.length
 refine yQ (dfOk_at (ρ:=ρ) (E:=E) z12 (C.X.keeps R.F.keep) (dfOk_len z12)) λds hds hdl hseq=>?_
 rw[←haps] at hdl
 have hdsl:=hds.length
 have hbind:BindsTo s (fnOf name qual params body scope dV kV doc pm an cdv ct) ⟨us,[]⟩ ((tb.take fn.n).zip (us++ds.drop (us.length+ds.length - aps.length))):=by
  have:=JO (fd:=fnOf name qual params body scope dV kV doc pm an cdv ct) (us:=us) (ds:=ds) (s:=s) hp (by rw[hpn];exact F4 (List.take_sublist _ _) ndt) (om74 b1 haps hlen) (om75 b2 haps hlen hdsl) hdl (hseq rfl)
  rw[hpn] at this
  exact this
 have hvs:VRs T E ρ (as++fn.dflt.drop (as.length+fn.dflt.length - fn.n)) (us++ds.drop (us.length+ds.length - aps.length)):=by
  have e:as.length+fn.dflt.length - fn.n=us.length+ds.length - aps.length:=by exact om76 haps hlen hdsl
  rw[e]
  exact hv.append (hds.drop _)
 have hbl:(tb.take fn.n).length=(us++ds.drop (us.length+ds.length - aps.length)).length:=by
  rw[hnames,G7,Dv];exact om77 b1 b2 haps hlen hdsl
 have ndn:(tb.take fn.n).Nodup:=F4 (List.take_sublist _ _) ndt
 have hkinds:∀x∈tb.take fn.n,scope.names.lookup x=some .local∨scope.names.lookup x=some .cell:=λx hx=>by
  rcases Dg.mp (GA.mp z10 x hx) with q|q
  ·exact .inl (zt q)
  ·exact .inr (zt q)
 refine code_defC B R.F C.X Nw top hA hf hke ho z1 (by have:=C.dep;have:recursionLimit=1000:=rfl;exact on2 (by assumption) this) hbind ?_ (yL z11) (λg L' h₁ tk cells FG F' N' Y B' X' T' hlt=>?_) hco hgen hk
 ·rw[GA]
  intro y hy
  have:y.1∈tb.take fn.n:=(List.of_mem_zip hy).1
  rcases hkinds _ this with q|q<;>simp[q]
 generalize hus:us++ds.drop (us.length+ds.length - aps.length)=us' at *
 have hkd:∀x,(envOfC qual scope L' a cdv).kindOf x=scope.names.lookup x:=λx=>rfl
 refine zf (ZB Y) λcy1 cy2=>?_
 refine zf (ZV scope.names (L'+ 1) [] (by simp) (by simp)) λca1 ca2=>?_
 let fm:Fm:=⟨c.A.deeper (envOfC qual scope L' a cdv),envOfC qual scope L' a cdv,g,L'⟩
 have FO:fm.Ok T d:=
  {B:=⟨c.A,base,env::outer,envOfC qual scope L' a cdv,B',by show c.A.frames.map _=_;rw[hA];rfl,rfl,hk⟩
   kd:=hk
   gl:=rfl
   bi:=rfl
   X:=X'
   top:=⟨p,loose,mean,mg,mb,T'⟩
   tab:=C.tab.keeps FG.keep
   hh:=C.hh
   dep:=by have:=C.dep;show c.A.depth+1+4*d+8<=1000;exact om78 this
   un:=by have:=C.un;show c.A.units+3+16*d+200<=9900;exact om79 this
   scr:=by
    refine za (C.scr) λvs h1 h2=>?_
    refine za (h1) ?_;clear h1;intro o ho' r
    exact⟨vs,⟨o,FG.keep _ _ ho',r⟩,h2⟩
   loc:=rfl
   cel:=λx hx=>yM (cellsFrom_some _ _ _ (.inl hx))
   cnd:=by
    have:=yL z11
    rw[cellsFrom_names scope.names 0 (L'+ 1) [] [] rfl] at this
    exact this}
 have FS:FSc T lm scope fm:=
  {glob:=λx h=>zt h
   cell:=λx h=>zt h
   loc:=λx h=>zt h
   lam:=λh=>by
    subst h
    refine zf (an2 z13) λy1 y2=>?_
    refine za (Xd y1) ?_;clear y1;intro c' rq1 y1;subst rq1
    have e1:=natE.mp y1
    subst e1
    exact⟨qual,scope,a,_,rfl,eqStr_iff.mp y2⟩}
 have RR:(fm.cx (bindL (envOfC qual scope L' a cdv).kindOf ((tb.take fn.n).zip us') λ_=>none) (bindC (envOfC qual scope L' a cdv).kindOf ((tb.take fn.n).zip us') λ_=>none) (c.G++cells)).Rep T H ρ E h₁:=by
  exact⟨F',⟨US,hb,λq hq=>N' q (rr_mem hq)⟩,rr_nd R.nd cy1 ca2 (rr_low ca1) hlt,R.len,R.enc,R.ft⟩
 have LK:LOk T tb (fm.cx (bindL (envOfC qual scope L' a cdv).kindOf ((tb.take fn.n).zip us') λ_=>none) (bindC (envOfC qual scope L' a cdv).kindOf ((tb.take fn.n).zip us') λ_=>none) (c.G++cells)) E ρ (as++fn.dflt.drop (as.length+fn.dflt.length - fn.n)++F6 (fn.loc - fn.n) .bad):=by
  intro k v hkv hne
  by_cases hlt':k < (as++fn.dflt.drop (as.length+fn.dflt.length - fn.n)).length
  ·rw[List.getElem?_append_left hlt'] at hkv
   refine zy (JP (kind:=(envOfC qual scope L' a cdv).kindOf) ndn hbl hvs hkv hkinds) λx u h1 h2 h3=>?_
   refine⟨x,u,?_,h2,h3⟩
   rw[List.getElem?_take] at h1
   split at h1
   ·exact h1
   ·cases h1
  ·rw[List.getElem?_append_right (DD.mp hlt'),List.getElem?_replicate] at hkv
   split at hkv
   ·cases hkv;exact absurd rfl hne
   ·cases hkv
 refine wpAny_mono (hst fn.body (f:=fm) (s:={s with heap:=h₁,toks:=tk}) (Er:=λ_ _=>False) z5 ndt FO FS he cy2 RR LK PassesOwn.never (λ_ _ _ _ _ q=>XPost.no0 q)) (λfl s' q=>?_) λ_ _ e=>e.elim
 obtain⟨h',tk',m',cm',Gc',ub,ux,H',ρ',E',rfl,cg',uH,x',lk',fo,qq⟩:=q
 refine za (id uH.N) λUU U7 uB=>?_
 have hret:∃v,VR T E' ρ' v (flVal fl)/\Q v H':=by
  cases fo with
  |next=>exact⟨.none,.none,qq⟩
  |brk=>exact Do qq
  |ret hr=>exact⟨_,hr,qq⟩
 refine za (hret) ?_;clear hret;intro v hvr hQ
 refine leaveK_ uH.F (news':=E'++(T.tab,UU)::c.G) (λq hq=>uB q ?_) λua uz=>?_
 ·exact rr_mem2 hq
 ·refine⟨h',tk',v,H',ρ',E',rfl,⟨ua,⟨UU,U7,uz⟩,?_,uH.len,uH.enc,uH.ft⟩,x',hvr,hQ⟩
  have nd:=uH.nd
  refine F4 (List.Sublist.map _ ?_) nd
  exact(List.Sublist.refl _).append ((List.sublist_append_left _ _).cons_cons _)
end
structure FnsOk (T:Tp) (P:Prg) (N:Nm):Prop where
 fn:∀f a,T.fn f=some a->∃fn,P.fn f=some fn/\FnAt T N fn a
 cls:∀f C,T.cls f=some C->P.fn f=none/\∀i,P.cls f=some i->∃fI,T.fn i=some fI/\makesIn T.K C=true/\findIn T.K (.ref C) "__init__"= some (some (.ref fI))/\isFn T.K (.ref fI)=true
 lam:∃g,P.fn T.lamK=some ⟨1,[],1,.ret (.a (.l 0) g)⟩/\T.attr g=T.lamN/\P.frm T.lamK=false
 lamX:zQ T.lamX "__debug__"= false
 exc:∀f,P.exc f=false
section
variable {T:Tp} {P:Prg} {N:Nm} {O:Orc} {d w:Nat} {c:Cx} {s:Shared} {ρ:Rn} {E:Lg} {H:Hp} {Q:V->Hp->Prop} {X:Nat->Hp->Prop} {Er:Value->Shared->Prop}
noncomputable def OrcC(T:Tp)(O:Orc)(d:Nat):Prop:=∀(c:Cx) (f:Nat) (as:List V) (H:Hp) (Q:V->Hp->Prop) (X:Nat->Hp->Prop) (ρ:Rn) (E:Lg) (s:Shared) (us:List Value) (fv:Value) (Er:Value->Shared->Prop),
 c.Ok T d->O f as H Q X->c.Rep T H ρ E s.heap->VRs T E ρ as us->CalAt T E f fv->codeAny (model T.prog T.w) c.A (.call fv ⟨us,[]⟩) (callR T c s ρ E Q Er) s
theorem OrcC.ok(h:OrcC T O d):jH RX0 T O d:=λc f as H Q X ρ E s us fv Er C ho R hv hc _=>
 wpAny_call (codeAny_mono (h c f as H Q X ρ E s us fv Er C ho R hv hc) λ_ _ q=>q)
theorem ra_ok0(hX:∀f,P.exc f=false):RaOk RX0 T P N O d w:=by
 intro e ih xs f lm sc tb X L H Q ρ E s Er m cm ex Gc hc nd F S he cg R Lk PO XR
 have hsh:∃x p,xs=[.Raise (some x) none p]/\chkE N T.K lm sc tb e x=true:=by
  refine za (iOne hc) ?_;clear hc;intro x rq1 hc;subst rq1
  refine zF (iRaise hc) ?_;clear hc;intro a b p rq3 hc;subst rq3
  refine zf (an2 hc) ?_;clear hc;intro h1 h2
  obtain rfl:=Zs h1
  refine za (yf h2) ?_;clear h2;intro x e1 h2
  cases e1
  exact⟨_,_,rfl,h2⟩
 refine zl (hsh) ?_;clear hsh;intro x p rq2 h1;subst rq2
 rw[zL,arm_exec_Raise]
 have key:∀{Z:Value->Shared->Prop},wpAny (model T.prog T.w) f.A (eval x f.fe) Z Er s:=λ{Z}=>yO ih h1 F S he cg R Lk XR λu v h' tk H' ρ' E' R' x' hv q Lk' XR'=>by
  refine zy (atX_iff q) ?_;clear q;intro i c _ _ q
  rw[hX] at q
  exact absurd (gd_iff.mp q).1 G3
 show wpAny _ _ (do standAt p;raiseStmt f.fe (some (do let v ←eval x f.fe;standAt p;pure v)) none) _ _ _
 refine wpAny_bind (wpAny_standAt ?_)
 unfold raiseStmt
 exact wpAny_bind (wpAny_bind key)
theorem Y7{α β:Type}{x:Sem α}{a:α}{f:α->Sem β}{r:Sem β}(h:x=pure a)(k:f a=r):(x >>= f)=r:=by rw[h,pure_bind];exact k
theorem kP{ar:Arg}{name qual:Str}{body:G4}{csc:Scope}{pm ctv:Value}{c':Addr}{u:Value} :
  bindArgs (kla_fn name qual ⟨[],[ar],none,[],[],none,[]⟩ body csc [] pm (.ref c') ctv) ⟨[u],[]⟩=pure [(ar.arg,u)]:=by
 have lk:Fq ar.arg [(ar.arg,u)]=some u:=by rw[GI,beq_self_eq_true]
 unfold bindArgs
 refine Y7 (a:=([(ar.arg,u)],[])) rfl ?_
 refine Y7 (a:=none) rfl ?_
 refine ZU G3 (ZU ?_ (Y7 (a:=[(ar.arg,u)]) rfl ?_))
 ·show ¬(!(List.filter (λn=>(Fq n [(ar.arg,u)]).isNone) [ar.arg]).isEmpty)=true
  rw[List.filter_cons_of_neg (by rw[lk];exact G3)]
  exact G3
 ·refine Y7 (a:=(_,[])) rfl ?_
  refine ZU G3 ?_
  show pure (List.filterMap (λn=>(Fq n [(ar.arg,u)]).map (n,·)) [ar.arg])=_
  rw[List.filterMap_cons,lk]
  rfl
set_option tactic.hygienic true in
theorem call_lam{f:Nat}{a:Addr}{as:List V}{us:List Value}(K:TpOk T P N)(FO:FnsOk T P N)(hL:LamAt T E f a)(C:c.Ok T (d+1))(R:c.Rep T H ρ E s.heap)(hv:VRs T E ρ as us){fn:Fn}(hf:P.fn f=some fn)(he:ZO P w O fn f as H Q X) :
  codeAny (model T.prog T.w) c.A (.call (.ref a) ⟨us,[]⟩) (callR T c s ρ E Q Er) s:=by
 obtain⟨ar,p1,p2,csc,pm,c',ctv,oc,vs,t,rfl,hm,hx,hloc,hcell,hk,hco,hgen,hc1,hc2,hc3⟩:=hL
 refine yQ (FO.lam) λg g1 g2 g3=>?_
 rw[g1] at hf
 cases hf
 refine za (zp he) ?_;clear he;intro uv hL he
 refine zC (j4 hL) ?_;clear hL;intro b1 b2 rq2;subst rq2
 cases hv with
 |nil=>exact absurd b2 (D3 0)
 |@cons v u vs' us' hvv hvr=>
  cases hvr with
  |cons _ _=>exact absurd (De b1) (D3 _)
  |nil=>
   refine xe4c4 (C.B) λKY base outer env B hA hfr hke=>?_
   refine j7 (C.top) λp loose mean mg mb top=>?_
   refine za (id R.N) λUS hb Nw=>?_
   have hcr:s.heap.CodeRec (.ref c') T.lamQ:=⟨c',oc,vs,t,rfl,R.inNews hc1,hc2,hc3⟩
   refine kla_code (binds:=[(ar.arg,u)]) B R.F C.X Nw top hA hfr hke (Ge _ hm) hcr (by have:=C.dep;have:recursionLimit=1000:=rfl;exact on2 (by assumption) this) kP (by
    intro y hy
    simp only[GE] at hy
    subst hy;rw[hx];exact hloc) (λg' L' h₁ FG F' N' B' X' T'=>?_) hco hgen hk hcell
   have hcellN:∀x,csc.names.lookup x≠some .cell:=λx h=>hcell _ (yx h) rfl
   let cc:Cx:={A:=c.A.deeper (envX T.lamQ csc L' a (.ref c') []),fe:=envX T.lamQ csc L' a (.ref c') [],Un:=g',L:=L',m:=λy=>[(ar.arg,u)].reverse.lookup y,G:=c.G,nm:=λx=>match csc.names.lookup x with|some .local=>[(ar.arg,u)].reverse.lookup x|_=>none}
   have CO:cc.Ok T d:=
    {B:=⟨c.A,base,env::outer,envX T.lamQ csc L' a (.ref c') [],B',by show c.A.frames.map _=_;rw[hA];rfl,rfl,hk⟩
     kd:=hk
     gl:=rfl
     bi:=rfl
     X:=X'
     top:=⟨p,loose,mean,mg,mb,T'⟩
     tab:=C.tab.keeps FG.keep
     hh:=C.hh
     dep:=by have:=C.dep;show c.A.depth+1+4*d+8<=1000;exact om78 this
     un:=by have:=C.un;show c.A.units+3+16*d+200<=9900;exact om79 this
     scr:=by
      refine za (C.scr) λvs h1 h2=>?_
      refine za (h1) ?_;clear h1;intro o ho' r
      exact⟨vs,⟨o,FG.keep _ _ ho',r⟩,h2⟩
     look:=λx u' hu hd=>λ{prog wo A' s' Q' Er' pos} F N q=>by
      have hu:(match csc.names.lookup x with|some .local=>[(ar.arg,u)].reverse.lookup x|_=>none)=some u':=hu
      split at hu
      ·rename_i hx'
       exact wpAny_Name (wpAny_loadName_local (env:=envX T.lamQ csc L' a (.ref c') []) hk hx' F.ns hu q) hd
      ·cases hu
     cel:=λx hx'=>absurd hx' (hcellN x)}
   have SO:ScOk T false csc cc:=⟨λx h=>zt h,λx h=>absurd (zt h) (hcellN x),λh=>by cases h⟩
   have hl:zw csc T.lamX .local=true:=by
    unfold zw
    rw[XD] at hloc
    induction e:csc.names.find? (λp=>zQ p.1 T.lamX) using Gq with
    |none=>rw[e] at hloc;cases hloc
    |some q=>rw[e] at hloc;cases q with|mk a b=>cases hloc;rfl
   have chk:chkE N T.K false csc [T.lamX] (.a (.l 0) g) (.Attribute (.Name T.lamX p1) T.lamN p2)=true:=by
    show(zQ (N.attr g) T.lamN && true && (zQ T.lamX T.lamX && !zQ T.lamX "__debug__"))=true
    rw[K.nat,g2,eqStr_iff.mpr rfl,eqStr_iff.mpr rfl,FO.lamX];rfl
   have RR:cc.Rep T H ρ E h₁:=⟨F',⟨US,hb,N'⟩,R.nd,R.len,R.enc,R.ft⟩
   have LK:LOk T [T.lamX] cc E ρ [v]:=by
    intro k w hkw hne
    induction k using Nat.casesOn with
    |succ k=>simp at hkw
    |zero=>
     simp only[List.getElem?_cons_zero,Option.some.injEq] at hkw
     subst hkw
     refine⟨T.lamX,u,rfl,?_,hvv⟩
     show(match csc.names.lookup T.lamX with|some .local=>[(ar.arg,u)].reverse.lookup T.lamX|_=>none)=some u
     rw[hloc,←hx]
     simp[GI]
   have he':ev P O (.a (.l 0) g) X [v] H Q:=he
   refine wpAny_mono (ev_a (RX:=RX0) (d:=d) K g (ev_l 0) (c:=cc) (lm:=false) (s:={s with heap:=h₁,toks:=s.toks+1}) (Er:=λ_ _=>False) chk CO SO he' RR LK λ_ _ q=>XPost.no0 q) (λv' s' q=>?_) λ_ _ e=>e.elim
   obtain⟨h',tk',wd,H',ρ',E',rfl,uH,x',hv2,qq⟩:=q
   refine za (id uH.N) λUU U7 uB=>?_
   exact leaveK_ uH.F uB λua uz=>⟨h',tk',wd,H',ρ',E',rfl,⟨ua,⟨UU,U7,uz⟩,uH.nd,uH.len,uH.enc,uH.ft⟩,x',hv2,qq⟩
end
structure Sh (E:Lg) (ρ ρ':Rn) (E':Lg):Prop where
 k:∀(i:Nat) (p:Addr×Addr),ρ'[i]?=some p->(ρ++ρ')[ρ.length+i]?=some p
 f:∀p∈E,yT p.2=true->p∈E'
section
variable {T:Tp} {E E':Lg} {ρ ρ':Rn}
theorem shGo_map(k:Nat):∀vs:List V,shV.go k vs=vs.map (shV k):=by
 intro vs
 induction vs with
 |nil=>
  exact rfl
 |cons v vs ih=>
  exact by simp[shV.go,ih]
theorem VR.shift(x:Sh E ρ ρ' E'){v:V}{u:Value}(h:VR T E ρ' v u):VR T E' (ρ++ρ') (shV ρ.length v) u:=
 VR.rec (motive_1:=λv u _=>VR T E' (ρ++ρ') (shV ρ.length v) u) (motive_2:=λvs us _=>VRs T E' (ρ++ρ') (vs.map (shV ρ.length)) us) .none .bool .int .str (λh=>.obj (x.k _ _ h))
  (λ{vs us a} h _ r=>(congrArg (λz=>VR T E' (ρ++ρ') (.tup z) (.ref a)) (shGo_map ρ.length vs)).mpr (.tup (h.ext x.f) r)) (λh=>.fn (h.ext x.f)) (λh=>.rng (h.ext x.f)) .scr .nil (λ_ _ a r=>.cons a r) h
theorem VRs.shift(x:Sh E ρ ρ' E'){v:List V}{u:List Value}(h:VRs T E ρ' v u):VRs T E' (ρ++ρ') (v.map (shV ρ.length)) u:=
 h.ind (Pr:=λv u=>VRs T E' (ρ++ρ') (v.map (shV ρ.length)) u) .nil λa _ r=>.cons (a.shift x) r
theorem FRs.shift{κ:Type}{nm:κ->Str}(x:Sh E ρ ρ' E'){fs:List (κ×V)}{es:List DictEntry}(h:FRs T E ρ' nm fs es):FRs T E' (ρ++ρ') nm (fs.map λp=>(p.1,shV ρ.length p.2)) es:=
 FRs.rec (motive:=λfs es _=>FRs T E' (ρ++ρ') nm (fs.map λ(p:κ×V)=>(p.1,shV ρ.length p.2)) es) .nil (λh v _ r=>.cons h (v.shift x) r) h
theorem KVs.shift(x:Sh E ρ ρ' E'){fs:List (List Nat×V)}{es:List (Str×Value)}(h:KVs T E ρ' fs es):KVs T E' (ρ++ρ') (fs.map λp=>(p.1,shV ρ.length p.2)) es:=
 KVs.rec (motive:=λfs es _=>KVs T E' (ρ++ρ') (fs.map λ(p:List Nat×V)=>(p.1,shV ρ.length p.2)) es) .nil (λv _ r=>.cons (v.shift x) r) h
theorem foot1_sh(k:Nat)(o:O)(p:Addr×Addr):zS (shO k o) p=zS o p:=by rcases o<;>rfl
theorem foot_sh(k:Nat):∀(H:List O) (ρ:Rn),foot (H.map (shO k)) ρ=foot H ρ:=by
 intro H
 induction H with
 |nil=>
  intro y9
  exact rfl
 |cons o H ih=>
  intro xx
  rcases xx with _|⟨p,ρ⟩
  ·exact rfl
  ·show zS (shO k o) p++foot (H.map (shO k)) ρ=zS o p++foot H ρ
   rw[foot1_sh,ih ρ]
theorem foot_app:∀{H:List O} {ρ:Rn} {H':List O} {ρ':Rn},ρ.length=H.length->foot (H++H') (ρ++ρ')=foot H ρ++foot H' ρ':=by
 intro H
 induction H with
 |nil=>
  intro xx y2 y3 h
  rcases xx with _|⟨_,_⟩
  ·rfl
  ·exact by simp at h
 |cons o H ih=>
  intro xx H' ρ' h
  rcases xx with _|⟨p,ρ⟩
  ·exact by simp at h
  ·show zS o p++foot (H++H') (ρ++ρ')=(zS o p++foot H ρ)++foot H' ρ'
   rw[ih (by simpa using h),Gk]
theorem OAt.shift(x:Sh E ρ ρ' E'){a d:Addr}{o:O}(y:OAt T E ρ' a d o)(hm:∀b∈zS o (a,d),∀ob,(b,ob)∈E->(b,ob)∈E'):OAt T E' (ρ++ρ') a d (shO ρ.length o):=by
 induction o using O.casesOn with
 |list vs=>exact GK (λus=>GK λn h=>⟨hm a (.head _) _ h.1,h.2.1.shift x,by rw[Gm];exact h.2.2⟩) y
 |inst c fs=>
  refine GK (λC=>GK λes=>GK λn h=>⟨h.1,hm a (.head _) _ h.2.1,hm d (.tail _ (.head _)) _ h.2.2.1,h.2.2.2.1.shift x,by rw[Gm];exact h.2.2.2.2.1,λp hp=>?_⟩) y
  refine za (D2.mp hp) λq hq rq2=>?_;subst rq2
  exact h.2.2.2.2.2 q hq
 |exc c=>exact GK (λC=>GK λob=>GK λt h=>⟨h.1,hm a (.head _) _ h.2.1,h.2.2⟩) y
 |dict es=>exact GK (λo=>GK λkvs h=>⟨hm a (.head _) _ h.1,h.2.1,h.2.2.1.shift x,by rw[Gm];exact h.2.2.2.1,h.2.2.2.2⟩) y
theorem flat_vr{v:V}{u:Value}(h:VR T E ρ v u)(f:XM v=true){u5:Lg}{ρ₁:Rn}:VR T u5 ρ₁ v u:=by
 rcases h<;>first|exact .none|exact .bool _|exact .int _ _|exact .str _ _|exact absurd f G3
theorem flat_vrs{vs:List V}{us:List Value}(h:VRs T E ρ vs us)(f:vs.all XM=true){u5:Lg}{ρ₁:Rn}:VRs T u5 ρ₁ vs us:=
 h.ind (Pr:=λvs us=>vs.all XM=true->VRs T u5 ρ₁ vs us) (λ_=>.nil) (λh _ r f=>.cons (flat_vr h (Gs.mp f).1) (r (Gs.mp f).2)) f
end
section
variable {T:Tp} {c:Cx} {s:Shared} {ρ:Rn} {E:Lg} {H:Hp} {d:Nat}
theorem Rep.aside(R:c.Rep T H ρ E s.heap):∃u5 u6,E.Perm (u5++u6)/\(∀p∈u5,yT p.2=true/\p.1∉foot H ρ)/\(c.add u6).Rep T [] [] u5 s.heap:=by
 refine za (id R.N) λtb hb N=>?_
 have nd1:(E.map (·.1)).Nodup:=by
  have nd:=R.nd
  rw[Gw] at nd
  exact(Gu.mp nd).1
 have mk:∀u5 u6:Lg,E.Perm (u5++u6)->(TbOk T u5 tb)->(c.add u6).Rep T [] [] u5 s.heap:=λu5 u6 hp ht=>by
  have hperm:∀o:Obj,(E++(T.tab,o)::c.G).Perm (u5++(T.tab,o)::(u6++c.G)):=λo=>by
   refine(hp.append_right _).trans ?_
   rw[Gk]
   exact List.Perm.append_left _ (Da (l₁:=u6) (a:=(T.tab,o)) (l₂:=c.G))
  refine⟨R.F,⟨tb,ht,λp hm=>N p ((hperm tb).mem_iff.mpr hm)⟩,?_,rfl,λi o a d h=>by simp at h,.nil⟩
  exact(((hperm (tabObj #[])).map _).nodup_iff).mp R.nd
 obtain⟨ps,e,h|⟨c',oc,vs,t,h1,h2,h3,h4⟩⟩:=id hb
 ·exact⟨[],E,by simp,by simp,mk [] E (by simp) ⟨ps,e,.inl h⟩⟩
 ·refine Jo (List.append_of_mem h2) λA B rq2=>?_;subst rq2
  refine⟨[(c',oc)],A++B,Da,λp hp=>?_,mk [(c',oc)] (A++B) Da ⟨ps,e,.inr ⟨c',oc,vs,t,h1,G9 ..,h3,h4⟩⟩⟩
  simp only[GE] at hp
  subst hp
  refine⟨Z7 h3,λhm=>?_⟩
  refine jx hm ?_;intro i o p e1 e2 e3
  obtain⟨a,dd⟩:=p
  have y:=R.enc i o a dd e1 e2
  have same:∀ob,(c',ob)∈A++(c',oc)::B->ob=oc:=λob hob=>by
   have:=Yg nd1 hob h2 rfl
   exact(Prod.mk.inj this).2
  induction o using O.casesOn with
  |list vs=>
   refine zl (y) ?_;clear y;intro us n h1 _
   simp only[zS,GE] at e3;subst e3
   have:=same _ h1
   rw[←this] at h3;cases h3
  |inst c fs=>
   refine Zh (y) ?_;clear y;intro C es n _ h1 h2' _
   simp only[zS,Gh,GN,or_false] at e3
   rcases e3 with e3|e3
   ·subst e3
    have:=same _ h1
    rw[←this] at h3;cases h3
   ·subst e3
    have:=same _ h2'
    rw[←this] at h3;cases h3
  |exc c=>
   refine Zh (y) ?_;clear y;intro C ob t' _ h1 _ h2'
   simp only[zS,GE] at e3;subst e3
   have:=same _ h1
   rw[←this,h2'] at h3
   cases h3
   simp at h4
  |dict es=>
   refine zy (y) ?_;clear y;intro o' kvs h1 h2' _
   simp only[zS,GE] at e3;subst e3
   have:=same _ h1
   refine yQ (h2') ?_;clear h2';intro es' _ h5 _
   rw[←this,h5] at h3;cases h3
theorem Rep.back{H':Hp}{ρ':Rn}{u5 u6 E':Lg}{h':Heap}(R:c.Rep T H ρ E s.heap)(hp:E.Perm (u5++u6))(hf:∀p∈u5,yT p.2=true/\p.1∉foot H ρ)(R':(c.add u6).Rep T H' ρ' E' h')(x:Ext u5 [] E' ρ') :
  c.Rep T (H++H'.map (shO H.length)) (ρ++ρ') (E'++u6) h'/\Ext E ρ (E'++u6) (ρ++ρ')/\Sh E' ρ ρ' (E'++u6):=by
 refine za (id R'.N) λtb hb N=>?_
 have hall:∀p∈E,p∈E'++u6:=λp hpm=>by
  rcases Gn.mp (hp.mem_iff.mp hpm) with q|q
  ·exact Ge _ (x.fix p q (hf p q).1)
  ·exact Gb _ q
 have xE:Ext E ρ (E'++u6) (ρ++ρ'):=⟨λi p e=>by rw[List.getElem?_append_left (List.getElem?_eq_some_iff.mp e).1];exact e,λp hpm _=>hall p hpm⟩
 have hperm:∀o:Obj,(E'++(T.tab,o)::(u6++c.G)).Perm ((E'++u6)++(T.tab,o)::c.G):=λo=>by
  rw[Gk]
  exact List.Perm.append_left _ (Da (l₁:=u6) (a:=(T.tab,o)) (l₂:=c.G)).symm
 have sh:Sh E' ρ ρ' (E'++u6):=⟨λi p e=>by rw[List.getElem?_append_right (Gp _ _),Nat.add_sub_cancel_left];exact e,λp hpm _=>Ge _ hpm⟩
 have nd:(((E'++u6)++(T.tab,tabObj #[])::c.G).map (·.1)).Nodup:=(((hperm (tabObj #[])).map _).nodup_iff).mp R'.nd
 refine⟨⟨R'.F,⟨tb,hb.ext λp hpm _=>Ge _ hpm,λp hm=>N p ((hperm tb).mem_iff.mpr hm)⟩,nd,by simp[R.len,R'.len],λi o a dd h1 h2=>?_,?_⟩,xE,sh⟩
 ·by_cases hi:i < H.length
  ·rw[List.getElem?_append_left hi] at h1
   rw[List.getElem?_append_left (by rw[R.len];exact hi)] at h2
   exact(R.enc i o a dd h1 h2).mono xE λ_ _ _ hm=>hall _ hm
  ·have hi:=DD.mp hi
   rw[List.getElem?_append_right hi,List.getElem?_map] at h1
   rw[List.getElem?_append_right (by rw[R.len];exact hi),R.len] at h2
   refine za (GD.mp h1) λo' ho' rq2=>?_;subst rq2
   have:=(R'.enc (i - H.length) o' a dd ho' h2).shift sh λ_ _ _ hm=>Ge _ hm
   rw[R.len] at this
   exact this
 ·rw[foot_app R.len,foot_sh]
  refine Gu.mpr ⟨R.ft,R'.ft,?_⟩
  rintro b hb1 b' hb2 rfl
  refine zh (R.key b hb1) λob hob=>?_
  have h2:(b,ob)∈u6:=by
   rcases Gn.mp (hp.mem_iff.mp hob) with q|q
   ·exact absurd hb1 (hf _ q).2
   ·exact q
  refine jx hb2 ?_;intro i o p e1 e2 e3
  refine zh ((R'.enc i o p.1 p.2 e1 e2).keys b e3) λob' hob'=>?_
  rw[Gw,Gw] at nd
  have:=(Gu.mp (Gu.mp nd).1).2.2 b (GC (f:=(·.1)) hob') b (GC (f:=(·.1)) h2)
  exact this rfl
end
section
variable {T:Tp} {P:Prg} {N:Nm} {d w:Nat}
theorem under_tc(A:Around)(C:Addr)(us:List Value)(kw:List (Str×Value)):(A.under (.builtin "type.__call__" ⟨.ref C::us,kw⟩)).frames=A.frames/\(A.under (.builtin "type.__call__" ⟨.ref C::us,kw⟩)).handled=A.handled/\
  (A.under (.builtin "type.__call__" ⟨.ref C::us,kw⟩)).depth=A.depth+1/\(A.under (.builtin "type.__call__" ⟨.ref C::us,kw⟩)).units=A.units+1:=⟨rfl,rfl,rfl,rfl⟩
noncomputable def Ji(P:Prg)(w:Nat)(C:Orc):Orc:=λf as H Q X=>match P.fn f with
  |some fn=>ite2 (P.frm f)
    (gd (as.all XM) (ZO P w C fn f as [] (λv H'=>Q (shV H.length v) (H++H'.map (shO H.length))) λk H'=>X k (H++H'.map (shO H.length))))
    (ZO P w C fn f as H Q X)
  |none=>(match P.cls f with
   |some i=>C i (.obj H.length::as) (H++[.inst f []]) (λv H₁=>yJ v (Q (.obj H.length) H₁)) X
   |none=>gd (P.exc f && k8 as) (Q (.obj H.length) (H++[.exc f])))
theorem orc_ok(K:TpOk T P N)(FO:FnsOk T P N):∀(n d:Nat),n<=d->OrcC T (zc P w n) d:=by
 intro n
 induction n with
 |zero=>
  intro d y2
  intro c f as H Q X ρ E s us fv Er C ho R hv hc
  exact ho.elim
 |succ n ih=>
  intro d hd
  intro c f as H Q X ρ E s us fv Er C ho R hv hc
  obtain⟨d,rfl⟩:∃k,d=k+1:=⟨d - 1,by exact om80 hd⟩
  have hd:n<=d:=by exact om81 hd
  have ih:=ih d hd
  have hst:∀st,StOk RX0 T P N (zc P w n) d w st:=st_ok K ih.ok (ra_ok0 FO.exc)
  have body:∀{fn:Fn} {H:Hp} {Q:V->Hp->Prop} {X:Nat->Hp->Prop} {c:Cx} {ρ:Rn} {E:Lg},P.fn f=some fn->c.Ok T (d+1)->c.Rep T H ρ E s.heap->VRs T E ρ as us->((∃a,T.fn f=some a/\fv= .ref a)∨∃a,LamAt T E f a/\fv= .ref a)->ZO P w (zc P w n) fn f as H Q X->
    codeAny (model T.prog T.w) c.A (.call fv ⟨us,[]⟩) (callR T c s ρ E Q Er) s:=by
   intro fn H Q X c ρ E hf C R hv hc ho
   rcases hc with⟨a,h1,rfl⟩|⟨a,h1,rfl⟩
   ·refine za (FO.fn f a h1) λfn' e1 FA=>?_
    rw[hf] at e1;cases e1
    exact call_fn0 FA hst C R hv ho
   ·exact call_lam K FO h1 C R hv hf ho
  replace ho:Ji P w (zc P w n) f as H Q X:=ho
  unfold Ji at ho
  induction hf:P.fn f using Gq with
  |some fn=>
   rw[hf] at ho
   have hc':(∃a,T.fn f=some a/\fv= .ref a)∨∃a,LamAt T E f a/\fv= .ref a:=by
    rcases hc with h|⟨a,h1,h2⟩|h
    ·exact .inl h
    ·rw[(FO.cls f a h1).1] at hf;cases hf
    ·exact .inr h
   induction hfrm:P.frm f using GF with
   |true=>
    rw[hfrm] at ho
    refine zf (gd_iff.mp ho) ?_;clear ho;intro hflat ho
    refine zy (R.aside) λu5 u6 hp hfx uG=>?_
    have hc1:(∃a,T.fn f=some a/\fv= .ref a)∨∃a,LamAt T u5 f a/\fv= .ref a:=by
     rcases hc' with h|⟨a,h1,h2⟩
     ·exact .inl h
     ·refine yQ (FO.lam) λg g1 g2 g3=>?_
      obtain⟨ar,p1,p2,csc,pm,c',ctv,oc,vs,t,e,_⟩:=h1
      rw[e,g3] at hfrm;cases hfrm
    refine codeAny_mono (body (c:=c.add u6) hf (C.add u6) uG (flat_vrs hv hflat) hc1 ho) λr s' q=>?_
    cases r with
    |error e=>exact q
    |ok f=>
     cases f with
     |ret v=>
      obtain⟨h',tk,v',H',ρ',E',rfl,R',x',hv',qq⟩:=q
      refine zC (R.back hp hfx R' x') λR2 x2 sh=>?_
      have:=hv'.shift sh
      rw[R.len] at this
      exact⟨h',tk,_,_,_,_,rfl,R2,x2,this,qq⟩
     |_=>exact q
   |false=>rw[hfrm] at ho;exact body hf C R hv hc' ho
  |none=>
   rw[hf] at ho
   have hc':∃a,T.cls f=some a/\fv= .ref a:=by
    rcases hc with⟨a,h1,rfl⟩|h|⟨a,h1,rfl⟩
    ·refine za (FO.fn f a h1) λfn' e1 _=>?_
     rw[hf] at e1;cases e1
    ·exact h
    ·obtain⟨ar,p1,p2,csc,pm,c',ctv,oc,vs,t,e,_⟩:=h1
     refine za (FO.lam) λg g1 _=>?_
     rw[e,g1] at hf;cases hf
   refine za (hc') ?_;clear hc';intro KZ hcls rq2;subst rq2
   induction hi:P.cls f using Gq with
   |some i=>
    rw[hi] at ho
    refine j8 ((FO.cls f KZ hcls).2 i hi) λfI f1 f2 f3 f4=>?_
    refine za (id R.N) λUS hb Nw=>?_
    refine make_K R.F Nw (C.X.keeps R.F.keep) f2 f3 (beq_iff_eq.mp f4) λx dx h' F' N' l1 l2=>?_
    refine zC (R.newI hb hcls F' N' l1 l2) λR' x' hr=>?_
    refine Zo (under_tc c.A KZ us []) λu1 u2 u3 u4=>?_
    have C':({c with A:=c.A.under (.builtin "type.__call__" ⟨.ref KZ::us,[]⟩)}:Cx).Ok T d:=
     {B:=by
       refine xe4c3 (C.B) λKY base outer env h1 h2 h3=>?_
       exact⟨KY,base,outer,env,h1,u1.trans h2,h3⟩
      kd:=C.kd
      gl:=C.gl
      bi:=C.bi
      X:=C.X
      top:=C.top
      tab:=C.tab
      hh:=u2.trans C.hh
      dep:=by have:=C.dep;show(c.A.under _).depth+4*d+8<=1000;exact om82 u3 this
      un:=by have:=C.un;show(c.A.under _).units+16*d+200<=9900;exact om83 u4 this
      scr:=C.scr
      look:=λy u hu hd=>λF N q=>C.look y u hu hd F N q
      cel:=C.cel}
    have:=ih {c with A:=c.A.under (.builtin "type.__call__" ⟨.ref KZ::us,[]⟩)} i (.obj H.length::as) (H++[.inst f []]) _ X (ρ++[(x,dx)]) _ {s with heap:=h'} (.ref x::us) (.ref fI) Er C' ho R' (.cons (.obj hr) (hv.ext x')) (.inl ⟨fI,f1,rfl⟩)
    refine codeAny_mono this λr s' q=>?_
    cases r with
    |error e=>exact q
    |ok f=>
     cases f with
     |ret v=>
      obtain⟨h2,tk,v',H',ρ',E',rfl,R2,x2,hv',qq⟩:=q
      refine zf (Zr qq) ?_;clear qq;intro rq0 qq;subst rq0
      obtain rfl:=hv'.ofNone
      exact⟨rfl,h2,tk,_,H',ρ',E',rfl,R2,x'.trans x2,.obj (x2.pre _ _ hr),qq⟩
     |_=>exact q
   |none=>
    rw[hi,FO.exc f] at ho
    exact Do ho
end
inductive As where
 |nil
 |o (x:O) (r:As)
 |w (x:V) (r:As)
 |b (x:Bool) (r:As)
 |g (r:As)
 |h (x:Hp) (r:As)
 |c (v:V) (x:Hp) (r:As)
 |l (f:Fl) (L:Lc) (x:Hp) (r:As)
 |m (vs:List V) (x:Hp) (r:As)
 |u (x:List V) (r:As)
 |it (x:It) (r:As)
noncomputable def asO(as:As):Option (O×As):=match as with|.o x r=>some (x,r)|_=>none
noncomputable def asW(as:As):Option (V×As):=match as with|.w x r=>some (x,r)|_=>none
noncomputable def asB(as:As):Option (Bool×As):=match as with|.b x r=>some (x,r)|_=>none
noncomputable def asG(as:As):Option As:=match as with|.g r=>some r|_=>none
noncomputable def asH(as:As):Option (Hp×As):=match as with|.h x r=>some (x,r)|_=>none
noncomputable def asU(as:As):Option (List V×As):=match as with|.u x r=>some (x,r)|_=>none
noncomputable def asI(as:As):Option (It×As):=match as with|.it x r=>some (x,r)|_=>none
noncomputable def asC(as:As):Option (V×Hp×As):=match as with|.c v x r=>some (v,x,r)|_=>none
noncomputable def asL(as:As):Option (Fl×Lc×Hp×As):=match as with|.l f L x r=>some (f,L,x,r)|_=>none
noncomputable def asM(as:As):Option (List V×Hp×As):=match as with|.m v x r=>some (v,x,r)|_=>none
noncomputable def pop{α:Type}(d:As->Option (α×As))(as:As)(x:Option α)(k:α->As->Prop):Prop:=match d as with|some (y,r)=>x=some y/\k y r|none=>ifS x λy=>k y as
noncomputable def popE{α:Type}(d:As->Option (α×As))(as:As)(x:α)(k:α->As->Prop):Prop:=match d as with|some (y,r)=>x=y/\k y r|none=>k x as
noncomputable def popG(as:As)(b:Bool)(k:As->Prop):Prop:=match asG as with|some r=>b=true/\k r|none=>gd b (k as)
theorem ifK{α:Type}{o:Option α}{f g:α->Prop}(h:ifS o f)(k:∀a,f a->g a):ifS o g:=by
 rcases o with _|a
 ·exact h
 ·exact k a h
theorem yr{α:Type}{d:As->Option (α×As)}{as:As}{x:Option α}{k:α->As->Prop}{f:α->Prop}(h:pop d as x k)(g:∀y r,k y r->f y):ifS x f:=by
 refine(?_:(match d as with|some (y,r)=>x=some y/\k y r|none=>ifS x λy=>k y as)->ifS x f) h
 rcases d as with _|⟨y,r⟩
 ·exact λh=>ifK h λy=>g y as
 ·exact λh=>Yr h.1 (g _ _ h.2)
theorem yp{α:Type}{d:As->Option (α×As)}{as:As}{x:α}{k:α->As->Prop}{f:α->Prop}(h:popE d as x k)(g:∀y r,k y r->f y):f x:=by
 refine(?_:(match d as with|some (y,r)=>x=y/\k y r|none=>k x as)->f x) h
 rcases d as with _|⟨y,r⟩
 ·exact g _ _
 ·exact λh=>h.1▸g _ _ h.2
theorem yh{as:As}{b:Bool}{k:As->Prop}{p:Prop}(h:popG as b k)(g:∀r,k r->p):gd b p:=by
 refine(?_:(match asG as with|some r=>b=true/\k r|none=>gd b (k as))->gd b p) h
 rcases asG as with _|r
 ·exact λh=>gd_iff.mpr ⟨(gd_iff.mp h).1,g _ (gd_iff.mp h).2⟩
 ·exact λh=>gd_iff.mpr ⟨h.1,g _ h.2⟩
noncomputable def Call(C:Orc)(f:Nat)(as:List V)(H:Hp)(v:V)(H':Hp):Prop:=∀(Q:QV) (X:QX),Q v H'->C f as H Q X
noncomputable def YJ(elt:Lc->Hp->QV->Prop)(cond:Lc->Hp->(Bool->Hp->Prop)->Prop)(n:Nat)(cap:Lc)(it:It)(vs acc:List V)(H:Hp)(us:List V)(H':Hp):Prop:=∀Q:List V->Hp->Prop,Q us H'->Zm elt cond n cap it vs acc H Q
noncomputable def Jm(it:It)(e2 elt:Lc->Hp->QV->Prop)(vs acc:List V)(H:Hp)(us:List V)(H':Hp):Prop:=∀Q:List V->Hp->Prop,Q us H'->Zy it e2 elt vs acc H Q
noncomputable def trS(u:V)(H:Hp)(as:As)(k:Bool->As->Prop):Prop:=match kd u with
 |4=>objP u λi=>pop asO as H[i]? λo as=>listP o λvs=>k (match vs with|[]=>false|_=>true) as
 |_=>ifS (yu u H) λb=>k b as
theorem ZR{u:V}{H:Hp}{as:As}{k:Bool->As->Prop}{f:Bool->Prop}(h:trS u H as k)(g:∀y r,k y r->f y):ifS (yu u H) f:=by
 have rest:(ifS (yu u H) λb=>k b as)->ifS (yu u H) f:=λh=>ifK h λy=>g y as
 rcases u with _|_|_|_|i|_|_|_|_|_<;>try exact rest h
 have h:pop asO as H[i]? λo as=>listP o λvs=>k (match vs with|[]=>false|_=>true) as:=h
 refine Gf (zp (yr h (f:=λo=>∃vs,o= .list vs/\f (match vs with|[]=>false|_=>true)) λo r h=>?_)) λo h=>?_
 ·rcases o with _|vs|_|_<;>first|exact h.elim|exact⟨vs,rfl,g _ _ h⟩
 ·obtain⟨e,vs,rfl,h⟩:=h
  refine Yr (a:=match vs with|[]=>false|_=>true) ?_ h
  show(match H[i]? with|some (.list vs)=>some (match vs with|[]=>false|_=>true)|_=>none)=_
  rw[e]
noncomputable def atLS(v:V)(H:Hp)(as:As)(k:Nat->List V->As->Prop):Prop:=objP v λi=>pop asO as H[i]? λo as=>listP o λvs=>k i vs as
noncomputable def atDS(v:V)(H:Hp)(as:As)(k:Nat->List (List Nat×V)->As->Prop):Prop:=objP v λi=>pop asO as H[i]? λo as=>dictP o λvs=>k i vs as
noncomputable def atIS(v:V)(H:Hp)(as:As)(k:Nat->Nat->List (Nat×V)->As->Prop):Prop:=objP v λi=>pop asO as H[i]? λo as=>instP o λc fs=>k i c fs as
section
variable {v:V} {H:Hp} {as:As}
theorem intK{f g:Int->Prop}(h:intP v f)(k:∀a,f a->g a):intP v g:=by rcases v<;>first|exact h.elim|exact k _ h
theorem strK{f g:List Nat->Prop}(h:strP v f)(k:∀a,f a->g a):strP v g:=by rcases v<;>first|exact h.elim|exact k _ h
theorem tupK{f g:List V->Prop}(h:tupP v f)(k:∀a,f a->g a):tupP v g:=by rcases v<;>first|exact h.elim|exact k _ h
theorem fnK{f g:Nat->Prop}(h:fnP v f)(k:∀a,f a->g a):fnP v g:=by rcases v<;>first|exact h.elim|exact k _ h
theorem objK{f g:Nat->Prop}(h:objP v f)(k:∀a,f a->g a):objP v g:=by rcases v<;>first|exact h.elim|exact k _ h
theorem noneK{p q:Prop}(h:yJ v p)(k:p->q):yJ v q:=by rcases v<;>first|exact h.elim|exact k h
theorem natK{i:Int}{f g:Nat->Prop}(h:natP i f)(k:∀a,f a->g a):natP i g:=by rcases i<;>first|exact h.elim|exact k _ h
theorem gdK{b:Bool}{p q:Prop}(h:gd b p)(k:p->q):gd b q:=gd_iff.mpr ⟨(gd_iff.mp h).1,k (gd_iff.mp h).2⟩
theorem iteK{b:Bool}{p q p' q':Prop}(h:ite2 b p q)(k:p->p')(l:q->q'):ite2 b p' q':=by
 rcases b with _|_
 ·exact l h
 ·exact k h
theorem arg0K{as:List V}{p q:Prop}(h:arg0 as p)(k:p->q):arg0 as q:=by rcases as with _|⟨a,r⟩<;>first|exact h.elim|exact k h
theorem KV{as:List V}{f g:V->Prop}(h:arg1 as f)(k:∀a,f a->g a):arg1 as g:=by rcases as with _|⟨a,_|⟨b,r⟩⟩<;>first|exact h.elim|exact k _ h
theorem arg2K{as:List V}{f g:V->V->Prop}(h:arg2 as f)(k:∀a b,f a b->g a b):arg2 as g:=by rcases as with _|⟨a,_|⟨b,_|⟨c,r⟩⟩⟩<;>first|exact h.elim|exact k _ _ h
theorem yq{k:Nat->List V->As->Prop}{f:Nat->List V->Prop}(h:atLS v H as k)(g:∀i vs r,k i vs r->f i vs):atL v H f:=
 objK h λi h=>yr h λo r h=>by rcases o<;>first|exact h.elim|exact g _ _ _ h
theorem jG{k:Nat->List (List Nat×V)->As->Prop}{f:Nat->List (List Nat×V)->Prop}(h:atDS v H as k)(g:∀i vs r,k i vs r->f i vs):atD v H f:=
 objK h λi h=>yr h λo r h=>by rcases o<;>first|exact h.elim|exact g _ _ _ h
theorem jE{k:Nat->Nat->List (Nat×V)->As->Prop}{f:Nat->Nat->List (Nat×V)->Prop}(h:atIS v H as k)(g:∀i c fs r,k i c fs r->f i c fs):atI v H f:=
 objK h λi h=>yr h λo r h=>by rcases o<;>first|exact h.elim|exact g _ _ _ _ h
end
noncomputable abbrev QA:=V->Hp->As->Prop
noncomputable def addS(a b:V)(H:Hp)(as:As)(Q:QA):Prop:=match kd a with
 |2=>intP a λx=>intP b λy=>Q (.int (x+y)) H as
 |3=>strP a λx=>strP b λy=>popG as (G8 (x.length+y.length) 1000) (Q (.str (x++y)) H)
 |_=>atLS a H as λ_ x as=>atLS b H as λ_ y as=>popG as (G8 (x.length+y.length) 1000) (Q (.obj H.length) (H++[.list (x++y)]))
noncomputable def binopS(o:Op)(a b:V)(H:Hp)(as:As)(Q:QA):Prop:=match o with
 |.add=>addS a b H as Q
 |.sub=>intP a λx=>intP b λy=>Q (.int (x - y)) H as
 |.mul=>intP a λx=>intP b λy=>popG as (decide (x.natAbs < 1000000000/\y.natAbs < 1000000000)) (Q (.int (x*y)) H)
 |.fdiv=>intP a λx=>intP b λy=>popG as (decide (0 < y/\y < 1000000000)) (Q (.int (Ic x y)) H)
 |.mod=>intP a λx=>intP b λy=>popG as (decide (0 < y)) (Q (.int (Fk x y)) H)
noncomputable def idxS(a b:V)(H:Hp)(as:As)(Q:V->As->Prop):Prop:=match kd a with
 |5=>tupP a λvs=>intP b λi=>gd (G8 vs.length 1000) (pop asW as (atV vs i) Q)
 |3=>False
 |_=>(match kd b with
  |2=>intP b λi=>atLS a H as λ_ vs as=>pop asW as (atV vs i) Q
  |_=>strP b λs=>atDS a H as λ_ es as=>pop asW as (getD s es) Q)
noncomputable def sliceS(sc:List Int)(a lo hi:V)(H:Hp)(as:As)(Q:QA):Prop:=match kd a with
 |4=>atLS a H as λ_ vs as=>yJ lo (intP hi λh=>Q (.obj H.length) (H++[.list (vs.take (Yz vs.length h))]) as)
 |_=>slice sc a lo hi H λv H=>Q v H as
noncomputable def bfunS(b:Bf)(vs:List V)(H:Hp)(as:As)(Q:QA):Prop:=match b with
 |.len=>arg1 vs λa=>atLS a H as λ_ vs as=>Q (.int vs.length) H as
 |.str=>arg1 vs λa=>intP a λi=>popG as (Gz i.natAbs 1000000000) (Q (.str (zv i)) H)
 |.range=>arg1 vs λa=>intP a λi=>natP i λn=>popG as (G8 n 1000) (Q (.rng n) H)
 |b=>bfun b vs H λv H=>Q v H as
noncomputable def bmethS(b:Bm)(a:V)(ws:List V)(H:Hp)(as:As)(Q:QA):Prop:=match b with
 |.append=>atLS a H as λi vs as=>arg1 ws λv=>popG as (Gz vs.length 1000) λas=>popE asH as (H.set i (.list (vs++[v]))) (Q .none)
 |.extend=>atLS a H as λi vs as=>arg1 ws λx=>atLS x H as λ_ us as=>popG as (G8 (vs.length+us.length) 1000) λas=>popE asH as (H.set i (.list (vs++us))) (Q .none)
 |.pop=>atLS a H as λi vs as=>arg0 ws (popE asU as vs.reverse λus as=>(match us with|v::r=>popE asH as (H.set i (.list r.reverse)) (Q v)|[]=>False))
 |.get=>atDS a H as λ_ es as=>arg2 ws λk d=>strP k λk=>Q ((getD k es).getD d) H as
 |.insert=>atLS a H as λi vs as=>arg2 ws λk v=>intP k λk=>natP k λk=>popG as (Gz vs.length 1000 && G8 k 1000) λas=>popE asH as (H.set i (.list (vs.take k++v::vs.drop k))) (Q .none)
 |b=>jC b a ws H λv H=>Q v H as
section
variable {a b:V} {H:Hp} {as:As} {Q':QA} {Q:QV}
theorem addS_ok(h:addS a b H as Q')(k:∀v H as,Q' v H as->Q v H):addP a b H Q:=by
 have rest:(atLS a H as λ_ x as=>atLS b H as λ_ y as=>popG as (G8 (x.length+y.length) 1000) (Q' (.obj H.length) (H++[O.list (x++y)])))->atL a H λ_ x=>atL b H λ_ y=>gd (G8 (x.length+y.length) 1000) (Q (.obj H.length) (H++[O.list (x++y)])):=
  λh=>yq h λ_ _ _ h=>yq h λ_ _ _ h=>yh h λ_ h=>k _ _ _ h
 rcases a with _|_|x|x|_|_|_|_|_|_<;>try exact rest h
 ·exact intK (f:=λy=>Q' (.int (x+y)) H as) (g:=λy=>Q (.int (x+y)) H) h λ_=>k _ _ _
 ·exact strK (f:=λy=>popG as (G8 (x.length+y.length) 1000) (Q' (.str (x++y)) H)) (g:=λy=>gd (G8 (x.length+y.length) 1000) (Q (.str (x++y)) H)) h λ_ h=>yh h λ_=>k _ _ _
theorem KM{o:Op}(h:binopS o a b H as Q')(k:∀v H as,Q' v H as->Q v H):binop o a b H Q:=by
 rcases o
 ·exact addS_ok h k
 ·exact intK h λ_ h=>intK h λ_=>k _ _ _
 ·exact intK h λ_ h=>intK h λ_ h=>yh h λ_=>k _ _ _
 ·exact intK h λ_ h=>intK h λ_ h=>yh h λ_=>k _ _ _
 ·exact intK h λ_ h=>intK h λ_ h=>yh h λ_=>k _ _ _
theorem idxS_ok{R':V->As->Prop}{R:V->Prop}(h:idxS a b H as R')(k:∀v as,R' v as->R v):idx a b H R:=by
 have rest:(match kd b with|2=>intP b λi=>atLS a H as λ_ vs as=>pop asW as (atV vs i) R'|_=>strP b λs=>atDS a H as λ_ es as=>pop asW as (getD s es) R')->
   (match kd b with|2=>intP b λi=>atL a H λ_ vs=>ifS (atV vs i) R|_=>strP b λs=>atD a H λ_ es=>ifS (getD s es) R):=λh=>by
  rcases b with _|_|i|s|_|_|_|_|_|_<;>try exact Do h
  ·exact yq (k:=λ_ vs as=>pop asW as (atV vs i) R') (f:=λ_ vs=>ifS (atV vs i) R) h λ_ _ _ h=>yr h k
  ·exact jG (k:=λ_ vs as=>pop asW as (getD s vs) R') (f:=λ_ vs=>ifS (getD s vs) R) h λ_ _ _ h=>yr h k
 rcases a with _|_|_|x|_|vs|_|_|_|_<;>try exact rest h
 ·exact h.elim
 ·exact intK (f:=λi=>gd (G8 vs.length 1000) (pop asW as (atV vs i) R')) (g:=λi=>gd (G8 vs.length 1000) (ifS (atV vs i) R)) h λ_ h=>gdK h λh=>yr h k
theorem kf{sc:List Int}{lo hi:V}(h:sliceS sc a lo hi H as Q')(k:∀v H as,Q' v H as->Q v H):slice sc a lo hi H Q:=by
 have rest:(slice sc a lo hi H λv H=>Q' v H as)->slice sc a lo hi H Q:=λh=>zl (jP _ h) λv H h r=>r Q X0 (k _ _ _ h)
 rcases a with _|_|_|_|i|_|_|_|_|_<;>try exact rest h
 exact yq (v:=.obj i) (H:=H) (as:=as) (k:=λ_ vs as=>yJ lo (intP hi λh=>Q' (.obj H.length) (H++[O.list (vs.take (Yz vs.length h))]) as)) (f:=λ_ vs=>yJ lo (intP hi λh=>Q (.obj H.length) (H++[O.list (vs.take (Yz vs.length h))]))) h
  λ_ _ _ h=>noneK h λh=>intK h λ_=>k _ _ _
theorem bfunS_ok{b:Bf}{vs:List V}(h:bfunS b vs H as Q')(k:∀v H as,Q' v H as->Q v H):bfun b vs H Q:=by
 have rest:(bfun b vs H λv H=>Q' v H as)->bfun b vs H Q:=λh=>zl (KQ _ h) λv H h r=>r Q X0 (k _ _ _ h)
 rcases b<;>try exact rest h
 ·refine KV h λa h=>?_
  have h:atLS a H as λ_ vs as=>Q' (.int vs.length) H as:=h
  rcases a<;>first|exact h.elim|exact yq h λ_ _ _=>k _ _ _
 ·exact KV h λ_ h=>intK h λ_ h=>yh h λ_=>k _ _ _
 ·exact KV h λ_ h=>intK h λ_ h=>natK h λ_ h=>yh h λ_=>k _ _ _
theorem KL{b:Bm}{vs:List V}(h:bmethS b a vs H as Q')(k:∀v H as,Q' v H as->Q v H):jC b a vs H Q:=by
 have rest:(jC b a vs H λv H=>Q' v H as)->jC b a vs H Q:=λh=>zl (Jj _ h) λv H h r=>r Q X0 (k _ _ _ h)
 rcases b<;>try exact rest h
 ·exact yq h λi vs r h=>KV h λv h=>yh h λr h=>yp (f:=Q .none) h λ_ _=>k _ _ _
 ·exact yq h λi vs r h=>KV h λv h=>yq h λ_ _ _ h=>yh h λr h=>yp (f:=Q .none) h λ_ _=>k _ _ _
 ·refine yq h λi vs r h=>arg0K h λh=>yp (f:=λus=>match us with|v::r=>Q v (H.set i (.list r.reverse))|[]=>False) h λus r h=>?_
  rcases us with _|⟨u,us⟩
  ·exact h.elim
  ·exact yp (f:=Q u) h λ_ _=>k _ _ _
 ·exact yq h λi vs r h=>arg2K h λ_ v h=>intK h λ_ h=>natK h λ_ h=>yh h λr h=>yp (f:=Q .none) h λ_ _=>k _ _ _
 ·exact jG h λ_ _ _ h=>arg2K h λ_ _ h=>strK h λ_=>k _ _ _
end
noncomputable def popC(as:As)(C:Orc)(f:Nat)(vs:List V)(H:Hp)(k:QA):Prop:=match asC as with|some (v,H',r)=>Call C f vs H v H'/\k v H' r|none=>False
theorem jj{as:As}{C:Orc}{f:Nat}{vs:List V}{H:Hp}{k:QA}{Q:QV}{X:QX}(h:popC as C f vs H k)(g:∀v H as,k v H as->Q v H):C f vs H Q X:=by
 refine(?_:(match asC as with|some (v,H',r)=>Call C f vs H v H'/\k v H' r|none=>False)->C f vs H Q X) h
 rcases asC as with _|⟨v,H',r⟩
 ·exact Do
 ·exact λh=>h.1 Q X (g _ _ _ h.2)
noncomputable def popM(as:As)(R:List V->Hp->Prop)(k:QA):Prop:=match asM as with|some (vs,H',r)=>R vs H'/\popG r (G8 vs.length 1000) (k (.obj H'.length) (H'++[.list vs]))|none=>False
theorem ku{as:As}{R:List V->Hp->Prop}{k:QA}{Q:QV}(h:popM as R k)(g:∀v H as,k v H as->Q v H):∃vs H',R vs H'/\gd (G8 vs.length 1000) (Q (.obj H'.length) (H'++[.list vs])):=by
 refine(?_:(match asM as with|some (vs,H',r)=>R vs H'/\popG r (G8 vs.length 1000) (k (.obj H'.length) (H'++[.list vs]))|none=>False)->_) h
 rcases asM as with _|⟨v,H',r⟩
 ·exact Do
 ·exact λh=>⟨v,H',h.1,yh h.2 λ_=>g _ _ _⟩
section
variable (P:Prg) (C:Orc)
noncomputable def evS:E->Lc->Hp->As->QA->Prop
 |.bad,_,_,_,_=>False
 |.c v,_,H,as,Q=>Q v H as
 |.l k,L,H,as,Q=>ifS (locO L k) λv=>Q v H as
 |.g _ v,_,H,as,Q=>Q v H as
 |.a e f,L,H,as,Q=>evS e L H as λv H₁ as=>atIS v H₁ as λ_ c fs as=>gd (P.att c f) (pop asW as (getF f fs) λu as=>Q u H₁ as)
 |.bin o a b,L,H,as,Q=>evS a L H as λu H₁ as=>evS b L H₁ as λv uh as=>binopS o u v uh as Q
 |.cmp o a b,L,H,as,Q=>evS a L H as λu H₁ as=>evS b L H₁ as λv uh as=>pop asB as (zW o u v uh) λr as=>Q (.bool r) uh as
 |.cmp2 o p a b c,L,H,as,Q=>evS a L H as λu H₁ as=>evS b L H₁ as λv uh as=>pop asB as (zW o u v uh) λt as=>ite2 t
   (evS c L uh as λw uk as=>pop asB as (zW p v w uk) λr as=>Q (.bool r) uk as) (Q (.bool false) uh as)
 |.not a,L,H,as,Q=>evS a L H as λu H₁ as=>trS u H₁ as λb as=>Q (.bool (!b)) H₁ as
 |.and a b,L,H,as,Q=>evS a L H as λu H₁ as=>trS u H₁ as λt as=>popE asB as t λt as=>ite2 t (evS b L H₁ as Q) (Q u H₁ as)
 |.or a b,L,H,as,Q=>evS a L H as λu H₁ as=>trS u H₁ as λt as=>popE asB as t λt as=>ite2 t (Q u H₁ as) (evS b L H₁ as Q)
 |.ifx c a b,L,H,as,Q=>evS c L H as λu H₁ as=>trS u H₁ as λt as=>popE asB as t λt as=>ite2 t (evS a L H₁ as Q) (evS b L H₁ as Q)
 |.call f es,L,H,as,Q=>evS es L H as λv H₁ as=>tupP v λvs=>popC as C f vs H₁ Q
 |.bf b es,L,H,as,Q=>evS es L H as λv H₁ as=>tupP v λvs=>bfunS b vs H₁ as Q
 |.meth a m es,L,H,as,Q=>evS a L H as λu H₁ as=>atIS u H₁ as λ_ c _ as=>ifS (P.meth c m) λf=>evS es L H₁ as λv uh as=>tupP v λvs=>popC as C f (u::vs) uh Q
 |.bm b a es,L,H,as,Q=>evS a L H as λu H₁ as=>popG as (YT b u H₁) λas=>evS es L H₁ as λv uh as=>tupP v λvs=>bmethS b u vs uh as Q
 |.callv f es,L,H,as,Q=>evS f L H as λu H₁ as=>fnP u λk=>evS es L H₁ as λv uh as=>tupP v λvs=>popC as C k vs uh Q
 |.idx a b,L,H,as,Q=>evS a L H as λu H₁ as=>evS b L H₁ as λv uh as=>idxS u v uh as λw as=>Q w uh as
 |.slice a lo hi,L,H,as,Q=>evS a L H as λu H₁ as=>evS lo L H₁ as λv uh as=>evS hi L uh as λw uk as=>sliceS P.scr u v w uk as Q
 |.rev a,L,H,as,Q=>evS a L H as λu H₁ as=>atLS u H₁ as λ_ vs as=>Q (.obj H₁.length) (H₁++[.list vs.reverse]) as
 |.tup es,L,H,as,Q=>evS es L H as Q
 |.lst es,L,H,as,Q=>evS es L H as λv H₁ as=>tupP v λvs=>gd (G8 vs.length 1000) (Q (.obj H₁.length) (H₁++[.list vs]) as)
 |.dct es,L,H,as,Q=>evS es L H as λv H₁ as=>tupP v λvs=>gd (ZF vs) (Q (.obj H₁.length) (H₁++[.dict (Ju [] vs)]) as)
 |.comp elt iter cond n caps,L,H,as,Q=>evS iter L H as λu H₁ as=>pop asI as (zU u H₁) λit as=>popM as
   (YJ (ev P C elt X0) (λl H q=>ev P C cond X0 l H λv H'=>ifS (yu v H') λb=>q b H') n (caps.map λk=>(L[k]?).getD .bad) it it.items [] H₁) Q
 |.comp2 elt i1 i2,L,H,as,Q=>evS i1 L H as λu H₁ as=>pop asI as (zU u H₁) λit as=>popM as (Jm it (ev P C i2 X0) (ev P C elt X0) it.items [] H₁) Q
 |.lam k,_,H,as,Q=>Q (.fn k) H as
 |.nil,_,H,as,Q=>Q (.tup []) H as
 |.cons a b,L,H,as,Q=>evS a L H as λu H₁ as=>evS b L H₁ as λv uh as=>tupP v λvs=>Q (.tup (u::vs)) uh as
noncomputable def EvI(e:E):Prop:=∀{L:Lc} {H:Hp} {as:As} {Q':QA} {Q:QV} {X:QX},evS P C e L H as Q'->(∀v H as,Q' v H as->Q v H)->ev P C e X L H Q
theorem yk(e:E):EvI P C e:=by
 induction e with
 |bad=>
  intro L H as Q' Q X h k
  exact h
 |c z0=>
  intro L H as Q' Q X h k
  exact k _ _ _ h
 |l z0=>
  intro L H as Q' Q X h k
  exact ifK h λ_=>k _ _ _
 |g z0 z1=>
  intro L H as Q' Q X h k
  exact k _ _ _ h
 |a e z1 i_e=>
  intro L H as Q' Q X h k
  exact i_e h λ_ _ _ h=>jE h λ_ _ _ _ h=>gdK h λh=>yr h λ_ _=>k _ _ _
 |bin z0 a b i_a i_b=>
  intro L H as Q' Q X h k
  exact i_a h λ_ _ _ h=>i_b h λ_ _ _ h=>KM h k
 |cmp z0 a b i_a i_b=>
  intro L H as Q' Q X h k
  exact i_a h λ_ _ _ h=>i_b h λ_ _ _ h=>yr h λ_ _=>k _ _ _
 |cmp2 z0 z1 a b c i_a i_b i_c=>
  intro L H as Q' Q X h k
  exact i_a h λ_ _ _ h=>i_b h λ_ _ _ h=>yr h λ_ _ h=>iteK h (λh=>i_c h λ_ _ _ h=>yr h λ_ _=>k _ _ _) (k _ _ _)
 |not a i_a=>
  intro L H as Q' Q X h k
  exact i_a h λ_ _ _ h=>ZR h λ_ _=>k _ _ _
 |and a b i_a i_b=>
  intro L H as Q' Q X h k
  exact i_a h λu H₁ _ h=>ZR h λ_ _ h=>yp (f:=λt=>ite2 t (ev P C b _ _ H₁ Q) (Q u H₁)) h λ_ _ h=>iteK h (λh=>i_b h k) (k _ _ _)
 |or a b i_a i_b=>
  intro L H as Q' Q X h k
  exact i_a h λu H₁ _ h=>ZR h λ_ _ h=>yp (f:=λt=>ite2 t (Q u H₁) (ev P C b _ _ H₁ Q)) h λ_ _ h=>iteK h (k _ _ _) λh=>i_b h k
 |ifx c a b i_c i_a i_b=>
  intro L H as Q' Q X h k
  exact i_c h λ_ H₁ _ h=>ZR h λ_ _ h=>yp (f:=λt=>ite2 t (ev P C a _ _ H₁ Q) (ev P C b _ _ H₁ Q)) h λ_ _ h=>iteK h (λh=>i_a h k) λh=>i_b h k
 |call z0 es i_es=>
  intro L H as Q' Q X h k
  exact i_es h λ_ _ _ h=>tupK h λ_ h=>jj h k
 |bf z0 es i_es=>
  intro L H as Q' Q X h k
  exact i_es h λ_ _ _ h=>tupK h λ_ h=>bfunS_ok h k
 |meth a z1 es i_a i_es=>
  intro L H as Q' Q X h k
  exact i_a h λ_ _ _ h=>jE h λ_ _ _ _ h=>ifK h λ_ h=>i_es h λ_ _ _ h=>tupK h λ_ h=>jj h k
 |bm z0 a es i_a i_es=>
  intro L H as Q' Q X h k
  exact i_a h λ_ _ _ h=>yh h λ_ h=>i_es h λ_ _ _ h=>tupK h λ_ h=>KL h k
 |callv f es i_f i_es=>
  intro L H as Q' Q X h k
  exact i_f h λ_ _ _ h=>fnK h λ_ h=>i_es h λ_ _ _ h=>tupK h λ_ h=>jj h k
 |idx a b i_a i_b=>
  intro L H as Q' Q X h k
  exact i_a h λ_ _ _ h=>i_b h λ_ _ _ h=>idxS_ok h λ_ _=>k _ _ _
 |slice a l r i_a i_l i_r=>
  intro L H as Q' Q X h k
  exact i_a h λ_ _ _ h=>i_l h λ_ _ _ h=>i_r h λ_ _ _ h=>kf h k
 |rev a i_a=>
  intro L H as Q' Q X h k
  exact i_a h λ_ _ _ h=>yq h λ_ _ _=>k _ _ _
 |tup es i_es=>
  intro L H as Q' Q X h k
  exact i_es h k
 |lst es i_es=>
  intro L H as Q' Q X h k
  exact i_es h λ_ _ _ h=>tupK h λ_ h=>gdK h (k _ _ _)
 |dct es i_es=>
  intro L H as Q' Q X h k
  exact i_es h λ_ _ _ h=>tupK h λ_ h=>gdK h (k _ _ _)
 |comp z0 i z2 z3 z4 i_z0 i_i i_z2=>
  intro L H as Q' Q X h k
  exact i_i h λ_ _ _ h=>yr h λ_ _ h=>zl (ku h k) λ_ _ h1 h2=>h1 _ h2
 |comp2 z0 i z2 i_z0 i_i i_z2=>
  intro L H as Q' Q X h k
  exact i_i h λ_ _ _ h=>yr h λ_ _ h=>zl (ku h k) λ_ _ h1 h2=>h1 _ h2
 |lam z0=>
  intro L H as Q' Q X h k
  exact k _ _ _ h
 |nil=>
  intro L H as Q' Q X h k
  exact k _ _ _ h
 |cons a b i_a i_b=>
  intro L H as Q' Q X h k
  exact i_a h λ_ _ _ h=>i_b h λ_ _ _ h=>tupK h λ_=>k _ _ _
noncomputable def WhR(w:Nat)(c:E)(b:S)(n:Nat)(L:Lc)(H:Hp)(f:Fl)(L':Lc)(H':Hp):Prop:=∀(X:QX) (Q:KS),Q f L' H'->Yb (λL H q=>ev P C c X L H λu H₁=>ifS (yu u H₁) λt=>q t H₁) (ex P C X w b) n L H Q
noncomputable def ForR(w:Nat)(b:S)(ks:List Nat)(one:Bool)(it:It)(vs:List V)(L:Lc)(H:Hp)(f:Fl)(L':Lc)(H':Hp):Prop:=∀(X:QX) (Q:KS),Q f L' H'->forL (ex P C X w b) ks one it vs L H Q
noncomputable abbrev KA:=Fl->Lc->Hp->As->Prop
noncomputable def popL(as:As)(R:Fl->Lc->Hp->Prop)(k:KA):Prop:=match asL as with|some (f,L,H,r)=>R f L H/\k f L H r|none=>False
variable {P C} in
theorem ji{as:As}{R:Fl->Lc->Hp->Prop}{k:KA}(h:popL as R k):∃f L H r,R f L H/\k f L H r:=by
 refine(?_:(match asL as with|some (f,L,H,r)=>R f L H/\k f L H r|none=>False)->_) h
 rcases asL as with _|⟨f,L,H,r⟩
 ·exact Do
 ·exact λh=>⟨f,L,H,r,h⟩
noncomputable def exS(w:Nat):S->Lc->Hp->As->KA->Prop
 |.nop,L,H,as,Q=>Q .next L H as
 |.seq a b,L,H,as,Q=>exS w a L H as λf uw H₁ as=>flP f (exS w b uw H₁ as Q) (Q .brk uw H₁ as) λv=>Q (.ret v) uw H₁ as
 |.ret e,L,H,as,Q=>evS P C e L H as λv H₁ as=>Q (.ret v) L H₁ as
 |.ex e,L,H,as,Q=>evS P C e L H as λv H₁ as=>yJ v (Q .next L H₁ as)
 |.set k e,L,H,as,Q=>evS P C e L H as λv H₁ as=>Q .next (setL k v L) H₁ as
 |.setA a f e,L,H,as,Q=>evS P C e L H as λv H₁ as=>evS P C a L H₁ as λu uh as=>atIS u uh as λi c fs as=>gd (P.att c f && Gz fs.length 100) (popE asH as (uh.set i (.inst c (setF f v fs))) (Q .next L))
 |.setI a i e,L,H,as,Q=>evS P C e L H as λv H₁ as=>evS P C a L H₁ as λu uh as=>evS P C i L uh as λk uk as=>(match kd k with
  |2=>intP k λn=>natP n λn=>atLS u uk as λj vs as=>popG as (Gz n vs.length) λas=>popE asH as (uk.set j (.list (vs.set n v))) (Q .next L)
  |_=>strP k λs=>atDS u uk as λj es as=>popG as (Gz es.length 1000) λas=>popE asH as (uk.set j (.dict (setD s v es))) (Q .next L))
 |.unp ks e,L,H,as,Q=>evS P C e L H as λv H₁ as=>pop (λas=>asU as) as (unpOf v H₁) λvs as=>ifS (YF ks vs L) λuw=>Q .next uw H₁ as
 |.unp2 Uw Ux a b,L,H,as,Q=>evS P C a L H as λu H₁ as=>evS P C b L H₁ as λv uh as=>Q .next (setL Ux v (setL Uw u L)) uh as
 |.ifs c a b,L,H,as,Q=>evS P C c L H as λu H₁ as=>trS u H₁ as λt as=>popE asB as t λt as=>ite2 t (exS w a L H₁ as Q) (exS w b L H₁ as Q)
 |.whl c b,L,H,as,Q=>popL as (WhR P C w c b w L H) Q
 |.for_ k e b,L,H,as,Q=>evS P C e L H as λu H₁ as=>pop asI as (zU u H₁) λit as=>popL as (ForR P C w b [k] true it it.items L H₁) Q
 |.forT ks e b,L,H,as,Q=>evS P C e L H as λu H₁ as=>pop asI as (zU u H₁) λit as=>popL as (ForR P C w b ks false it it.items L H₁) Q
 |.brk,L,H,as,Q=>Q .brk L H as
 |_,_,_,_,_=>False
noncomputable def ExI(w:Nat)(s:S):Prop:=∀{L:Lc} {H:Hp} {as:As} {Q':KA} {Q:KS} {X:QX},exS P C w s L H as Q'->(∀f L H as,Q' f L H as->Q f L H)->ex P C X w s L H Q
theorem XO(w:Nat)(s:S):ExI P C w s:=by
 induction s with
 |bad=>
  intro L H as Q' Q X h k
  exact h
 |nop=>
  intro L H as Q' Q X h k
  exact k _ _ _ _ h
 |seq a b i_a i_b=>
  intro L H as Q' Q X h k
  exact i_a h λf _ _ _ h=>by
   rcases f with _|_|v
   ·exact i_b h k
   ·exact k _ _ _ _ h
   ·exact k _ _ _ _ h
 |ret e=>
  intro L H as Q' Q X h k
  exact yk P C e h λ_ _ _=>k _ _ _ _
 |ex e=>
  intro L H as Q' Q X h k
  exact yk P C e h λ_ _ _ h=>noneK h (k _ _ _ _)
 |set z0 e=>
  intro L H as Q' Q X h k
  exact yk P C e h λ_ _ _=>k _ _ _ _
 |setA a z1 e=>
  intro L H as Q' Q X h k
  exact yk P C e h λ_ _ _ h=>yk P C a h λ_ _ _ h=>jE h λ_ _ _ _ h=>gdK h λh=>yp (f:=Q .next L) h λ_ _=>k _ _ _ _
 |setI a i e=>
  intro L H as Q' Q X h k
  exact yk P C e h λv _ _ h=>yk P C a h λu _ _ h=>yk P C i h λq uk as h=>by
   rcases q with _|_|n|s|_|_|_|_|_|_<;>try exact Do h
   ·exact natK (i:=n) (f:=λn=>atLS u uk as λj vs as=>popG as (Gz n vs.length) λas=>popE asH as (uk.set j (.list (vs.set n v))) (_)) (g:=λn=>atL u uk λj vs=>gd (Gz n vs.length) (Q .next L (uk.set j (.list (vs.set n v))))) h λ_ h=>yq h λ_ _ _ h=>yh h λ_ h=>yp (f:=Q .next L) h λ_ _=>k _ _ _ _
   ·exact jG (v:=u) (H:=uk) (as:=as) (k:=λj es as=>popG as (Gz es.length 1000) λas=>popE asH as (uk.set j (.dict (setD s v es))) (_)) (f:=λj es=>gd (Gz es.length 1000) (Q .next L (uk.set j (.dict (setD s v es))))) h λ_ _ _ h=>yh h λ_ h=>yp (f:=Q .next L) h λ_ _=>k _ _ _ _
 |unp z0 e=>
  intro L H as Q' Q X h k
  exact yk P C e h λ_ _ _ h=>yr h λ_ _ h=>ifK h λ_=>k _ _ _ _
 |unp2 z0 z1 a b=>
  intro L H as Q' Q X h k
  exact yk P C a h λ_ _ _ h=>yk P C b h λ_ _ _=>k _ _ _ _
 |ifs c a b i_a i_b=>
  intro L H as Q' Q X h k
  exact yk P C c h λ_ H₁ _ h=>ZR h λ_ _ h=>yp (f:=λt=>ite2 t (ex P C X w a L H₁ Q) (ex P C X w b L H₁ Q)) h λ_ _ h=>iteK h (λh=>i_a h k) λh=>i_b h k
 |whl z0 z1 i_z1=>
  intro L H as Q' Q X h k
  exact yU (ji h) λ_ _ _ _ h1 h2=>h1 _ _ (k _ _ _ _ h2)
 |for_ z0 e z2 i_z2=>
  intro L H as Q' Q X h k
  exact yk P C e h λ_ _ _ h=>yr h λ_ _ h=>yU (ji h) λ_ _ _ _ h1 h2=>h1 _ _ (k _ _ _ _ h2)
 |forT z0 e z2 i_z2=>
  intro L H as Q' Q X h k
  exact yk P C e h λ_ _ _ h=>yr h λ_ _ h=>yU (ji h) λ_ _ _ _ h1 h2=>h1 _ _ (k _ _ _ _ h2)
 |brk=>
  intro L H as Q' Q X h k
  exact k _ _ _ _ h
 |raise z0=>
  intro L H as Q' Q X h k
  exact h.elim
 |try_ z0 z1 z2 i_z0 i_z2=>
  intro L H as Q' Q X h k
  exact h.elim
end
namespace G
noncomputable abbrev K0:E:=.l 0
noncomputable abbrev K1:E:=.c (.str [])
noncomputable abbrev K2:E:=.c (.int 0)
noncomputable abbrev K3:E:=.l 1
noncomputable abbrev K4:E:=.c (.int 1)
noncomputable abbrev K5:E:=.l 2
noncomputable abbrev K6:E:=.cons (.l 3) .nil
noncomputable abbrev K7:E:=.c (.str [111,102,116,101,110])
noncomputable abbrev K8:E:=.c (.bool false)
noncomputable abbrev K9:E:=.cons K0 .nil
noncomputable abbrev K10:E:=.c (.str [117,112,111,110])
noncomputable abbrev K11:E:=.c (.str [115,105,122,101])
noncomputable abbrev K12:E:=.cons K3 .nil
noncomputable abbrev K13:E:=.cons K5 .nil
noncomputable abbrev K14:V:=.str [116,114,97,105,108,105,110,103]
noncomputable abbrev K15:E:=.lst .nil
noncomputable abbrev K16:V:=.str [100,105,115,112,108,97,121]
noncomputable abbrev K17:E:=.c (.str [110,117,109,101,114,105,99])
noncomputable abbrev K18:E:=.c .none
noncomputable abbrev K19:E:=.c (.int 2)
noncomputable abbrev K20:E:=.cons (.l 4) .nil
noncomputable abbrev K21:E:=.c (.str [110,97,109,101])
noncomputable abbrev K22:E:=.c (.str [108,101,97,102])
noncomputable abbrev K23:E:=.cons (.l 5) .nil
noncomputable abbrev K24:E:=.c (.bool true)
noncomputable abbrev K25:E:=.l 3
noncomputable abbrev K26:E:=.c (.str [112,97,99,107,101,100])
noncomputable abbrev K27:E:=.cons (.c (.str [32])) .nil
noncomputable abbrev K28:E:=.l 4
noncomputable abbrev K29:E:=.c (.str [107,105,100,115])
noncomputable abbrev K30:E:=.c (.str [101,100,105,116,101,100])
noncomputable abbrev K31:E:=.c (.str [98,105,110,97,114,121])
noncomputable abbrev K32:E:=.l 5
noncomputable abbrev K33:E:=.c (.str [97,108,112,104,97,110,117,109,101,114,105,99])
noncomputable abbrev K34:E:=.c (.str [117,115,97,103,101])
noncomputable abbrev K35:E:=.c (.int (-1))
noncomputable abbrev K36:E:=.cons (.c (.str [67,82])) (.cons (.c (.str [68,66])) .nil)
noncomputable abbrev K37:E:=.l 12
noncomputable abbrev K38:E:=.c (.str [97,108,112,104,97,98,101,116,105,99])
noncomputable abbrev K39:E:=.cons (.bin .add K5 K4) .nil
noncomputable abbrev K40:E:=.cons K19 .nil
noncomputable abbrev K41:E:=.cons (.call 730 (.cons (.l 8) (.cons K4 .nil))) .nil
noncomputable abbrev K42:E:=.c (.int 4)
noncomputable abbrev K43:V:=.bool false
noncomputable abbrev K44:E:=.c (.int 3)
noncomputable abbrev K45:E:=.c (.str [108,101,97,100,105,110,103])
noncomputable abbrev K46:E:=.c (.str [41])
noncomputable abbrev K47:E:=.l 8
noncomputable abbrev K48:E:=.c (.str [105,110,100,101,120])
noncomputable abbrev K49:E:=.c (.str [103,114,111,117,112])
noncomputable abbrev K50:E:=.l 6
noncomputable abbrev K51:E:=.a K28 27
noncomputable abbrev K52:V:=.int 18
noncomputable abbrev K53:E:=.cons (.c K14) (.cons K8 .nil)
noncomputable abbrev K54:E:=.a K3 19
noncomputable abbrev K55:E:=.a K5 19
noncomputable abbrev K56:E:=.a K0 31
noncomputable abbrev K57:E:=.a K3 17
noncomputable abbrev K58:E:=.c (.str [46])
noncomputable abbrev K59:E:=.cons K44 .nil
noncomputable def f91:Fn:=⟨6,[.none,(.tup []),(.tup [])],6,(.seq (.setA K0 4 K3) (.seq (.setA K0 3 K5) (.seq (.setA K0 2 K25) (.seq (.setA K0 1 (.bf .tuple K20)) (.setA K0 0 (.bf .tuple K23))))))⟩
noncomputable def f119:Fn:=⟨3,[],3,(.seq (.setA K0 23 K3) (.seq (.setA K0 22 K5) (.seq (.setA K0 21 K18) (.seq (.setA K0 20 K1) (.seq (.setA K0 19 K1) (.seq (.setA K0 18 K8) (.seq (.setA K0 17 K18) (.seq (.setA K0 16 K1) (.seq (.setA K0 15 K18) (.seq (.setA K0 14 K8) (.seq (.setA K0 13 K8) (.seq (.setA K0 12 K15) (.seq (.setA K0 11 K15) (.seq (.setA K0 10 K18) (.seq (.setA K0 9 K18) (.seq (.setA K0 8 K1) (.seq (.setA K0 7 K2) (.seq (.setA K0 6 K2) (.setA K0 5 K18)))))))))))))))))))⟩
noncomputable def f126:Fn:=⟨2,[],2,(.seq (.setA K3 10 K0) (.ex (.bm .append (.a K0 11) K12)))⟩
noncomputable def f133:Fn:=⟨1,[],1,(.ret (.ifx (.cmp .is (.a K0 17) K18) K4 (.a (.a K0 17) 3)))⟩
noncomputable def f166:Fn:=⟨1,[],1,(.seq (.setA K0 27 K15) (.seq (.setA K0 26 K15) (.seq (.setA K0 25 (.dct .nil)) (.seq (.setA K0 24 K15) (.seq (.setA K0 6 K2) (.setA K0 0 (.dct .nil)))))))⟩
noncomputable def f185:Fn:=⟨1,[],3,(.seq (.set 1 K15) (.seq (.for_ 2 (.a K0 25) (.ex (.bm .extend K3 (.cons (.idx (.a K0 25) K5) .nil)))) (.ret (.bin .add (.bin .add K3 (.a K0 27)) (.a K0 26)))))⟩
noncomputable def f192:Fn:=⟨1,[],4,(.seq (.set 1 K15) (.seq (.set 2 (.lst K9)) (.seq (.whl (.cmp .ne K5 K15) (.seq (.set 3 (.bm .pop K5 .nil)) (.seq (.ex (.bm .append K3 K6)) (.ex (.bm .extend K5 (.cons (.rev (.a K25 11)) .nil)))))) (.ret K3))))⟩
noncomputable def f199:Fn:=⟨1,[],3,(.seq (.set 1 K15) (.seq (.for_ 2 (.call 185 K9) (.ex (.bm .extend K3 (.cons (.call 192 K13) .nil)))) (.ret K3)))⟩
noncomputable def f206:Fn:=⟨1,[],3,(.seq (.set 1 K15) (.seq (.set 2 (.a K0 10)) (.seq (.whl (.cmp .isnot K5 K18) (.seq (.ex (.bm .append K3 K13)) (.set 2 (.a K5 10)))) (.ret K3))))⟩
noncomputable def f223:Fn:=⟨1,[],1,(.ret (.cmp .ne (.comp K0 (.a K0 11) (.cmp .ne (.a K0 23) (.g 0 (.int 66))) 1 []) K15))⟩
noncomputable def f228:Fn:=⟨1,[],1,(.ret (.comp K0 (.a K0 11) (.cmp .ne (.a K0 23) (.g 0 (.int 66))) 1 []))⟩
noncomputable def f235:Fn:=⟨2,[],3,(.seq (.for_ 2 (.bin .add (.lst K9) (.call 206 K9)) (.ifs (.cmp .ne (.callv K3 K13) K1) (.ret (.callv K3 K13)) .nop)) (.ret K1))⟩
noncomputable def f242:Fn:=⟨1,[],2,(.seq (.set 1 (.call 235 (.cons K0 (.cons (.lam 1) .nil)))) (.ret (.ifx (.cmp .ne K3 K1) K3 (.c K16))))⟩
noncomputable def f249:Fn:=⟨1,[],2,(.seq (.for_ 1 (.bin .add (.lst K9) (.call 206 K9)) (.ifs (.cmp .ne K54 K1) (.ret (.tup (.cons K54 (.cons (.a K3 18) .nil)))) .nop)) (.ret (.tup K53)))⟩
noncomputable def f270:Fn:=⟨8,[],8,(.seq (.setA K0 33 K3) (.seq (.setA K0 32 K5) (.seq (.setA K0 31 K25) (.seq (.setA K0 30 K28) (.seq (.setA K0 29 K32) (.seq (.setA K0 28 K50) (.setA K0 6 (.l 7))))))))⟩
noncomputable def f303:Fn:=⟨4,[],4,(.seq (.setA K0 19 K3) (.seq (.setA K0 35 K5) (.setA K0 34 K25)))⟩
noncomputable def f324:Fn:=⟨2,[],2,(.seq (.ifs (.cmp .isin (.slice K0 K3 (.bin .add K3 K19)) (.tup K36)) (.ret (.slice K0 K3 (.bin .add K3 K19))) .nop) (.seq (.ifs (.cmp .notin (.idx K0 K3) (.g 1 (.str [65,66,80,83,86,88,90,57,48,47,44,46,43,45,42,36]))) .bad .nop) (.ret (.idx K0 K3))))⟩
noncomputable def f329:Fn:=⟨2,[],4,(.seq (.ifs (.cmp .ne (.slice K0 K3 (.bin .add K3 K4)) (.c (.str [40]))) (.ret (.tup (.cons K4 K12))) .nop) (.seq (.set 2 (.bm .find K0 (.cons K46 K12))) (.seq (.set 3 (.slice K0 (.bin .add K3 K4) (.bf .max (.cons K5 K12)))) (.seq (.ifs (.or (.not (.cmp2 .le .le K4 (.bf .len K6) K42)) (.or (.cmp .ne (.comp K0 K25 (.cmp .notin K0 (.g 2 (.str [48,49,50,51,52,53,54,55,56,57]))) 1 []) K15) (.cmp .eq (.bf .int K6) K2))) .bad .nop) (.ret (.tup (.cons (.bf .int K6) K39)))))))⟩
noncomputable def f336:Fn:=⟨1,[],6,(.seq (.unp2 1 2 K15 K2) (.seq (.whl (.cmp .lt K5 (.bf .len K9)) (.seq (.set 3 (.call 324 (.cons K0 K13))) (.seq (.unp [4,5] (.call 329 (.cons K0 (.cons (.bin .add K5 (.bf .len K6)) .nil)))) (.seq (.ifs (.and (.cmp .gt K32 (.bin .add K5 (.bf .len K6))) (.cmp .isin K25 (.bm .split (.g 3 (.str [83,32,86,32,46,32,67,82,32,68,66])) K27))) .bad .nop) (.seq (.ex (.bm .append K3 (.cons (.call 313 (.cons K25 (.cons K28 K13))) .nil))) (.set 2 K32)))))) (.ret K3)))⟩
noncomputable def f343:Fn:=⟨1,[],3,(.seq (.set 1 K15) (.seq (.for_ 2 K0 (.ifs (.and (.cmp .ne K3 K15) (.cmp .eq (.idx (.idx K3 K35) K2) K55)) (.setI K3 K35 (.tup (.cons K55 (.cons (.bin .add (.idx (.idx K3 K35) K4) (.a K5 35)) .nil)))) (.ex (.bm .append K3 (.cons (.tup (.cons K55 (.cons (.a K5 35) .nil))) .nil))))) (.ret K3)))⟩
noncomputable def f348:Fn:=⟨1,[],1,(.ret (.bf .sum (.cons (.comp (.bin .mul K3 (.bf .len K9)) K0 (.cmp .notin K0 (.bm .split (.g 4 (.str [80,32,83,32,86])) K27)) 2 []) .nil)))⟩
noncomputable def f362:Fn:=⟨1,[],1,(.seq (.setA K0 50 K2) (.seq (.setA K0 49 K8) (.seq (.setA K0 48 K1) (.seq (.setA K0 47 K2) (.seq (.setA K0 46 K2) (.seq (.setA K0 45 K2) (.seq (.setA K0 44 K1) (.seq (.setA K0 43 K2) (.seq (.setA K0 42 K2) (.seq (.setA K0 41 K2) (.seq (.setA K0 40 K8) (.seq (.setA K0 19 K1) (.seq (.setA K0 39 K1) (.seq (.setA K0 38 K1) (.seq (.setA K0 37 K8) (.setA K0 36 K8))))))))))))))))⟩
noncomputable def f369:Fn:=⟨1,[],1,(.ret (.bin .add (.bin .add (.a K0 45) (.a K0 43)) (.a K0 42)))⟩
noncomputable def f376:Fn:=⟨3,[],3,(.ifs (.cmp .ne (.a K0 48) K1) (.seq (.setA K0 41 (.bin .add (.a K0 41) K3)) (.setA K0 40 (.or (.a K0 40) K5))) .nop)⟩
noncomputable def f383:Fn:=⟨2,[],2,(.seq (.ifs (.or (.cmp .gt (.a K0 46) K2) (.a K0 40)) .bad .nop) (.seq (.setA K0 45 (.bin .add (.a K0 45) (.a K3 35))) (.ex (.meth K0 0 (.cons (.a K3 35) (.cons K8 .nil))))))⟩
noncomputable def f397:Fn:=⟨2,[],2,(.seq (.ifs (.or (.cmp .ne (.a K0 48) K1) (.or (.cmp .gt (.a K0 47) K2) (.and (.cmp .eq K54 K58) (.cmp .gt (.a K0 46) K2)))) .bad .nop) (.setA K0 48 K54))⟩
noncomputable def f453:Fn:=⟨2,[],3,(.seq (.set 2 K54) (.seq (.ifs (.or (.a K0 37) (.or (.and (.a K0 49) (.cmp .notin K5 (.tup (.cons (.c (.str [57])) (.cons (.c (.str [80])) (.cons (.c (.str [86])) .nil)))))) (.and (.cmp .eq K5 (.c (.str [83]))) (.cmp .gt (.a K0 50) K2)))) .bad .nop) (.seq (.ifs (.cmp .eq K5 (.c (.str [83]))) (.setA K0 49 K24) (.ifs (.cmp .eq K5 (.c (.str [57]))) (.ex (.meth K0 1 K12)) (.ifs (.cmp .isin K5 (.tup (.cons (.c (.str [90])) (.cons (.c (.str [42])) .nil)))) (.ex (.meth K0 2 K12)) (.ifs (.cmp .isin K5 (.tup (.cons (.c (.str [86])) (.cons K58 .nil)))) (.ex (.meth K0 3 K12)) (.ifs (.cmp .eq K5 (.c (.str [80]))) (.ex (.meth K0 4 K12)) (.ifs (.cmp .isin K5 (.tup (.cons (.c (.str [43])) (.cons (.c (.str [45])) .nil)))) (.ex (.meth K0 5 K12)) (.ifs (.cmp .eq K5 (.c (.str [36]))) (.ex (.meth K0 6 K12)) (.ifs (.cmp .isin K5 (.tup K36)) (.ex (.meth K0 7 K12)) (.ex (.meth K0 8 K12)))))))))) (.seq (.setA K0 50 (.bin .add (.a K0 50) K4)) (.setA K0 38 K5)))))⟩
noncomputable def f460:Fn:=⟨1,[],1,(.seq (.ifs (.or (.cmp .eq (.meth K0 9 .nil) K2) (.cmp .isin (.a K0 38) (.tup (.cons (.c (.str [44])) (.cons K58 .nil))))) (.ret K8) .nop) (.ret (.cmp .le (.bin .add (.bin .add (.meth K0 9 .nil) (.a K0 47)) (.a K0 46)) (.g 5 K52))))⟩
noncomputable def f467:Fn:=⟨1,[],1,(.seq (.ifs (.cmp .gt (.a K0 47) K2) (.ret (.bin .add (.a K0 47) (.meth K0 9 .nil))) .nop) (.ret (.bin .sub (.a K0 41) (.a K0 46))))⟩
noncomputable def f479:Fn:=⟨2,[],8,(.seq (.unp2 2 3 (.call 470 .nil) (.call 343 K12)) (.seq (.for_ 4 K3 (.ex (.meth K5 12 K20))) (.seq (.ifs (.or (.not (.meth K5 11 .nil)) (.cmp .gt (.call 348 K6) (.g 7 (.int 9999)))) .bad .nop) (.seq (.set 5 (.cmp .eq (.comp K0 K25 (.cmp .notin K0 (.bm .split (.g 6 (.str [57,32,80,32,83,32,86])) K27)) 2 []) K15)) (.seq (.set 6 (.ifx K32 K17 K30)) (.seq (.set 7 (.or (.a K5 49) (.cmp .ne K55 K1))) (.ret (.call 285 (.cons K0 (.cons K25 (.cons K50 (.cons (.meth K5 9 .nil) (.cons (.meth K5 10 .nil) (.cons (.l 7) (.cons (.call 348 K6) .nil)))))))))))))))⟩
noncomputable def f484:Fn:=⟨1,[],2,(.seq (.set 1 (.comp K0 K0 K24 2 [])) (.seq (.ifs (.or (.cmp .isin (.c (.str [66])) K3) (.or (.cmp .isin (.c (.str [48])) K3) (.cmp .isin (.c (.str [47])) K3))) (.ret (.c (.str [97,108,110,117,109,45,101,100,105,116,101,100]))) .nop) (.ret (.ifx (.cmp .eq K3 (.lst (.cons (.c (.str [65])) .nil))) K38 K33))))⟩
noncomputable def f491:Fn:=⟨2,[],4,(.seq (.for_ 2 K3 (.ifs (.cmp .notin K55 (.bm .split (.g 8 (.str [65,32,88,32,57,32,66,32,48,32,47])) K27)) .bad .nop)) (.seq (.set 3 (.call 343 K12)) (.seq (.ifs (.cmp .gt (.call 348 K6) (.g 7 (.int 9999))) .bad .nop) (.ret (.call 285 (.cons K0 (.cons K25 (.cons (.call 484 K6) (.cons K2 (.cons K2 (.cons K8 (.cons (.call 348 K6) .nil))))))))))))⟩
noncomputable def f496:Fn:=⟨1,[],3,(.seq (.ifs (.cmp .gt (.bf .len K9) (.g 9 (.int 30))) .bad .nop) (.seq (.set 1 (.bm .join K1 (.cons (.comp (.ifx (.cmp2 .le .le (.c (.str [97])) K0 (.c (.str [122]))) (.bf .chr (.cons (.bin .sub (.bf .ord K9) (.c (.int 32))) .nil)) K0) K0 K24 1 []) .nil))) (.seq (.set 2 (.call 336 K12)) (.seq (.ifs (.cmp .ne (.comp K0 K5 (.cmp .isin (.a K0 19) (.tup (.cons (.c (.str [65])) (.cons (.c (.str [88])) .nil)))) 1 []) K15) (.ret (.call 491 (.cons K3 K13))) .nop) (.ret (.call 479 (.cons K3 K13)))))))⟩
noncomputable def f511:Fn:=⟨9,[.none,K16,K14,K43,K43,K43],9,(.seq (.setA K0 31 K3) (.seq (.setA K0 6 K5) (.seq (.setA K0 51 K25) (.seq (.setA K0 20 K28) (.seq (.setA K0 19 K32) (.seq (.setA K0 18 K50) (.seq (.setA K0 14 (.l 7)) (.seq (.setA K0 13 K47) (.seq (.setA K0 30 K2) (.seq (.setA K0 29 K2) (.seq (.setA K0 28 K8) (.ifs (.and (.cmp .isnot K25 K18) (.cmp .isin K3 (.tup (.cons K17 (.cons K30 .nil))))) (.seq (.setA K0 30 (.a K25 30)) (.seq (.setA K0 29 (.a K25 29)) (.setA K0 28 (.a K25 28)))) .nop))))))))))))⟩
noncomputable def f539:Fn:=⟨1,[],1,(.seq (.ifs (.not (.cmp2 .le .le K4 K0 (.g 10 K52))) .bad .nop) (.seq (.ifs (.cmp .le K0 K42) (.ret K19) .nop) (.ret (.ifx (.cmp .le K0 (.c (.int 9))) K42 (.c (.int 8))))))⟩
noncomputable def f546:Fn:=⟨1,[],1,(.seq (.ifs (.not (.cmp2 .le .le K4 K0 (.g 10 K52))) .bad .nop) (.ret (.bin .add (.bin .fdiv K0 K19) K4)))⟩
noncomputable def f553:Fn:=⟨3,[],3,(.seq (.ifs (.cmp .eq K3 K26) (.ret (.call 546 (.cons (.a K0 30) .nil))) .nop) (.seq (.ifs (.cmp .eq K3 K31) (.ret (.call 539 (.cons (.a K0 30) .nil))) .nop) (.ret (.bin .add (.a K0 6) (.ifx K5 K4 K2)))))⟩
noncomputable def f560:Fn:=⟨2,[],2,(.seq (.ifs (.cmp .notin K3 (.bm .split (.g 11 (.str [100,105,115,112,108,97,121,32,112,97,99,107,101,100,32,98,105,110,97,114,121,32,105,110,100,101,120])) K27)) .bad .nop) (.seq (.ifs (.cmp .eq K3 K48) .bad .nop) (.ifs (.and (.cmp .ne K3 (.c K16)) (.cmp .ne K56 K17)) .bad .nop)))⟩
noncomputable def f567:Fn:=⟨4,[],4,(.seq (.ifs (.and (.cmp .ne K5 K45) (.cmp .ne K5 (.c K14))) .bad .nop) (.seq (.ifs (.and (.cmp .eq K5 (.c K14)) (.not K25)) (.ret K18) .nop) (.ifs (.or (.cmp .ne K56 K17) (.or (.not (.a K0 28)) (.cmp .ne K3 (.c K16)))) .bad .nop)))⟩
noncomputable def f572:Fn:=⟨3,[],3,(.seq (.ifs (.and K3 (.cmp .notin K56 (.tup (.cons K38 (.cons K33 .nil))))) .bad .nop) (.seq (.ifs (.and K5 (.cmp .ne K56 K30)) .bad .nop) (.ifs (.and K5 (.cmp .ne (.comp K0 (.a K0 32) (.cmp .eq K0 (.c (.str [42]))) 2 []) K15)) .bad .nop)))⟩
noncomputable def f580:Fn:=⟨6,[K16,K14,K43,K43,K43],7,(.seq (.ex (.call 560 (.cons K0 K12))) (.seq (.ex (.call 567 (.cons K0 (.cons K3 (.cons K5 K6))))) (.seq (.ex (.call 572 (.cons K0 (.cons K28 K23)))) (.seq (.set 6 (.call 553 (.cons K0 (.cons K3 K6)))) (.ret (.call 528 (.cons K56 (.cons K50 (.cons K0 (.cons K3 (.cons K5 (.cons K25 (.cons K28 K23)))))))))))))⟩
noncomputable def f587:Fn:=⟨1,[],1,(.ret (.call 528 (.cons K49 K9)))⟩
noncomputable def f615:Fn:=⟨1,[],6,(.seq (.set 1 (.call 242 K9)) (.seq (.ifs (.cmp .eq K3 K48) (.seq (.ifs (.cmp .isnot (.a K0 21) K18) .bad .nop) (.ret .bad)) .nop) (.seq (.ifs (.cmp .is (.a K0 21) K18) .bad .nop) (.seq (.set 2 (.call 496 (.cons (.a K0 21) .nil))) (.seq (.set 3 (.and (.cmp .eq K3 (.c K16)) (.and (.cmp .eq (.a K5 31) K17) (.a K5 28)))) (.seq (.unp [4,5] (.ifx (.or (.cmp .ne (.a K0 19) K1) K25) (.call 249 K9) (.tup K53))) (.ret (.call 580 (.cons K5 (.cons K3 (.cons K28 (.cons K32 (.cons (.a K0 14) (.cons (.a K0 13) .nil))))))))))))))⟩
noncomputable def f622:Fn:=⟨1,[],1,(.ret (.bin .mul (.a K0 6) (.meth K0 13 .nil)))⟩
noncomputable def f629:Fn:=⟨2,[],3,(.seq (.for_ 2 (.rev K3) (.seq (.ifs (.cmp .eq (.a K5 22) (.a K0 16)) (.seq (.ifs (.cmp .isnot (.a K5 17) K18) .bad .nop) (.ret K5)) .nop) (.ifs (.cmp .ne (.a K5 16) (.a K0 16)) .brk .nop))) .bad)⟩
noncomputable def f636:Fn:=⟨2,[],2,(.seq (.ifs (.cmp .gt K3 (.g 13 (.int 20))) .bad .nop) (.seq (.ifs (.and (.cmp .isnot (.a K0 17) K18) (.or (.cmp .eq (.a K0 23) K4) (.or (.cmp .eq (.a K0 23) (.g 12 (.int 77))) (.cmp .lt (.a (.a K0 17) 3) K4)))) .bad .nop) (.seq (.ifs (.not (.call 223 K9)) (.seq (.setA K0 5 (.call 615 K9)) (.seq (.setA K0 6 (.a (.a K0 5) 6)) (.ret K18))) .nop) (.seq (.ifs (.cmp .isnot (.a K0 21) K18) .bad .nop) (.seq (.setA K0 6 (.call 643 (.cons K0 K12))) (.setA K0 5 (.call 587 (.cons (.a K0 6) .nil))))))))⟩
noncomputable def f643:Fn:=⟨2,[],5,(.seq (.set 2 K2) (.seq (.set 3 K15) (.seq (.for_ 4 (.call 228 K9) (.seq (.ex (.call 636 (.cons K28 (.cons (.bin .add K3 K4) .nil)))) (.seq (.ifs (.cmp .eq (.a K28 16) K1) (.set 2 (.bin .add K5 (.call 622 K20))) (.ifs (.cmp .gt (.call 622 K20) (.call 622 (.cons (.call 629 (.cons K28 K6)) .nil))) .bad .nop)) (.ex (.bm .append K25 K20))))) (.seq (.ifs (.cmp .gt (.bin .mul K5 (.meth K0 13 .nil)) (.g 14 (.int 1000000))) .bad .nop) (.ret K5)))))⟩
noncomputable def f650:Fn:=⟨3,[],6,(.seq (.setA K0 7 K3) (.seq (.setA K0 8 K5) (.seq (.set 3 K3) (.seq (.set 4 K15) (.for_ 5 (.call 228 K9) (.seq (.ifs (.cmp .eq (.a K32 16) K1) (.seq (.ex (.call 650 (.cons K32 (.cons K25 K13)))) (.set 3 (.bin .add K25 (.call 622 K23)))) (.ex (.call 650 (.cons K32 (.cons (.a (.call 629 (.cons K32 K20)) 7) K13))))) (.ex (.bm .append K28 K23))))))))⟩
noncomputable def f669:Fn:=⟨3,[],4,(.seq (.ex (.call 636 (.cons K0 (.cons K2 .nil)))) (.seq (.ex (.call 650 (.cons K0 (.cons K3 K13)))) (.for_ 3 (.a K0 11) (.ifs (.cmp .eq (.a K25 23) (.g 0 (.int 66))) (.ex .bad) .nop))))⟩
noncomputable def f676:Fn:=⟨2,[],6,(.seq (.set 2 K3) (.seq (.set 3 K15) (.seq (.for_ 4 K0 (.seq (.set 5 (.ifx (.cmp .eq (.a K28 16) K1) K5 (.a (.call 629 (.cons K28 K6)) 7))) (.seq (.ex (.call 669 (.cons K28 (.cons K32 (.cons K1 .nil))))) (.seq (.set 2 (.bf .max (.cons K5 (.cons (.bin .add K32 (.a K28 6)) .nil)))) (.ex (.bm .append K25 K20)))))) (.ret K5))))⟩
noncomputable def f683:Fn:=⟨2,[],4,(.seq (.set 2 K3) (.seq (.for_ 3 K0 (.seq (.ifs (.cmp .ne (.a K25 16) K1) .bad .nop) (.seq (.ex (.call 669 (.cons K25 (.cons K3 (.cons K1 .nil))))) (.set 2 (.bf .max (.cons K5 (.cons (.bin .add K3 (.a K25 6)) .nil))))))) (.ret K5)))⟩
noncomputable def f690:Fn:=⟨1,[],3,(.seq (.setA K0 0 (.dct .nil)) (.for_ 1 (.call 199 K9) (.for_ 2 (.ifx (.cmp .isnot K57 K18) (.a K57 0) (.tup .nil)) (.seq (.ifs (.cmp .isin K5 (.a K0 0)) .bad .nop) (.setI (.a K0 0) K5 K3)))))⟩
noncomputable def f695:Fn:=⟨2,[],6,(.seq (.set 2 (.comp (.a K0 22) (.call 192 K12) K24 1 [])) (.seq (.ifs (.cmp .isnot (.a K57 2) K18) (.seq (.set 3 (.a K57 2)) (.seq (.ifs (.cmp .eq (.comp K0 (.call 199 K9) .bad 1 [3]) K15) .bad .nop) (.ifs (.and (.cmp .isin (.idx K25 K4) K5) (.cmp .eq (.idx K25 K19) (.tup .nil))) .bad .nop))) .nop) (.forT [4,5] (.a K57 1) (.ifs (.cmp .notin K32 K5) .bad .nop))))⟩
noncomputable def f702:Fn:=⟨1,[],5,(.seq (.set 1 K2) (.seq (.for_ 2 (.a K0 25) (.set 1 (.call 683 (.cons (.idx (.a K0 25) K5) K12)))) (.seq (.setA K0 6 (.call 676 (.cons (.a K0 27) K12))) (.seq (.for_ 3 (.a K0 26) (.ex (.call 669 (.cons K25 (.cons K2 (.cons (.a K25 22) .nil)))))) (.seq (.ex (.call 690 K9)) (.for_ 4 (.call 199 K9) (.ifs (.cmp .isnot (.a K28 17) K18) (.ex (.call 695 (.cons K0 K20))) .nop)))))))⟩
noncomputable def f709:Fn:=⟨2,[],4,(.seq (.set 2 (.idx K0 K2)) (.seq (.set 3 (.idx K0 K4)) (.seq (.setI K0 K4 (.bin .add K25 K4)) (.ret (.bin .mod (.bin .add (.idx K5 (.bin .mod K25 (.bf .len K13))) (.bin .mul (.c (.int 11)) (.bin .fdiv K25 (.bf .len K13)))) K3)))))⟩
noncomputable def f716:Fn:=⟨2,[],6,(.seq (.set 2 (.bin .add K4 (.call 709 (.cons K0 (.cons (.c K52) .nil))))) (.seq (.set 3 (.ifx (.cmp .eq K3 K1) (.call 709 (.cons K0 (.cons (.c (.int 5)) .nil))) (.c (.int 5)))) (.seq (.ifs (.cmp .eq K25 K2) (.ret (.tup (.cons (.bin .add (.bin .add (.c (.str [88,40])) (.bf .str K13)) K46) (.cons K1 (.cons K8 K13))))) .nop) (.seq (.ifs (.cmp .eq K25 K4) (.ret (.ifx (.cmp .lt K5 (.c K52)) (.tup (.cons (.bin .add (.bin .add (.c (.str [57,40])) (.bf .str K13)) (.c (.str [41,86,57]))) (.cons K1 (.cons K8 K39)))) (.tup (.cons (.c (.str [57,40,49,56,41])) (.cons K1 (.cons K8 (.cons (.c K52) .nil))))))) .nop) (.seq (.ifs (.cmp .eq K25 K19) (.ret (.tup (.cons (.bin .add (.bin .add (.c (.str [83,57,40])) (.bf .str K13)) K46) (.cons K1 (.cons K24 K39))))) .nop) (.seq (.set 4 (.ifx (.cmp .ne K3 K1) K3 (.idx (.tup (.cons K26 (.cons K31 .nil))) (.bin .sub K25 K44)))) (.seq (.set 5 (.ifx (.cmp .eq K28 K26) (.bin .add (.bin .fdiv K5 K19) K4) (.ifx (.cmp .lt K5 (.c (.int 5))) K19 (.ifx (.cmp .lt K5 (.c (.int 10))) K42 (.c (.int 8)))))) (.ret (.tup (.cons (.bin .add (.bin .add (.c (.str [83,57,40])) (.bf .str K13)) K46) (.cons (.ifx (.cmp .eq K3 K1) K28 K1) (.cons K8 K23))))))))))))⟩
noncomputable def f723:Fn:=⟨4,[],13,(.seq (.set 4 (.bin .add (.c (.str [78])) (.bf .str (.cons (.bf .len K6) .nil)))) (.seq (.ex (.bm .append K25 K20)) (.seq (.set 5 (.ifx (.cmp .gt K3 K2) (.bin .add K4 (.call 709 (.cons K0 K59))) K4)) (.seq (.ifs (.or (.cmp .eq K3 K19) (.cmp .eq (.call 709 (.cons K0 K59)) K2)) (.seq (.set 6 (.call 716 (.cons K0 K13))) (.ret (.dct (.cons K21 (.cons K28 (.cons K22 (.cons K50 (.cons K34 (.cons (.idx K50 K4) (.cons K29 (.cons K15 (.cons K7 (.cons K32 (.cons K10 (.cons K1 (.cons K11 (.cons (.idx K50 K44) .nil))))))))))))))))) .nop) (.seq (.set 7 (.ifx (.cmp .eq K5 K1) (.idx (.tup (.cons K1 (.cons K1 (.cons K26 (.cons K31 .nil))))) (.call 709 (.cons K0 (.cons K42 .nil)))) K1)) (.seq (.set 8 K15) (.seq (.set 9 K2) (.seq (.set 10 K18) (.seq (.for_ 11 (.bf .range (.cons (.bin .add K4 (.call 709 (.cons K0 (.cons (.ifx (.cmp .eq K3 K2) K44 K19) .nil)))) .nil)) (.seq (.set 12 (.call 723 (.cons K0 (.cons (.bin .add K3 K4) (.cons (.ifx (.cmp .eq (.l 7) K1) K5 (.l 7)) K6))))) (.seq (.ifs (.and (.cmp .isnot (.l 10) K18) (.and (.cmp .eq (.call 709 (.cons K0 K40)) K2) (.and (.cmp .le (.bin .mul (.idx K37 K11) (.idx K37 K7)) (.idx (.l 10) K11)) (.cmp .eq (.idx (.l 10) K7) K4)))) (.setI K37 K10 (.idx (.l 10) K21)) (.seq (.set 9 (.bin .add (.l 9) (.bin .mul (.idx K37 K11) (.idx K37 K7)))) (.set 10 K37))) (.ex (.bm .append K47 (.cons K37 .nil)))))) (.ret (.dct (.cons K21 (.cons K28 (.cons K22 (.cons K18 (.cons K34 (.cons (.l 7) (.cons K29 (.cons K47 (.cons K7 (.cons K32 (.cons K10 (.cons K1 (.cons K11 (.cons (.l 9) .nil)))))))))))))))))))))))))⟩
noncomputable def f730:Fn:=⟨2,[],4,(.seq (.set 2 (.call 148 (.cons K3 (.cons (.idx K0 K21) .nil)))) (.seq (.setA K5 20 (.idx K0 K34)) (.seq (.setA K5 16 (.idx K0 K10)) (.seq (.ifs (.cmp .gt (.idx K0 K7) K4) (.setA K5 17 (.call 101 (.cons K4 (.cons (.idx K0 K7) .nil)))) .nop) (.seq (.ifs (.cmp .isnot (.idx K0 K22) K18) (.seq (.setA K5 21 (.idx (.idx K0 K22) K2)) (.seq (.setA K5 19 (.ifx (.idx (.idx K0 K22) K19) K45 K1)) (.setA K5 18 (.idx (.idx K0 K22) K19)))) .nop) (.seq (.for_ 3 (.idx K0 K29) (.ex (.meth K5 14 (.cons (.call 730 (.cons K25 (.cons (.bin .add K3 K42) .nil))) .nil)))) (.ret K5)))))))⟩
noncomputable def f737:Fn:=⟨4,[],7,(.seq (.setI K25 (.idx K0 K21) (.tup (.cons K5 (.cons K3 (.cons (.idx K0 K11) .nil))))) (.seq (.set 4 K3) (.for_ 5 (.idx K0 K29) (.seq (.set 6 (.ifx (.cmp .ne (.idx K32 K10) K1) (.idx (.idx K25 (.idx K32 K10)) K4) K28)) (.seq (.ex (.call 737 (.cons K32 (.cons K50 (.cons K5 K6))))) (.ifs (.cmp .eq (.idx K32 K10) K1) (.set 4 (.bin .add K28 (.bin .mul (.idx K32 K11) (.idx K32 K7)))) .nop))))))⟩
noncomputable def f1:Fn:=⟨1,[],1,.ret (.a K0 20)⟩
noncomputable def fnT:List (Nat×Fn):=[(91,f91),(119,f119),(126,f126),(133,f133),(166,f166),(185,f185),(192,f192),(199,f199),(206,f206),(223,f223),(228,f228),(235,f235),(242,f242),(249,f249),(270,f270),(303,f303),(324,f324),(329,f329),(336,f336),(343,f343),(348,f348),(362,f362),(369,f369),(376,f376),(383,f383),(397,f397),(453,f453),(460,f460),(467,f467),(479,f479),(484,f484),(491,f491),(496,f496),(511,f511),(539,f539),(546,f546),(553,f553),(560,f560),(567,f567),(572,f572),(580,f580),(587,f587),(615,f615),(622,f622),(629,f629),(636,f636),(643,f643),(650,f650),(669,f669),(676,f676),(683,f683),(690,f690),(695,f695),(702,f702),(709,f709),(716,f716),(723,f723),(730,f730),(737,f737),(1,f1)]
noncomputable def chT:List (Nat×Bool×List Str):=[(91,false,[G0 "self",G0 "low",G0 "high",G0 "depending",G0 "keys",G0 "indexes"]),
 (119,false,[G0 "self",G0 "level",G0 "name"]),
 (126,false,[G0 "self",G0 "kid"]),
 (133,false,[G0 "self"]),
 (166,false,[G0 "self"]),
 (185,false,[G0 "data",G0 "found",G0 "name"]),
 (192,false,[G0 "item",G0 "found",G0 "line",G0 "one"]),
 (199,false,[G0 "data",G0 "found",G0 "root"]),
 (206,false,[G0 "item",G0 "found",G0 "above"]),
 (223,false,[G0 "item"]),
 (228,false,[G0 "item"]),
 (235,false,[G0 "item",G0 "read",G0 "one"]),
 (242,true,[G0 "item",G0 "found"]),
 (249,false,[G0 "item",G0 "one"]),
 (270,false,[G0 "self",G0 "text",G0 "symbols",G0 "category",G0 "digits",G0 "scale",G0 "is_signed",G0 "size"]),
 (303,false,[G0 "self",G0 "sign",G0 "count",G0 "at"]),
 (324,false,[G0 "text",G0 "at"]),
 (329,false,[G0 "text",G0 "at",G0 "end",G0 "figures"]),
 (336,false,[G0 "text",G0 "found",G0 "at",G0 "sign",G0 "count",G0 "end"]),
 (343,false,[G0 "signs",G0 "found",G0 "one"]),
 (348,false,[G0 "symbols"]),
 (362,false,[G0 "self"]),
 (369,false,[G0 "self"]),
 (376,false,[G0 "self",G0 "count",G0 "is_loose"]),
 (383,false,[G0 "self",G0 "one"]),
 (397,false,[G0 "self",G0 "one"]),
 (453,false,[G0 "self",G0 "one",G0 "sign"]),
 (460,false,[G0 "self"]),
 (467,false,[G0 "self"]),
 (479,false,[G0 "text",G0 "signs",G0 "order",G0 "symbols",G0 "one",G0 "plain",G0 "category",G0 "is_signed"]),
 (484,false,[G0 "symbols",G0 "signs"]),
 (491,false,[G0 "text",G0 "signs",G0 "one",G0 "symbols"]),
 (496,false,[G0 "text",G0 "great",G0 "signs"]),
 (511,false,[G0 "self",G0 "category",G0 "size",G0 "picture",G0 "usage",G0 "sign",G0 "is_separate",G0 "is_justified",G0 "is_blank_zero"]),
 (539,false,[G0 "digits"]),
 (546,false,[G0 "digits"]),
 (553,false,[G0 "picture",G0 "usage",G0 "is_separate"]),
 (560,false,[G0 "picture",G0 "usage"]),
 (567,false,[G0 "picture",G0 "usage",G0 "sign",G0 "is_separate"]),
 (572,false,[G0 "picture",G0 "is_justified",G0 "is_blank_zero"]),
 (580,false,[G0 "picture",G0 "usage",G0 "sign",G0 "is_separate",G0 "is_justified",G0 "is_blank_zero",G0 "size"]),
 (587,false,[G0 "size"]),
 (615,false,[G0 "item",G0 "usage",G0 "picture",G0 "is_signed_row",G0 "sign",G0 "is_separate"]),
 (622,false,[G0 "item"]),
 (629,false,[G0 "item",G0 "ahead",G0 "one"]),
 (636,false,[G0 "item",G0 "depth"]),
 (643,false,[G0 "item",G0 "depth",G0 "size",G0 "ahead",G0 "kid"]),
 (650,false,[G0 "item",G0 "offset",G0 "base",G0 "here",G0 "ahead",G0 "kid"]),
 (669,false,[G0 "root",G0 "offset",G0 "base",G0 "item"]),
 (676,false,[G0 "roots",G0 "offset",G0 "end",G0 "ahead",G0 "root",G0 "begin"]),
 (683,false,[G0 "roots",G0 "offset",G0 "end",G0 "root"]),
 (690,false,[G0 "data",G0 "item",G0 "name"]),
 (695,false,[G0 "data",G0 "item",G0 "names",G0 "wanted",G0 "is_ascending",G0 "name"]),
 (702,false,[G0 "data",G0 "here",G0 "name",G0 "root",G0 "item"]),
 (709,false,[G0 "source",G0 "limit",G0 "cells",G0 "at"]),
 (716,false,[G0 "source",G0 "usage",G0 "many",G0 "way",G0 "told",G0 "size"]),
 (723,false,[G0 "source",G0 "depth",G0 "usage",G0 "names",G0 "name",G0 "often",G0 "leaf",G0 "own",G0 "kids",G0 "size",G0 "last",G0 "turn",G0 "kid"]),
 (730,false,[G0 "node",G0 "level",G0 "item",G0 "kid"]),
 (737,false,[G0 "node",G0 "offset",G0 "base",G0 "found",G0 "here",G0 "kid",G0 "at"])]
noncomputable def attrT:List Str:=[G0 "indexes",G0 "keys",G0 "depending",G0 "high",G0 "low",G0 "shape",G0 "size",G0 "offset",G0 "base",G0 "renames",G0 "parent",G0 "kids",G0 "conditions",G0 "is_blank_zero",G0 "is_justified",G0 "value",G0 "redefines",G0 "occurs",G0 "is_separate",G0 "sign",G0 "usage",G0 "picture_text",G0 "name",G0 "level",G0 "sorts",G0 "files",G0 "linkage",G0 "working",G0 "is_signed",G0 "scale",G0 "digits",G0 "category",G0 "symbols",G0 "text",G0 "at",G0 "count",G0 "is_inserted",G0 "is_over",G0 "last",G0 "money",G0 "is_late",G0 "behind",G0 "floats",G0 "zeros",G0 "zero",G0 "nines",G0 "trail",G0 "lead",G0 "point",G0 "is_plain",G0 "seen",G0 "picture"]
noncomputable def methT:List Str:=[G0 "add_behind",G0 "take_nine",G0 "take_zero",G0 "take_point",G0 "take_scaling",G0 "take_sign",G0 "take_money",G0 "take_end",G0 "take_inserted",G0 "digits",G0 "scale",G0 "is_whole",G0 "take",G0 "count",G0 "add"]
noncomputable def globT:List (Nat×Str):=[(185,(G0 "records")),(192,(G0 "items_under")),(199,(G0 "all_items")),(206,(G0 "items_around")),(223,(G0 "is_group")),(228,(G0 "plain_kids")),(235,(G0 "told_up")),(242,(G0 "usage_of")),(249,(G0 "sign_of")),(324,(G0 "sign_at")),(329,(G0 "count_at")),(336,(G0 "signs_of")),(343,(G0 "symbols_of")),(348,(G0 "size_of_symbols")),(479,(G0 "number_picture")),(484,(G0 "text_category")),(491,(G0 "text_picture")),(496,(G0 "read_picture")),(539,(G0 "binary_width")),(546,(G0 "packed_width")),(553,(G0 "size_for")),(560,(G0 "check_usage")),(567,(G0 "check_sign")),(572,(G0 "check_clauses")),(580,(G0 "shape_of")),(587,(G0 "group_shape")),(615,(G0 "leaf_shape")),(622,(G0 "whole_size")),(629,(G0 "redefined")),(636,(G0 "set_sizes")),(643,(G0 "group_size")),(650,(G0 "set_offsets")),(669,(G0 "set_record")),(676,(G0 "lay_working")),(683,(G0 "lay_file")),(690,(G0 "set_indexes")),(695,(G0 "check_occurs")),(702,(G0 "lay_out")),(709,(G0 "_law_draw")),(716,(G0 "_law_leaf")),(723,(G0 "_law_node")),(730,(G0 "_law_item")),(737,(G0 "_law_places")),(101,(G0 "Occurs")),(148,(G0 "Item")),(174,(G0 "Data")),(285,(G0 "Picture")),(313,(G0 "Sign")),(470,(G0 "Order")),(528,(G0 "Shape"))]
noncomputable def initT:List (Nat×Nat):=[(101,91),(148,119),(174,166),(285,270),(313,303),(470,362),(528,511)]
noncomputable def mthT:List (Nat×Nat×Nat):=[(148,14,126),(148,13,133),(470,9,369),(470,0,376),(470,1,383),(470,3,397),(470,12,453),(470,11,460),(470,10,467)]
noncomputable def ownT:List (Nat×List Nat):=[(101,[4,3,2,1,0]),(148,[23,22,21,20,19,18,17,16,15,14,13,12,11,10,9,8,7,6,5]),(174,[27,26,25,24,6,0]),(285,[33,32,31,30,29,28,6]),(313,[19,35,34]),(470,[50,49,48,47,46,45,44,43,42,41,40,19,39,38,37,36]),(528,[31,6,51,20,19,18,14,13,30,29,28,30,29,28])]
noncomputable def lamPos:Pos:=⟨124,26,124,47⟩
noncomputable def lamX:Str:=G0 "one"
noncomputable def lamN:Str:=G0 "usage"
noncomputable def lamQ:Str:=G0 "usage_of.<locals>.<lambda>"
noncomputable def lawS:S:=(.seq (.set 1 (.comp (.bf .int K9) (.slice K0 K18 (.c (.int 60))) K24 1 [])) (.seq (.set 2 (.lst (.cons (.ifx K3 K3 (.lst (.cons K2 .nil))) (.cons K2 .nil)))) (.seq (.set 3 K15) (.seq (.set 4 (.call 174 .nil)) (.seq (.set 5 (.dct .nil)) (.seq (.set 6 K2) (.seq (.ifs (.cmp .eq (.call 709 (.cons K5 K40)) K4) (.seq (.set 7 (.comp (.call 723 (.cons K3 (.cons (.bin .add K4 (.call 709 (.cons K3 K40))) (.cons K1 K13)))) (.bf .range K40) K24 1 [2,3])) (.seq (.for_ 8 (.l 7) (.seq (.setI K47 K7 K4) (.seq (.ex (.call 737 (.cons K47 (.cons K2 (.cons K1 K23))))) (.set 6 (.bf .max (.cons K50 (.cons (.idx K47 K11) .nil))))))) (.setI (.a K28 25) (.c (.str [70])) (.comp (.call 730 (.cons K0 (.cons K4 .nil))) (.l 7) K24 1 [])))) .nop) (.seq (.set 9 K2) (.seq (.for_ 10 (.bf .range (.cons (.bin .add K4 (.call 709 (.cons K5 K40))) .nil)) (.seq (.set 8 (.call 723 (.cons K5 (.cons K2 (.cons K1 K6))))) (.seq (.ifs (.and (.cmp .gt (.l 10) K2) (.cmp .eq (.call 709 (.cons K5 K59)) K2)) (.setI K47 K10 (.ifx (.cmp .eq (.a (.idx K51 K35) 16) K1) (.a (.idx K51 K35) 22) (.a (.idx K51 K35) 16))) .nop) (.seq (.set 9 (.ifx (.cmp .ne (.idx K47 K10) K1) (.idx (.idx K32 (.idx K47 K10)) K4) K50)) (.seq (.ex (.call 737 (.cons K47 (.cons (.l 9) (.cons K1 K23))))) (.seq (.set 6 (.bf .max (.cons K50 (.cons (.bin .add (.l 9) (.idx K47 K11)) .nil)))) (.ex (.bm .append K51 K41)))))))) (.seq (.set 8 (.call 723 (.cons K5 (.cons K4 (.cons K1 K6))))) (.seq (.setI K47 K7 K4) (.seq (.ex (.call 737 (.cons K47 (.cons K2 (.cons (.idx K47 K21) K23))))) (.seq (.ex (.bm .append (.a K28 26) K41)) (.seq (.ex (.call 702 K20)) (.seq (.set 11 (.comp2 K0 (.bin .add (.bin .add (.bm .get (.a K28 25) (.cons (.c (.str [70])) (.cons K15 .nil))) K51) (.a K28 26)) (.call 192 K9))) (.seq (.ifs (.or (.cmp .ne (.comp (.a K0 22) (.l 11) K24 1 []) K25) (.cmp .ne (.a K28 6) K50)) (.ret K8) .nop) (.seq (.for_ 12 (.l 11) (.seq (.ifs (.or (.cmp .ne (.tup (.cons (.a K37 8) (.cons (.a K37 7) (.cons (.a K37 6) .nil)))) (.idx K32 (.a K37 22))) (.cmp .ne (.a (.a K37 5) 6) (.a K37 6))) (.ret K8) .nop) (.ifs (.cmp .ne (.cmp .eq (.a (.a K37 5) 31) K49) (.cmp .ne (.a K37 11) K15)) (.ret K8) .nop))) (.ret K24))))))))))))))))))
noncomputable def lawT:List Str:=[G0 "script",G0 "cells",G0 "source",G0 "names",G0 "data",G0 "found",G0 "end",G0 "nodes",G0 "node",G0 "begin",G0 "turn",G0 "items",G0 "item"]
end G
namespace G
noncomputable def big(n:Nat):Str:=⟨Array.replicate (n+60) 122⟩
noncomputable def attr(f:Nat):Str:=match attrT[f]? with|some x=>x|none=>big f
noncomputable def meth(f:Nat):Str:=match methT[f]? with|some x=>x|none=>big f
noncomputable def look3(k m:Nat):List (Nat×Nat×Nat)->Option Nat
 |[]=>none
 |(a,b,c)::r=>match Gg a k && Gg b m with|true=>some c|false=>look3 k m r
noncomputable def att(c f:Nat):Bool:=match yj c ownT with|some l=>l.any (Gg f)|none=>false
noncomputable def here{α:Type}(l:List (Nat×α))(f:Nat):Option Nat:=match yj f l with|some _=>some f|none=>none
noncomputable def fnA(f:Nat):Option Nat:=here chT f
noncomputable def clsA(f:Nat):Option Nat:=here initT f
noncomputable def P(ns:List Int):Prg:=⟨λk=>yj k fnT,λc=>yj c initT,λc m=>look3 c m mthT,att,λf=>Gg f 496,λ_=>false,ns⟩
noncomputable def N:Nm:=⟨λf=>yj f globT,attr,meth,1,lamPos,lamX,lamN⟩
noncomputable def T(prog:Program)(w:World)(K:Frag)(scr:Addr)(ns:List Int):Tp:=
 {prog:=prog,w:=w,K:=K,P:=w.params,lamK:=1,lamP:=lamPos,lamQ:=lamQ,lamX:=lamX,lamN:=lamN,attr:=attr,cls:=clsA,tab:=237,tabC:=241,scr:=scr,ns:=ns,fn:=fnA,att:=att}
noncomputable def fnB(K:Frag)(fn:Fn)(lm:Bool)(tb:List Str)(a:Nat):Bool:=match K.lookup a with
 |some ⟨_,_,.func fd,_⟩=>(match fd.body with
  |.stmts b=>Gg fd.globals mainGlobals && none? fd.closure && Gg fd.builtins builtinsNs && fnChk N K 241 lamQ fn lm tb fd.qualname fd.params b fd.scope fd.defaults fd.code
  |_=>false)
 |_=>false
set_option tactic.hygienic true in
theorem fnB_at{prog:Program}{w:World}{K:Frag}{scr:Addr}{ns:List Int}{fn:Fn}{lm:Bool}{tb:List Str}{a:Nat}(h:fnB K fn lm tb a=true):FnAt (T prog w K scr ns) N fn a:=by
 have h:(match K.lookup a with
  |some ⟨_,_,.func fd,_⟩=>(match fd.body with
   |.stmts b=>Gg fd.globals mainGlobals && none? fd.closure && Gg fd.builtins builtinsNs && fnChk N K 241 lamQ fn lm tb fd.qualname fd.params b fd.scope fd.defaults fd.code
   |_=>false)
  |_=>false)=true:=h
 rcases e:K.lookup a with _|⟨oc,od,dt,sl⟩
 ·rw[e] at h;exact absurd h G3
 ·rw[e] at h
  rcases dt<;>first|exact absurd h G3|skip
  rename_i fd
  obtain⟨n1,n2,n3,n4,n5,n6,n7,n8,n9,n10,n11,n12,n13,n14,n15⟩:=fd
  rcases n4 with b|b
  ·replace h:=an4 h
   obtain⟨h1,h2,h3,h4⟩:=h
   obtain rfl:n6=mainGlobals:=natE.mp h1
   obtain rfl:n7=[]:=zH h2
   obtain rfl:n15=builtinsNs:=natE.mp h3
   exact⟨oc,od,sl,n1,n2,n3,b,n5,n8,n9,n10,n11,n12,n13,n14,lm,tb,e,h4⟩
  ·exact absurd h G3
noncomputable def fnsB(K:Frag):List (Nat×Bool×List Str)->Bool
 |[]=>true
 |(a,lm,tb)::r=>(match yj a fnT with|some fn=>fnB K fn lm tb a|none=>false) && fnsB K r
end G
namespace G
noncomputable def attB(K:Frag):Bool:=ownT.all λp=>p.2.all λf=>attOk K p.1 (attr f)
noncomputable def mthB(K:Frag):Bool:=mthT.all λp=>(fnA p.2.2).isSome && mthOk K p.1 (meth p.2.1) p.2.2
noncomputable def gloB(K:Frag):Bool:=globT.all λp=>((fnA p.1).isSome ||(clsA p.1).isSome) && globOk K p.2 p.1
noncomputable def clsB(K:Frag):Bool:=initT.all λp=>makesIn K p.1 && (findIn K (.ref p.1) (G0 "__init__")==some (some (.ref p.2))) && isFn K (.ref p.2) && (fnA p.2).isSome && (yj p.1 fnT).isNone
end G
theorem ok{A B:Prop}(a:A)(e:A=B):B:=e▸a
noncomputable def Xy(f:Fl)(v:V):Prop:=match f with|.ret u=>u=v|.next=>V.none=v|.brk=>False
noncomputable def fnS(P:Prg)(w:Nat)(C:Orc)(f:Nat)(vs:List V)(H:Hp)(as:As)(v:V)(H':Hp):Prop:=
 ifS (P.fn f) λfn=>gd (!P.frm f) (ifS (bindA fn vs) λL=>exS P C w fn.body L H as λfl _ H₁ _=>Xy fl v/\H₁=H')
theorem zu{P:Prg}{w n f:Nat}{vs:List V}{H H':Hp}{as:As}{v:V}(h:fnS P w (zc P w n) f vs H as v H'):Call (zc P w (n+1)) f vs H v H':=by
 intro Q X q
 obtain⟨fn,e,h⟩:=zp h
 obtain⟨e2,h⟩:=gd_iff.mp h
 obtain⟨L,e3,h⟩:=zp h
 have e2:P.frm f=false:=by
  rcases hf:P.frm f with _|_
  ·rfl
  ·rw[hf] at e2;cases e2
 show(match P.fn f with
  |some fn=>ite2 (P.frm f) _ (ZO P w (zc P w n) fn f vs H Q X)
  |none=>_)
 rw[e]
 show ite2 (P.frm f) _ (ZO P w (zc P w n) fn f vs H Q X)
 rw[e2]
 show ifS (bindA fn vs) _
 refine Yr e3 (XO P (zc P w n) w fn.body h λfl _ H₁ _ h=>?_)
 rcases fl with _|_|u
 ·rw[h.2];rw[←h.1] at q;exact q
 ·exact h.1.elim
 ·rw[h.2,show u=v from h.1];exact q
noncomputable def Cb(ns:List Int)(b f:Nat)(vs:List V)(H:Hp)(v:V)(H':Hp):Prop:=∀m,b<=m->Call (zc (G.P ns) 60 m) f vs H v H'
noncomputable def Dp(_:List Int)(b m:Nat):Prop:=b<=m
theorem zY{ns:List Int}{b f:Nat}{vs:List V}{H H':Hp}{v:V}(as:As)(h:∀m,Dp ns b m->fnS (G.P ns) 60 (zc (G.P ns) 60 m) f vs H as v H'):Cb ns (b+1) f vs H v H':=by
 intro m hm
 rcases m with _|m
 ·exact absurd hm (D3 _)
 ·exact zu (h m (De hm))
theorem Cb.at{ns:List Int}{b c f m:Nat}{vs:List V}{H H':Hp}{v:V}(h:Cb ns b f vs H v H')(hm:Dp ns c m)(hb:G8 b c=true:=by rfl):Call (zc (G.P ns) 60 m) f vs H v H':=h m (G5 (Gj hb) hm)
theorem cb_of{ns:List Int}{b f:Nat}{vs:List V}{H H':Hp}{v:V}(h:∀{m},Dp ns b m->∃as,fnS (G.P ns) 60 (zc (G.P ns) 60 m) f vs H as v H'):Cb ns (b+1) f vs H v H':=by
 intro m hm
 rcases m with _|m
 ·exact absurd hm (D3 _)
 ·exact Gf (h (De hm)) λ_ h=>zu h
theorem I{a b:Prop}(x:a)(y:b):a/\b:=DV x y
theorem fin(v:V)(H:Hp):v=v/\H=H:=DV rfl rfl
theorem YL{ns:List Int}{b f i:Nat}{vs:List V}{H H':Hp}(e:yj f G.fnT=none)(e2:yj f G.initT=some i)(h:Cb ns b i (.obj H.length::vs) (H++[.inst f []]) .none H'):Cb ns (b+1) f vs H (.obj H.length) H':=by
 intro m hm Q X q
 rcases m with _|m
 ·exact absurd hm (D3 _)
 show(match yj f G.fnT with
  |some fn=>ite2 _ _ _
  |none=>(match yj f G.initT with
   |some i=>zc (G.P ns) 60 m i (.obj H.length::vs) (H++[.inst f []]) (λv H₁=>yJ v (Q (.obj H.length) H₁)) X
   |none=>_))
 rw[e]
 show(match yj f G.initT with
   |some i=>zc (G.P ns) 60 m i (.obj H.length::vs) (H++[.inst f []]) (λv H₁=>yJ v (Q (.obj H.length) H₁)) X
   |none=>_)
 rw[e2]
 exact h m (De hm) _ X q
theorem fin3(f:Fl)(L:Lc)(H:Hp):f=f/\L=L/\H=H:=DV rfl (DV rfl rfl)
theorem Zu{H:Hp}{i:Nat}{o:O}(h:H[i]?=some o):i < H.length:=by
 rcases GW i H.length with h1|h1
 ·exact h1
 ·rw[List.getElem?_eq_none h1] at h;cases h
theorem zk{H N:Hp}{i:Nat}{o:O}(h:H[i]?=some o):(H++N)[i]?=some o:=by rw[List.getElem?_append_left (Zu h)];exact h
theorem ze{H:Hp}{o:O}:(H++[o])[H.length]?=some o:=by rw[List.getElem?_append_right (Gi _),Nat.sub_self];rfl
theorem zB{H:Hp}{i:Nat}{o x:O}(h:H[i]?=some o):(H.set i x)[i]?=some x:=List.getElem?_set_self (Zu h)
theorem zd{H:Hp}{i j:Nat}{o x:O}(h:H[i]?=some o)(n:j≠i):(H.set j x)[i]?=some o:=by rw[List.getElem?_set_ne n];exact h
theorem Y0{H:Hp}{o x:O}:(H++[o]).set H.length x=H++[x]:=by
 rw[List.set_append_right _ _ (Gi _),Nat.sub_self];rfl
noncomputable def Ex(H H':Hp):Prop:=∀(i:Nat) (o:O),H[i]?=some o->H'[i]?=some o
theorem Ex.refl(H:Hp):Ex H H:=λ_ _ h=>h
theorem Ex.app{H:Hp}(N:Hp):Ex H (H++N):=λ_ _ h=>zk h
theorem Ex.trans{H₁ uh uk:Hp}(a:Ex H₁ uh)(b:Ex uh uk):Ex H₁ uk:=λ_ _ h=>b _ _ (a _ _ h)
theorem Ex.set{H H':Hp}(a:Ex H H'){p:Nat}(n:H[p]?=none)(x:O):Ex H (H'.set p x):=λi o h=>zd (a _ _ h) λe=>by rw[←e,n] at h;cases h
theorem yd{H:Hp}:H[H.length]?=none:=List.getElem?_eq_none (Gi _)
theorem ZJ{H:Hp}{i:Nat}(h:H.length<=i):H[i]?=none:=List.getElem?_eq_none h
theorem Ex.no{H H':Hp}(a:Ex H H'){p:Nat}(n:H'[p]?=none):H[p]?=none:=by
 rcases h:H[p]? with _|o
 ·rfl
 ·rw[a _ _ h] at n;cases n
theorem YH{H:Hp}{i j:Nat}{o:O}(h:H[i]?=some o)(n:H[j]?=none):j≠i:=λe=>by rw[e,h] at n;cases n
section
variable {P:Prg} {C:Orc} {w:Nat} {b:S} {ks:List Nat} {one:Bool} {it:It} {L L':Lc} {H H':Hp} {f:Fl}
theorem zV:ForR P C w b ks one it [] L H .next L H:=λ_ _ q=>q
theorem zx{v:V}{r:List V}{uw ux:Lc}{uh:Hp}{as:As}(e:YF ks (zR one v) L=some uw)(h:exS P C w b uw H as λg L' H' _=>g= .next/\L'=ux/\H'=uh)(s:it.stands uh=true)(k:ForR P C w b ks one it r ux uh f L' H') :
  ForR P C w b ks one it (v::r) L H f L' H':=λX Q q=>
 Yr e (XO P C w b h λg L H _ h=>by
  obtain⟨rfl,rfl,rfl⟩:=h
  exact gd_iff.mpr ⟨s,k X Q q⟩)
theorem jw{v:V}{r:List V}{uw:Lc}{as:As}(e:YF ks (zR one v) L=some uw)(h:exS P C w b uw H as λg ux uh _=>flP g False (f= .next/\ux=L'/\uh=H') λu=>f= .ret u/\ux=L'/\uh=H') :
  ForR P C w b ks one it (v::r) L H f L' H':=λX Q q=>
 Yr e (XO P C w b h λg L H _ h=>by
  rcases g with _|_|u
  ·exact h.elim
  ·obtain⟨rfl,rfl,rfl⟩:=h;exact q
  ·obtain⟨rfl,rfl,rfl⟩:=h;exact q)
theorem whEnd{c:E}{n:Nat}{as:As}(h:evS P C c L H as λu H₁ as=>trS u H₁ as λt _=>t=false/\H₁=H'):WhR P C w c b (n+1) L H .next L H':=λX Q q=>
 yk P C c h λu H₁ as h=>ZR h λt _ h=>by
  obtain⟨rfl,rfl⟩:=h;exact q
theorem whTurn{c:E}{n:Nat}{as as':As}{ux:Lc}{H₁ uh:Hp}(h:evS P C c L H as λu H' as=>trS u H' as λt _=>t=true/\H'=H₁)(hb:exS P C w b L H₁ as' λg L' H' _=>g= .next/\L'=ux/\H'=uh)(k:WhR P C w c b n ux uh f L' H'):WhR P C w c b (n+1) L H f L' H':=λX Q q=>
 yk P C c h λu H₁ as h=>ZR h λt _ h=>by
  obtain⟨rfl,rfl⟩:=h
  exact XO P C w b hb λg L H _ h=>by
   obtain⟨rfl,rfl,rfl⟩:=h
   exact k X Q q
end
section
variable {P:Prg} {C:Orc} {n:Nat} {cap:Lc} {it:It} {elt cond:E} {acc vs us:List V} {H H':Hp}
noncomputable abbrev cnd(P:Prg)(C:Orc)(cond:E):Lc->Hp->(Bool->Hp->Prop)->Prop:=λl H q=>ev P C cond X0 l H λv H'=>ifS (yu v H') λb=>q b H'
theorem KF:YJ (ev P C elt X0) (cnd P C cond) n cap it [] acc H acc.reverse H:=λ_ q=>q
theorem cpIn{v:V}{H₁ uh:Hp}{u:V}{as as':As}(e:Gg (zR (Gg n 1) v++cap).length (n+cap.length)=true)
  (hc:evS P C cond (zR (Gg n 1) v++cap) H as λx H' as=>trS x H' as λt _=>t=true/\H'=H₁)
  (he:evS P C elt (zR (Gg n 1) v++cap) H₁ as' λx H' _=>x=u/\H'=uh) (s:it.stands uh=true)
  (k:YJ (ev P C elt X0) (cnd P C cond) n cap it vs (u::acc) uh us H'):YJ (ev P C elt X0) (cnd P C cond) n cap it (v::vs) acc H us H':=λQ q=>
 gd_iff.mpr ⟨e,yk P C cond hc λx H' as h=>ZR h λt _ h=>by
  obtain⟨rfl,rfl⟩:=h
  exact yk P C elt he λx H' _ h=>by
   obtain⟨rfl,rfl⟩:=h
   exact gd_iff.mpr ⟨s,k Q q⟩⟩
end
theorem kH:∀as:List Nat,Z2 (as.map .obj) (as.map .obj)=true:=by
 intro as
 induction as with
 |nil=>
  exact rfl
 |cons a r ih=>
  show(Gg a a && Z2 (r.map .obj) (r.map .obj))=true
  rw[Fd,ih];rfl
theorem zm{i:Nat}{as:List Nat}{H:Hp}(h:H[i]?=some (.list (as.map .obj))):(It.lst i (as.map .obj)).stands H=true:=by
 show(match H[i]? with|some (.list us)=>Z2 us (as.map .obj)|_=>false)=true
 rw[h];exact kH as
theorem zo{i:Nat}{vs:List V}{H:Hp}(h:H[i]?=some (.list vs)):zU (.obj i) H=some (.lst i vs):=by
 show(match H[i]? with|some (.list vs)=>some (It.lst i vs)|some (.dict es)=>some (.keys i es)|_=>none)=_
 rw[h]
section
namespace G
open Mn
structure D where
 name:List Nat
 often:Nat
 usage:List Nat
 leaf:Option (List Nat×Bool)
 upon:List Nat
 size:Nat
structure SI where
 d:D
 level:Nat
 par:Option Nat
 kl:Nat
 cl:Nat
 oc:Nat
 kids:List Nat
 base:List Nat
 off:Nat
noncomputable def yz:List Nat:=[103,114,111,117,112]
noncomputable def zX:List Nat:=[108,101,97,100,105,110,103]
noncomputable def zr:List Nat:=[116,114,97,105,108,105,110,103]
noncomputable def zG:List Nat:=[112,97,99,107,101,100]
noncomputable def zn:List Nat:=[98,105,110,97,114,121]
noncomputable def zq:List Nat:=[100,105,115,112,108,97,121]
noncomputable def parV(p:Option Nat):V:=match p with|some a=>.obj a|none=>.none
noncomputable def picV(l:Option (List Nat×Bool)):V:=match l with|some (t,_)=>.str t|none=>.none
noncomputable def sepB(l:Option (List Nat×Bool)):Bool:=match l with|some (_,s)=>s|none=>false
noncomputable def yZ(l:Option (List Nat×Bool)):List Nat:=match sepB l with|true=>zX|false=>[]
noncomputable def occV(n oc:Nat):V:=match G8 n 1 with|true=>.none|false=>.obj oc
noncomputable def yg(s:SI)(oc pr:V)(b:List Nat)(o z:Nat)(sh:V):O:=.inst 148 [(23,.int (.ofNat s.level)),(22,.str s.d.name),(21,picV s.d.leaf),(20,.str s.d.usage),(19,.str (yZ s.d.leaf)),(18,.bool (sepB s.d.leaf)),(17,oc),(16,.str s.d.upon),(15,.none),(14,.bool false),(13,.bool false),(12,.obj s.cl),(11,.obj s.kl),(10,pr),(9,.none),(8,.str b),(7,.int (.ofNat o)),(6,.int (.ofNat z)),(5,sh)]
noncomputable def zb(s:SI)(b:List Nat)(o z:Nat)(sh:V):O:=yg s (occV s.d.often s.oc) (parV s.par) b o z sh
noncomputable def occO(n:Nat):O:=.inst 101 [(4,.int 1),(3,.int (.ofNat n)),(2,.none),(1,.tup []),(0,.tup [])]
theorem occ_no{n oc:Nat}(h:G8 n 1=true):occV n oc= .none:=by
 show(match G8 n 1 with|true=>V.none|false=>.obj oc)=_
 rw[h]
theorem occ_ob{n oc:Nat}(h:G8 n 1=false):occV n oc= .obj oc:=by
 show(match G8 n 1 with|true=>V.none|false=>.obj oc)=_
 rw[h]
structure Side (s:SI) (H:Hp):Prop where
 kids:H[s.kl]?=some (.list (s.kids.map .obj))
 occ:G8 s.d.often 1=true/\s.d.often=1∨G8 s.d.often 1=false/\H[s.oc]?=some (occO s.d.often)
noncomputable abbrev St:=Nat->Option SI
noncomputable def Inv(T:St)(H:Hp):Prop:=∀(a:Nat) (s:SI),T a=some s->(∃b o z sh,H[a]?=some (zb s b o z sh))/\Side s H
noncomputable def SzOk(T:St)(H:Hp)(a:Nat):Prop:=∃s b o p fs c,T a=some s/\H[a]?=some (zb s b o s.d.size (.obj p))/\H[p]?=some (.inst 528 fs)/\getF 6 fs=some (.int (.ofNat s.d.size))/\getF 31 fs=some (.str c)/\eqS c yz=s.d.leaf.isNone
noncomputable def OfOk(T:St)(H:Hp)(a:Nat):Prop:=∃s z sh,T a=some s/\H[a]?=some (zb s s.base s.off z sh)
structure Le (T:St) (H H':Hp):Prop where
 old:∀(i:Nat) (o:O),H[i]?=some o->T i=none->H'[i]?=some o
 sz:∀a,SzOk T H a->SzOk T H' a
 of:∀a,OfOk T H a->OfOk T H' a
 inv:Inv T H->Inv T H'
theorem Le.refl(T:St)(H:Hp):Le T H H:=⟨λ_ _ h _=>h,λ_ h=>h,λ_ h=>h,λh=>h⟩
theorem Le.trans{T:St}{H₁ uh uk:Hp}(a:Le T H₁ uh)(b:Le T uh uk):Le T H₁ uk:=⟨λi o h n=>b.old i o (a.old i o h n) n,λ_ h=>b.sz _ (a.sz _ h),λ_ h=>b.of _ (a.of _ h),λh=>b.inv (a.inv h)⟩
theorem Side.ex{s:SI}{H H':Hp}(h:Side s H)(e:Ex H H'):Side s H':=⟨e _ _ h.kids,h.occ.elim .inl λh=>.inr ⟨h.1,e _ _ h.2⟩⟩
theorem Le.ex{T:St}{H H':Hp}(e:Ex H H'):Le T H H':=⟨λi o h _=>e i o h,λ_ ⟨s,b,o,p,fs,c,h1,h2,h3,h4⟩=>⟨s,b,o,p,fs,c,h1,e _ _ h2,e _ _ h3,h4⟩,λ_ ⟨s,z,sh,h1,h2⟩=>⟨s,z,sh,h1,e _ _ h2⟩,
 λh a s t=>⟨(h a s t).1.elim λb h=>h.elim λo h=>h.elim λz h=>h.elim λsh h=>⟨b,o,z,sh,e _ _ h⟩,(h a s t).2.ex e⟩⟩
theorem Le.app{T:St}{H:Hp}(N:Hp):Le T H (H++N):=Le.ex (Ex.app N)
end G
end
section
namespace G
open Mn
section
variable {ns:List Int} {H:Hp} {a:Nat} {s:SI} {b:List Nat} {o z:Nat} {sh:V}
theorem Yp{H:Hp}(h:H[a]?=some (zb s b o z sh))(e:G8 s.d.often 1=true):H[a]?=some (yg s .none (parV s.par) b o z sh):=by rw[h,←occ_no (oc:=s.oc) e];rfl
theorem Yo{H:Hp}(h:H[a]?=some (zb s b o z sh))(e:G8 s.d.often 1=false):H[a]?=some (yg s (.obj s.oc) (parV s.par) b o z sh):=by rw[h,←occ_ob (oc:=s.oc) e];rfl
theorem jT(h:H[a]?=some (zb s b o z sh))(k:Side s H):Cb ns 1 133 [.obj a] H (.int (.ofNat s.d.often)) H:=by
 rcases k.occ with⟨e,e1⟩|⟨e,e1⟩
 ·exact zY (.o (yg s .none (parV s.par) b o z sh) .nil) λm _=>ok (I (Yp h e) (I (congrArg (λn=>V.int (.ofNat n)) e1.symm) (rfl:H=H))) (by kernel_rfl)
 ·have h:=Yo h e
  exact zY (.o (yg s (.obj s.oc) (parV s.par) b o z sh) (.o (yg s (.obj s.oc) (parV s.par) b o z sh) (.o (occO s.d.often) .nil))) λm _=>ok (I h (I h (I e1 (fin (.int (.ofNat s.d.often)) H)))) (by kernel_rfl)
theorem X2(h:H[a]?=some (zb s b o z sh))(k:Side s H)(n1:Gz z 1000000000=true)(n2:Gz s.d.often 1000000000=true):Cb ns 2 622 [.obj a] H (.int (.ofNat (z*s.d.often))) H:=
 zY (.o (zb s b o z sh) (.o (zb s b o z sh) (.c (.int (.ofNat s.d.often)) H (.g .nil)))) λm hm=>
  ok (I h (I h (I ((jT h k).at hm) (I (decide_eq_true (DV (Gj n1) (Gj n2))) (fin (.int (.ofNat (z*s.d.often))) H))))) (by kernel_rfl)
end
end G
end
section
namespace G
open Mn
noncomputable def subF:S->List S
 |.seq a b=>subF a++subF b
 |.ifs _ a b=>subF a++subF b
 |.whl _ b=>b::subF b
 |.for_ _ _ b=>b::subF b
 |.forT _ _ b=>b::subF b
 |_=>[]
noncomputable def bd(f:Fn)(i:Nat):S:=match (subF f.body)[i]? with|some s=>s|none=>.bad
noncomputable def nb(as:List Nat):Bool:=match as with|[]=>false|_::_=>true
noncomputable def Kn(T:St)(as:List Nat):Prop:=∀k,k∈as->∃s,T k=some s/\Gg s.level 66=false
section
variable (ns:List Int) {T:St} {H:Hp}
theorem XU{n k:Nat}(h:Gg n k=false):eqI (.ofNat n) (.ofNat k)=false:=decide_eq_false λe=>by
 rw[Int.ofNat.inj e,Fd] at h;cases h
theorem kF{C:Orc}{it:It}(iv:Inv T H)(st:it.stands H=true):∀(as:List Nat) (acc:List V),Kn T as->
  YJ (ev (P ns) C (.l 0) X0) (cnd (P ns) C (.cmp .ne (.a (.l 0) 23) (.g 0 (.int 66)))) 1 [] it (as.map .obj) acc H (acc.reverse++as.map .obj) H:=by
 intro as
 induction as with
 |nil=>
  intro acc y2
  exact by rw[show acc.reverse++([]:List Nat).map V.obj=acc.reverse from GH _];exact KF
 |cons k r ih=>
  intro acc h
  refine za (h k (.head _)) λs t l=>?_
  obtain⟨⟨b,o,z,sh,h1⟩,_⟩:=iv k s t
  have ih:=ih (.obj k::acc) λq hq=>h q (.tail _ hq)
  rw[show acc.reverse++(k::r).map V.obj=(V.obj k::acc).reverse++r.map V.obj by rw[Dc,Gk];rfl]
  refine cpIn (H₁:=H) (as:=.o (zb s b o z sh) (.b true .nil)) (as':=.nil) rfl (ok (I h1 (I (congrArg (λq=>some (!q)) (XU l):(some (!eqI (.ofNat s.level) (.ofNat 66)))=some true) (I (rfl:true=true) (rfl:H=H)))) (by kernel_rfl)) (ok (I (rfl:V.obj k=V.obj k) (rfl:H=H)) (by kernel_rfl)) st ih
variable {ns}
theorem Jf{a:Nat}{s:SI}(iv:Inv T H)(t:T a=some s)(kn:Kn T s.kids)(n:G8 (s.kids.map V.obj).length 1000=true):Cb ns 1 228 [.obj a] H (.obj H.length) (H++[.list (s.kids.map .obj)]):=by
 obtain⟨⟨b,o,z,sh,h1⟩,h2⟩:=iv a s t
 exact zY (.o (zb s b o z sh) (.it (.lst s.kl (s.kids.map .obj)) (.m (s.kids.map .obj) H (.g .nil)))) λm hm=>
  ok (I h1 (I (zo h2.kids) (I (kF ns (C:=zc (P ns) 60 m) iv (zm h2.kids) s.kids [] kn) (I n (fin (.obj H.length) (H++[.list (s.kids.map .obj)])))))) (by kernel_rfl)
theorem jX{i j:Nat}{as:List Nat}(h:H[i]?=some (.list (as.map .obj)))(h2:H[j]?=some (.list [])):zW .ne (.obj i) (.obj j) H=some (nb as):=by
 show((match H[i]? with|some (.list vs)=>(match H[j]? with|some (.list us)=>(match Gg vs.length us.length with|true=>eqFs vs us|false=>some false)|_=>none)|_=>none).map (!·))=_
 rw[h,h2]
 rcases as with _|⟨a,r⟩<;>rfl
theorem ne_new(H:Hp)(as:List Nat):zW .ne (.obj H.length) (.obj (H++[O.list (as.map .obj)]).length) (H++[O.list (as.map .obj)]++[O.list []])=some (nb as):=jX (zk ze) ze
theorem Jh{a:Nat}{s:SI}(iv:Inv T H)(t:T a=some s)(kn:Kn T s.kids)(n:G8 (s.kids.map V.obj).length 1000=true):Cb ns 1 223 [.obj a] H (.bool (nb s.kids)) (H++[.list (s.kids.map .obj)]++[.list []]):=by
 obtain⟨⟨b,o,z,sh,h1⟩,h2⟩:=iv a s t
 exact zY (.o (zb s b o z sh) (.it (.lst s.kl (s.kids.map .obj)) (.m (s.kids.map .obj) H (.g (.b (nb s.kids) .nil))))) λm hm=>
  ok (I h1 (I (zo h2.kids) (I (kF ns (C:=zc (P ns) 60 m) iv (zm h2.kids) s.kids [] kn) (I n (I (ne_new H s.kids) (fin (.bool (nb s.kids)) (H++[.list (s.kids.map .obj)]++[.list []]))))))) (by kernel_rfl)
end
end G
end
section
namespace G
open Mn
noncomputable def Z3(T:St):List Nat->Prop
 |[]=>True
 |p::r=>(∃s,T p=some s/\s.par=r.head?)/\Z3 T r
theorem zN{b:Bm}{i:Nat}{vs:List V}{H:Hp}(h:H[i]?=some (.list vs))(e:∀u H,YT b u H=isLB u H:=by intros;rfl):YT b (.obj i) H=true:=by
 rw[e]
 show(match H[i]? with|some (.list _)=>true|_=>false)=true
 rw[h]
theorem Zt(as:List Nat)(a:Nat):as.map V.obj++[V.obj a]=(as++[a]).map V.obj:=by rw[Gw];rfl
theorem set_snoc(H:Hp)(as:List Nat)(a:Nat):(H++[O.list (as.map .obj)]).set H.length (.list (as.map V.obj++[V.obj a]))=H++[O.list ((as++[a]).map .obj)]:=by rw[Zt];exact Y0
theorem yK{as:List Nat}{n:Nat}(h:as.length < n):Gz (as.map V.obj).length n=true:=by rw[Gm];exact G6 h
section
variable (ns:List Int) {T:St} {H:Hp}
theorem ar_loop{C:Orc}(iv:Inv T H)(a:Nat):∀(anc done:List Nat) (n:Nat),Z3 T anc->done.length+anc.length < 100->
  WhR (P ns) C 60 (.cmp .isnot (.l 2) (.c .none)) (bd f206 0) (n+anc.length+1) [.obj a,.obj H.length,parV anc.head?] (H++[.list (done.map .obj)]) .next [.obj a,.obj H.length,.none] (H++[.list ((done++anc).map .obj)]):=by
 intro anc
 induction anc with
 |nil=>
  intro done n y3 y4
  rw[GH]
  exact whEnd (as:=.nil) (ok (I (rfl:false=false) (rfl:H++[O.list (done.map .obj)]=H++[O.list (done.map .obj)])) (by kernel_rfl))
 |cons p r ih=>
  intro done n ch l
  obtain⟨⟨s,t,e⟩,ch⟩:=ch
  obtain⟨⟨b,o,z,sh,h1⟩,_⟩:=iv p s t
  have l':(done++[p]).length+r.length < 100:=by rw[G7];simp only[GB,D5] at l ⊢;exact om84 l
  have ih:=ih (done++[p]) n ch l'
  rw[show done++p::r=done++[p]++r by rw[Gk];rfl]
  refine whTurn (H₁:=H++[O.list (done.map .obj)]) (as:=.nil) (as':=.g (.o (.list (done.map .obj)) (.g (.h (H++[.list ((done++[p]).map .obj)]) (.o (zb s b o z sh) .nil)))))
   (ok (I (rfl:true=true) (rfl:H++[O.list (done.map .obj)]=H++[O.list (done.map .obj)])) (by kernel_rfl))
   (ok (I (zN (b:=.append) (ze (H:=H) (o:=.list (done.map .obj)))) (I (ze (H:=H) (o:=.list (done.map .obj))) (I (yK (as:=done) (n:=1000) (om85 l)) (I (set_snoc H done p) (I (zk (N:=[.list ((done++[p]).map .obj)]) h1)
    (I (rfl:Fl.next=Fl.next) (I (congrArg (λx=>[V.obj a,V.obj H.length,parV x]) e) (rfl:H++[O.list ((done++[p]).map .obj)]=H++[O.list ((done++[p]).map .obj)])))))))) (by kernel_rfl)) ih
theorem j2{ns}{a:Nat}{s:SI}{anc:List Nat}(iv:Inv T H)(t:T a=some s)(e:s.par=anc.head?)(ch:Z3 T anc)(l:anc.length < 50):Cb ns 1 206 [.obj a] H (.obj H.length) (H++[.list (anc.map .obj)]):=by
 obtain⟨⟨b,o,z,sh,h1⟩,h2⟩:=iv a s t
 have w:∀C,WhR (P ns) C 60 (.cmp .isnot (.l 2) (.c .none)) (bd f206 0) 60 [.obj a,.obj H.length,parV s.par] (H++[.list []]) .next [.obj a,.obj H.length,.none] (H++[.list (anc.map .obj)]):=λC=>by
  rw[e,show(60:Nat)=(59 - anc.length)+anc.length+1 by exact om87 l]
  exact ar_loop ns iv a anc [] _ ch (by simp only[D5];exact om88 l)
 exact zY (.o (zb s b o z sh) (.l .next [.obj a,.obj H.length,.none] (H++[.list (anc.map .obj)]) .nil)) λm hm=>
  ok (I (zk (N:=[.list []]) h1) (I (w (zc (P ns) 60 m)) (fin (.obj H.length) (H++[.list (anc.map .obj)])))) (by kernel_rfl)
end
end G
end
section
namespace G
open Mn
noncomputable def Eff(T:St):List Nat->List Nat->Prop
 |[],e=>e=[]
 |p::r,e=>∃s,T p=some s/\(s.d.usage=[]/\Eff T r e∨eqS s.d.usage []=false/\e=s.d.usage)
noncomputable def disp(e:List Nat):List Nat:=match e with|[]=>zq|_=>e
section
variable {ns:List Int} {T:St} {H:Hp}
theorem cb_lam{k:Nat}{s:SI}{b:List Nat}{o z:Nat}{sh:V}(h:H[k]?=some (zb s b o z sh)):Cb ns 1 1 [.obj k] H (.str s.d.usage) H:=
 zY (.o (zb s b o z sh) .nil) λ_ _=>ok (I h (fin (.str s.d.usage) H)) (by kernel_rfl)
theorem ne_e{e:List Nat}(h:eqS e []=false):some (!eqS e [])=some true:=by rw[h];rfl
theorem tu_loop{m i:Nat}(hm:Dp ns 1 m)(iv:Inv T H):∀(as vs:List Nat) (e:List Nat) (x:V) (a:Nat),(It.lst i (vs.map .obj)).stands H=true->Eff T as e->
  ∃f L',ForR (P ns) (zc (P ns) 60 m) 60 (bd f235 0) [2] true (.lst i (vs.map .obj)) (as.map .obj) [.obj a,.fn 1,x] H f L' H/\(f= .next/\e=[]∨f= .ret (.str e)/\eqS e []=false):=by
 intro as
 induction as with
 |nil=>
  intro vs e x a st h
  exact⟨_,_,zV,.inl ⟨rfl,h⟩⟩
 |cons p r ih=>
  intro vs e x a st h
  refine za (h) ?_;clear h;intro s t h
  obtain⟨⟨b,o,z,sh,h1⟩,_⟩:=iv p s t
  have c:=(cb_lam (ns:=ns) h1).at hm
  rcases h with⟨u,h⟩|⟨u,rfl⟩
  ·refine zl (ih vs e (.obj p) a st h) λf L' k q=>?_
   rw[u] at c
   exact⟨f,L',zx (as:=.c (.str []) H .nil) rfl (ok (I c (I (rfl:Fl.next=Fl.next) (I (rfl:[V.obj a,.fn 1,.obj p]=[.obj a,.fn 1,.obj p]) (rfl:H=H)))) (by kernel_rfl)) st k,q⟩
  ·exact⟨.ret (.str s.d.usage),[.obj a,.fn 1,.obj p],jw (as:=.c (.str s.d.usage) H (.b true (.c (.str s.d.usage) H .nil))) rfl (ok (I c (I (ne_e u) (I c (I (rfl:Fl.ret (.str s.d.usage)= .ret (.str s.d.usage)) (I (rfl:[V.obj a,.fn 1,.obj p]=[.obj a,.fn 1,.obj p]) (rfl:H=H)))))) (by kernel_rfl)),.inr ⟨rfl,u⟩⟩
noncomputable def upH(H:Hp)(a:Nat)(anc:List Nat):Hp:=H++[.list [.obj a]]++[.list (anc.map .obj)]++[.list ((a::anc).map .obj)]
theorem upEx(H:Hp)(a:Nat)(anc:List Nat):Ex H (upH H a anc):=((Ex.app _).trans (Ex.app _)).trans (Ex.app _)
theorem YY(H:Hp)(a:Nat)(anc:List Nat):(upH H a anc)[(H++[O.list [V.obj a]]++[O.list (anc.map .obj)]).length]?=some (.list ((a::anc).map .obj)):=ze
theorem cb_told{a:Nat}{s:SI}{anc:List Nat}{e:List Nat}(iv:Inv T H)(t:T a=some s)(pe:s.par=anc.head?)(ch:Z3 T anc)(l:anc.length < 50)(h:Eff T (a::anc) e):Cb ns 2 235 [.obj a,.fn 1] H (.str e) (upH H a anc):=by
 have ex1:Ex H (H++[O.list [V.obj a]]):=Ex.app _
 have c:=j2 (ns:=ns) ((Le.ex ex1).inv iv) t pe ch l
 have iv':=(Le.ex (upEx H a anc)).inv iv
 have g:∀{m},Dp ns 1 m->∃as,fnS (P ns) 60 (zc (P ns) 60 m) 235 [.obj a,.fn 1] H as (.str e) (upH H a anc):=λ{m} hm=>by
  refine zl (tu_loop (i:=(H++[O.list [V.obj a]]++[O.list (anc.map .obj)]).length) hm iv' (a::anc) (a::anc) e .bad a (zm (YY H a anc)) h) λf L' k q=>?_
  have gl:G8 ([V.obj a].length+(anc.map V.obj).length) 1000=true:=by rw[Gm];exact G6 (show 1+anc.length<=1000 by exact om86 l)
  have l1:(H++[O.list [V.obj a]]++[O.list (anc.map .obj)])[H.length]?=some (.list [V.obj a]):=zk ze
  rcases q with⟨rfl,rfl⟩|⟨rfl,q⟩
  ·exact⟨.c (.obj (H++[O.list [V.obj a]]).length) (H++[O.list [V.obj a]]++[O.list (anc.map .obj)]) (.o (.list [.obj a]) (.o (.list (anc.map .obj)) (.g (.it (.lst (H++[O.list [V.obj a]]++[O.list (anc.map .obj)]).length ((a::anc).map .obj)) (.l .next L' (upH H a anc) .nil))))),
    ok (I (c.at hm) (I l1 (I (ze (H:=H++[O.list [V.obj a]]) (o:=O.list (anc.map .obj))) (I gl (I (zo (YY H a anc)) (I k (fin (.str []) (upH H a anc)))))))) (by kernel_rfl)⟩
  ·exact⟨.c (.obj (H++[O.list [V.obj a]]).length) (H++[O.list [V.obj a]]++[O.list (anc.map .obj)]) (.o (.list [.obj a]) (.o (.list (anc.map .obj)) (.g (.it (.lst (H++[O.list [V.obj a]]++[O.list (anc.map .obj)]).length ((a::anc).map .obj)) (.l (.ret (.str e)) L' (upH H a anc) .nil))))),
    ok (I (c.at hm) (I l1 (I (ze (H:=H++[O.list [V.obj a]]) (o:=O.list (anc.map .obj))) (I gl (I (zo (YY H a anc)) (I k (fin (.str e) (upH H a anc)))))))) (by kernel_rfl)⟩
 exact cb_of g
end
end G
end
section
namespace G
open Mn
theorem YR:∀x:List Nat,eqS x x=true:=by
 intro x
 induction x with
 |nil=>
  exact rfl
 |cons a r ih=>
  show(match Gg a a with|true=>eqS r r|false=>false)=true
  rw[Fd];exact ih
section
variable {ns:List Int} {T:St} {H:Hp}
theorem ZC{a:Nat}{s:SI}{anc:List Nat}{e:List Nat}(iv:Inv T H)(t:T a=some s)(pe:s.par=anc.head?)(ch:Z3 T anc)(l:anc.length < 50)(h:Eff T (a::anc) e):Cb ns 3 242 [.obj a] H (.str (disp e)) (upH H a anc):=by
 have c:=cb_told (ns:=ns) iv t pe ch l h
 rcases e with _|⟨x,r⟩
 ·exact zY (.c (.str []) (upH H a anc) .nil) λ_ hm=>ok (I (c.at hm) (fin (.str zq) (upH H a anc))) (by kernel_rfl)
 ·exact zY (.c (.str (x::r)) (upH H a anc) .nil) λ_ hm=>ok (I (c.at hm) (fin (.str (x::r)) (upH H a anc))) (by kernel_rfl)
theorem cb_sign{a:Nat}{s:SI}{anc:List Nat}{tx:List Nat}(iv:Inv T H)(t:T a=some s)(pe:s.par=anc.head?)(ch:Z3 T anc)(l:anc.length < 50)(h:s.d.leaf=some (tx,true)):Cb ns 2 249 [.obj a] H (.tup [.str zX,.bool true]) (upH H a anc):=by
 have ex1:Ex H (H++[O.list [V.obj a]]):=Ex.app _
 have c:=j2 (ns:=ns) ((Le.ex ex1).inv iv) t pe ch l
 obtain⟨⟨b,o,z,sh,h1⟩,_⟩:=(Le.ex (upEx H a anc)).inv iv a s t
 have gl:G8 ([V.obj a].length+(anc.map V.obj).length) 1000=true:=by rw[Gm];exact G6 (show 1+anc.length<=1000 by exact om86 l)
 have l1:(H++[O.list [V.obj a]]++[O.list (anc.map .obj)])[H.length]?=some (.list [V.obj a]):=zk ze
 have e1:some (!eqS (yZ s.d.leaf) [])=some true:=by rw[h];rfl
 have e2:[V.str (yZ s.d.leaf),V.bool (sepB s.d.leaf)]=[.str zX,.bool true]:=by rw[h];rfl
 refine zY (.c (.obj (H++[O.list [V.obj a]]).length) (H++[O.list [V.obj a]]++[O.list (anc.map .obj)]) (.o (.list [.obj a]) (.o (.list (anc.map .obj)) (.g (.it (.lst (H++[O.list [V.obj a]]++[O.list (anc.map .obj)]).length ((a::anc).map .obj)) (.l (.ret (.tup [.str zX,.bool true])) [.obj a,.obj a] (upH H a anc) .nil))))))
  λm hm=>ok (I (c.at hm) (I l1 (I (ze (H:=H++[O.list [V.obj a]]) (o:=O.list (anc.map .obj))) (I gl (I (zo (YY H a anc)) (I (?_:ForR (P ns) (zc (P ns) 60 m) 60 (bd f249 0) [1] true (.lst (H++[O.list [V.obj a]]++[O.list (anc.map .obj)]).length ((a::anc).map .obj)) (V.obj a::anc.map .obj) [.obj a,.bad] (upH H a anc) (.ret (.tup [.str zX,.bool true])) [.obj a,.obj a] (upH H a anc)) (fin (.tup [.str zX,.bool true]) (upH H a anc)))))))) (by kernel_rfl)
 exact jw (as:=.o (zb s b o z sh) (.b true (.o (zb s b o z sh) (.o (zb s b o z sh) .nil)))) rfl (ok (I h1 (I e1 (I h1 (I h1 (I (congrArg (λx=>Fl.ret (.tup x)) e2.symm) (I (rfl:[V.obj a,V.obj a]=[.obj a,.obj a]) (rfl:upH H a anc=upH H a anc))))))) (by kernel_rfl))
noncomputable def Us(T:St)(nm:List Nat)(us:List Nat):Prop:=∀u,u∈us->∃s,T u=some s/\s.d.upon=nm/\eqS s.d.name nm=false
theorem rd_loop{C:Orc}{k g ap:Nat}{sk sg:SI}{it:It}(iv:Inv T H)(st:it.stands H=true)(tk:T k=some sk)(tg:T g=some sg)(eg:sg.d.name=sk.d.upon)(og:G8 sg.d.often 1=true)(pre:List V):∀(us:List Nat) (x:V),Us T sk.d.upon us->ForR (P ns) C 60 (bd f629 0) [2] true it (us.map V.obj++.obj g::pre) [.obj k,.obj ap,x] H (.ret (.obj g)) [.obj k,.obj ap,.obj g] H:=by
 intro us
 induction us with
 |nil=>
  intro x y2
  obtain⟨⟨b,o,z,sh,h1⟩,_⟩:=iv k sk tk
  obtain⟨⟨b',o',z',sh',h2⟩,_⟩:=iv g sg tg
  exact jw (as:=.o (zb sg b' o' z' sh') (.o (zb sk b o z sh) (.b true (.o (yg sg .none (parV sg.par) b' o' z' sh') .nil)))) rfl
   (ok (I h2 (I h1 (I (show some (eqS sg.d.name sk.d.upon)=some true by rw[eg,YR]) (I (Yp h2 og) (fin3 (.ret (.obj g)) [.obj k,.obj ap,.obj g] H))))) (by kernel_rfl))
 |cons u us ih=>
  intro x h
  refine yQ (h u (.head _)) λsu tu eu nu=>?_
  obtain⟨⟨b,o,z,sh,h1⟩,_⟩:=iv k sk tk
  obtain⟨⟨b',o',z',sh',h2⟩,_⟩:=iv u su tu
  exact zx (as:=.o (zb su b' o' z' sh') (.o (zb sk b o z sh) (.b false (.o (zb su b' o' z' sh') (.o (zb sk b o z sh) (.b false .nil)))))) rfl
   (ok (I h2 (I h1 (I (congrArg some nu) (I h2 (I h1 (I (show some (!eqS su.d.upon sk.d.upon)=some false by rw[eu,YR];rfl) (fin3 .next [.obj k,.obj ap,.obj u] H))))))) (by kernel_rfl)) st
   (ih (.obj u) λq hq=>h q (.tail _ hq))
theorem Xk{k g ap:Nat}{sk sg:SI}{us pre:List Nat}(iv:Inv T H)(tk:T k=some sk)(tg:T g=some sg)(eg:sg.d.name=sk.d.upon)(og:G8 sg.d.often 1=true)(hu:Us T sk.d.upon us)
  (h:H[ap]?=some (.list ((us++g::pre).reverse.map V.obj))):Cb ns 1 629 [.obj k,.obj ap] H (.obj g) (H++[.list ((us++g::pre).map V.obj)]):=by
 have e:((us++g::pre).reverse.map V.obj).reverse=(us++g::pre).map V.obj:=by rw[FY,DB]
 have st:=zm (H:=H++[O.list ((us++g::pre).map V.obj)]) ze
 have e2:(us++g::pre).map V.obj=us.map V.obj++.obj g::pre.map V.obj:=by rw[Gw];rfl
 have lp:∀C,ForR (P ns) C 60 (bd f629 0) [2] true (.lst H.length ((us++g::pre).map V.obj)) ((us++g::pre).map V.obj) [.obj k,.obj ap,.bad] (H++[.list ((us++g::pre).map V.obj)]) (.ret (.obj g)) [.obj k,.obj ap,.obj g] (H++[.list ((us++g::pre).map V.obj)]):=λC=>by
  have q:=rd_loop (ns:=ns) (C:=C) (ap:=ap) ((Le.app _).inv iv) st tk tg eg og (pre.map V.obj) us .bad hu
  rw[←e2] at q
  exact q
 refine zY (.o (.list ((us++g::pre).reverse.map V.obj)) (.it (.lst H.length ((us++g::pre).map V.obj)) (.l (.ret (.obj g)) [.obj k,.obj ap,.obj g] (H++[.list ((us++g::pre).map V.obj)]) .nil))) λm _=>?_
 have it:zU (.obj H.length) (H++[O.list ((us++g::pre).reverse.map V.obj).reverse])=some (.lst H.length ((us++g::pre).map V.obj)):=by rw[e];exact zo ze
 have lp':ForR (P ns) (zc (P ns) 60 m) 60 (bd f629 0) [2] true (.lst H.length ((us++g::pre).map V.obj)) ((us++g::pre).map V.obj) [.obj k,.obj ap,.bad] (H++[.list ((us++g::pre).reverse.map V.obj).reverse]) (.ret (.obj g)) [.obj k,.obj ap,.obj g] (H++[.list ((us++g::pre).map V.obj)]):=by rw[e];exact lp _
 exact ok (I h (I it (I lp' (fin (.obj g) (H++[.list ((us++g::pre).map V.obj)]))))) (by kernel_rfl)
end
end G
end
section
namespace G
open Mn
noncomputable def ZP(g:O->Hp)(c:Nat)(fs:List (Nat×V)):Nat->Nat->As->As
 |_,0,r=>r
 |k,n+1,r=>.o (.inst c (fs.take k)) (.h (g (.inst c (fs.take (k+1)))) (ZP g c fs (k+1) n r))
noncomputable def obSet(g:O->Hp)(i c:Nat)(fs:List (Nat×V))(R:Prop):Nat->Nat->Prop
 |_,0=>R
 |k,n+1=>(g (.inst c (fs.take k)))[i]?=some (.inst c (fs.take k))/\(g (.inst c (fs.take k))).set i (.inst c (fs.take (k+1)))=g (.inst c (fs.take (k+1)))/\obSet g i c fs R (k+1) n
theorem yb{g:O->Hp}{i:Nat}(c:Nat)(fs:List (Nat×V)){R:Prop}(h1:∀x,(g x)[i]?=some x)(h2:∀x y,(g x).set i y=g y)(h:R):∀n k,obSet g i c fs R k n:=by
 intro n
 induction n with
 |zero=>
  intro y1
  exact h
 |succ n ih=>
  intro k
  exact⟨h1 _,h2 _ _,ih (k+1)⟩
noncomputable def g0(H:Hp)(x:O):Hp:=H++[x]
noncomputable def g1(H:Hp)(l:O)(x:O):Hp:=H++[x]++[l]
noncomputable def g2(H:Hp)(l m:O)(x:O):Hp:=H++[x]++[l]++[m]
theorem jf{H N:Hp}{i:Nat}{x:O}(h:i < H.length):(H++N).set i x=H.set i x++N:=List.set_append_left _ _ h
theorem len1(H:Hp)(x:O):(H++[x]).length=H.length+1:=by rw[G7];rfl
theorem JB(H:Hp)(x:O):(g0 H x)[H.length]?=some x:=ze
theorem YQ(H:Hp)(x y:O):(g0 H x).set H.length y=g0 H y:=Y0
theorem g1_at(H:Hp)(l x:O):(g1 H l x)[H.length]?=some x:=zk ze
theorem g1_set(H:Hp)(l x y:O):(g1 H l x).set H.length y=g1 H l y:=by
 show(H++[x]++[l]).set _ _=H++[y]++[l]
 rw[jf (Zu (ze (o:=x))),Y0]
theorem g2_at(H:Hp)(l m x:O):(g2 H l m x)[H.length]?=some x:=zk (zk ze)
theorem g2_set(H:Hp)(l m x y:O):(g2 H l m x).set H.length y=g2 H l m y:=by
 show(g1 H l x++[m]).set _ _=g1 H l y++[m]
 rw[jf (Zu (g1_at H l x)),g1_set]
section
variable {ns:List Int}
theorem KI(H:Hp)(n:Nat):Cb ns 2 101 [.int 1,.int (.ofNat n)] H (.obj H.length) (H++[occO n]):=
 YL rfl rfl (zY (ZP (g0 H) 101 [(4,.int 1),(3,.int (.ofNat n)),(2,.none),(1,.tup []),(0,.tup [])] 0 5 .nil) λ_ _=>
  ok (yb 101 [(4,.int 1),(3,.int (.ofNat n)),(2,.none),(1,.tup []),(0,.tup [])] (JB H) (YQ H) (fin .none (H++[occO n])) 5 0) (by kernel_rfl))
noncomputable def grpF(z:Nat):List (Nat×V):=[(31,.str yz),(6,.int (.ofNat z)),(51,.none),(20,.str zq),(19,.str zr),(18,.bool false),(14,.bool false),(13,.bool false),(30,.int 0),(29,.int 0),(28,.bool false)]
theorem cb_grp(H:Hp)(z:Nat):Cb ns 3 587 [.int (.ofNat z)] H (.obj H.length) (H++[.inst 528 (grpF z)]):=by
 have c:Cb ns 2 528 [.str yz,.int (.ofNat z)] H (.obj H.length) (H++[.inst 528 (grpF z)]):=
  YL rfl rfl (zY (ZP (g0 H) 528 (grpF z) 0 11 .nil) λ_ _=>ok (yb 528 (grpF z) (JB H) (YQ H) (fin .none (H++[.inst 528 (grpF z)])) 11 0) (by kernel_rfl))
 exact zY (.c (.obj H.length) (H++[.inst 528 (grpF z)]) .nil) λ_ hm=>ok (I (c.at hm) (fin (.obj H.length) (H++[.inst 528 (grpF z)]))) (by kernel_rfl)
end
end G
end
section
namespace G
open Mn
noncomputable def eqO(a:Option V)(b:V):Bool:=match a with|some x=>beqV x b|none=>false
theorem eqO_eq{a:Option V}{s:V}(h:eqO a s=true):a=some s:=by
 rcases a with _|v
 ·cases h
 ·exact congrArg some (KT h)
noncomputable def picL(cat:List Nat)(dg sc:Nat)(sg:Bool)(sz:Nat):List (Nat×V):=[(31,.str cat),(30,.int (.ofNat dg)),(29,.int (.ofNat sc)),(28,.bool sg),(6,.int (.ofNat sz))]
noncomputable def picF(l:List (Nat×V))(fs:List (Nat×V)):Bool:=l.all λp=>eqO (getF p.1 fs) p.2
noncomputable def picB(l:List (Nat×V))(v:V)(H:Hp):Bool:=match v with
 |.obj i=>(match H[i]? with|some (.inst d fs)=>Gg d 285 && picF l fs|_=>false)
 |_=>false
noncomputable def zD:List Nat:=[97,108,112,104,97,110,117,109,101,114,105,99]
noncomputable def zj:List Nat:=[110,117,109,101,114,105,99]
noncomputable def PicOk(t cat:List Nat)(dg sc:Nat)(sg:Bool)(sz:Nat):Prop:=∀(ns:List Int) (n:Nat),ZO (P ns) 60 (zc (P ns) 60 (n+8)) f496 496 [.str t] [] (λv H=>picB (picL cat dg sc sg sz) v H=true) X0=(true=true)
noncomputable def Pic(H:Hp)(p:Nat)(l:List (Nat×V)):Prop:=∃fs,H[p]?=some (.inst 285 fs)/\∀q,q∈l->getF q.1 fs=some q.2
theorem Pic.ex{H H':Hp}{p:Nat}{l:List (Nat×V)}(h:Pic H p l)(e:Ex H H'):Pic H' p l:=Gf h λfs h=>⟨fs,e _ _ h.1,h.2⟩
theorem getF_sh(n f:Nat):∀fs:List (Nat×V),getF f (fs.map λp=>(p.1,shV n p.2))=(getF f fs).map (shV n):=by
 intro fs
 induction fs with
 |nil=>
  exact rfl
 |cons hdp r ih=>
  obtain⟨k,v⟩:=hdp
  show(match Gg k f with|true=>some (shV n v)|false=>getF f (r.map λp=>(p.1,shV n p.2)))=(match Gg k f with|true=>some v|false=>getF f r).map (shV n)
  rcases Gg k f with _|_
  ·exact ih
  ·rfl
set_option tactic.hygienic true in
theorem picB_to{l:List (Nat×V)}{v:V}{H:Hp}(h:picB l v H=true):∃i fs,v= .obj i/\H[i]?=some (.inst 285 fs)/\picF l fs=true:=by
 rcases v<;>first|exact absurd h G3|skip
 rename_i i
 refine(?_:(match H[i]? with|some (.inst d fs)=>Gg d 285 && picF l fs|_=>false)=true->_) h
 rcases e:H[i]? with _|o
 ·exact λh=>absurd h G3
 ·rcases o with⟨d,fs⟩|_|_|_<;>first|exact λh=>absurd h G3|skip
  exact λh=>⟨i,fs,rfl,by rw[e,Go (Gs.mp h).1],(Gs.mp h).2⟩
theorem flat_sh{n:Nat}{v:V}(h:XM v=true):shV n v=v:=by rcases v<;>first|rfl|exact absurd h G3
theorem pic_sh{H' H:Hp}{v:V}{l:List (Nat×V)}(hl:l.all (λq=>XM q.2)=true)(h:picB l v H'=true):∃p,shV H.length v= .obj p/\Pic (H++H'.map (shO H.length)) p l:=by
 refine zy (picB_to h) λi fs e1 e2 e3=>⟨H.length+i,by rw[e1];rfl,fs.map λp=>(p.1,shV H.length p.2),?_,λq hq=>?_⟩
 ·rw[List.getElem?_append_right (Gp _ _),Nat.add_sub_cancel_left,List.getElem?_map,e2];rfl
 ·rw[getF_sh,eqO_eq (GA.mp e3 q hq)];exact congrArg some (flat_sh (GA.mp hl q hq))
theorem Yx{t cat:List Nat}{dg sc:Nat}{sg:Bool}{sz:Nat}(h:PicOk t cat dg sc sg sz){ns:List Int}{m:Nat}(hm:Dp ns 9 m)(H:Hp){Gl:Prop}(kG:∀p H',(Call (zc (P ns) 60 m) 496 [.str t] H (.obj p) H')->(Ex H H')->(Pic H' p (picL cat dg sc sg sz))->Gl):Gl:=by
 refine Gf (GT hm) λn e=>?_
 subst e
 refine zl (Xl (Y6 (P ns) 60 (n+8)) f496 496 [.str t] [] (λv H=>picB (picL cat dg sc sg sz) v H=true) (Eq.mpr (h ns n) rfl)) λv H' q r=>za (pic_sh (H:=H) rfl q) λp e q=>kG p (H++H'.map (shO H.length)) (λQ X k=>?_) (Ex.app _) q
 rw[←e] at k
 exact r (λv H'=>Q (shV H.length v) (H++H'.map (shO H.length))) (λk H'=>X k (H++H'.map (shO H.length))) k
end G
end
section
namespace G
open Mn
noncomputable def bw(n:Nat):Nat:=match G8 n 4 with|true=>2|false=>match G8 n 9 with|true=>4|false=>8
inductive LeafOk:List Nat->List Nat->Bool->Nat->Prop
 |txt (t:List Nat) (z:Nat):PicOk t zD 0 0 false z->LeafOk [] t false z
 |num (t:List Nat) (dg sc z:Nat):PicOk t zj dg sc false z->LeafOk [] t false z
 |sgn (t:List Nat) (dg sc z:Nat):PicOk t zj dg sc true z->LeafOk [] t true (z+1)
 |pkd (t:List Nat) (dg sc z:Nat):PicOk t zj dg sc true z->1<=dg->dg<=18->LeafOk zG t false (dg / 2+1)
 |bin (t:List Nat) (dg sc z:Nat):PicOk t zj dg sc true z->1<=dg->dg<=18->LeafOk zn t false (bw dg)
noncomputable def usL:List V:=(yB [100,105,115,112,108,97,121,32,112,97,99,107,101,100,32,98,105,110,97,114,121,32,105,110,100,101,120]).map .str
theorem usIn(u:List Nat)(h:inVs u usL=some true)(H:Hp):zW .notin (.str u) (.obj H.length) (H++[.list usL])=some false:=by
 show(match (H++[O.list usL])[H.length]? with|some (.list vs)=>inVs u vs|some (.dict es)=>some (getD u es).isSome|_=>none).map (!·)=_
 rw[ze]
 show(inVs u usL).map (!·)=_
 rw[h];rfl
theorem leN{a b:Nat}(H:Hp)(h:a<=b):zW .le (.int (.ofNat a)) (.int (.ofNat b)) H=some true:=congrArg some (decide_eq_true (Db.mpr h))
theorem gtN{a b:Nat}(H:Hp)(h:b < a):zW .le (.int (.ofNat a)) (.int (.ofNat b)) H=some false:=congrArg some (decide_eq_false λe=>DI h (Db.mp e))
theorem fdivN(n:Nat):V.int ((Gx n).fdiv 2+1)=V.int (.ofNat (n / 2+1)):=by rcases n with _|n<;>rfl
section
variable {ns:List Int} {H:Hp} {p dg sc z:Nat} {sg:Bool} {cat:List Nat}
theorem m1{cat:List Nat}{dg sc:Nat}{sg:Bool}{z:Nat}:(31,V.str cat)∈picL cat dg sc sg z:=.head _
theorem m2{cat:List Nat}{dg sc:Nat}{sg:Bool}{z:Nat}:(30,V.int (.ofNat dg))∈picL cat dg sc sg z:=.tail _ (.head _)
theorem m3{cat:List Nat}{dg sc:Nat}{sg:Bool}{z:Nat}:(29,V.int (.ofNat sc))∈picL cat dg sc sg z:=.tail _ (.tail _ (.head _))
theorem m4{cat:List Nat}{dg sc:Nat}{sg:Bool}{z:Nat}:(28,V.bool sg)∈picL cat dg sc sg z:=.tail _ (.tail _ (.tail _ (.head _)))
theorem m5{cat:List Nat}{dg sc:Nat}{sg:Bool}{z:Nat}:(6,V.int (.ofNat z))∈picL cat dg sc sg z:=.tail _ (.tail _ (.tail _ (.tail _ (.head _))))
theorem jB(H:Hp)(p:Nat):Cb ns 1 560 [.obj p,.str zq] H .none (H++[.list usL]):=
 zY (.b false .nil) λ_ _=>ok (I (usIn zq rfl H) (fin .none (H++[.list usL]))) (by kernel_rfl)
theorem cb_chkP(h:Pic H p (picL zj dg sc sg z)):Cb ns 1 560 [.obj p,.str zG] H .none (H++[.list usL]):=
 Gf h λfs h=>zY (.b false (.o (.inst 285 fs) (.w (.str zj) .nil))) λ_ _=>ok (I (usIn zG rfl H) (I (zk (N:=[.list usL]) h.1) (I (h.2 _ m1) (fin .none (H++[.list usL]))))) (by kernel_rfl)
theorem cb_chkB(h:Pic H p (picL zj dg sc sg z)):Cb ns 1 560 [.obj p,.str zn] H .none (H++[.list usL]):=
 Gf h λfs h=>zY (.b false (.o (.inst 285 fs) (.w (.str zj) .nil))) λ_ _=>ok (I (usIn zn rfl H) (I (zk (N:=[.list usL]) h.1) (I (h.2 _ m1) (fin .none (H++[.list usL]))))) (by kernel_rfl)
theorem Je(H:Hp)(p:Nat)(u:List Nat):Cb ns 1 567 [.obj p,.str u,.str zr,.bool false] H .none H:=zY .nil λ_ _=>ok (fin .none H) (by kernel_rfl)
theorem cb_sgL(h:Pic H p (picL zj dg sc true z)):Cb ns 1 567 [.obj p,.str zq,.str zX,.bool true] H .none H:=
 Gf h λfs h=>zY (.o (.inst 285 fs) (.w (.str zj) (.o (.inst 285 fs) (.w (.bool true) .nil)))) λ_ _=>ok (I h.1 (I (h.2 _ m1) (I h.1 (I (h.2 _ m4) (fin .none H))))) (by kernel_rfl)
theorem cb_cls(H:Hp)(p:Nat):Cb ns 1 572 [.obj p,.bool false,.bool false] H .none H:=zY .nil λ_ _=>ok (fin .none H) (by kernel_rfl)
theorem cb_pw(H:Hp)(h1:1<=dg)(h2:dg<=18):Cb ns 1 546 [.int (.ofNat dg)] H (.int (.ofNat (dg / 2+1))) H:=
 zY (.b true (.b true .nil)) λ_ _=>ok (I (leN H h1) (I (leN H h2) (I (fdivN dg) (rfl:H=H)))) (by kernel_rfl)
theorem cb_bw(H:Hp)(h1:1<=dg)(h2:dg<=18):Cb ns 1 539 [.int (.ofNat dg)] H (.int (.ofNat (bw dg))) H:=by
 unfold bw
 rcases e:G8 dg 4 with _|_
 ·have l1:4 < dg:=Nat.lt_of_not_le λh=>by rw[G6 h] at e;cases e
  rcases e:G8 dg 9 with _|_
  ·have l2:9 < dg:=Nat.lt_of_not_le λh=>by rw[G6 h] at e;cases e
   exact zY (.b true (.b true (.b false (.b false (.b false (.b false .nil)))))) λ_ _=>ok (I (leN H h1) (I (leN H h2) (I (rfl:false=false) (I (gtN H l1) (I (rfl:false=false) (I (gtN H l2) (fin (.int 8) H))))))) (by kernel_rfl)
  ·exact zY (.b true (.b true (.b false (.b false (.b false (.b true .nil)))))) λ_ _=>ok (I (leN H h1) (I (leN H h2) (I (rfl:false=false) (I (gtN H l1) (I (rfl:false=false) (I (leN H (Gj e)) (fin (.int 4) H))))))) (by kernel_rfl)
 ·exact zY (.b true (.b true (.b false (.b true .nil)))) λ_ _=>ok (I (leN H h1) (I (leN H h2) (I (rfl:false=false) (I (leN H (Gj e)) (fin (.int 2) H))))) (by kernel_rfl)
theorem cb_szT(h:Pic H p (picL cat dg sc sg z)):Cb ns 2 553 [.obj p,.str zq,.bool false] H (.int (.ofNat z)) H:=
 Gf h λfs h=>zY (.o (.inst 285 fs) (.w (.int (.ofNat z)) .nil)) λ_ _=>ok (I h.1 (I (h.2 _ m5) (fin (.int (.ofNat z)) H))) (by kernel_rfl)
theorem cb_szS(h:Pic H p (picL cat dg sc sg z)):Cb ns 2 553 [.obj p,.str zq,.bool true] H (.int (.ofNat (z+1))) H:=
 Gf h λfs h=>zY (.o (.inst 285 fs) (.w (.int (.ofNat z)) .nil)) λ_ _=>ok (I h.1 (I (h.2 _ m5) (fin (.int (.ofNat (z+1))) H))) (by kernel_rfl)
theorem cb_szP(h:Pic H p (picL cat dg sc sg z))(h1:1<=dg)(h2:dg<=18):Cb ns 2 553 [.obj p,.str zG,.bool false] H (.int (.ofNat (dg / 2+1))) H:=
 Gf h λfs h=>zY (.o (.inst 285 fs) (.w (.int (.ofNat dg)) (.c (.int (.ofNat (dg / 2+1))) H .nil))) λ_ hm=>ok (I h.1 (I (h.2 _ m2) (I ((cb_pw (ns:=ns) H h1 h2).at hm) (fin (.int (.ofNat (dg / 2+1))) H)))) (by kernel_rfl)
theorem cb_szB(h:Pic H p (picL cat dg sc sg z))(h1:1<=dg)(h2:dg<=18):Cb ns 2 553 [.obj p,.str zn,.bool false] H (.int (.ofNat (bw dg))) H:=
 Gf h λfs h=>zY (.o (.inst 285 fs) (.w (.int (.ofNat dg)) (.c (.int (.ofNat (bw dg))) H .nil))) λ_ hm=>ok (I h.1 (I (h.2 _ m2) (I ((cb_bw (ns:=ns) H h1 h2).at hm) (fin (.int (.ofNat (bw dg))) H)))) (by kernel_rfl)
noncomputable def shpL(cat u sn:List Nat)(sep:Bool)(p z:Nat):List (Nat×V):=[(31,.str cat),(6,.int (.ofNat z)),(51,.obj p),(20,.str u),(19,.str sn),(18,.bool sep),(14,.bool false),(13,.bool false),(30,.int 0),(29,.int 0),(28,.bool false)]
noncomputable def ShpAt(H:Hp)(p z:Nat):Prop:=∃fs c,H[p]?=some (.inst 528 fs)/\getF 6 fs=some (.int (.ofNat z))/\getF 31 fs=some (.str c)/\eqS c yz=false
theorem cb_mkT{u sn:List Nat}{sep:Bool}{zz:Nat}:Cb ns 2 528 [.str zD,.int (.ofNat zz),.obj p,.str u,.str sn,.bool sep,.bool false,.bool false] H (.obj H.length) (H++[.inst 528 (shpL zD u sn sep p zz)]):=
 YL rfl (i:=511) rfl (zY (ZP (g0 H) 528 (shpL zD u sn sep p zz) 0 11 .nil) λ_ _=>ok (yb 528 (shpL zD u sn sep p zz) (JB H) (YQ H) (fin .none (H++[.inst 528 (shpL zD u sn sep p zz)])) 11 0) (by kernel_rfl))
noncomputable def shpN(u sn:List Nat)(sep:Bool)(p z dg sc:Nat)(sg:Bool)(k:Nat):O:=.inst 528 (match k with
 |0=>shpL zj u sn sep p z
 |1=>setF 30 (.int (.ofNat dg)) (shpL zj u sn sep p z)
 |2=>setF 29 (.int (.ofNat sc)) (setF 30 (.int (.ofNat dg)) (shpL zj u sn sep p z))
 |_=>setF 28 (.bool sg) (setF 29 (.int (.ofNat sc)) (setF 30 (.int (.ofNat dg)) (shpL zj u sn sep p z))))
theorem Jg{u sn:List Nat}{sep:Bool}{zz:Nat}(h:Pic H p (picL zj dg sc sg z)):Cb ns 2 528 [.str zj,.int (.ofNat zz),.obj p,.str u,.str sn,.bool sep,.bool false,.bool false] H (.obj H.length) (H++[shpN u sn sep p zz dg sc sg 3]):=by
 refine Gf h λfs h=>?_
 have hp:∀k,(H++[shpN u sn sep p zz dg sc sg k])[p]?=some (.inst 285 fs):=λk=>zk h.1
 have ha:∀k,(H++[shpN u sn sep p zz dg sc sg k])[H.length]?=some (shpN u sn sep p zz dg sc sg k):=λk=>ze
 have hs:∀k,(H++[shpN u sn sep p zz dg sc sg k]).set H.length (shpN u sn sep p zz dg sc sg (k+1))=H++[shpN u sn sep p zz dg sc sg (k+1)]:=λk=>Y0
 exact YL rfl (i:=511) rfl (zY (ZP (g0 H) 528 (shpL zj u sn sep p zz) 0 11
  (.o (.inst 285 fs) <|.w (.int (.ofNat dg)) <|.o (shpN u sn sep p zz dg sc sg 0) <|.h (H++[shpN u sn sep p zz dg sc sg 1]) <|
   .o (.inst 285 fs) <|.w (.int (.ofNat sc)) <|.o (shpN u sn sep p zz dg sc sg 1) <|.h (H++[shpN u sn sep p zz dg sc sg 2]) <|
   .o (.inst 285 fs) <|.w (.bool sg) <|.o (shpN u sn sep p zz dg sc sg 2) <|.h (H++[shpN u sn sep p zz dg sc sg 3]) .nil)) λ_ _=>
  ok (yb 528 (shpL zj u sn sep p zz) (JB H) (YQ H)
   (I (hp 0) <|I (h.2 _ m2) <|I (ha 0) <|I (hs 0) <|I (hp 1) <|I (h.2 _ m3) <|I (ha 1) <|I (hs 1) <|I (hp 2) <|I (h.2 _ m4) <|I (ha 2) <|I (hs 2) <|fin .none (H++[shpN u sn sep p zz dg sc sg 3])) 11 0) (by kernel_rfl))
theorem ZD{u sn:List Nat}{sep:Bool}{zz:Nat}(h:Pic H p (picL cat dg sc sg z))(hu:Cb ns 1 560 [.obj p,.str u] H .none (H++[.list usL]))(hs:∀H,Pic H p (picL cat dg sc sg z)->Cb ns 1 567 [.obj p,.str u,.str sn,.bool sep] H .none H)
  (hz:∀H,Pic H p (picL cat dg sc sg z)->Cb ns 2 553 [.obj p,.str u,.bool sep] H (.int (.ofNat zz)) H)
  {H':Hp} (hc:Cb ns 2 528 [.str cat,.int (.ofNat zz),.obj p,.str u,.str sn,.bool sep,.bool false,.bool false] (H++[.list usL]) (.obj (H++[O.list usL]).length) H') :
  Cb ns 3 580 [.obj p,.str u,.str sn,.bool sep,.bool false,.bool false] H (.obj (H++[O.list usL]).length) H':=by
 have h':=h.ex (Ex.app [O.list usL])
 refine Gf h' λfs q=>zY (.c .none (H++[.list usL]) (.c .none (H++[.list usL]) (.c .none (H++[.list usL]) (.c (.int (.ofNat zz)) (H++[.list usL]) (.o (.inst 285 fs) (.w (.str cat) (.c (.obj (H++[O.list usL]).length) H' .nil))))))) λ_ hm=>
  ok (I (hu.at hm) (I ((hs _ h').at hm) (I ((cb_cls (ns:=ns) (H++[.list usL]) p).at hm) (I ((hz _ h').at hm) (I q.1 (I (q.2 _ m1) (I (hc.at hm) (fin (.obj (H++[O.list usL]).length) H')))))))) (by kernel_rfl)
end
end G
end
section
namespace G
open Mn
section
variable {ns:List Int} {T:St} {H:Hp}
theorem kW{s:SI}{t:List Nat}{sep:Bool}(hl:s.d.leaf=some (t,sep))(H:Hp):zW .is (picV s.d.leaf) .none H=some false:=by rw[hl];rfl
theorem sgNe{s:SI}{t:List Nat}{sep:Bool}(hl:s.d.leaf=some (t,sep)):some (!eqS (yZ s.d.leaf) [])=some sep:=by rw[hl];rcases sep with _|_<;>rfl
theorem shpAtT{H:Hp}{u sn:List Nat}{sep:Bool}{p z:Nat}:ShpAt (H++[.inst 528 (shpL zD u sn sep p z)]) H.length z:=⟨shpL zD u sn sep p z,zD,ze,rfl,rfl,rfl⟩
theorem jQ{H:Hp}{u sn:List Nat}{sep sg:Bool}{p z dg sc:Nat}:ShpAt (H++[shpN u sn sep p z dg sc sg 3]) H.length z:=⟨setF 28 (.bool sg) (setF 29 (.int (.ofNat sc)) (setF 30 (.int (.ofNat dg)) (shpL zj u sn sep p z))),zj,ze,rfl,rfl,rfl⟩
noncomputable def YC(ns:List Int)(m a z:Nat)(H:Hp):Prop:=∃p H',Call (zc (P ns) 60 m) 615 [.obj a] H (.obj p) H'/\Ex H H'/\ShpAt H' p z
theorem XF{m a z:Nat}{as:As}{p:Nat}{H':Hp}(h:fnS (P ns) 60 (zc (P ns) 60 m) 615 [.obj a] H as (.obj p) H')(e:Ex H H')(q:ShpAt H' p z):YC ns (m+1) a z H:=⟨p,H',zu h,e,q⟩
theorem leaf_txt{m a:Nat}{s:SI}{anc t:List Nat}{dg sc z:Nat}(hm:Dp ns 9 m)(iv:Inv T H)(ta:T a=some s)(pe:s.par=anc.head?)(ch:Z3 T anc)(l:anc.length < 50)(hl:s.d.leaf=some (t,false))(h:Eff T (a::anc) [])(hp:PicOk t zD 0 0 false z):YC ns (m+1) a z H:=by
 have c1:=ZC (ns:=ns) iv ta pe ch l h
 refine Yx hp hm (upH H a anc) ?_;intro p H2 c2 x2 hq
 have x1:=upEx H a anc
 have c2:Call (zc (P ns) 60 m) 496 [picV s.d.leaf] (upH H a anc) (.obj p) H2:=by rw[hl];exact c2
 obtain⟨⟨b,o,z0,sh,h0⟩,_⟩:=iv a s ta
 have h1:=x1 _ _ h0
 have h2:=x2 _ _ h1
 refine zh (hq) ?_;clear hq;intro fs hq
 have pq:Pic H2 p (picL zD 0 0 false z):=⟨fs,hq⟩
 have c4:Cb ns 3 580 [.obj p,.str zq,.str zr,.bool false,.bool false,.bool false] H2 (.obj (H2++[O.list usL]).length) (H2++[O.list usL]++[.inst 528 (shpL zD zq zr false p z)]):=ZD pq (jB _ _) (λH _=>Je H p zq) (λ_ q=>cb_szT q) cb_mkT
 exact XF (p:=(H2++[O.list usL]).length) (H':=(H2++[O.list usL]++[.inst 528 (shpL zD zq zr false p z)])) (as:=.c (.str zq) (upH H a anc) <|.o (zb s b o z0 sh) <|.b false <|.o (zb s b o z0 sh) <|.c (.obj p) H2 <|.o (.inst 285 fs) <|.w (.str zD) <|.o (zb s b o z0 sh) <|.b false <|.o (zb s b o z0 sh) <|.o (zb s b o z0 sh) <|.c (.obj (H2++[O.list usL]).length) (H2++[O.list usL]++[.inst 528 (shpL zD zq zr false p z)]) .nil)
  (ok (I (c1.at hm) <|I h1 <|I (kW hl (upH H a anc)) <|I h1 <|I c2 <|I hq.1 <|I (hq.2 _ m1) <|I h2 <|I (sgNe hl) <|I h2 <|I h2 <|I (c4.at hm) <|fin (.obj (H2++[O.list usL]).length) (H2++[O.list usL]++[.inst 528 (shpL zD zq zr false p z)])) (by kernel_rfl))
  ((x1.trans x2).trans ((Ex.app _).trans (Ex.app _))) shpAtT
theorem leaf_num{m a:Nat}{s:SI}{anc t:List Nat}{dg sc z:Nat}(hm:Dp ns 9 m)(iv:Inv T H)(ta:T a=some s)(pe:s.par=anc.head?)(ch:Z3 T anc)(l:anc.length < 50)(hl:s.d.leaf=some (t,false))(h:Eff T (a::anc) [])(hp:PicOk t zj dg sc false z):YC ns (m+1) a z H:=by
 have c1:=ZC (ns:=ns) iv ta pe ch l h
 refine Yx hp hm (upH H a anc) ?_;intro p H2 c2 x2 hq
 have x1:=upEx H a anc
 have c2:Call (zc (P ns) 60 m) 496 [picV s.d.leaf] (upH H a anc) (.obj p) H2:=by rw[hl];exact c2
 obtain⟨⟨b,o,z0,sh,h0⟩,_⟩:=iv a s ta
 have h1:=x1 _ _ h0
 have h2:=x2 _ _ h1
 refine zh (hq) ?_;clear hq;intro fs hq
 have pq:Pic H2 p (picL zj dg sc false z):=⟨fs,hq⟩
 have c4:Cb ns 3 580 [.obj p,.str zq,.str zr,.bool false,.bool false,.bool false] H2 (.obj (H2++[O.list usL]).length) (H2++[O.list usL]++[shpN zq zr false p z dg sc false 3]):=ZD pq (jB _ _) (λH _=>Je H p zq) (λ_ q=>cb_szT q) (Jg (pq.ex (Ex.app _)))
 exact XF (p:=(H2++[O.list usL]).length) (H':=(H2++[O.list usL]++[shpN zq zr false p z dg sc false 3])) (as:=.c (.str zq) (upH H a anc) <|.o (zb s b o z0 sh) <|.b false <|.o (zb s b o z0 sh) <|.c (.obj p) H2 <|.o (.inst 285 fs) <|.w (.str zj) <|.o (.inst 285 fs) <|.w (.bool false) <|.o (zb s b o z0 sh) <|.b false <|.o (zb s b o z0 sh) <|.o (zb s b o z0 sh) <|.c (.obj (H2++[O.list usL]).length) (H2++[O.list usL]++[shpN zq zr false p z dg sc false 3]) .nil)
  (ok (I (c1.at hm) <|I h1 <|I (kW hl (upH H a anc)) <|I h1 <|I c2 <|I hq.1 <|I (hq.2 _ m1) <|I hq.1 <|I (hq.2 _ m4) <|I h2 <|I (sgNe hl) <|I h2 <|I h2 <|I (c4.at hm) <|fin (.obj (H2++[O.list usL]).length) (H2++[O.list usL]++[shpN zq zr false p z dg sc false 3])) (by kernel_rfl))
  ((x1.trans x2).trans ((Ex.app _).trans (Ex.app _))) jQ
theorem leaf_sgn{m a:Nat}{s:SI}{anc t:List Nat}{dg sc z:Nat}(hm:Dp ns 9 m)(iv:Inv T H)(ta:T a=some s)(pe:s.par=anc.head?)(ch:Z3 T anc)(l:anc.length < 50)(hl:s.d.leaf=some (t,true))(h:Eff T (a::anc) [])(hp:PicOk t zj dg sc true z):YC ns (m+1) a (z+1) H:=by
 have c1:=ZC (ns:=ns) iv ta pe ch l h
 refine Yx hp hm (upH H a anc) ?_;intro p H2 c2 x2 hq
 have x1:=upEx H a anc
 have c2:Call (zc (P ns) 60 m) 496 [picV s.d.leaf] (upH H a anc) (.obj p) H2:=by rw[hl];exact c2
 obtain⟨⟨b,o,z0,sh,h0⟩,_⟩:=iv a s ta
 have h1:=x1 _ _ h0
 have h2:=x2 _ _ h1
 refine zh (hq) ?_;clear hq;intro fs hq
 have pq:Pic H2 p (picL zj dg sc true z):=⟨fs,hq⟩
 have iv2:=(Le.ex (x1.trans x2)).inv iv
 have c3:=cb_sign (ns:=ns) iv2 ta pe ch l hl
 have x3:=upEx H2 a anc
 have h3:=x3 _ _ h2
 have pq:=pq.ex x3
 have c4:Cb ns 3 580 [.obj p,.str zq,.str zX,.bool true,.bool false,.bool false] (upH H2 a anc) (.obj ((upH H2 a anc)++[O.list usL]).length) ((upH H2 a anc)++[O.list usL]++[shpN zq zX true p (z+1) dg sc true 3]):=ZD pq (jB _ _) (λ_ q=>cb_sgL q) (λ_ q=>cb_szS q) (Jg (pq.ex (Ex.app _)))
 exact XF (p:=((upH H2 a anc)++[O.list usL]).length) (H':=((upH H2 a anc)++[O.list usL]++[shpN zq zX true p (z+1) dg sc true 3])) (as:=.c (.str zq) (upH H a anc) <|.o (zb s b o z0 sh) <|.b false <|.o (zb s b o z0 sh) <|.c (.obj p) H2 <|.o (.inst 285 fs) <|.w (.str zj) <|.o (.inst 285 fs) <|.w (.bool true) <|.o (zb s b o z0 sh) <|.b true <|.c (.tup [.str zX,.bool true]) (upH H2 a anc) <|.o (zb s b o z0 sh) <|.o (zb s b o z0 sh) <|.c (.obj ((upH H2 a anc)++[O.list usL]).length) ((upH H2 a anc)++[O.list usL]++[shpN zq zX true p (z+1) dg sc true 3]) .nil)
  (ok (I (c1.at hm) <|I h1 <|I (kW hl (upH H a anc)) <|I h1 <|I c2 <|I hq.1 <|I (hq.2 _ m1) <|I hq.1 <|I (hq.2 _ m4) <|I h2 <|I (sgNe hl) <|I (c3.at hm) <|I h3 <|I h3 <|I (c4.at hm) <|fin (.obj ((upH H2 a anc)++[O.list usL]).length) ((upH H2 a anc)++[O.list usL]++[shpN zq zX true p (z+1) dg sc true 3])) (by kernel_rfl))
  (((x1.trans x2).trans x3).trans ((Ex.app _).trans (Ex.app _))) jQ
theorem leaf_pkd{m a:Nat}{s:SI}{anc t:List Nat}{dg sc z:Nat}(hm:Dp ns 9 m)(iv:Inv T H)(ta:T a=some s)(pe:s.par=anc.head?)(ch:Z3 T anc)(l:anc.length < 50)(hl:s.d.leaf=some (t,false))(h:Eff T (a::anc) zG)(hp:PicOk t zj dg sc true z)(d1:1<=dg)(d2:dg<=18):YC ns (m+1) a (dg / 2+1) H:=by
 have c1:=ZC (ns:=ns) iv ta pe ch l h
 refine Yx hp hm (upH H a anc) ?_;intro p H2 c2 x2 hq
 have x1:=upEx H a anc
 have c2:Call (zc (P ns) 60 m) 496 [picV s.d.leaf] (upH H a anc) (.obj p) H2:=by rw[hl];exact c2
 obtain⟨⟨b,o,z0,sh,h0⟩,_⟩:=iv a s ta
 have h1:=x1 _ _ h0
 have h2:=x2 _ _ h1
 refine zh (hq) ?_;clear hq;intro fs hq
 have pq:Pic H2 p (picL zj dg sc true z):=⟨fs,hq⟩
 have c4:Cb ns 3 580 [.obj p,.str zG,.str zr,.bool false,.bool false,.bool false] H2 (.obj (H2++[O.list usL]).length) (H2++[O.list usL]++[shpN zG zr false p (dg / 2+1) dg sc true 3]):=ZD pq (cb_chkP pq) (λH _=>Je H p zG) (λ_ q=>cb_szP q d1 d2) (Jg (pq.ex (Ex.app _)))
 exact XF (p:=(H2++[O.list usL]).length) (H':=(H2++[O.list usL]++[shpN zG zr false p (dg / 2+1) dg sc true 3])) (as:=.c (.str zG) (upH H a anc) <|.o (zb s b o z0 sh) <|.b false <|.o (zb s b o z0 sh) <|.c (.obj p) H2 <|.o (zb s b o z0 sh) <|.b false <|.o (zb s b o z0 sh) <|.o (zb s b o z0 sh) <|.c (.obj (H2++[O.list usL]).length) (H2++[O.list usL]++[shpN zG zr false p (dg / 2+1) dg sc true 3]) .nil)
  (ok (I (c1.at hm) <|I h1 <|I (kW hl (upH H a anc)) <|I h1 <|I c2 <|I h2 <|I (sgNe hl) <|I h2 <|I h2 <|I (c4.at hm) <|fin (.obj (H2++[O.list usL]).length) (H2++[O.list usL]++[shpN zG zr false p (dg / 2+1) dg sc true 3])) (by kernel_rfl))
  ((x1.trans x2).trans ((Ex.app _).trans (Ex.app _))) jQ
theorem leaf_bin{m a:Nat}{s:SI}{anc t:List Nat}{dg sc z:Nat}(hm:Dp ns 9 m)(iv:Inv T H)(ta:T a=some s)(pe:s.par=anc.head?)(ch:Z3 T anc)(l:anc.length < 50)(hl:s.d.leaf=some (t,false))(h:Eff T (a::anc) zn)(hp:PicOk t zj dg sc true z)(d1:1<=dg)(d2:dg<=18):YC ns (m+1) a (bw dg) H:=by
 have c1:=ZC (ns:=ns) iv ta pe ch l h
 refine Yx hp hm (upH H a anc) ?_;intro p H2 c2 x2 hq
 have x1:=upEx H a anc
 have c2:Call (zc (P ns) 60 m) 496 [picV s.d.leaf] (upH H a anc) (.obj p) H2:=by rw[hl];exact c2
 obtain⟨⟨b,o,z0,sh,h0⟩,_⟩:=iv a s ta
 have h1:=x1 _ _ h0
 have h2:=x2 _ _ h1
 refine zh (hq) ?_;clear hq;intro fs hq
 have pq:Pic H2 p (picL zj dg sc true z):=⟨fs,hq⟩
 have c4:Cb ns 3 580 [.obj p,.str zn,.str zr,.bool false,.bool false,.bool false] H2 (.obj (H2++[O.list usL]).length) (H2++[O.list usL]++[shpN zn zr false p (bw dg) dg sc true 3]):=ZD pq (cb_chkB pq) (λH _=>Je H p zn) (λ_ q=>cb_szB q d1 d2) (Jg (pq.ex (Ex.app _)))
 exact XF (p:=(H2++[O.list usL]).length) (H':=(H2++[O.list usL]++[shpN zn zr false p (bw dg) dg sc true 3])) (as:=.c (.str zn) (upH H a anc) <|.o (zb s b o z0 sh) <|.b false <|.o (zb s b o z0 sh) <|.c (.obj p) H2 <|.o (zb s b o z0 sh) <|.b false <|.o (zb s b o z0 sh) <|.o (zb s b o z0 sh) <|.c (.obj (H2++[O.list usL]).length) (H2++[O.list usL]++[shpN zn zr false p (bw dg) dg sc true 3]) .nil)
  (ok (I (c1.at hm) <|I h1 <|I (kW hl (upH H a anc)) <|I h1 <|I c2 <|I h2 <|I (sgNe hl) <|I h2 <|I h2 <|I (c4.at hm) <|fin (.obj (H2++[O.list usL]).length) (H2++[O.list usL]++[shpN zn zr false p (bw dg) dg sc true 3])) (by kernel_rfl))
  ((x1.trans x2).trans ((Ex.app _).trans (Ex.app _))) jQ
theorem leaf_to{m a:Nat}{s:SI}{anc t e:List Nat}{sep:Bool}{z:Nat}(hm:Dp ns 9 m)(iv:Inv T H)(ta:T a=some s)(pe:s.par=anc.head?)(ch:Z3 T anc)(l:anc.length < 50)(hl:s.d.leaf=some (t,sep))(h:Eff T (a::anc) e)(k:LeafOk e t sep z):YC ns (m+1) a z H:=by
 rcases k with⟨_,_,q⟩|⟨_,dg,sc,_,q⟩|⟨_,dg,sc,_,q⟩|⟨_,dg,sc,_,q,d1,d2⟩|⟨_,dg,sc,_,q,d1,d2⟩
 ·exact leaf_txt (dg:=0) (sc:=0) hm iv ta pe ch l hl h q
 ·exact leaf_num hm iv ta pe ch l hl h q
 ·exact leaf_sgn hm iv ta pe ch l hl h q
 ·exact leaf_pkd hm iv ta pe ch l hl h q d1 d2
 ·exact leaf_bin hm iv ta pe ch l hl h q d1 d2
end
end G
end
section
namespace G
open Mn
theorem zi{H:Hp}{i j:Nat}{o p:O}(h:H[i]?=some o)(k:H[j]?=some p)(n:o≠p):j≠i:=λe=>n (by rw[e,h] at k;exact Ga k)
theorem Inv.no{T:St}{H:Hp}(iv:Inv T H){p:Nat}(n:H[p]?=none):T p=none:=by
 rcases e:T p with _|s
 ·rfl
 ·refine Gf (iv p s e).1 λb h=>Gf h λo h=>Gf h λz h=>Gf h λsh h=>?_
  rw[n] at h;cases h
structure LeA (T:St) (ap:Nat) (H H':Hp):Prop where
 old:∀(i:Nat) (o:O),H[i]?=some o->T i=none->i≠ap->H'[i]?=some o
 sz:∀a,SzOk T H a->SzOk T H' a
 of:∀a,OfOk T H a->OfOk T H' a
 inv:Inv T H->Inv T H'
theorem LeA.refl{T:St}{ap:Nat}{H:Hp}:LeA T ap H H:=⟨λ_ _ h _ _=>h,λ_ h=>h,λ_ h=>h,λh=>h⟩
theorem LeA.trans{T:St}{ap:Nat}{H₁ uh uk:Hp}(a:LeA T ap H₁ uh)(b:LeA T ap uh uk):LeA T ap H₁ uk:=⟨λi o h n m=>b.old i o (a.old i o h n m) n m,λ_ h=>b.sz _ (a.sz _ h),λ_ h=>b.of _ (a.of _ h),λh=>b.inv (a.inv h)⟩
theorem Le.toA{T:St}{ap:Nat}{H H':Hp}(a:Le T H H'):LeA T ap H H':=⟨λi o h n _=>a.old i o h n,a.sz,a.of,a.inv⟩
theorem LeA.to{T:St}{ap:Nat}{H H':Hp}(a:LeA T ap H H')(n:H[ap]?=none):Le T H H':=⟨λi o h m=>a.old i o h m (YH h n).symm,a.sz,a.of,a.inv⟩
theorem LeA.list{T:St}{H:Hp}{p:Nat}{vs us:List V}(h:H[p]?=some (.list vs))(k:∀a s,T a=some s->s.kl≠p):LeA T p H (H.set p (.list us)) where
 old i o q _ m:=zd q m.symm
 sz a q:=by
  refine xe6c4 (q) ?_;clear q;intro s b o r fs c h1 h2 h3 h4
  exact⟨s,b,o,r,fs,c,h1,zd h2 (zi h2 h nofun),zd h3 (zi h3 h nofun),h4⟩
 of a q:=by
  refine zF (q) ?_;clear q;intro s z sh h1 h2
  exact⟨s,z,sh,h1,zd h2 (zi h2 h nofun)⟩
 inv q a s t:=by
  obtain⟨⟨b,o,z,sh,h1⟩,h2,h3⟩:=q a s t
  exact⟨⟨b,o,z,sh,zd h1 (zi h1 h nofun)⟩,zd h2 (k a s t).symm,h3.imp id λh3=>⟨h3.1,zd h3.2 (zi h3.2 h λe=>by cases e)⟩⟩
noncomputable def ShOk(H:Hp)(s:SI)(sh:V):Prop:=∃p fs c,sh= .obj p/\H[p]?=some (.inst 528 fs)/\getF 6 fs=some (.int (.ofNat s.d.size))/\getF 31 fs=some (.str c)/\eqS c yz=s.d.leaf.isNone
noncomputable def fldO(f:Nat)(o:O):V:=match o with|.inst _ fs=>(getF f fs).getD .bad|_=>.bad
theorem Xc{s:SI}{b b':List Nat}{o o' z z':Nat}{sh sh':V}(h:zb s b o z sh=zb s b' o' z' sh'):b=b'/\o=o'/\z=z'/\sh=sh':=
 ⟨V.noConfusion (congrArg (fldO 8) h) id,V.noConfusion (congrArg (fldO 7) h) Int.ofNat.inj,V.noConfusion (congrArg (fldO 6) h) Int.ofNat.inj,congrArg (fldO 5) h⟩
theorem Le.item{T:St}{H:Hp}{a:Nat}{s:SI}{b b':List Nat}{o o' z z':Nat}{sh sh':V}(t:T a=some s)(h:H[a]?=some (zb s b o z sh))(hz:z'=z∨z'=s.d.size)(hs:sh'=sh∨ShOk H s sh')(hb:b'=b∨b'=s.base)(ho:o'=o∨o'=s.off) :
  Le T H (H.set a (zb s b' o' z' sh')) where
 old i x q n:=zd q λe=>by rw[e,n] at t;cases t
 sz c q:=by
  refine xe6c4 (q) ?_;clear q;intro s2 b2 o2 r fs k h1 h2 h3 h4
  have h3':(H.set a (zb s b' o' z' sh'))[r]?=some (.inst 528 fs):=zd h3 (zi h3 h λe=>by cases e)
  by_cases e:a=c
  ·subst e
   cases t.symm.trans h1
   refine Zo (Xc (Ga (h.symm.trans h2))) λ_ _ e3 e4=>?_
   have e5:z'=s.d.size:=hz.elim (λq=>q.trans e3) id
   rcases hs with hs|⟨p,fs',c,hs,k1,k2⟩
   ·exact⟨s,b',o',r,fs,k,t,by rw[zB h,e5,hs,e4],h3',h4⟩
   ·exact⟨s,b',o',p,fs',c,t,by rw[zB h,e5,hs],zd k1 (zi k1 h λe=>by cases e),k2⟩
  ·exact⟨s2,b2,o2,r,fs,k,h1,zd h2 e,h3',h4⟩
 of c q:=by
  refine zF (q) ?_;clear q;intro s2 z2 sh2 h1 h2
  by_cases e:a=c
  ·subst e
   cases t.symm.trans h1
   refine Zo (Xc (Ga (h.symm.trans h2))) λe1 e2 _ _=>?_
   exact⟨s,z',sh',t,by rw[zB h,hb.elim (λq=>q.trans e1) id,ho.elim (λq=>q.trans e2) id]⟩
  ·exact⟨s2,z2,sh2,h1,zd h2 e⟩
 inv q c s2 t2:=by
  obtain⟨⟨b2,o2,z2,sh2,h1⟩,h2,h3⟩:=q c s2 t2
  refine⟨?_,zd h2 (zi h2 h nofun),h3.imp id λh3=>⟨h3.1,zd h3.2 (zi h3.2 h λe=>by cases e)⟩⟩
  by_cases e:a=c
  ·subst e
   cases t.symm.trans t2
   exact⟨b',o',z',sh',zB h⟩
  ·exact⟨b2,o2,z2,sh2,zd h1 e⟩
inductive F where
 |nil
 |node (d:D) (kids rest:F)
noncomputable def mulS(d:D):Nat:=d.size*d.often
noncomputable def fre(d:D):Bool:=match d.upon with|[]=>true|_::_=>false
noncomputable def ifN(b:Bool)(x y:Nat):Nat:=match b with|true=>x|false=>y
noncomputable def gsz:F->Nat
 |.nil=>0
 |.node d _ rest=>ifN (fre d) (mulS d) 0+gsz rest
noncomputable def effD(e:List Nat)(d:D):List Nat:=match d.usage with|[]=>e|u=>u
structure Nd (e:List Nat) (d:D) (kids:F):Prop where
 of1:1<=d.often
 of3:d.often<=3
 sz:d.size<=2000
 is:(∃t sep,d.leaf=some (t,sep)/\kids= .nil/\LeafOk (effD e d) t sep d.size)∨d.leaf=none/\kids≠.nil/\d.size=gsz kids
structure Up (l:Option D) (d:D) (x:D):Prop where
 is:l=some x
 name:x.name=d.upon
 often:x.often=1
 own:eqS d.name d.upon=false
 size:mulS d<=x.size
 bd:x.size<=2000
noncomputable def Wf:List Nat->Option D->F->Prop
 |_,_,.nil=>True
 |e,l,.node d kids rest=>Nd e d kids/\Wf (effD e d) none kids/\(match fre d with|true=>Wf e (some d) rest|false=>(∃x,Up l d x)/\Wf e l rest)
structure Node (T:St) (base:List Nat) (anc:List Nat) (off:Nat) (d:D) (a:Nat) (s:SI):Prop where
 t:T a=some s
 d:s.d=d
 lv:s.level=1+4*anc.length
 par:s.par=anc.head?
 base:s.base=base
 off:s.off=off
noncomputable def Des(T:St)(base:List Nat):List Nat->Nat->Nat->F->List Nat->Prop
 |_,_,_,.nil,as=>as=[]
 |anc,here,last,.node d kids rest,as=>∃a r s,as=a::r/\Node T base anc (ifN (fre d) here last) d a s/\Des T base (a::anc) (ifN (fre d) here last) 0 kids s.kids/\Des T base anc (ifN (fre d) (here+mulS d) here) (ifN (fre d) here last) rest r
noncomputable def SzAll(T:St)(H:Hp):F->List Nat->Prop
 |.nil,_=>True
 |.node _ kids rest,as=>∃a r s,as=a::r/\T a=some s/\SzOk T H a/\SzAll T H kids s.kids/\SzAll T H rest r
theorem SzAll.mono{T:St}{H H':Hp}(m:∀a,SzOk T H a->SzOk T H' a):∀(f:F) (as:List Nat),SzAll T H f as->SzAll T H' f as:=by
 intro f
 induction f with
 |nil=>
  intro y1 y2
  exact trivial
 |node z0 k r ihk ihr=>
  intro y1 h
  refine YD (h) ?_;clear h;intro a q s h1 h2 h3 h4 h5
  exact⟨a,q,s,h1,h2,m a h3,ihk _ h4,ihr _ h5⟩
noncomputable def OfAll(T:St)(H:Hp):F->List Nat->Prop
 |.nil,_=>True
 |.node _ kids rest,as=>∃a r s,as=a::r/\T a=some s/\OfOk T H a/\OfAll T H kids s.kids/\OfAll T H rest r
theorem OfAll.mono{T:St}{H H':Hp}(m:∀a,OfOk T H a->OfOk T H' a):∀(f:F) (as:List Nat),OfAll T H f as->OfAll T H' f as:=by
 intro f
 induction f with
 |nil=>
  intro y1 y2
  exact trivial
 |node z0 k r ihk ihr=>
  intro y1 h
  refine YD (h) ?_;clear h;intro a q s h1 h2 h3 h4 h5
  exact⟨a,q,s,h1,h2,m a h3,ihk _ h4,ihr _ h5⟩
theorem beq_lv{n:Nat}{k:Nat}(h:n % 4=1)(j:k % 4≠1):Gg n k=false:=by
 rcases e:Gg n k with _|_
 ·rfl
 ·rw[Go e] at h;exact absurd h j
theorem Node.no66{T:St}{base anc:List Nat}{off a:Nat}{d:D}{s:SI}(h:Node T base anc off d a s):Gg s.level 66=false:=beq_lv (by rw[h.lv,Nat.add_mul_mod_self_left]) (by decide)
theorem Des.kn{T:St}{base:List Nat}: ∀(f:F) (anc:List Nat) (h l:Nat) (as:List Nat),Des T base anc h l f as->Kn T as:=by
 intro f
 induction f with
 |nil=>
  intro y0 y1 y2 as q
  have e:as=[]:=q
  subst e
  exact λ_ h=>nomatch h
 |node d k r ihk ihr=>
  intro anc h l as q
  refine Zh (q) ?_;clear q;intro a rs s rq3 h1 _ h3;subst rq3
  intro x hx
  rcases hx with _|⟨_,hx⟩
  ·exact⟨s,h1.t,h1.no66⟩
  ·exact ihr _ _ _ _ h3 x hx
end G
end
section
namespace G
open Mn
noncomputable def tl(s:S):S:=match s with|.seq _ b=>b|s=>s
section
variable {ns:List Int} {T:St} {H:Hp}
theorem kK{a b:Nat}(H:Hp)(h:a<=b):zW .gt (.int (.ofNat a)) (.int (.ofNat b)) H=some false:=congrArg some (decide_eq_false λe=>GX h (Dk.mp e))
theorem XB{a b:Nat}(H:Hp)(h:b<=a):zW .lt (.int (.ofNat a)) (.int (.ofNat b)) H=some false:=congrArg some (decide_eq_false λe=>GX h (Dk.mp e))
theorem eqNo{a b:Nat}(H:Hp)(h:Gg a b=false):zW .eq (.int (.ofNat a)) (.int (.ofNat b)) H=some false:=congrArg some (XU h)
theorem isnN(H:Hp):zW .isnot .none .none H=some false:=rfl
theorem isnO(i:Nat)(H:Hp):zW .isnot (.obj i) .none H=some true:=rfl
theorem ss_pre{C:Orc}{a dp:Nat}{s:SI}{v:V}{H1:Hp}{r:As}{Q:KA}(iv:Inv T H)(t:T a=some s)(d:dp<=20)(lv:G8 s.d.often 1=false->Gg s.level 1=false)(l7:Gg s.level 77=false)(o1:1<=s.d.often)
  (h:exS (P ns) C 60 (tl (tl f636.body)) [.obj a,.int (.ofNat dp)] H (.c v H1 r) Q):∃as,exS (P ns) C 60 f636.body [.obj a,.int (.ofNat dp)] H as Q:=by
 obtain⟨⟨b,o,z,sh,h0⟩,_,h1⟩:=iv a s t
 rcases h1 with⟨e,_⟩|⟨e,h1⟩
 ·refine⟨.b false <|.o (yg s .none (parV s.par) b o z sh) <|.b false <|.c v H1 r,ok (I (kK H d) <|I (Yp h0 e) <|I (isnN H) h) (by kernel_rfl)⟩
 ·have k:=Yo h0 e
  exact⟨.b false <|.o (yg s (.obj s.oc) (parV s.par) b o z sh) <|.b true <|.o (yg s (.obj s.oc) (parV s.par) b o z sh) <|.b false <|.o (yg s (.obj s.oc) (parV s.par) b o z sh) <|.b false <|.o (yg s (.obj s.oc) (parV s.par) b o z sh) <|.o (occO s.d.often) <|.b false <|.c v H1 r,
   ok (I (kK H d) <|I k <|I (isnO s.oc H) <|I k <|I (eqNo H (lv e)) <|I k <|I (eqNo H l7) <|I k <|I h1 <|I (XB H o1) h) (by kernel_rfl)⟩
theorem ss_leaf{m a dp:Nat}{s:SI}{anc t e:List Nat}{sep:Bool}(hm:Dp ns 9 m)(iv:Inv T H)(ta:T a=some s)(pe:s.par=anc.head?)(ch:Z3 T anc)(l:anc.length < 50)(hl:s.d.leaf=some (t,sep))(h:Eff T (a::anc) e)(k:LeafOk e t sep s.d.size)
  (d:dp<=20) (lv:G8 s.d.often 1=false->Gg s.level 1=false) (l7:Gg s.level 77=false) (o1:1<=s.d.often) (kd:s.kids=[]):∃H',Call (zc (P ns) 60 (m+2)) 636 [.obj a,.int (.ofNat dp)] H .none H'/\Le T H H'/\SzOk T H' a:=by
 have kn:Kn T s.kids:=by rw[kd];exact λ_ h=>nomatch h
 have nn:G8 (s.kids.map V.obj).length 1000=true:=by rw[kd];rfl
 have c1:=Jh (ns:=ns) iv ta kn nn
 have x1:Le T H (H++[O.list (s.kids.map V.obj)]++[O.list []]):=Le.ex ((Ex.app _).trans (Ex.app _))
 have c1:Cb ns 1 223 [.obj a] H (.bool false) (H++[O.list (s.kids.map V.obj)]++[O.list []]):=by rw[kd] at c1 ⊢;exact c1
 refine zy (leaf_to hm (x1.inv iv) ta pe ch l hl h k) λp H2 c2 x2 hp=>?_
 have x2:=x1.trans (Le.ex x2)
 obtain⟨⟨b,o,z,sh,h0⟩,_⟩:=x2.inv iv a s ta
 refine yt (hp) ?_;clear hp;intro fs c p1 p2 p3 p4
 have p7:eqS c yz=s.d.leaf.isNone:=by rw[p4,hl];rfl
 have so:ShOk H2 s (.obj p):=⟨p,fs,c,rfl,p1,p2,p3,p7⟩
 have x3:=Le.item (z':=z) (b':=b) (o':=o) ta h0 (.inl rfl) (.inr so) (.inl rfl) (.inl rfl)
 have h3:(H2.set a (zb s b o z (.obj p)))[a]?=some (zb s b o z (.obj p)):=zB h0
 have p5:(H2.set a (zb s b o z (.obj p)))[p]?=some (.inst 528 fs):=zd p1 (zi p1 h0 λe=>by cases e)
 have x4:=Le.item (z':=s.d.size) (b':=b) (o':=o) (sh':=.obj p) ta h3 (.inr rfl) (.inl rfl) (.inl rfl) (.inl rfl)
 have h4:((H2.set a (zb s b o z (.obj p))).set a (zb s b o s.d.size (.obj p)))[a]?=some (zb s b o s.d.size (.obj p)):=zB h3
 have p6:((H2.set a (zb s b o z (.obj p))).set a (zb s b o s.d.size (.obj p)))[p]?=some (.inst 528 fs):=zd p5 (zi p5 h3 λe=>by cases e)
 obtain⟨as,ho⟩:=ss_pre (ns:=ns) (C:=zc (P ns) 60 (m+1)) (v:=.bool false) (H1:=H++[O.list (s.kids.map V.obj)]++[O.list []]) (r:=.c (.obj p) H2 <|.o (zb s b o z sh) <|.h (H2.set a (zb s b o z (.obj p))) <|.o (zb s b o z (.obj p)) <|.o (.inst 528 fs) <|.w (.int (.ofNat s.d.size)) <|.o (zb s b o z (.obj p)) <|.h ((H2.set a (zb s b o z (.obj p))).set a (zb s b o s.d.size (.obj p))) .nil)
  (Q:=λfl _ H₁ _=>Xy fl .none/\H₁=(H2.set a (zb s b o z (.obj p))).set a (zb s b o s.d.size (.obj p))) iv ta d lv l7 o1
  (ok (I (c1.at (GJ 1 m:Dp ns 1 (m+1))) <|I c2 <|I h0 <|I (rfl:H2.set a (zb s b o z (.obj p))=H2.set a (zb s b o z (.obj p))) <|I h3 <|I p5 <|I p2 <|I h3 <|I (rfl:(H2.set a (zb s b o z (.obj p))).set a (zb s b o s.d.size (.obj p))=(H2.set a (zb s b o z (.obj p))).set a (zb s b o s.d.size (.obj p))) <|
   fin .none ((H2.set a (zb s b o z (.obj p))).set a (zb s b o s.d.size (.obj p)))) (by kernel_rfl))
 exact⟨_,zu (as:=as) (ok ho (by kernel_rfl)),(x2.trans x3).trans x4,s,b,o,p,fs,c,ta,h4,p6,p2,p3,p7⟩
end
end G
end
section
namespace G
open Mn
section
variable {ns:List Int} {T:St} {H:Hp}
theorem noPic{s:SI}(hl:s.d.leaf=none)(H:Hp):zW .isnot (picV s.d.leaf) .none H=some false:=by rw[hl];rfl
theorem ss_grp{m a dp:Nat}{s:SI}{kids:F}(hm:Dp ns 4 m)(iv:Inv T H)(ta:T a=some s)(hl:s.d.leaf=none)(kn:Kn T s.kids)(kd:nb s.kids=true)(kl:G8 (s.kids.map V.obj).length 1000=true)
  (hg:∀H,Inv T H->∃H',Call (zc (P ns) 60 (m+1)) 643 [.obj a,.int (.ofNat dp)] H (.int (.ofNat s.d.size)) H'/\Le T H H'/\SzAll T H' kids s.kids)
  (d:dp<=20) (lv:G8 s.d.often 1=false->Gg s.level 1=false) (l7:Gg s.level 77=false) (o1:1<=s.d.often):∃H',Call (zc (P ns) 60 (m+2)) 636 [.obj a,.int (.ofNat dp)] H .none H'/\Le T H H'/\SzOk T H' a/\SzAll T H' kids s.kids:=by
 have c1:=Jh (ns:=ns) iv ta kn kl
 rw[kd] at c1
 have x1:Le T H (H++[O.list (s.kids.map V.obj)]++[O.list []]):=Le.ex ((Ex.app _).trans (Ex.app _))
 obtain⟨⟨b,o,z,sh,h0⟩,_⟩:=x1.inv iv a s ta
 refine yQ (hg _ (x1.inv iv)) λH2 c2 x2 q2=>?_
 obtain⟨⟨b',o',z',sh',h2⟩,_⟩:=x2.inv (x1.inv iv) a s ta
 have x3:=Le.item (z':=s.d.size) (b':=b') (o':=o') (sh':=sh') ta h2 (.inr rfl) (.inl rfl) (.inl rfl) (.inl rfl)
 have h3:(H2.set a (zb s b' o' s.d.size sh'))[a]?=some (zb s b' o' s.d.size sh'):=zB h2
 have c4:=cb_grp (ns:=ns) (H2.set a (zb s b' o' s.d.size sh')) s.d.size
 have x4:Le T (H2.set a (zb s b' o' s.d.size sh')) (H2.set a (zb s b' o' s.d.size sh')++[O.inst 528 (grpF s.d.size)]):=Le.app _
 have h4:(H2.set a (zb s b' o' s.d.size sh')++[O.inst 528 (grpF s.d.size)])[a]?=some (zb s b' o' s.d.size sh'):=zk h3
 have p4:(H2.set a (zb s b' o' s.d.size sh')++[O.inst 528 (grpF s.d.size)])[(H2.set a (zb s b' o' s.d.size sh')).length]?=some (.inst 528 (grpF s.d.size)):=ze
 have p7:eqS yz yz=s.d.leaf.isNone:=by rw[hl];rfl
 have x5:=Le.item (z':=s.d.size) (b':=b') (o':=o') (sh':=.obj (H2.set a (zb s b' o' s.d.size sh')).length) ta h4 (.inl rfl) (.inr ⟨_,grpF s.d.size,yz,rfl,p4,rfl,rfl,p7⟩) (.inl rfl) (.inl rfl)
 have h5:=zB (x:=zb s b' o' s.d.size (.obj (H2.set a (zb s b' o' s.d.size sh')).length)) h4
 have p5:=zd (x:=zb s b' o' s.d.size (.obj (H2.set a (zb s b' o' s.d.size sh')).length)) p4 (zi p4 h4 λe=>by cases e)
 have xx:=(x3.trans x4).trans x5
 refine Gf (ss_pre (ns:=ns) (C:=zc (P ns) 60 (m+1)) (v:=.bool true) (H1:=H++[O.list (s.kids.map V.obj)]++[O.list []])
  (r:=.o (zb s b o z sh) <|.b false <|.c (.int (.ofNat s.d.size)) H2 <|.o (zb s b' o' z' sh') <|.h (H2.set a (zb s b' o' s.d.size sh')) <|.o (zb s b' o' s.d.size sh') <|.c (.obj (H2.set a (zb s b' o' s.d.size sh')).length) (H2.set a (zb s b' o' s.d.size sh')++[O.inst 528 (grpF s.d.size)]) <|.o (zb s b' o' s.d.size sh') <|
   .h ((H2.set a (zb s b' o' s.d.size sh')++[O.inst 528 (grpF s.d.size)]).set a (zb s b' o' s.d.size (.obj (H2.set a (zb s b' o' s.d.size sh')).length))) .nil)
  (Q:=λfl _ H₁ _=>Xy fl .none/\H₁=(H2.set a (zb s b' o' s.d.size sh')++[O.inst 528 (grpF s.d.size)]).set a (zb s b' o' s.d.size (.obj (H2.set a (zb s b' o' s.d.size sh')).length))) iv ta d lv l7 o1
  (ok (I (c1.at (GJ 1 m:Dp ns 1 (m+1))) <|I h0 <|I (noPic hl (H++[O.list (s.kids.map V.obj)]++[O.list []])) <|I c2 <|I h2 <|I (rfl:H2.set a (zb s b' o' s.d.size sh')=H2.set a (zb s b' o' s.d.size sh')) <|I h3 <|I (c4.at (DA hm:Dp ns 4 (m+1))) <|I h4 <|
   I (rfl:(H2.set a (zb s b' o' s.d.size sh')++[O.inst 528 (grpF s.d.size)]).set a (zb s b' o' s.d.size (.obj (H2.set a (zb s b' o' s.d.size sh')).length))=(H2.set a (zb s b' o' s.d.size sh')++[O.inst 528 (grpF s.d.size)]).set a (zb s b' o' s.d.size (.obj (H2.set a (zb s b' o' s.d.size sh')).length))) <|
   fin .none ((H2.set a (zb s b' o' s.d.size sh')++[O.inst 528 (grpF s.d.size)]).set a (zb s b' o' s.d.size (.obj (H2.set a (zb s b' o' s.d.size sh')).length)))) (by kernel_rfl))) λas ho=>?_
 exact⟨_,zu (as:=as) (ok ho (by kernel_rfl)),(x1.trans x2).trans xx,⟨s,b',o',_,grpF s.d.size,yz,ta,h5,p5,rfl,rfl,p7⟩,SzAll.mono xx.sz _ _ q2⟩
end
end G
end
section
namespace G
open Mn
noncomputable def bl:F->Nat
 |.nil=>11
 |.node _ k r=>max (bl k+2) (bl r)
noncomputable def ht:F->Nat
 |.nil=>0
 |.node _ k r=>max (ht k+1) (ht r)
noncomputable def nc:F->Nat
 |.nil=>0
 |.node _ k r=>1+nc k+nc r
theorem Des.nc{T:St}{base:List Nat}: ∀(f:F) (anc:List Nat) (h l:Nat) (as:List Nat),Des T base anc h l f as->as.length<=nc f:=by
 intro f
 induction f with
 |nil=>
  intro y0 y1 y2 as q
  have e:as=[]:=q
  subst e
  exact Gi _
 |node d k r ihk ihr=>
  intro anc h l as q
  refine Zh (q) ?_;clear q;intro a rs s rq3 _ _ h3;subst rq3
  have:=ihr _ _ _ _ h3
  show rs.length+1<=1+Mn.G.nc k+Mn.G.nc r
  exact om89 this
noncomputable def RvOk(T:St)(p:Nat->Prop)(l:Option D)(rv:List Nat):Prop:=∀x,l=some x->∃us g pre sg,rv=us++g::pre/\T g=some sg/\sg.d=x/\p g/\Us T x.name us
theorem RvOk.mono{T:St}{p q:Nat->Prop}{l:Option D}{rv:List Nat}(h:RvOk T p l rv)(m:∀g,p g->q g):RvOk T q l rv:=λx e=>by
 refine Xo (h x e) λus g pre sg h1 h2 h3 h4 h5=>?_
 exact⟨us,g,pre,sg,h1,h2,h3,m g h4,h5⟩
theorem RvOk.none{T:St}{p:Nat->Prop}{rv:List Nat}:RvOk T p none rv:=λ_ h=>nomatch h
theorem RvOk.free{T:St}{p:Nat->Prop}{a:Nat}{s:SI}{rv:List Nat}(t:T a=some s)(h:p a):RvOk T p (some s.d) (a::rv):=λx e=>by
 cases e;exact⟨[],a,rv,s,rfl,t,rfl,h,λ_ h=>nomatch h⟩
theorem RvOk.up{T:St}{p:Nat->Prop}{l:Option D}{a:Nat}{s:SI}{x:D}{rv:List Nat}(h:RvOk T p l rv)(t:T a=some s)(u:Up l s.d x):RvOk T p l (a::rv):=λy e=>by
 refine Xo (h y e) λus g pre sg h1 h2 h3 h4 h5=>?_
 cases u.is.symm.trans e
 refine⟨a::us,g,pre,sg,by rw[h1];rfl,h2,h3,h4,λv hv=>?_⟩
 rcases hv with _|⟨_,hv⟩
 ·exact⟨s,t,u.name.symm,by rw[u.name];exact u.own⟩
 ·exact h5 v hv
theorem yN{u:List Nat}:eqS u []=(match u with|[]=>true|_::_=>false):=by rcases u with _|_<;>rfl
theorem Z6(rv:List Nat)(a:Nat):rv.reverse.map V.obj++[V.obj a]=(a::rv).reverse.map V.obj:=by rw[Dc];exact Zt _ _
section
variable {ns:List Int} {T:St}
noncomputable def KX(ns:List Int)(T:St)(f:F):Prop:=∀(base e anc:List Nat) (here last:Nat) (l:Option D) (as:List Nat) (pa dp sz ap ip:Nat) (all rv:List Nat) (x:V) (H:Hp) (m:Nat),
 Dp ns (bl f) m->Inv T H->(∀a s,T a=some s->s.kl≠ap)->T ap=none->T ip=none->ap≠ip->H[ap]?=some (.list (rv.reverse.map .obj))->H[ip]?=some (.list (all.map .obj))->
 Des T base anc here last f as->Wf e l f->Eff T anc e->Z3 T anc->anc.length+ht f<=9->anc.length=dp+1->rv.length+nc f<=900->RvOk T (SzOk T H) l rv->
 ∀{Gl:Prop},(∀H' x',(ForR (P ns) (zc (P ns) 60 m) 60 (bd f643 0) [4] true (.lst ip (all.map .obj)) (as.map .obj) [.obj pa,.int (.ofNat dp),.int (.ofNat sz),.obj ap,x] H .next [.obj pa,.int (.ofNat dp),.int (.ofNat (sz+gsz f)),.obj ap,x'] H')->(LeA T ap H H')->(SzAll T H' f as)->Gl)->Gl
theorem Des.len{T:St}{base:List Nat}{d:D}{k r:F}{anc:List Nat}{h l:Nat}{as:List Nat}(q:Des T base anc h l (.node d k r) as):nb as=true:=by
 obtain⟨a,r,s,rfl,_⟩:=q;rfl
theorem gs_call{kids:F}(IH:KX ns T kids){H:Hp}{m a dp:Nat}{s:SI}{base e anc:List Nat}{off:Nat}(hm:Dp ns (bl kids) m)(iv:Inv T H)(ta:T a=some s)(ds:Des T base (a::anc) off 0 kids s.kids)(wf:Wf e none kids)(ef:Eff T (a::anc) e)(ch:Z3 T (a::anc))
  (hh:anc.length+1+ht kids<=9) (hd:anc.length=dp) (lk:nc kids<=900) (z:s.d.size=gsz kids) (z2:s.d.size<=2000) (o3:s.d.often<=3) (b1:1<=bl kids):∃H',Call (zc (P ns) 60 (m+1)) 643 [.obj a,.int (.ofNat dp)] H (.int (.ofNat s.d.size)) H'/\Le T H H'/\SzAll T H' kids s.kids:=by
 have x1:Le T H (H++[O.list []]):=Le.app _
 have ap:(H++[O.list []])[H.length]?=some (.list []):=ze
 have kn:=ds.kn
 have lk':=G5 ds.nc lk
 have c1:=Jf (ns:=ns) (x1.inv iv) ta kn (G6 (by rw[Gm];exact G5 lk' (by decide)))
 have n0:H[(H++[O.list []]).length]?=none:=ZJ (by rw[len1];exact D4 _)
 have n1:H[H.length]?=none:=yd
 have x2:Le T (H++[O.list []]) (H++[O.list []]++[O.list (s.kids.map .obj)]):=Le.app _
 have iv2:=x2.inv (x1.inv iv)
 refine IH base e (a::anc) off 0 none s.kids a dp 0 H.length (H++[O.list []]).length s.kids [] .bad _ m hm iv2 (λc s t e=>by rw[←e,(iv c s t).2.kids] at n1;cases n1)
  (iv.no n1) (iv.no n0) (by rw[len1];exact D1 (D9 _)) (zk ap) ze ds wf ef ch (by rw[GB];exact hh) (by rw[GB,hd]) (by rw[D5,GU];exact lk) RvOk.none ?_
 intro H3 x' lp x3 q
 have xx:Le T H H3:=((x1.trans x2).toA.trans x3).to n1
 obtain⟨⟨b,o,z0,sh,h0⟩,sd⟩:=xx.inv iv a s ta
 have c3:=jT (ns:=ns) h0 sd
 rw[GU,←z] at lp
 have hs1:s.d.size*s.d.often<=1000000:=G5 (Nat.mul_le_mul z2 o3) (by decide)
 refine⟨H3,zu (as:=.c (.obj (H++[O.list []]).length) (H++[O.list []]++[O.list (s.kids.map .obj)]) <|.it (.lst (H++[O.list []]).length (s.kids.map .obj)) <|.l .next [.obj a,.int (.ofNat dp),.int (.ofNat s.d.size),.obj H.length,x'] H3 <|.o (zb s b o z0 sh) <|.c (.int (.ofNat s.d.often)) H3 <|.g <|.b false .nil)
  (ok (I (c1.at (G5 b1 hm:Dp ns 1 m)) <|I (zo (ze (H:=H++[O.list []]) (o:=O.list (s.kids.map .obj)))) <|I lp <|I h0 <|I (c3.at (G5 b1 hm:Dp ns 1 m)) <|I (decide_eq_true (DV (GY z2 (by decide)) (GY o3 (by decide))):decide (s.d.size < 1000000000/\s.d.often < 1000000000)=true) <|
   I (kK H3 hs1) <|fin (.int (.ofNat s.d.size)) H3) (by kernel_rfl)),xx,q⟩
end
end G
end
section
namespace G
open Mn
theorem bl_ge:∀f:F,11<=bl f:=by
 intro f
 induction f with
 |nil=>
  exact Gi _
 |node z0 z1 r ihk ihr=>
  exact G5 (ihr) (GZ _ _)
section
variable {ns:List Int} {T:St}
theorem KR{n k:Nat}(h:n < k):Gg n k=false:=by
 rcases e:Gg n k with _|_
 ·rfl
 ·rw[Go e] at h;exact absurd h (DE _)
theorem lv1{n:Nat}(h:n≠0):Gg (1+4*n) 1=false:=by
 rcases e:Gg (1+4*n) 1 with _|_
 ·rfl
 ·exact absurd ((Nat.mul_eq_zero.mp (Nat.add_left_cancel (Go e:1+4*n=1+0))).resolve_left (by decide)) h
theorem k9{kids:F}(IH:KX ns T kids){H:Hp}{m a:Nat}{s:SI}{base e anc:List Nat}{off:Nat}(hm:Dp ns (bl kids) m)(iv:Inv T H)(nd:Node T base anc off s.d a s)(sn:Nd e s.d kids)(ds:Des T base (a::anc) off 0 kids s.kids)(wf:Wf (effD e s.d) none kids)(ef:Eff T anc e)(ch:Z3 T anc)
  (hh:anc.length+1+ht kids<=9) (lk:nc kids<=900) (hr:anc=[]->s.d.often=1):∃H',Call (zc (P ns) 60 (m+2)) 636 [.obj a,.int (.ofNat anc.length)] H .none H'/\Le T H H'/\SzOk T H' a/\SzAll T H' kids s.kids:=by
 have ef2:Eff T (a::anc) (effD e s.d):=by
  refine⟨s,nd.t,?_⟩
  unfold effD
  rcases h:s.d.usage with _|⟨u,r⟩
  ·exact .inl ⟨rfl,ef⟩
  ·exact .inr ⟨rfl,rfl⟩
 have d:anc.length<=20:=by exact om90 hh
 have l5:anc.length < 50:=by exact om91 d
 have l7:Gg s.level 77=false:=by rw[nd.lv];exact KR (on15 hh)
 have lv:G8 s.d.often 1=false->Gg s.level 1=false:=λh=>by
  rw[nd.lv]
  refine lv1 λe=>?_
  rw[hr (DL e)] at h;cases h
 rcases sn.is with⟨t,sep,hl,hk,k⟩|⟨hl,hk,z⟩
 ·subst hk
  have kd:s.kids=[]:=ds
  obtain⟨H',c,x,q⟩:=ss_leaf (dp:=anc.length) (G5 (by decide) hm:Dp ns 9 m) iv nd.t nd.par ch l5 hl ef2 k d lv l7 sn.of1 kd
  exact⟨H',c,x,q,trivial⟩
 ·have kd:nb s.kids=true:=by
   rcases kids with _|⟨d',k',r'⟩
   ·exact absurd rfl hk
   ·exact ds.len
  have ch2:Z3 T (a::anc):=⟨⟨s,nd.t,nd.par⟩,ch⟩
  have b1:=bl_ge kids
  exact ss_grp (G5 (G5 (by decide) b1) hm:Dp ns 4 m) iv nd.t hl ds.kn kd (G6 (by rw[Gm];exact G5 (G5 ds.nc lk) (by decide)))
   (λH iv=>gs_call IH hm iv nd.t ds wf ef2 ch2 hh rfl lk z sn.sz sn.of3 (G5 (by decide) b1)) d lv l7 sn.of1
theorem szBd{d:D}{e:List Nat}{k:F}(h:Nd e d k):Gz d.size 1000000000=true/\Gz d.often 1000000000=true:=⟨G6 (FL (GY h.sz (by decide))),G6 (FL (GY h.of3 (by decide)))⟩
theorem gs_all(f:F):KX ns T f:=by
 induction f with
 |nil=>
  intro base e anc here last l as pa dp sz ap ip all rv x H m hm iv k1 ta ti ne ha hi ds wf ef ch hh hd hl ro Gl kG
  have e:as=[]:=ds
  subst e
  exact kG H x zV LeA.refl trivial
 |node d kids rest IHk IHr=>
  intro base e anc here last l as pa dp sz ap ip all rv x H m hm iv k1 ta ti ne ha hi ds wf ef ch hh hd hl ro Gl kG
  refine Zh (ds) ?_;clear ds;intro a r s rq3 nd dk dr;subst rq3
  refine zC (wf) ?_;clear wf;intro sn wk wr
  obtain rfl:=nd.d
  have hm2:bl kids+2<=m:=G5 (Dw _ _) hm
  refine zh (GT (G5 (GJ 2 _) hm2)) λm' rq1=>?_;subst rq1
  have hk:Dp ns (bl kids) m':=DT hm2
  have h9:anc.length+1+ht kids<=9:=G5 (by rw[DC,Dx 1];exact Df (Dw _ _) _) hh
  have h9r:anc.length+ht rest<=9:=G5 (Df (GZ _ _) _) hh
  have hl:rv.length+(1+nc kids+nc rest)<=900:=hl
  have hlk:nc kids<=900:=by exact om92 hl
  have hlr:(a::rv).length+nc rest<=900:=by rw[GB];exact om93 hl
  have hb:rv.reverse.length < 1000:=by rw[Dh];exact on3 (by assumption)
  obtain⟨H1,c1,x1,q1,k2⟩:=k9 (IHk) hk iv nd sn dk wk ef ch h9 hlk (λe=>by rw[e] at hd;cases hd)
  have iv1:=x1.inv iv
  have ha1:=x1.old _ _ ha ta
  have hi1:=x1.old _ _ hi ti
  have q1':=q1
  refine Jn (q1') ?_;clear q1';intro s' b o p _ _ t' h1 _
  cases nd.t.symm.trans t'
  have c2:=X2 (ns:=ns) h1 (iv1 a s nd.t).2 (szBd sn).1 (szBd sn).2
  have d2:Dp ns 2 (m'+ 2):=GJ _ _
  rw[hd] at c1
  have x2:∀(H2:Hp) (us:List V),H2[ap]?=some (.list us)->LeA T ap H2 (H2.set ap (.list ((a::rv).reverse.map .obj))):=λH2 us h=>LeA.list h k1
  rcases fr:fre s.d with _|_
  ·rw[fr] at wr dr
   obtain⟨⟨y,u⟩,wr⟩:=wr
   refine Xo ((ro.mono x1.sz) y u.is) λus g pre sg e1 tg e2 z2 hu=>?_
   have z2':=z2
   refine Jn (z2') ?_;clear z2';intro sg' bg og pg _ _ tg' hg _
   cases tg.symm.trans tg'
   rw[←e2] at u
   have hu':Us T s.d.upon us:=by rw[←u.name,e2];exact hu
   have c3:=Xk (ns:=ns) iv1 nd.t tg u.name (by rw[u.often];rfl) hu' (by rw[←e1];exact ha1)
   rw[←e1] at c3
   have e3:sz+gsz (.node s.d kids rest)=sz+gsz rest:=by
    show sz+(ifN (fre s.d) (mulS s.d) 0+gsz rest)=_
    rw[fr];exact congrArg _ (GU _)
   have xa:Ex H1 (H1++[O.list (rv.map V.obj)]):=Ex.app _
   have c4:=X2 (ns:=ns) (xa _ _ hg) ((iv1 g sg tg).2.ex xa) (G6 (FL (GY u.bd (by decide)))) (by rw[u.often];rfl)
   have x2':=x2 _ _ (xa _ _ ha1)
   have x3:=((x1.trans (Le.ex xa)).toA (ap:=ap)).trans x2'
   refine IHr base e anc _ _ l r pa dp sz ap ip all (a::rv) (.obj a) _ (m'+ 2) (G5 (GZ _ _) hm:Dp ns (bl rest) _) (x3.inv iv) k1 ta ti ne (zB (xa _ _ ha1)) (zd (xa _ _ hi1) ne) dr wr ef ch h9r hd hlr
    ((ro.mono x3.sz).up nd.t (e2▸u)) ?_
   intro H' x' lp x4 q
   refine kG H' x' (zx (as:=.c .none H1 <|.o (zb s b o s.d.size (.obj p)) <|.b false <|.c (.int (.ofNat (s.d.size*s.d.often))) H1 <|.c (.obj g) (H1++[O.list (rv.map V.obj)]) <|.c (.int (.ofNat (sg.d.size*sg.d.often))) (H1++[O.list (rv.map V.obj)]) <|.b false <|.g <|.o (.list (rv.reverse.map V.obj)) <|.g <|.h ((H1++[O.list (rv.map V.obj)]).set ap (.list ((a::rv).reverse.map .obj))) .nil) rfl
    (ok (I c1 <|I h1 <|I (by rw[yN];exact congrArg some fr:some (eqS s.d.upon [])=some false) <|I (c2.at d2) <|I (c3.at d2) <|I (c4.at d2) <|I (kK (a:=s.d.size*s.d.often) (b:=sg.d.size*sg.d.often) (H1++[O.list (rv.map V.obj)]) (by rw[u.often,Nat.mul_one];exact u.size)) <|I (zN (b:=.append) (xa _ _ ha1)) <|I (xa _ _ ha1) <|I (yK hb) <|I (by rw[Z6]:(H1++[O.list (rv.map V.obj)]).set ap (.list (rv.reverse.map V.obj++[V.obj a]))=(H1++[O.list (rv.map V.obj)]).set ap (.list ((a::rv).reverse.map .obj))) <|
     fin3 .next [.obj pa,.int (.ofNat dp),.int (.ofNat sz),.obj ap,.obj a] ((H1++[O.list (rv.map V.obj)]).set ap (.list ((a::rv).reverse.map .obj)))) (by kernel_rfl)) (zm (zd (xa _ _ hi1) ne)) (e3▸lp)) (x3.trans x4) ⟨a,r,s,rfl,nd.t,x4.sz _ (x2'.sz _ ((Le.ex xa).sz _ q1)),SzAll.mono (λc h=>x4.sz _ (x2'.sz _ ((Le.ex xa).sz _ h))) _ _ k2,q⟩
  ·rw[fr] at wr dr
   have e3:sz+gsz (.node s.d kids rest)=sz+s.d.size*s.d.often+gsz rest:=by
    show sz+(ifN (fre s.d) (mulS s.d) 0+gsz rest)=_
    rw[fr,DC];rfl
   have x2':=x2 _ _ ha1
   have x3:=(x1.toA (ap:=ap)).trans x2'
   refine IHr base e anc _ _ _ r pa dp (sz+s.d.size*s.d.often) ap ip all (a::rv) (.obj a) _ (m'+ 2) (G5 (GZ _ _) hm:Dp ns (bl rest) _) (x3.inv iv) k1 ta ti ne (zB ha1) (zd hi1 ne) dr wr ef ch h9r hd hlr
    (.free nd.t (x2'.sz _ q1)) ?_
   intro H' x' lp x4 q
   refine kG H' x' (zx (as:=.c .none H1 <|.o (zb s b o s.d.size (.obj p)) <|.b true <|.c (.int (.ofNat (s.d.size*s.d.often))) H1 <|.g <|.o (.list (rv.reverse.map V.obj)) <|.g <|.h (H1.set ap (.list ((a::rv).reverse.map .obj))) .nil) rfl
    (ok (I c1 <|I h1 <|I (by rw[yN];exact congrArg some fr:some (eqS s.d.upon [])=some true) <|I (c2.at d2) <|I (zN (b:=.append) ha1) <|I ha1 <|I (yK hb) <|I (by rw[Z6]:H1.set ap (.list (rv.reverse.map V.obj++[V.obj a]))=H1.set ap (.list ((a::rv).reverse.map .obj))) <|
     fin3 .next [.obj pa,.int (.ofNat dp),.int (.ofNat (sz+s.d.size*s.d.often)),.obj ap,.obj a] (H1.set ap (.list ((a::rv).reverse.map .obj)))) (by kernel_rfl)) (zm (zd hi1 ne)) (e3▸lp)) (x3.trans x4) ⟨a,r,s,rfl,nd.t,x4.sz _ (x2'.sz _ q1),SzAll.mono (λc h=>x4.sz _ (x2'.sz _ h)) _ _ k2,q⟩
end
end G
end
section
namespace G
open Mn
noncomputable def bo:F->Nat
 |.nil=>3
 |.node _ k r=>max (bo k+1) (bo r)
theorem bo_ge:∀f:F,3<=bo f:=by
 intro f
 induction f with
 |nil=>
  exact Gi _
 |node z0 z1 r ihk ihr=>
  exact G5 (ihr) (GZ _ _)
section
variable {ns:List Int} {T:St}
noncomputable def At(T:St)(last:Nat)(H:Hp)(g:Nat):Prop:=OfOk T H g/\∃sg,T g=some sg/\sg.off=last
noncomputable def OsLoop(ns:List Int)(T:St)(f:F):Prop:=∀(base e anc:List Nat) (here last:Nat) (l:Option D) (as:List Nat) (pa of ap ip:Nat) (all rv:List Nat) (x:V) (H:Hp) (m:Nat),
 Dp ns (bo f) m->Inv T H->(∀a s,T a=some s->s.kl≠ap)->T ap=none->T ip=none->ap≠ip->H[ap]?=some (.list (rv.reverse.map .obj))->H[ip]?=some (.list (all.map .obj))->
 Des T base anc here last f as->Wf e l f->SzAll T H f as->rv.length+nc f<=900->RvOk T (At T last H) l rv->
 ∀{Gl:Prop},(∀H' L',(ForR (P ns) (zc (P ns) 60 m) 60 (bd f650 0) [5] true (.lst ip (all.map .obj)) (as.map .obj) [.obj pa,.int (.ofNat of),.str base,.int (.ofNat here),.obj ap,x] H .next L' H')->(LeA T ap H H')->(OfAll T H' f as)->Gl)->Gl
theorem jk{kids:F}(IH:OsLoop ns T kids){H:Hp}{m a:Nat}{s:SI}{base e anc:List Nat}{off:Nat}(hm:Dp ns (bo kids) m)(iv:Inv T H)(nd:Node T base anc off s.d a s)(ds:Des T base (a::anc) off 0 kids s.kids)(wf:Wf e none kids)
  (sz:SzAll T H kids s.kids) (lk:nc kids<=900) {Gl:Prop} (kk:∀H',(Call (zc (P ns) 60 (m+1)) 650 [.obj a,.int (.ofNat off),.str base] H .none H')->(Le T H H')->(OfOk T H' a)->(OfAll T H' kids s.kids)->Gl):Gl:=by
 obtain⟨⟨b,o,z,sh,h0⟩,_⟩:=iv a s nd.t
 have x1:=Le.item (z':=z) (b':=b) (o':=off) (sh':=sh) nd.t h0 (.inl rfl) (.inl rfl) (.inl rfl) (.inr nd.off.symm)
 have h1:=zB (x:=zb s b off z sh) h0
 have x2:=Le.item (z':=z) (b':=base) (o':=off) (sh':=sh) nd.t h1 (.inl rfl) (.inl rfl) (.inr nd.base.symm) (.inl rfl)
 have h2:=zB (x:=zb s base off z sh) h1
 obtain⟨H2,e2⟩:∃X,X=(H.set a (zb s b off z sh)).set a (zb s base off z sh):=⟨_,rfl⟩
 rw[←e2] at x2 h2
 have x2:=x1.trans x2
 have ofk:OfOk T H2 a:=⟨s,z,sh,nd.t,by rw[nd.base,nd.off];exact h2⟩
 have iv2:=x2.inv iv
 have x3:Le T H2 (H2++[O.list []]):=Le.app _
 have ap:(H2++[O.list []])[H2.length]?=some (.list []):=ze
 have lk':=G5 ds.nc lk
 have c1:=Jf (ns:=ns) (x3.inv iv2) nd.t ds.kn (G6 (by rw[Gm];exact G5 lk' (by decide)))
 have n0:H2[(H2++[O.list []]).length]?=none:=ZJ (by rw[len1];exact D4 _)
 have n1:H2[H2.length]?=none:=yd
 have x4:Le T (H2++[O.list []]) (H2++[O.list []]++[O.list (s.kids.map .obj)]):=Le.app _
 have x34:=x3.trans x4
 refine IH base e (a::anc) off 0 none s.kids a off H2.length (H2++[O.list []]).length s.kids [] .bad _ m hm (x34.inv iv2) (λc s t e=>by rw[←e,(iv2 c s t).2.kids] at n1;cases n1)
  (iv2.no n1) (iv2.no n0) (by rw[len1];exact D1 (D9 _)) (zk ap) ze ds wf (SzAll.mono (λc h=>x34.sz _ (x2.sz _ h)) _ _ sz) (by rw[D5,GU];exact lk) RvOk.none ?_
 intro H3 L' lp x5 q
 have xx:Le T H2 H3:=(x34.toA.trans x5).to n1
 exact kk H3 (zu (as:=.o (zb s b o z sh) <|.h (H.set a (zb s b off z sh)) <|.o (zb s b off z sh) <|.h H2 <|.c (.obj (H2++[O.list []]).length) (H2++[O.list []]++[O.list (s.kids.map .obj)]) <|.it (.lst (H2++[O.list []]).length (s.kids.map .obj)) <|.l .next L' H3 .nil)
  (ok (I h0 <|I (rfl:H.set a (zb s b off z sh)=H.set a (zb s b off z sh)) <|I h1 <|I e2.symm <|I (c1.at (G5 (G5 (by decide) (bo_ge kids)) hm:Dp ns 1 m)) <|I (zo (ze (H:=H2++[O.list []]) (o:=O.list (s.kids.map .obj)))) <|I lp <|fin .none H3) (by kernel_rfl))) (x2.trans xx) (xx.of _ ofk) q
theorem os_all(f:F):OsLoop ns T f:=by
 induction f with
 |nil=>
  intro base e anc here last l as pa of ap ip all rv x H m hm iv k1 ta ti ne ha hi ds wf sz hl ro Gl kG
  have e:as=[]:=ds
  subst e
  exact kG H _ zV LeA.refl trivial
 |node d kids rest IHk IHr=>
  intro base e anc here last l as pa of ap ip all rv x H m hm iv k1 ta ti ne ha hi ds wf sz hl ro Gl kG
  refine Zh (ds) ?_;clear ds;intro a r s rq3 nd dk dr;subst rq3
  refine YD (sz) ?_;clear sz;intro _ _ _ ea ts sa sk sr
  cases ea
  cases nd.t.symm.trans ts
  refine zC (wf) ?_;clear wf;intro sn wk wr
  obtain rfl:=nd.d
  have hm2:bo kids+1<=m:=G5 (Dw _ _) hm
  refine zh (GT (G5 (GJ 1 _) hm2)) λm' rq1=>?_;subst rq1
  have hk:Dp ns (bo kids) m':=DT hm2
  have hl:rv.length+(1+nc kids+nc rest)<=900:=hl
  have hlk:nc kids<=900:=by exact om92 hl
  have hlr:(a::rv).length+nc rest<=900:=by rw[GB];exact om93 hl
  have hb:rv.reverse.length < 1000:=by rw[Dh];exact on3 (by assumption)
  obtain⟨⟨b0,o0,z0,sh0,h0⟩,_⟩:=iv a s nd.t
  have d2:Dp ns 2 (m'+ 1):=DH (G5 (G5 (by decide) (bo_ge kids)) hk)
  have x2:∀(H2:Hp) (us:List V),H2[ap]?=some (.list us)->LeA T ap H2 (H2.set ap (.list ((a::rv).reverse.map .obj))):=λH2 us h=>LeA.list h k1
  rcases fr:fre s.d with _|_
  ·rw[fr] at wr dr nd dk
   obtain⟨⟨y,u⟩,wr⟩:=wr
   obtain⟨us,g,pre,sg,e1,tg,e2,⟨z2,sg2,tg2,lg⟩,hu⟩:=ro y u.is
   cases tg.symm.trans tg2
   have z2':=z2
   refine zF (z2') ?_;clear z2';intro sg' zg shg tg' hg
   cases tg.symm.trans tg'
   rw[←e2] at u
   have hu':Us T s.d.upon us:=by rw[←u.name,e2];exact hu
   have c3:=Xk (ns:=ns) iv nd.t tg u.name (by rw[u.often];rfl) hu' (by rw[←e1];exact ha)
   rw[←e1] at c3
   have xa:Ex H (H++[O.list (rv.map V.obj)]):=Ex.app _
   have la:Le T H (H++[O.list (rv.map V.obj)]):=Le.ex xa
   have hg:=xa _ _ hg
   rw[lg] at hg
   refine jk (IHk) hk (la.inv iv) nd dk wk (SzAll.mono la.sz _ _ sk) hlk ?_;intro H1 c1 x1 q1 k2
   have ha1:=x1.old _ _ (xa _ _ ha) ta
   have hi1:=x1.old _ _ (xa _ _ hi) ti
   have x2':=x2 _ _ ha1
   have x3:=((la.trans x1).toA (ap:=ap)).trans x2'
   refine IHr base e anc _ _ l r pa of ap ip all (a::rv) (.obj a) _ (m'+ 1) (G5 (GZ _ _) hm:Dp ns (bo rest) _) (x3.inv iv) k1 ta ti ne (zB ha1) (zd hi1 ne) dr wr (SzAll.mono x3.sz _ _ sr) hlr
    ((ro.mono λg h=>⟨x3.of _ h.1,h.2⟩).up nd.t (e2▸u)) ?_
   intro H' L' lp x4 q
   exact kG H' L' (zx (as:=.o (zb s b0 o0 z0 sh0) <|.b false <|.c (.obj g) (H++[O.list (rv.map V.obj)]) <|.o (zb sg sg.base last zg shg) <|.c .none H1 <|.g <|.o (.list (rv.reverse.map V.obj)) <|.g <|.h (H1.set ap (.list ((a::rv).reverse.map .obj))) .nil) rfl
    (ok (I h0 <|I (by rw[yN];exact congrArg some fr:some (eqS s.d.upon [])=some false) <|I (c3.at d2) <|I hg <|I c1 <|I (zN (b:=.append) ha1) <|I ha1 <|I (yK hb) <|I (by rw[Z6]:H1.set ap (.list (rv.reverse.map V.obj++[V.obj a]))=H1.set ap (.list ((a::rv).reverse.map .obj))) <|
     fin3 .next [.obj pa,.int (.ofNat of),.str base,.int (.ofNat here),.obj ap,.obj a] (H1.set ap (.list ((a::rv).reverse.map .obj)))) (by kernel_rfl)) (zm (zd hi1 ne)) lp) (x3.trans x4) ⟨a,r,s,rfl,nd.t,x4.of _ (x2'.of _ q1),OfAll.mono (λc h=>x4.of _ (x2'.of _ h)) _ _ k2,q⟩
  ·rw[fr] at wr dr nd dk
   refine jk (IHk) hk iv nd dk wk sk hlk ?_;intro H1 c1 x1 q1 k2
   have ha1:=x1.old _ _ ha ta
   have hi1:=x1.old _ _ hi ti
   have iv1:=x1.inv iv
   refine Jn (x1.sz _ sa) λs' b o p _ _ t' h1 _=>?_
   cases nd.t.symm.trans t'
   have c2:=X2 (ns:=ns) h1 (iv1 a s nd.t).2 (szBd sn).1 (szBd sn).2
   have x2':=x2 _ _ ha1
   have x3:=(x1.toA (ap:=ap)).trans x2'
   refine IHr base e anc _ _ _ r pa of ap ip all (a::rv) (.obj a) _ (m'+ 1) (G5 (GZ _ _) hm:Dp ns (bo rest) _) (x3.inv iv) k1 ta ti ne (zB ha1) (zd hi1 ne) dr wr (SzAll.mono x3.sz _ _ sr) hlr
    (.free nd.t ⟨x2'.of _ q1,s,nd.t,nd.off⟩) ?_
   intro H' L' lp x4 q
   exact kG H' L' (zx (as:=.o (zb s b0 o0 z0 sh0) <|.b true <|.c .none H1 <|.c (.int (.ofNat (s.d.size*s.d.often))) H1 <|.g <|.o (.list (rv.reverse.map V.obj)) <|.g <|.h (H1.set ap (.list ((a::rv).reverse.map .obj))) .nil) rfl
    (ok (I h0 <|I (by rw[yN];exact congrArg some fr:some (eqS s.d.upon [])=some true) <|I c1 <|I (c2.at d2) <|I (zN (b:=.append) ha1) <|I ha1 <|I (yK hb) <|I (by rw[Z6]:H1.set ap (.list (rv.reverse.map V.obj++[V.obj a]))=H1.set ap (.list ((a::rv).reverse.map .obj))) <|
     fin3 .next [.obj pa,.int (.ofNat of),.str base,.int (.ofNat (here+s.d.size*s.d.often)),.obj ap,.obj a] (H1.set ap (.list ((a::rv).reverse.map .obj)))) (by kernel_rfl)) (zm (zd hi1 ne)) lp) (x3.trans x4) ⟨a,r,s,rfl,nd.t,x4.of _ (x2'.of _ q1),OfAll.mono (λc h=>x4.of _ (x2'.of _ h)) _ _ k2,q⟩
end
end G
end
section
namespace G
open Mn
structure Root (T:St) (base:List Nat) (off:Nat) (d:D) (kids:F) (a:Nat) (s:SI):Prop where
 node:Node T base [] off d a s
 des:Des T base [a] off 0 kids s.kids
 nd:Nd [] d kids
 wf:Wf (effD [] d) none kids
 one:d.often=1
 h:1+ht kids<=9
 n:nc kids<=900
 b1:bl kids<=15
 b2:bo kids<=15
structure Done (T:St) (H:Hp) (kids:F) (a:Nat) (s:SI):Prop where
 sz:SzOk T H a
 sk:SzAll T H kids s.kids
 of:OfOk T H a
 ok:OfAll T H kids s.kids
theorem Done.mono{T:St}{H H':Hp}{kids:F}{a ap:Nat}{s:SI}(h:Done T H kids a s)(x:LeA T ap H H'):Done T H' kids a s:=⟨x.sz _ h.sz,SzAll.mono x.sz _ _ h.sk,x.of _ h.of,OfAll.mono x.of _ _ h.ok⟩
section
variable {ns:List Int} {T:St} {H:Hp}
theorem sr_loop{C:Orc}{it:It}(iv:Inv T H)(st:it.stands H=true)(a o:Nat)(b:List Nat):∀(as:List Nat) (x:V),Kn T as->∃L',ForR (P ns) C 60 (bd f669 0) [3] true it (as.map .obj) [.obj a,.int (.ofNat o),.str b,x] H .next L' H:=by
 intro as
 induction as with
 |nil=>
  intro x y2
  exact⟨_,zV⟩
 |cons k r ih=>
  intro x h
  refine za (h k (.head _)) λs t l=>?_
  obtain⟨⟨b',o',z,sh,h1⟩,_⟩:=iv k s t
  refine Gf (ih (.obj k) λq hq=>h q (.tail _ hq)) λL' w=>⟨L',zx (as:=.o (zb s b' o' z sh) <|.b false .nil) rfl (ok (I h1 <|I (eqNo H l) <|fin3 .next [.obj a,.int (.ofNat o),.str b,.obj k] H) (by kernel_rfl)) st w⟩
theorem X1{base:List Nat}{off:Nat}{d:D}{kids:F}{a:Nat}{s:SI}{m:Nat}(hm:Dp ns 17 m)(iv:Inv T H)(r:Root T base off d kids a s){Gl:Prop}(kG:∀H',(Call (zc (P ns) 60 (m+1)) 669 [.obj a,.int (.ofNat off),.str base] H .none H')->(Le T H H')->(Done T H' kids a s)->Gl):Gl:=by
 obtain⟨nd,ds,sn,wf,one,h9,n9,b1,b2⟩:=r
 obtain rfl:=nd.d
 refine zh (GT (G5 (by decide:2<=17) hm)) λm rq1=>?_;subst rq1
 have hm:15+2<=m+2:=hm
 have hm:15<=m:=DT hm
 refine j8 (k9 (gs_all (ns:=ns) kids) (G5 b1 hm) iv nd sn ds wf (e:=[]) (anc:=[]) rfl trivial (by rw[D5,GU];exact h9) n9 λ_=>one) λH1 c1 x1 q1 k1=>?_
 refine jk (os_all (ns:=ns) kids) (m:=m+1) (DA (G5 b2 hm)) (x1.inv iv) nd ds wf k1 n9 ?_;intro H2 c2 x2 q2 k2
 have iv2:=x2.inv (x1.inv iv)
 obtain⟨⟨b,o,z,sh,h0⟩,sd⟩:=iv2 a s nd.t
 refine Gf (sr_loop (ns:=ns) (C:=zc (P ns) 60 (m+2)) iv2 (zm sd.kids) a off base s.kids .bad ds.kn) λL' w=>kG H2 (zu (as:=.c .none H1 <|.c .none H2 <|.o (zb s b o z sh) <|.it (.lst s.kl (s.kids.map .obj)) <|.l .next L' H2 .nil)
  (ok (I c1 <|I c2 <|I h0 <|I (zo sd.kids) <|I w <|fin .none H2) (by kernel_rfl))) (x1.trans x2) ⟨x2.sz _ q1,SzAll.mono x2.sz _ _ k1,q2,k2⟩
end
noncomputable def Pre(T:St):F->List Nat->List Nat->Prop
 |.nil,as,res=>as=[]/\res=[]
 |.node _ k r,as,res=>∃a rs s x y,as=a::rs/\T a=some s/\Pre T k s.kids x/\Pre T r rs y/\res=a::(x++y)
theorem Pre.len{T:St}: ∀(f:F) (as res:List Nat),Pre T f as res->as.length<=nc f/\res.length=nc f:=by
 intro f
 induction f with
 |nil=>
  intro as res h
  exact by rw[h.1,h.2];exact⟨Gi _,rfl⟩
 |node d k r ihk ihr=>
  intro as res h
  refine YV (h) ?_;clear h;intro a rs s x y rq5 _ h1 h2 rq9;subst rq5;subst rq9
  have l1:=ihk _ _ h1
  have l2:=ihr _ _ h2
  show rs.length+1<=1+nc k+nc r/\(x++y).length+1=1+nc k+nc r
  rw[G7]
  exact om95 l1 l2
theorem pop_rev(S:List Nat):(S.reverse.map V.obj).reverse=S.map V.obj:=by rw[FY,DB]
theorem kt(S:List Nat):(S.map V.obj).reverse=S.reverse.map V.obj:=(FY ..).symm
theorem ext_rev(k S:List Nat):S.reverse.map V.obj++(k.map V.obj).reverse=(k++S).reverse.map V.obj:=by rw[kt,←Gw,←List.reverse_append]
theorem nb_rev(a:Nat)(S:List Nat):nb (a::S).reverse=true:=by
 rcases e:(a::S).reverse with _|⟨x,y⟩
 ·rw[List.reverse_eq_nil_iff] at e;cases e
 ·rfl
section
variable {ns:List Int} {T:St} {uf:Hp}
noncomputable abbrev uC:E:=.cmp .ne (.l 2) (.lst .nil)
theorem iu_turn{C:Orc}{a0 fp lp a:Nat}{s:SI}{S Dn:List Nat}{H:Hp}(iv:Inv T uf)(nf:uf[fp]?=none)(nl:uf[lp]?=none)(ne:fp≠lp)(ex:Ex uf H)(hf:H[fp]?=some (.list (Dn.map .obj)))(hl:H[lp]?=some (.list ((a::S).reverse.map .obj)))(t:T a=some s)(b1:Dn.length < 1000)(b2:S.length+s.kids.length<=1000)(x:V){Gl:Prop}(kk:∀uh,(Ex uf uh)->(uh[fp]?=some (.list ((Dn++[a]).map .obj)))->(uh[lp]?=some (.list ((s.kids++S).reverse.map .obj)))->(∀n g L' H',WhR (P ns) C 60 uC (bd f192 0) n [.obj a0,.obj fp,.obj lp,.obj a] uh g L' H'->WhR (P ns) C 60 uC (bd f192 0) (n+1) [.obj a0,.obj fp,.obj lp,x] H g L' H')->Gl):Gl:=by
 have f1:=zk (N:=[O.list []]) hf
 have l1:=zk (N:=[O.list []]) hl
 have e1:=ex.trans (Ex.app [O.list []])
 have c0:=jX (zk hl) (ze (H:=H) (o:=.list []))
 rw[nb_rev] at c0
 obtain⟨H1,q1⟩:∃X,X=H++[O.list []]:=⟨_,rfl⟩
 rw[←q1] at f1 l1 e1 c0
 obtain⟨H2,q2⟩:∃X,X=H1.set lp (.list (S.reverse.map .obj)):=⟨_,rfl⟩
 have e2:=e1.set nl (.list (S.reverse.map .obj))
 have f2:=zd (x:=.list (S.reverse.map .obj)) f1 ne.symm
 have l2:=zB (x:=.list (S.reverse.map .obj)) l1
 rw[←q2] at e2 f2 l2
 obtain⟨H3,q3⟩:∃X,X=H2.set fp (.list ((Dn++[a]).map .obj)):=⟨_,rfl⟩
 have e3:=e2.set nf (.list ((Dn++[a]).map .obj))
 have f3:=zB (x:=.list ((Dn++[a]).map .obj)) f2
 have l3:=zd (x:=.list ((Dn++[a]).map .obj)) l2 ne
 rw[←q3] at e3 f3 l3
 obtain⟨⟨b,o,z,sh,h0⟩,sd⟩:=iv a s t
 have e4:=e3.trans (Ex.app [O.list (s.kids.map V.obj).reverse])
 have f4:=zk (N:=[O.list (s.kids.map V.obj).reverse]) f3
 have l4:=zk (N:=[O.list (s.kids.map V.obj).reverse]) l3
 have e5:=e4.set nl (.list ((s.kids++S).reverse.map .obj))
 have f5:=zd (x:=.list ((s.kids++S).reverse.map .obj)) f4 ne.symm
 have l5:=zB (x:=.list ((s.kids++S).reverse.map .obj)) l4
 have gd:G8 ((S.reverse.map V.obj).length+(s.kids.map V.obj).reverse.length) 1000=true:=by rw[Gm,Dh,Dh,Gm];exact G6 b2
 refine kk _ e5 f5 l5 (λn g L' H' k=>whTurn (H₁:=H1) (as:=.b true .nil) (as':=.g <|.o (.list ((a::S).reverse.map .obj)) <|.u ((a::S).map .obj) <|.h H2 <|.g <|.o (.list (Dn.map .obj)) <|.g <|.h H3 <|.g <|.o (zb s b o z sh) <|.o (.list (s.kids.map .obj)) <|.o (.list (S.reverse.map .obj)) <|.o (.list (s.kids.map V.obj).reverse) <|.g <|.h ((H3++[O.list (s.kids.map V.obj).reverse]).set lp (.list ((s.kids++S).reverse.map .obj))) .nil)
  (ok (by rw[q1];rw[q1] at c0;exact I c0 <|I (rfl:true=true) (rfl:H++[O.list []]=H++[O.list []]):zW .ne (.obj lp) (.obj H.length) (H++[O.list []])=some true/\true=true/\H++[O.list []]=H1) (by kernel_rfl))
  (ok (I (zN (b:=.pop) l1) <|I l1 <|I (pop_rev (a::S)) <|I (by rw[q2,kt]:H1.set lp (.list (S.map V.obj).reverse)=H2) <|I (zN (b:=.append) f2) <|I f2 <|I (yK b1) <|I (by rw[q3,Zt]:H2.set fp (.list (Dn.map V.obj++[V.obj a]))=H3) <|
   I (zN (b:=.extend) l3) <|I (e3 _ _ h0) <|I (e3 _ _ sd.kids) <|I l4 <|I (ze (H:=H3) (o:=.list (s.kids.map V.obj).reverse)) <|I gd <|I (by rw[ext_rev]:(H3++[O.list (s.kids.map V.obj).reverse]).set lp (.list (S.reverse.map V.obj++(s.kids.map V.obj).reverse))=(H3++[O.list (s.kids.map V.obj).reverse]).set lp (.list ((s.kids++S).reverse.map .obj))) <|
   fin3 .next [.obj a0,.obj fp,.obj lp,.obj a] ((H3++[O.list (s.kids.map V.obj).reverse]).set lp (.list ((s.kids++S).reverse.map .obj)))) (by kernel_rfl)) k)
theorem iu_loop{C:Orc}{a0 fp lp:Nat}(iv:Inv T uf)(nf:uf[fp]?=none)(nl:uf[lp]?=none)(ne:fp≠lp):∀(f:F) (as Y Dn res:List Nat) (H:Hp) (x:V),Ex uf H->H[fp]?=some (.list (Dn.map .obj))->H[lp]?=some (.list ((as++Y).reverse.map .obj))->Pre T f as res->
  Dn.length+nc f<=900->Y.length+nc f<=900->
  ∃uh wg,Ex uf uh/\uh[fp]?=some (.list ((Dn++res).map .obj))/\uh[lp]?=some (.list (Y.reverse.map .obj))/\∀n g L' H',WhR (P ns) C 60 uC (bd f192 0) n [.obj a0,.obj fp,.obj lp,wg] uh g L' H'->WhR (P ns) C 60 uC (bd f192 0) (n+nc f) [.obj a0,.obj fp,.obj lp,x] H g L' H':=by
 intro f
 induction f with
 |nil=>
  intro as Y Dn res H x ex hf hl pr b1 b2
  rw[pr.1] at hl
  rw[pr.2,GH]
  exact⟨H,x,ex,hf,hl,λ_ _ _ _ h=>h⟩
 |node d k r ihk ihr=>
  intro as Y Dn res H x ex hf hl pr b1 b2
  refine YV (pr) ?_;clear pr;intro a rs s u v rq5 t pk pq rq9;subst rq5;subst rq9
  have n1:=pk.len
  have n2:=pq.len
  have b1:Dn.length+(1+nc k+nc r)<=900:=b1
  have b2:Y.length+(1+nc k+nc r)<=900:=b2
  refine iu_turn (ns:=ns) (C:=C) (a0:=a0) (S:=rs++Y) iv nf nl ne ex hf hl t (by exact on3 (by assumption)) (by rw[G7];exact om97 n1 n2 b2) x ?_;intro H2 e2 f2 l2 w2
  refine yt (ihk s.kids (rs++Y) (Dn++[a]) u H2 (.obj a) e2 f2 l2 pk (by rw[G7,D8];exact om98 b1) (by rw[G7];exact om99 n2 b2)) λH3 x3 e3 f3 l3 w3=>?_
  refine yt (ihr rs Y (Dn++[a]++u) v H3 x3 e3 f3 l3 pq (by rw[G7,G7,D8];exact om100 n1 b1) (om101 b2)) λH4 x4 e4 f4 l4 w4=>?_
  rw[show Dn++[a]++u++v=Dn++a::(u++v) by rw[Gk,Gk];rfl] at f4
  refine⟨H4,x4,e4,f4,l4,λn g L' H' h=>?_⟩
  rw[show n+nc (.node d k r)=n+nc r+nc k+1 by show n+(1+nc k+nc r)=_;exact om102]
  exact w2 _ _ _ _ (w3 _ _ _ _ (w4 _ _ _ _ h))
end
end G
end
section
namespace G
open Mn
noncomputable def ExA(ap:Nat)(H H':Hp):Prop:=∀(i:Nat) (o:O),H[i]?=some o->i≠ap->H'[i]?=some o
theorem ExA.of{ap:Nat}{H H':Hp}(e:Ex H H'):ExA ap H H':=λi o h _=>e i o h
theorem ExA.trans{ap:Nat}{H₁ uh uk:Hp}(a:ExA ap H₁ uh)(b:ExA ap uh uk):ExA ap H₁ uk:=λi o h n=>b i o (a i o h n) n
theorem ExA.set{ap:Nat}{H:Hp}(x:O):ExA ap H (H.set ap x):=λ_ _ h n=>zd h n.symm
section
variable {ns:List Int} {T:St} {H:Hp}
theorem jq{m a:Nat}{f:F}{res:List Nat}(iv:Inv T H)(pr:Pre T f [a] res)(b:nc f<=50){Gl:Prop}(kk:∀H',(Call (zc (P ns) 60 (m+1)) 192 [.obj a] H (.obj H.length) H')->(Ex H H')->(H'[H.length]?=some (.list (res.map .obj)))->Gl):Gl:=by
 have e0:Ex H (H++[O.list []]++[O.list [V.obj a]]):=(Ex.app _).trans (Ex.app _)
 have n1:H[(H++[O.list []]).length]?=none:=ZJ (by rw[len1];exact D4 _)
 have ne:H.length≠(H++[O.list []]).length:=by rw[len1];exact D1 (D9 _)
 have b1:([]:List Nat).length+nc f<=900:=by rw[D5,GU];exact G5 b (by decide)
 refine yt (iu_loop (ns:=ns) (C:=zc (P ns) 60 m) (a0:=a) iv yd n1 ne f [a] [] [] res (H++[O.list []]++[O.list [V.obj a]]) .bad e0 (zk ze) ze pr b1 b1) λH2 x2 e2 f2 l2 w=>?_
 have w:=w (60 - nc f) .next [.obj a,.obj H.length,.obj (H++[O.list []]).length,x2] (H2++[O.list []])
  (by
   rw[show 60 - nc f=59 - nc f+1 by exact om94 b]
   exact whEnd (as:=.b false .nil) (ok (I (jX (as:=[]) (zk l2) (ze (H:=H2) (o:=.list []))) <|I (rfl:false=false) (rfl:H2++[O.list []]=H2++[O.list []])) (by kernel_rfl)))
 rw[show 60 - nc f+nc f=60 by exact om96 b] at w
 exact kk (H2++[O.list []]) (zu (as:=.l .next [.obj a,.obj H.length,.obj (H++[O.list []]).length,x2] (H2++[O.list []]) .nil) (ok (I w <|fin (.obj H.length) (H2++[O.list []])) (by kernel_rfl))) (e2.trans (Ex.app _)) (zk f2)
noncomputable def datO(wl ll fd sl z ix:Nat):O:=.inst 174 [(27,.obj wl),(26,.obj ll),(25,.obj fd),(24,.obj sl),(6,.int (.ofNat z)),(0,.obj ix)]
structure Dat (H:Hp) (wl ll fd:Nat) (es:List (List Nat×V)) (fs ws ls:List Nat):Prop where
 fd:H[fd]?=some (.dict es)
 fl:es=[]/\fs=[]∨∃fl,es=[([70],.obj fl)]/\H[fl]?=some (.list (fs.map .obj))
 wl:H[wl]?=some (.list (ws.map .obj))
 ll:H[ll]?=some (.list (ls.map .obj))
theorem Dat.ex{H H':Hp}{wl ll fd:Nat}{es:List (List Nat×V)}{fs ws ls:List Nat}(h:Dat H wl ll fd es fs ws ls)(e:Ex H H'):Dat H' wl ll fd es fs ws ls:=⟨e _ _ h.fd,h.fl.imp id λ⟨x,a,b⟩=>⟨x,a,e _ _ b⟩,e _ _ h.wl,e _ _ h.ll⟩
theorem eqKs_rf:∀es:List (List Nat×V),eqKs es es=true:=by
 intro es
 induction es with
 |nil=>
  exact rfl
 |cons a r ih=>
  show(eqS a.1 a.1 && eqKs r r)=true
  rw[YR,ih];rfl
theorem Yd{i:Nat}{es:List (List Nat×V)}{H:Hp}(h:H[i]?=some (.dict es)):(It.keys i es).stands H=true:=by
 show(match H[i]? with|some (.dict us)=>eqKs us es|_=>false)=true
 rw[h];exact eqKs_rf es
theorem XH{i:Nat}{es:List (List Nat×V)}{H:Hp}(h:H[i]?=some (.dict es)):zU (.obj i) H=some (.keys i es):=by
 show(match H[i]? with|some (.list vs)=>some (It.lst i vs)|some (.dict es)=>some (.keys i es)|_=>none)=_
 rw[h]
theorem ye(as bs:List Nat):as.map V.obj++bs.map V.obj=(as++bs).map V.obj:=Gw.symm
theorem Z1{as bs:List Nat}{n:Nat}(h:as.length+bs.length<=n):G8 ((as.map V.obj).length+(bs.map V.obj).length) n=true:=by rw[Gm,Gm];exact G6 h
theorem rec_call{m da wl ll fd sl z ix:Nat}{es:List (List Nat×V)}{fs ws ls:List Nat}(hd:H[da]?=some (datO wl ll fd sl z ix))(k:Dat H wl ll fd es fs ws ls)(b:fs.length+ws.length+ls.length<=900){Gl:Prop}(kk:∀p H',(Call (zc (P ns) 60 (m+1)) 185 [.obj da] H (.obj p) H')->(Ex H H')->(H[p]?=none)->(H'[p]?=some (.list ((fs++ws++ls).map .obj)))->Gl):Gl:=by
 have lp:∃L' H1,ForR (P ns) (zc (P ns) 60 m) 60 (bd f185 0) [2] true (.keys fd es) (es.map λe=>.str e.1) [.obj da,.obj H.length,.bad] (H++[O.list []]) .next (.obj da::.obj H.length::L') H1/\Ex H H1/\H1[H.length]?=some (.list (fs.map .obj)):=by
  rcases k.fl with⟨rfl,rfl⟩|⟨fl,rfl,hl⟩
  ·exact⟨_,_,zV,Ex.app _,ze⟩
  ·have hf:(H++[O.list []])[H.length]?=some (.list (([]:List Nat).map .obj)):=ze
   have b':([]:List Nat).length+fs.length<=1000:=by rw[D5];exact om103 b
   refine⟨[.str [70]],(H++[O.list []]).set H.length (.list (fs.map .obj)),zx (as:=.g <|.o (datO wl ll fd sl z ix) <|.o (.dict [([70],.obj fl)]) <|.o (.list []) <|.o (.list (fs.map .obj)) <|.g <|.h ((H++[O.list []]).set H.length (.list (fs.map .obj))) .nil) rfl
    (ok (I (zN (b:=.extend) hf) <|I (zk (N:=[O.list []]) hd) <|I (zk (N:=[O.list []]) k.fd) <|I hf <|I (zk (N:=[O.list []]) hl) <|I (Z1 b') <|I (rfl:(H++[O.list []]).set H.length (.list (fs.map .obj))=(H++[O.list []]).set H.length (.list (fs.map .obj))) <|
     fin3 .next [.obj da,.obj H.length,.str [70]] ((H++[O.list []]).set H.length (.list (fs.map .obj)))) (by kernel_rfl)) (Yd (zd (zk k.fd) λe=>?_)) zV,(Ex.app _).set yd _,zB ze⟩
   have q:=k.fd
   rw[←e,yd] at q
   cases q
 refine zy (lp) ?_;clear lp;intro L' H1 w e1 f1
 have k1:=k.ex e1
 have e2:=e1.trans (Ex.app [O.list ((fs++ws).map .obj)])
 have k2:=k.ex e2
 have b1:fs.length+ws.length<=1000:=by exact om105 b
 have b2:(fs++ws).length+ls.length<=1000:=by rw[G7];exact om107 b
 refine kk ((H1++[O.list ((fs++ws).map .obj)]).length) (H1++[O.list ((fs++ws).map .obj)]++[O.list ((fs++ws++ls).map .obj)]) (zu (as:=.o (datO wl ll fd sl z ix) <|.it (.keys fd es) <|.l .next (.obj da::.obj H.length::L') H1 <|.o (datO wl ll fd sl z ix) <|.o (.list (fs.map .obj)) <|.o (.list (ws.map .obj)) <|.g <|.o (datO wl ll fd sl z ix) <|.o (.list ((fs++ws).map .obj)) <|.o (.list (ls.map .obj)) <|.g .nil)
  (ok (I (zk (N:=[O.list []]) hd) <|I (XH (zk (N:=[O.list []]) k.fd)) <|I w <|I (e1 _ _ hd) <|I f1 <|I k1.wl <|I (Z1 b1) <|I (by rw[ye];exact e2 _ _ hd:(H1++[O.list (fs.map V.obj++ws.map V.obj)])[da]?=some (datO wl ll fd sl z ix)) <|I (by rw[ye];exact ze:(H1++[O.list (fs.map V.obj++ws.map V.obj)])[H1.length]?=some (.list ((fs++ws).map .obj))) <|
   I (by rw[ye];exact k2.ll:(H1++[O.list (fs.map V.obj++ws.map V.obj)])[ll]?=some (.list (ls.map .obj))) <|I (Z1 b2) <|I (by rw[ye]:V.obj (H1++[O.list (fs.map V.obj++ws.map V.obj)]).length=V.obj (H1++[O.list ((fs++ws).map V.obj)]).length) (by rw[ye,ye]:H1++[O.list (fs.map V.obj++ws.map V.obj)]++[O.list ((fs++ws).map V.obj++ls.map V.obj)]=H1++[O.list ((fs++ws).map .obj)]++[O.list ((fs++ws++ls).map .obj)])) (by kernel_rfl))) (e2.trans (Ex.app _)) (e2.no yd) ze
noncomputable def RPre(T:St):List Nat->List Nat->Prop
 |[],all=>all=[]
 |a::r,all=>∃f x y,Pre T f [a] x/\nc f<=50/\RPre T r y/\all=x++y
theorem ai_loop{m ip fp da:Nat}{rs:List Nat}(n0:H[fp]?=none)(iv:Inv T H)(ni:ip≠fp):∀(as all Dn:List Nat) (H1:Hp) (x:V),Ex H H1->H1[ip]?=some (.list (rs.map .obj))->H1[fp]?=some (.list (Dn.map .obj))->RPre T as all->Dn.length+all.length<=900->
  ∃L' H2,ForR (P ns) (zc (P ns) 60 (m+1)) 60 (bd f199 0) [2] true (.lst ip (rs.map .obj)) (as.map .obj) [.obj da,.obj fp,x] H1 .next (.obj da::.obj fp::L') H2/\Ex H H2/\H2[fp]?=some (.list ((Dn++all).map .obj)):=by
 intro as
 induction as with
 |nil=>
  intro all Dn H1 x e hi hf pr b
  have q:all=[]:=pr
  rw[q,GH]
  exact⟨_,_,zV,e,hf⟩
 |cons a r ih=>
  intro all Dn H1 x e hi hf pr b
  refine Zh (pr) ?_;clear pr;intro f u v p1 p2 p3 rq6;subst rq6
  rw[G7] at b
  refine jq (ns:=ns) (m:=m) ((Le.ex e).inv iv) p1 p2 ?_;intro H2 c e2 q
  have hf2:=e2 _ _ hf
  have hi2:=e2 _ _ hi
  have b':Dn.length+u.length<=1000:=by exact om104 b
  obtain⟨L',H3,w,e3,q3⟩:=ih v (Dn++u) (H2.set fp (.list ((Dn++u).map .obj))) (.obj a) ((e.trans e2).set n0 _) (zd hi2 ni.symm) (zB hf2) p3 (by rw[G7];exact om106 b)
  rw[Gk] at q3
  exact⟨L',H3,zx (as:=.g <|.c (.obj H1.length) H2 <|.o (.list (Dn.map .obj)) <|.o (.list (u.map .obj)) <|.g <|.h (H2.set fp (.list ((Dn++u).map .obj))) .nil) rfl
   (ok (I (zN (b:=.extend) hf) <|I c <|I hf2 <|I q <|I (Z1 b') <|I (by rw[ye]:H2.set fp (.list (Dn.map V.obj++u.map V.obj))=H2.set fp (.list ((Dn++u).map .obj))) <|fin3 .next [.obj da,.obj fp,.obj a] (H2.set fp (.list ((Dn++u).map .obj)))) (by kernel_rfl)) (zm (zd hi2 ni.symm)) w,e3,q3⟩
theorem KW{m da wl ll fd sl z ix:Nat}{es:List (List Nat×V)}{fs ws ls all:List Nat}(hd:H[da]?=some (datO wl ll fd sl z ix))(k:Dat H wl ll fd es fs ws ls)(b:fs.length+ws.length+ls.length<=900)(iv:Inv T H)(pr:RPre T (fs++ws++ls) all)(b2:all.length<=900){Gl:Prop}(kk:∀H',(Call (zc (P ns) 60 (m+2)) 199 [.obj da] H (.obj H.length) H')->(Ex H H')->(H'[H.length]?=some (.list (all.map .obj)))->Gl):Gl:=by
 have e0:Ex H (H++[O.list []]):=Ex.app _
 refine rec_call (ns:=ns) (m:=m) (e0 _ _ hd) (k.ex e0) b ?_;intro p H1 c1 e1 np hp
 have hf:H1[H.length]?=some (.list (([]:List Nat).map .obj)):=e1 _ _ ze
 have ni:p≠H.length:=λe=>by rw[e] at np;rw[ze] at np;cases np
 refine zy (ai_loop (ns:=ns) (m:=m) (da:=da) yd iv ni (fs++ws++ls) all [] H1 .bad (e0.trans e1) hp hf pr (by rw[D5,GU];exact b2)) λL' H2 w e2 q=>?_
 exact kk H2 (zu (as:=.c (.obj p) H1 <|.it (.lst p ((fs++ws++ls).map .obj)) <|.l .next (.obj da::.obj H.length::L') H2 .nil) (ok (I c1 <|I (zo hp) <|I w <|fin (.obj H.length) H2) (by kernel_rfl))) e2 q
end
end G
end
section
namespace G
open Mn
noncomputable def PAll(T:St)(all:List Nat):Prop:=∀a,a∈all->∃s f x,T a=some s/\Pre T f [a] x/\nc f<=50
noncomputable def nmV(T:St)(a:Nat):V:=match T a with|some s=>.str s.d.name|none=>.bad
section
variable {ns:List Int} {T:St} {H:Hp}
theorem YO{a:Nat}{s:SI}(t:T a=some s):nmV T a= .str s.d.name:=by
 show(match T a with|some s=>V.str s.d.name|none=>.bad)=_
 rw[t]
theorem kL{C:Orc}{it:It}(iv:Inv T H)(st:it.stands H=true):∀(as:List Nat) (acc:List V),(∀a,a∈as->∃s,T a=some s)->
  YJ (ev (P ns) C (.a (.l 0) 22) X0) (cnd (P ns) C (.c (.bool true))) 1 [] it (as.map .obj) acc H (acc.reverse++as.map (nmV T)) H:=by
 intro as
 induction as with
 |nil=>
  intro acc y2
  exact by rw[show acc.reverse++([]:List Nat).map (nmV T)=acc.reverse from GH _];exact KF
 |cons k r ih=>
  intro acc h
  refine zh (h k (.head _)) λs t=>?_
  obtain⟨⟨b,o,z,sh,h1⟩,_⟩:=iv k s t
  have ih:=ih (nmV T k::acc) λq hq=>h q (.tail _ hq)
  rw[show acc.reverse++(k::r).map (nmV T)=(nmV T k::acc).reverse++r.map (nmV T) by rw[Dc,Gk];rfl]
  exact cpIn (H₁:=H) (as:=.nil) (as':=.o (zb s b o z sh) .nil) rfl (ok (I (rfl:true=true) (rfl:H=H)) (by kernel_rfl)) (ok (I h1 <|I (YO t).symm (rfl:H=H)) (by kernel_rfl)) st ih
theorem Pre.mem{T:St}: ∀(f:F) (as res:List Nat),Pre T f as res->∀a,a∈res->∃s,T a=some s:=by
 intro f
 induction f with
 |nil=>
  intro y0 y1 h y3 m
  exact by rw[h.2] at m;cases m
 |node d k r ihk ihr=>
  intro y0 y1 h a m
  refine YV (h) ?_;clear h;intro a' rs s x y rq5 t h1 h2 rq9;subst rq5;subst rq9
  rcases Gh.mp m with rfl|m
  ·exact⟨s,t⟩
  ·exact(Gn.mp m).elim (ihk _ _ h1 a) (ihr _ _ h2 a)
theorem co_call{m a da:Nat}{s:SI}{f:F}{x:List Nat}(iv:Inv T H)(t:T a=some s)(pr:Pre T f [a] x)(b:nc f<=50)(oc:G8 s.d.often 1=false){Gl:Prop}(kk:∀H',(Call (zc (P ns) 60 (m+2)) 695 [.obj da,.obj a] H .none H')->(Ex H H')->Gl):Gl:=by
 refine jq (ns:=ns) (m:=m) iv pr b ?_;intro H1 c e1 q
 have iv1:=(Le.ex e1).inv iv
 have e2:=e1.trans (Ex.app [O.list (x.map (nmV T))])
 obtain⟨⟨b0,o,z,sh,h0⟩,sd⟩:=(Le.ex e2).inv iv a s t
 have h1:=Yo h0 oc
 have h2:(H1++[O.list (x.map (nmV T))])[s.oc]?=some (occO s.d.often):=by
  rcases sd.occ with⟨e,_⟩|⟨_,e⟩
  ·rw[e] at oc;cases oc
  ·exact e
 have bx:G8 (x.map (nmV T)).length 1000=true:=by rw[Gm,(pr.len).2];exact G6 (G5 b (by decide))
 exact kk _ (zu (as:=.c (.obj H.length) H1 <|.it (.lst H.length (x.map .obj)) <|.m (x.map (nmV T)) H1 <|.g <|.o (yg s (.obj s.oc) (parV s.par) b0 o z sh) <|.o (occO s.d.often) <|.o (yg s (.obj s.oc) (parV s.par) b0 o z sh) <|.o (occO s.d.often) <|.l .next [.obj da,.obj a,.obj H1.length,.bad,.bad,.bad] (H1++[O.list (x.map (nmV T))]) .nil)
  (ok (I c <|I (zo q) <|I (kL (ns:=ns) (C:=zc (P ns) 60 (m+1)) iv1 (zm q) x [] (Pre.mem _ _ _ pr)) <|I bx <|I h1 <|I h2 <|I h1 <|I h2 <|I (zV (P:=P ns) (C:=zc (P ns) 60 (m+1)) (w:=60) (b:=bd f695 0) (ks:=[4,5]) (one:=false) (it:=.vals []) (L:=[.obj da,.obj a,.obj H1.length,.bad,.bad,.bad]) (H:=H1++[O.list (x.map (nmV T))])) <|fin .none (H1++[O.list (x.map (nmV T))])) (by kernel_rfl))) e2
theorem si_loop{C:Orc}{it:It}(iv:Inv T H)(st:it.stands H=true)(da:Nat):∀(as:List Nat) (x:V),(∀a,a∈as->∃s,T a=some s)->∃L',ForR (P ns) C 60 (bd f690 0) [1] true it (as.map .obj) [.obj da,x,.bad] H .next L' H:=by
 intro as
 induction as with
 |nil=>
  intro x y2
  exact⟨_,zV⟩
 |cons k r ih=>
  intro x h
  refine zh (h k (.head _)) λs t=>?_
  obtain⟨⟨b,o,z,sh,h0⟩,_,oc⟩:=iv k s t
  refine Gf (ih (.obj k) λq hq=>h q (.tail _ hq)) λL' w=>⟨L',?_⟩
  have fn:ForR (P ns) C 60 (bd f690 1) [2] true (.vals []) [] [.obj da,.obj k,.bad] H .next [.obj da,.obj k,.bad] H:=zV
  rcases oc with⟨e,_⟩|⟨e,h1⟩
  ·exact zx (as:=.o (yg s .none (parV s.par) b o z sh) <|.l .next [.obj da,.obj k,.bad] H .nil) rfl (ok (I (Yp h0 e) <|I fn <|fin3 .next [.obj da,.obj k,.bad] H) (by kernel_rfl)) st w
  ·have h0:=Yo h0 e
   exact zx (as:=.o (yg s (.obj s.oc) (parV s.par) b o z sh) <|.o (yg s (.obj s.oc) (parV s.par) b o z sh) <|.o (occO s.d.often) <|.l .next [.obj da,.obj k,.bad] H .nil) rfl (ok (I h0 <|I h0 <|I h1 <|I fn <|fin3 .next [.obj da,.obj k,.bad] H) (by kernel_rfl)) st w
theorem Inv.dat{H':Hp}{da wl ll fd sl z ix:Nat}(iv:Inv T H)(hd:H[da]?=some (datO wl ll fd sl z ix))(e:ExA da H H'):Inv T H':=λa s t=>by
 obtain⟨⟨b,o,z,sh,h0⟩,h1,h2⟩:=iv a s t
 exact⟨⟨b,o,z,sh,e _ _ h0 (zi h0 hd λe=>by cases e).symm⟩,e _ _ h1 (zi h1 hd nofun).symm,h2.imp id λh2=>⟨h2.1,e _ _ h2.2 (zi h2.2 hd λe=>by cases e).symm⟩⟩
theorem Dat.dat{H':Hp}{da wl ll fd sl z ix:Nat}{es:List (List Nat×V)}{fs ws ls:List Nat}(k:Dat H wl ll fd es fs ws ls)(hd:H[da]?=some (datO wl ll fd sl z ix))(e:ExA da H H'):Dat H' wl ll fd es fs ws ls:=
 ⟨e _ _ k.fd (zi k.fd hd nofun).symm,k.fl.imp id λ⟨x,a,b⟩=>⟨x,a,e _ _ b (zi b hd nofun).symm⟩,e _ _ k.wl (zi k.wl hd nofun).symm,e _ _ k.ll (zi k.ll hd nofun).symm⟩
theorem si_call{m da wl ll fd sl z ix:Nat}{es:List (List Nat×V)}{fs ws ls all:List Nat}(hd:H[da]?=some (datO wl ll fd sl z ix))(k:Dat H wl ll fd es fs ws ls)(b:fs.length+ws.length+ls.length<=900)(iv:Inv T H)(pr:RPre T (fs++ws++ls) all)(b2:all.length<=900)(pa:∀a,a∈all->∃s,T a=some s) :
  ∃H' ix,Call (zc (P ns) 60 (m+3)) 690 [.obj da] H .none H'/\ExA da H H'/\H'[da]?=some (datO wl ll fd sl z ix):=by
 have h1:=zk (N:=[O.dict []]) hd
 have e2:ExA da H ((H++[O.dict []]).set da (datO wl ll fd sl z H.length)):=(ExA.of (Ex.app _)).trans (ExA.set _)
 have h2:=zB (x:=datO wl ll fd sl z H.length) h1
 obtain⟨H2,q2⟩:∃X,X=(H++[O.dict []]).set da (datO wl ll fd sl z H.length):=⟨_,rfl⟩
 rw[←q2] at e2 h2
 have iv2:=iv.dat hd e2
 refine KW (ns:=ns) (m:=m) h2 (k.dat hd e2) b iv2 pr b2 ?_;intro H3 c3 e3 q3
 refine Gf (si_loop (ns:=ns) (C:=zc (P ns) 60 (m+2)) ((Le.ex e3).inv iv2) (zm q3) da all .bad pa) λL' w=>⟨H3,H.length,zu (as:=.o (datO wl ll fd sl z ix) <|.h H2 <|.c (.obj H2.length) H3 <|.it (.lst H2.length (all.map .obj)) <|.l .next L' H3 .nil)
  (ok (I h1 <|I q2.symm <|I c3 <|I (zo q3) <|I w <|fin .none H3) (by kernel_rfl)),e2.trans (.of e3),e3 _ _ h2⟩
end
end G
end
section
namespace G
open Mn
noncomputable def DoneL(T:St)(H:Hp)(as:List Nat):Prop:=∀a,a∈as->∃base off d kids s,Root T base off d kids a s/\Done T H kids a s
theorem DoneL.mono{T:St}{H H':Hp}{as:List Nat}{ap:Nat}(h:DoneL T H as)(x:LeA T ap H H'):DoneL T H' as:=λa m=>by
 refine JS (h a m) λbase off d kids s r q=>?_
 exact⟨base,off,d,kids,s,r,q.mono x⟩
theorem DoneL.cons{T:St}{H:Hp}{a:Nat}{as:List Nat}{base:List Nat}{off:Nat}{d:D}{kids:F}{s:SI}(r:Root T base off d kids a s)(q:Done T H kids a s)(h:DoneL T H as):DoneL T H (a::as):=λb m=>by
 rcases m with _|⟨_,m⟩
 ·exact⟨base,off,d,kids,s,r,q⟩
 ·exact h b m
theorem DoneL.nil{T:St}{H:Hp}:DoneL T H []:=λ_ m=>nomatch m
noncomputable def FRl(T:St)(off:Nat):Nat->List Nat->Nat->Prop
 |e,[],e'=>e'=e
 |e,a::r,e'=>∃d kids s,Root T [] off d kids a s/\fre d=true/\FRl T off (max e (off+d.size)) r e'
noncomputable def WRl(T:St):Nat->Nat->Option D->List Nat->Nat->Prop
 |e,_,_,[],e'=>e'=e
 |e,last,l,a::r,e'=>∃d kids s,Root T [] (ifN (fre d) e last) d kids a s/\(match fre d with
  |true=>WRl T (max e (e+d.size)) e (some d) r e'
  |false=>(∃x,l=some x/\x.name=d.upon/\x.often=1/\eqS d.name d.upon=false)/\WRl T (max e (last+d.size)) last l r e')
noncomputable def LRl(T:St):List Nat->Prop
 |[]=>True
 |a::r=>(∃d kids s,Root T d.name 0 d kids a s)/\LRl T r
theorem maxN(a b:Nat):(max (Gx a) (Gx b):Int)=Gx (max a b):=by
 rcases Nat.le_total a b with h|h
 ·exact(Fg (a:=Gx a) (b:=Gx b) (Db.mpr h)).trans (congrArg Gx (Nat.max_eq_right h).symm)
 ·exact(Int.max_eq_left (a:=Gx a) (b:=Gx b) (Db.mpr h)).trans (congrArg Gx (Nat.max_eq_left h).symm)
section
variable {ns:List Int} {T:St}
theorem lf_loop{m ip rl off:Nat}{rs:List Nat}(hm:Dp ns 17 m)(ti:T ip=none):∀(as:List Nat) (e e':Nat) (x:V) (H:Hp),Inv T H->H[ip]?=some (.list (rs.map .obj))->FRl T off e as e'->
  ∃L' H',ForR (P ns) (zc (P ns) 60 (m+1)) 60 (bd f683 0) [3] true (.lst ip (rs.map .obj)) (as.map .obj) [.obj rl,.int (.ofNat off),.int (.ofNat e),x] H .next [.obj rl,.int (.ofNat off),.int (.ofNat e'),L'] H'/\Le T H H'/\DoneL T H' as:=by
 intro as
 induction as with
 |nil=>
  intro e e' x H iv hi r
  have q:e'=e:=r
  rw[q]
  exact⟨_,_,zV,.refl T H,.nil⟩
 |cons a as ih=>
  intro e e' x H iv hi r
  refine Z9 (r) ?_;clear r;intro d kids s rt fr r
  obtain rfl:=rt.node.d
  obtain⟨⟨b,o,z,sh,h0⟩,_⟩:=iv a s rt.node.t
  refine X1 hm iv rt ?_;intro H1 c x1 dn
  have dn':=dn.sz
  refine Jn (dn') ?_;clear dn';intro s' b' o' p _ _ t' h1 _
  cases rt.node.t.symm.trans t'
  have hi1:=x1.old _ _ hi ti
  refine zy (ih _ e' (.obj a) H1 (x1.inv iv) hi1 r) λL' H2 w x2 q=>?_
  exact⟨L',H2,zx (as:=.o (zb s b o z sh) <|.b false <|.c .none H1 <|.o (zb s b' o' s.d.size (.obj p)) .nil) rfl
   (ok (I h0 <|I (by rw[yN];exact congrArg (λq=>some (!q)) fr:some (!eqS s.d.upon [])=some false) <|I c <|I h1 <|I (rfl:Fl.next=Fl.next) <|I (congrArg (λn=>[V.obj rl,.int (.ofNat off),.int n,.obj a]) (maxN e (off+s.d.size))) (rfl:H1=H1)) (by kernel_rfl)) (zm hi1) w,x1.trans x2,.cons rt (dn.mono (x2.toA (ap:=0))) q⟩
theorem lf_call{m rl off e':Nat}{rs:List Nat}{H:Hp}(hm:Dp ns 17 m)(iv:Inv T H)(tr:T rl=none)(hr:H[rl]?=some (.list (rs.map .obj)))(r:FRl T off off rs e'){Gl:Prop}(kk:∀H',(Call (zc (P ns) 60 (m+2)) 683 [.obj rl,.int (.ofNat off)] H (.int (.ofNat e')) H')->(Le T H H')->(DoneL T H' rs)->Gl):Gl:=by
 refine zy (lf_loop (rl:=rl) hm tr rs off e' .bad H iv hr r) λL' H1 w x q=>?_
 exact kk H1 (zu (as:=.it (.lst rl (rs.map .obj)) <|.l .next [.obj rl,.int (.ofNat off),.int (.ofNat e'),L'] H1 .nil) (ok (I (zo hr) <|I w <|fin (.int (.ofNat e')) H1) (by kernel_rfl))) x q
theorem RvOk.upw{p:Nat->Prop}{l:Option D}{a:Nat}{s:SI}{x:D}{rv:List Nat}(h:RvOk T p l rv)(t:T a=some s)(u1:l=some x)(u2:x.name=s.d.upon)(u4:eqS s.d.name s.d.upon=false):RvOk T p l (a::rv):=λy e=>by
 refine Xo (h y e) λus g pre sg h1 h2 h3 h4 h5=>?_
 cases u1.symm.trans e
 refine⟨a::us,g,pre,sg,by rw[h1];rfl,h2,h3,h4,λv hv=>?_⟩
 rcases hv with _|⟨_,hv⟩
 ·exact⟨s,t,u2.symm,by rw[u2];exact u4⟩
 ·exact h5 v hv
theorem lw_loop{m rl off ap:Nat}{rs:List Nat}(hm:Dp ns 17 m)(ti:T rl=none)(ta:T ap=none)(k1:∀a s,T a=some s->s.kl≠ap)(ne:ap≠rl)(as:List Nat):∀(e e' last:Nat) (l:Option D) (rv:List Nat) (x y:V) (H:Hp),Inv T H->H[rl]?=some (.list (rs.map .obj))->H[ap]?=some (.list (rv.reverse.map .obj))->RvOk T (At T last H) l rv->WRl T e last l as e'->rv.length+as.length<=900->
  ∀{Gl:Prop},(∀L' H',(ForR (P ns) (zc (P ns) 60 (m+1)) 60 (bd f676 0) [4] true (.lst rl (rs.map .obj)) (as.map .obj) [.obj rl,.int (.ofNat off),.int (.ofNat e),.obj ap,x,y] H .next (.obj rl::.int (.ofNat off)::.int (.ofNat e')::L') H')->(LeA T ap H H')->(DoneL T H' as)->Gl)->Gl:=by
 induction as with
 |nil=>
  intro e e' last l rv x y H iv hi ha ro r bd Gl kG
  have q:e'=e:=r
  subst q
  exact kG _ _ zV .refl .nil
 |cons a as IH=>
  intro e e' last l rv x y H iv hi ha ro r bd Gl kG
  refine zF (r) ?_;clear r;intro d kids s rt r
  obtain rfl:=rt.node.d
  obtain⟨⟨b,o,z,sh,h0⟩,_⟩:=iv a s rt.node.t
  rw[GB] at bd
  have hb:rv.reverse.length < 1000:=by rw[Dh];exact om108 bd
  have bd':(a::rv).length+as.length<=900:=by rw[GB];exact om109 bd
  have d1:Dp ns 1 (m+1):=GJ _ _
  rcases fr:fre s.d with _|_
  ·rw[fr] at r rt
   obtain⟨⟨xd,u1,u2,u3,u4⟩,r⟩:=r
   obtain⟨us,g,pre,sg,e1,tg,e2,⟨z2,sg2,tg2,lg⟩,hu⟩:=ro xd u1
   cases tg.symm.trans tg2
   refine zF (z2) ?_;clear z2;intro sg' zg shg tg' hg
   cases tg.symm.trans tg'
   subst e2
   have c3:=Xk (ns:=ns) iv rt.node.t tg u2 (by rw[u3];rfl) (by rw[←u2];exact hu) (by rw[←e1];exact ha)
   rw[←e1] at c3
   have xa:Ex H (H++[O.list (rv.map V.obj)]):=Ex.app _
   have la:Le T H (H++[O.list (rv.map V.obj)]):=Le.ex xa
   have hg:=xa _ _ hg
   rw[lg] at hg
   refine X1 hm (la.inv iv) rt ?_;intro H1 c x1 dn
   have dn':=dn.sz
   refine Jn (dn') ?_;clear dn';intro s' b' o' p _ _ t' h1 _
   cases rt.node.t.symm.trans t'
   have hi1:=x1.old _ _ (xa _ _ hi) ti
   have ha1:=x1.old _ _ (xa _ _ ha) ta
   have x2:LeA T ap H1 (H1.set ap (.list ((a::rv).reverse.map .obj))):=LeA.list ha1 k1
   have x3:=((la.trans x1).toA (ap:=ap)).trans x2
   refine IH _ e' last l (a::rv) (.obj a) (.int (.ofNat last)) _ (x3.inv iv) (zd hi1 ne) (zB ha1) ((ro.mono λg h=>⟨x3.of _ h.1,h.2⟩).upw rt.node.t u1 u2 u4) r bd' ?_;intro L' H2 w x4 q
   exact kG L' H2 (zx (as:=.o (zb s b o z sh) <|.b false <|.c (.obj g) (H++[O.list (rv.map V.obj)]) <|.o (zb sg sg.base last zg shg) <|.c .none H1 <|.o (zb s b' o' s.d.size (.obj p)) <|.g <|.o (.list (rv.reverse.map V.obj)) <|.g <|.h (H1.set ap (.list ((a::rv).reverse.map .obj))) .nil) rfl
    (ok (I h0 <|I (by rw[yN];exact congrArg some fr:some (eqS s.d.upon [])=some false) <|I (c3.at d1) <|I hg <|I c <|I h1 <|I (zN (b:=.append) ha1) <|I ha1 <|I (yK hb) <|I (by rw[Z6]:H1.set ap (.list (rv.reverse.map V.obj++[V.obj a]))=H1.set ap (.list ((a::rv).reverse.map .obj))) <|
     I (rfl:Fl.next=Fl.next) <|I (congrArg (λn=>[V.obj rl,.int (.ofNat off),.int n,.obj ap,.obj a,.int (.ofNat last)]) (maxN e (last+s.d.size))) (rfl:H1.set ap (.list ((a::rv).reverse.map .obj))=H1.set ap (.list ((a::rv).reverse.map .obj)))) (by kernel_rfl)) (zm (zd hi1 ne)) w) (x3.trans x4) (.cons rt ((dn.mono x2).mono x4) q)
  ·rw[fr] at r rt
   refine X1 hm iv rt ?_;intro H1 c x1 dn
   have dn':=dn.sz
   refine Jn (dn') ?_;clear dn';intro s' b' o' p _ _ t' h1 _
   cases rt.node.t.symm.trans t'
   have hi1:=x1.old _ _ hi ti
   have ha1:=x1.old _ _ ha ta
   have x2:LeA T ap H1 (H1.set ap (.list ((a::rv).reverse.map .obj))):=LeA.list ha1 k1
   have x3:=(x1.toA (ap:=ap)).trans x2
   refine IH _ e' e (some s.d) (a::rv) (.obj a) (.int (.ofNat e)) _ (x3.inv iv) (zd hi1 ne) (zB ha1) (.free rt.node.t ⟨x2.of _ dn.of,s,rt.node.t,rt.node.off⟩) r bd' ?_;intro L' H2 w x4 q
   exact kG L' H2 (zx (as:=.o (zb s b o z sh) <|.b true <|.c .none H1 <|.o (zb s b' o' s.d.size (.obj p)) <|.g <|.o (.list (rv.reverse.map V.obj)) <|.g <|.h (H1.set ap (.list ((a::rv).reverse.map .obj))) .nil) rfl
    (ok (I h0 <|I (by rw[yN];exact congrArg some fr:some (eqS s.d.upon [])=some true) <|I c <|I h1 <|I (zN (b:=.append) ha1) <|I ha1 <|I (yK hb) <|I (by rw[Z6]:H1.set ap (.list (rv.reverse.map V.obj++[V.obj a]))=H1.set ap (.list ((a::rv).reverse.map .obj))) <|
     I (rfl:Fl.next=Fl.next) <|I (congrArg (λn=>[V.obj rl,.int (.ofNat off),.int n,.obj ap,.obj a,.int (.ofNat e)]) (maxN e (e+s.d.size))) (rfl:H1.set ap (.list ((a::rv).reverse.map .obj))=H1.set ap (.list ((a::rv).reverse.map .obj)))) (by kernel_rfl)) (zm (zd hi1 ne)) w) (x3.trans x4) (.cons rt ((dn.mono x2).mono x4) q)
theorem lw_call{m rl off e':Nat}{rs:List Nat}{H:Hp}(hm:Dp ns 17 m)(iv:Inv T H)(tr:T rl=none)(hr:H[rl]?=some (.list (rs.map .obj)))(r:WRl T off 0 none rs e')(b:rs.length<=900){Gl:Prop}(kk:∀H',(Call (zc (P ns) 60 (m+2)) 676 [.obj rl,.int (.ofNat off)] H (.int (.ofNat e')) H')->(Le T H H')->(DoneL T H' rs)->Gl):Gl:=by
 have x0:Le T H (H++[O.list []]):=Le.app _
 have n1:H[H.length]?=none:=yd
 refine lw_loop (off:=off) hm tr (iv.no n1) (λc s t e=>by rw[←e,(iv c s t).2.kids] at n1;cases n1) (YH hr n1) rs off e' 0 none [] .bad .bad (H++[O.list []]) (x0.inv iv) (zk hr) ze RvOk.none r (by rw[D5,GU];exact b) ?_
 intro L' H1 w x q
 exact kk H1 (zu (as:=.it (.lst rl (rs.map .obj)) <|.l .next (.obj rl::.int (.ofNat off)::.int (.ofNat e')::L') H1 .nil) (ok (I (zo (zk (N:=[O.list []]) hr)) <|I w <|fin (.int (.ofNat e')) H1) (by kernel_rfl))) ((x0.toA.trans x).to n1) q
end
end G
end
section
namespace G
open Mn
section
variable {ns:List Int} {T:St}
theorem LeA.dat{H H':Hp}{da wl ll fd sl z ix:Nat}(hd:H[da]?=some (datO wl ll fd sl z ix))(e:ExA da H H'):LeA T da H H' where
 old i o h _ n:=e i o h n
 sz a q:=by
  refine xe6c4 (q) ?_;clear q;intro s b o r fs c h1 h2 h3 h4
  exact⟨s,b,o,r,fs,c,h1,e _ _ h2 (zi h2 hd λe=>by cases e).symm,e _ _ h3 (zi h3 hd λe=>by cases e).symm,h4⟩
 of a q:=by
  refine zF (q) ?_;clear q;intro s z sh h1 h2
  exact⟨s,z,sh,h1,e _ _ h2 (zi h2 hd λe=>by cases e).symm⟩
 inv iv:=iv.dat hd e
theorem lr_loop{m ip da h:Nat}{nm:V}{rs:List Nat}(hm:Dp ns 17 m)(ti:T ip=none):∀(as:List Nat) (x y:V) (H:Hp),Inv T H->H[ip]?=some (.list (rs.map .obj))->LRl T as->
  ∃L' H',ForR (P ns) (zc (P ns) 60 (m+1)) 60 (bd f702 1) [3] true (.lst ip (rs.map .obj)) (as.map .obj) [.obj da,.int (.ofNat h),nm,x,y] H .next [.obj da,.int (.ofNat h),nm,L',y] H'/\Le T H H'/\DoneL T H' as:=by
 intro as
 induction as with
 |nil=>
  intro x y H iv hi r
  exact⟨_,_,zV,.refl T H,.nil⟩
 |cons a as ih=>
  intro x y H iv hi r
  obtain⟨⟨d,kids,s,rt⟩,r⟩:=r
  obtain rfl:=rt.node.d
  obtain⟨⟨b,o,z,sh,h0⟩,_⟩:=iv a s rt.node.t
  refine X1 hm iv rt ?_;intro H1 c x1 dn
  have hi1:=x1.old _ _ hi ti
  refine zy (ih (.obj a) y H1 (x1.inv iv) hi1 r) λL' H2 w x2 q=>?_
  exact⟨L',H2,zx (as:=.o (zb s b o z sh) <|.c .none H1 .nil) rfl (ok (I h0 <|I c <|fin3 .next [.obj da,.int (.ofNat h),nm,.obj a,y] H1) (by kernel_rfl)) (zm hi1) w,x1.trans x2,.cons rt (dn.mono (x2.toA (ap:=0))) q⟩
theorem co_loop{uf:Hp}{m ip da:Nat}{h nm rt:V}{all:List Nat}(iv:Inv T uf):∀(as:List Nat) (x:V) (H:Hp),PAll T as->Ex uf H->H[ip]?=some (.list (all.map .obj))->
  ∃L' H',ForR (P ns) (zc (P ns) 60 (m+2)) 60 (bd f702 2) [4] true (.lst ip (all.map .obj)) (as.map .obj) [.obj da,h,nm,rt,x] H .next L' H'/\Ex uf H':=by
 intro as
 induction as with
 |nil=>
  intro x H pa e hi
  exact⟨_,_,zV,e⟩
 |cons a as ih=>
  intro x H pa e hi
  refine Z9 (pa a (.head _)) λs f y t pr b=>?_
  have iv1:=(Le.ex e).inv iv
  obtain⟨⟨b0,o,z,sh,h0⟩,_,oc⟩:=iv1 a s t
  have pa':PAll T as:=λq hq=>pa q (.tail _ hq)
  rcases oc with⟨oc,_⟩|⟨oc,_⟩
  ·refine zl (ih (.obj a) H pa' e hi) λL' H2 w e2=>?_
   exact⟨L',H2,zx (as:=.o (yg s .none (parV s.par) b0 o z sh) .nil) rfl (ok (I (Yp h0 oc) <|fin3 .next [.obj da,h,nm,rt,.obj a] H) (by kernel_rfl)) (zm hi) w,e2⟩
  ·refine co_call (ns:=ns) (m:=m) (da:=da) iv1 t pr b oc ?_;intro H1 c e1
   refine zl (ih (.obj a) H1 pa' (e.trans e1) (e1 _ _ hi)) λL' H2 w e2=>?_
   exact⟨L',H2,zx (as:=.o (yg s (.obj s.oc) (parV s.par) b0 o z sh) <|.c .none H1 .nil) rfl (ok (I (Yo h0 oc) <|I c <|fin3 .next [.obj da,h,nm,rt,.obj a] H1) (by kernel_rfl)) (zm (e1 _ _ hi)) w,e2⟩
theorem lo_call{H:Hp}{m da wl ll fd sl z ix e1 e2:Nat}{es:List (List Nat×V)}{fs ws ls all:List Nat}(hm:Dp ns 17 m)(hd:H[da]?=some (datO wl ll fd sl z ix))(k:Dat H wl ll fd es fs ws ls)(b:fs.length+ws.length+ls.length<=900)(iv:Inv T H)
  (r1:FRl T 0 0 fs e1) (r2:WRl T e1 0 none ws e2) (r3:LRl T ls) (pr:RPre T (fs++ws++ls) all) (b2:all.length<=900) (pa:PAll T all) :
  ∃H' ix,Call (zc (P ns) 60 (m+3)) 702 [.obj da] H .none H'/\LeA T da H H'/\H'[da]?=some (datO wl ll fd sl e2 ix)/\DoneL T H' (fs++ws++ls):=by
 have tl:∀{i:Nat} {us:List V},H[i]?=some (.list us)->T i=none:=λ{i us} h=>by
  rcases e:T i with _|s
  ·rfl
  ·obtain⟨⟨b,o,z,sh,h0⟩,_⟩:=iv i s e
   rw[h] at h0;cases h0
 have td:∀{i:Nat} {us:List (List Nat×V)},H[i]?=some (.dict us)->T i=none:=λ{i us} h=>by
  rcases e:T i with _|s
  ·rfl
  ·obtain⟨⟨b,o,z,sh,h0⟩,_⟩:=iv i s e
   rw[h] at h0;cases h0
 have tda:T da=none:=by
  rcases e:T da with _|s
  ·rfl
  ·obtain⟨⟨b,o,z,sh,h0⟩,_⟩:=iv da s e
   rw[hd] at h0;cases h0
 have lf:∃x H1,ForR (P ns) (zc (P ns) 60 (m+2)) 60 (bd f702 0) [2] true (.keys fd es) (es.map λe=>.str e.1) [.obj da,.int (.ofNat 0),.bad,.bad,.bad] H .next [.obj da,.int (.ofNat e1),x,.bad,.bad] H1/\Le T H H1/\DoneL T H1 fs:=by
  rcases k.fl with⟨rfl,rfl⟩|⟨fl,rfl,hl⟩
  ·have q:e1=0:=r1
   rw[q]
   exact⟨_,_,zV,.refl T H,.nil⟩
  ·refine lf_call hm iv (tl hl) hl r1 ?_;intro H1 c x q
   exact⟨.str [70],H1,zx (as:=.o (datO wl ll fd sl z ix) <|.o (.dict [([70],.obj fl)]) <|.c (.int (.ofNat e1)) H1 .nil) rfl (ok (I hd <|I k.fd <|I c <|fin3 .next [.obj da,.int (.ofNat e1),.str [70],.bad,.bad] H1) (by kernel_rfl)) (Yd (x.old _ _ k.fd (td k.fd))) zV,x,q⟩
 refine zy (lf) ?_;clear lf;intro x1 H1 w1 y1 q1
 have iv1:=y1.inv iv
 have hd1:=y1.old _ _ hd tda
 have wl1:=y1.old _ _ k.wl (tl k.wl)
 refine lw_call hm iv1 (tl k.wl) wl1 r2 (om110 b) ?_;intro H2 c2 y2 q2
 have iv2:=y2.inv iv1
 have hd2:=y2.old _ _ hd1 tda
 have y12:=y1.trans y2
 obtain⟨H3,e3⟩:∃X,X=H2.set da (datO wl ll fd sl e2 ix):=⟨_,rfl⟩
 have x3:ExA da H2 (H2.set da (datO wl ll fd sl e2 ix)):=ExA.set _
 have hd3:=zB (x:=datO wl ll fd sl e2 ix) hd2
 rw[←e3] at x3 hd3
 have y3:LeA T da H2 H3:=.dat hd2 x3
 have iv3:=y3.inv iv2
 have ll3:H3[ll]?=some (.list (ls.map .obj)):=x3 _ _ (y12.old _ _ k.ll (tl k.ll)) (zi k.ll hd nofun).symm
 refine zy (lr_loop (ns:=ns) (da:=da) (h:=e1) (nm:=x1) (DA hm:Dp ns 17 (m+1)) (tl k.ll) ls .bad .bad H3 iv3 ll3 r3) λx4 H4 w4 y4 q4=>?_
 have y14:LeA T da H H4:=(y12.toA.trans y3).trans y4.toA
 have iv4:=y14.inv iv
 have hd4:=y4.old _ _ hd3 tda
 have k4:Dat H4 wl ll fd es fs ws ls:=⟨y14.old _ _ k.fd (td k.fd) (zi k.fd hd nofun).symm,k.fl.imp id λ⟨x,a,b⟩=>⟨x,a,y14.old _ _ b (tl b) (zi b hd nofun).symm⟩,y14.old _ _ k.wl (tl k.wl) (zi k.wl hd nofun).symm,y14.old _ _ k.ll (tl k.ll) (zi k.ll hd nofun).symm⟩
 refine zh (GT (G5 (by decide:1<=17) hm)) λm' rq1=>?_;subst rq1
 refine zy (si_call (ns:=ns) (m:=m') hd4 k4 b iv4 pr b2 λa h=>Gf (pa a h) λs h=>⟨s,h.elim λ_ h=>h.elim λ_ h=>h.1⟩) λH5 ix5 c5 e5 hd5=>?_
 have y5:LeA T da H4 H5:=.dat hd4 e5
 have iv5:=y5.inv iv4
 refine KW (ns:=ns) (m:=m'+ 1) hd5 (k4.dat hd4 e5) b iv5 pr b2 ?_;intro H6 c6 e6 q6
 refine zl (co_loop (ns:=ns) (m:=m'+ 1) (da:=da) (h:=.int (.ofNat e1)) (nm:=x1) (rt:=x4) iv5 all .bad H6 pa e6 q6) λL7 H7 w7 e7=>?_
 have y57:LeA T da H5 H7:=(Le.ex e7).toA
 refine⟨H7,ix5,zu (as:=.o (datO wl ll fd sl z ix) <|.it (.keys fd es) <|.l .next [.obj da,.int (.ofNat e1),x1,.bad,.bad] H1 <|.o (datO wl ll fd sl z ix) <|.c (.int (.ofNat e2)) H2 <|.o (datO wl ll fd sl z ix) <|.h H3 <|.o (datO wl ll fd sl e2 ix) <|.it (.lst ll (ls.map .obj)) <|.l .next [.obj da,.int (.ofNat e1),x1,x4,.bad] H4 <|.c .none H5 <|.c (.obj H5.length) H6 <|.it (.lst H5.length (all.map .obj)) <|.l .next L7 H7 .nil)
  (ok (I hd <|I (XH k.fd) <|I w1 <|I hd1 <|I c2 <|I hd2 <|I e3.symm <|I hd3 <|I (zo ll3) <|I w4 <|I c5 <|I c6 <|I (zo q6) <|I w7 <|fin .none H7) (by kernel_rfl)),(y14.trans y5).trans y57,e7 _ _ hd5,λa h=>?_⟩
 have y37:=(y4.toA.trans y5).trans y57
 rcases Gn.mp h with h|h
 ·rcases Gn.mp h with h|h
  ·exact(((q1.mono (y2.toA (ap:=0))).mono y3).mono y37) a h
  ·exact((q2.mono y3).mono y37) a h
 ·exact(q4.mono (y5.trans y57)) a h
end
end G
end
section
namespace G
open Mn
structure Src (H:Hp) (so ce:Nat) (cs:List Int) (k:Nat):Prop where
 s:H[so]?=some (.list [.obj ce,.int (.ofNat k)])
 c:H[ce]?=some (.list (cs.map .int))
 p:0 < cs.length
 l:cs.length<=60
theorem fmodN(a b:Nat):Fk (.ofNat a) (.ofNat b)= .ofNat (a % b):=by
 rcases a with _|a
 ·rw[Nat.zero_mod];rfl
 ·rfl
theorem fdivN'(a b:Nat):Ic (.ofNat a) (.ofNat b)= .ofNat (a / b):=by
 rcases a with _|a
 ·rw[Nat.zero_div];rfl
 ·rfl
theorem drawn(i:Int){l:Nat}(h:0 < l){Gl:Prop}(kk:∀r,(r < l)->(Fk i (.ofNat l)= .ofNat r)->Gl):Gl:=by
 have h0:(0:Int) < (l:Int):=Int.natCast_pos.mpr h
 refine kk ((Fk i (.ofNat l)).toNat) ?_ ?_
 ·have:=Int.fmod_lt_of_pos i h0
  have h1:=Int.fmod_nonneg_of_pos i h0
  show(Fk i (l:Int)).toNat < l
  exact om111 this h1
 ·exact(Int.toNat_of_nonneg (Int.fmod_nonneg_of_pos i h0)).symm
theorem at_int{cs:List Int}{i:Nat}(h:i < cs.length):∃x,atV (cs.map .int) (.ofNat i)=some (.int x):=⟨cs[i],by
 show(cs.map V.int)[i]?=_
 rw[List.getElem?_map,List.getElem?_eq_getElem h];rfl⟩
noncomputable def drH(H:Hp)(so ce k:Nat):Hp:=H.set so (.list [.obj ce,.int (.ofNat k)])
section
variable {ns:List Int} {H:Hp} {so ce k:Nat} {cs:List Int}
theorem Src.to(s:Src H so ce cs k)(j:Nat):Src (drH H so ce j) so ce cs j:=⟨zB s.s,zd s.c (zi s.c s.s λe=>by
 have p:=s.p
 rcases cs with _|⟨c,r⟩
 ·exact DE _ p
 ·cases e),s.p,s.l⟩
theorem yE(s:Src H so ce cs k){l m:Nat}(hl:0 < l)(hk:k < 1000000){Gl:Prop}(kk:∀r,(r < l)->(Call (zc (P ns) 60 (m+1)) 709 [.obj so,.int (.ofNat l)] H (.int (.ofNat r)) (drH H so ce (k+1)))->Gl):Gl:=by
 have s2:=s.to (k+1)
 refine zh (at_int (cs:=cs) (Nat.mod_lt k s.p)) λx hx=>?_
 have g1:(V.int (Fk (.ofNat k) ((cs.map V.int).length:Int)))= .int (.ofNat (k % cs.length)):=by rw[Gm];exact congrArg V.int (fmodN k cs.length)
 have g2:Ic (.ofNat k) ((cs.map V.int).length:Int)= .ofNat (k / cs.length):=by rw[Gm];exact fdivN' k cs.length
 have lz:((cs.map V.int).length:Int)=(cs.length:Int):=by rw[Gm]
 have p1:(0:Int) < (cs.length:Int):=Int.natCast_pos.mpr s.p
 have p2:(cs.length:Int) < 1000000000:=by have:=s.l;exact om112 this
 have p3:k / cs.length < 1000000000:=GY (Nat.div_le_self _ _) (om113 hk)
 have hx':atV (cs.map V.int) (Fk (.ofNat k) ((cs.map V.int).length:Int))=some (.int x):=by rw[Gm];rw[show Fk (.ofNat k) (cs.length:Int)= .ofNat (k % cs.length) from fmodN k cs.length];exact hx
 refine drawn (x+11*Ic (.ofNat k) ((cs.map V.int).length:Int)) hl ?_;intro r hr e
 refine kk r hr (zu (as:=.o (.list [.obj ce,.int (.ofNat k)]) <|.o (.list [.obj ce,.int (.ofNat k)]) <|.o (.list [.obj ce,.int (.ofNat k)]) <|.h (drH H so ce (k+1)) <|.o (.list (cs.map .int)) <|.g <|.o (.list (cs.map .int)) <|.w (.int x) <|.o (.list (cs.map .int)) <|.g <|.g <|.g .nil)
  (ok (I s.s <|I s.s <|I s.s <|I (rfl:drH H so ce (k+1)=drH H so ce (k+1)) <|I s2.c <|I (decide_eq_true (by rw[lz];exact p1):decide (0 < ((cs.map V.int).length:Int))=true) <|I s2.c <|I hx' <|I s2.c <|I (decide_eq_true (by rw[lz];exact⟨p1,p2⟩):decide (0 < ((cs.map V.int).length:Int)/\((cs.map V.int).length:Int) < 1000000000)=true) <|
   I (decide_eq_true (by rw[g2];exact⟨by decide,p3⟩):decide ((11:Int).natAbs < 1000000000/\(Ic (.ofNat k) ((cs.map V.int).length:Int)).natAbs < 1000000000)=true) <|I (decide_eq_true (Int.natCast_pos.mpr hl):decide (0 < Gx l)=true) <|I (congrArg V.int e) (rfl:drH H so ce (k+1)=drH H so ce (k+1))) (by kernel_rfl)))
end
end G
end
section
set_option Elab.async false
namespace G
open Mn
noncomputable def txX(k:Nat):List Nat:=[88,40]++zv (.ofNat k)++[41]
noncomputable def txV(k:Nat):List Nat:=[57,40]++zv (.ofNat k)++[41,86,57]
noncomputable def txS(k:Nat):List Nat:=[83,57,40]++zv (.ofNat k)++[41]
theorem PicOk.to{t t' cat:List Nat}{dg sc:Nat}{sg:Bool}{z:Nat}(h:PicOk t cat dg sc sg z)(e:t'=t):PicOk t' cat dg sc sg z:=by rw[e];exact h
noncomputable def AllTo(p:Nat->Prop):Nat->Prop
 |0=>True
 |n+1=>AllTo p n/\p (n+1)
theorem AllTo.get{p:Nat->Prop}: ∀{n k:Nat},AllTo p n->1<=k->k<=n->p k:=by
 intro n
 induction n with
 |zero=>
  intro y0 y1 h1 h2
  exact absurd (G5 h1 h2) (D3 0)
 |succ n ih=>
  intro k h h1 h2
  rcases GW n k with l|l
  ·rw[GP h2 l];exact h.2
  ·exact ih h.1 h1 l
theorem pX1:PicOk [88,40,49,41] zD 0 0 false 1:=λns n=>by kernel_rfl
theorem pX2:PicOk [88,40,50,41] zD 0 0 false 2:=λns n=>by kernel_rfl
theorem pX3:PicOk [88,40,51,41] zD 0 0 false 3:=λns n=>by kernel_rfl
theorem pX4:PicOk [88,40,52,41] zD 0 0 false 4:=λns n=>by kernel_rfl
theorem pX5:PicOk [88,40,53,41] zD 0 0 false 5:=λns n=>by kernel_rfl
theorem pX6:PicOk [88,40,54,41] zD 0 0 false 6:=λns n=>by kernel_rfl
theorem pX7:PicOk [88,40,55,41] zD 0 0 false 7:=λns n=>by kernel_rfl
theorem pX8:PicOk [88,40,56,41] zD 0 0 false 8:=λns n=>by kernel_rfl
theorem pX9:PicOk [88,40,57,41] zD 0 0 false 9:=λns n=>by kernel_rfl
theorem pX10:PicOk [88,40,49,48,41] zD 0 0 false 10:=λns n=>by kernel_rfl
theorem pX11:PicOk [88,40,49,49,41] zD 0 0 false 11:=λns n=>by kernel_rfl
theorem pX12:PicOk [88,40,49,50,41] zD 0 0 false 12:=λns n=>by kernel_rfl
theorem pX13:PicOk [88,40,49,51,41] zD 0 0 false 13:=λns n=>by kernel_rfl
theorem pX14:PicOk [88,40,49,52,41] zD 0 0 false 14:=λns n=>by kernel_rfl
theorem pX15:PicOk [88,40,49,53,41] zD 0 0 false 15:=λns n=>by kernel_rfl
theorem pX16:PicOk [88,40,49,54,41] zD 0 0 false 16:=λns n=>by kernel_rfl
theorem pX17:PicOk [88,40,49,55,41] zD 0 0 false 17:=λns n=>by kernel_rfl
theorem pX18:PicOk [88,40,49,56,41] zD 0 0 false 18:=λns n=>by kernel_rfl
theorem pV1:PicOk [57,40,49,41,86,57] zj 2 1 false 2:=λns n=>by kernel_rfl
theorem pV2:PicOk [57,40,50,41,86,57] zj 3 1 false 3:=λns n=>by kernel_rfl
theorem pV3:PicOk [57,40,51,41,86,57] zj 4 1 false 4:=λns n=>by kernel_rfl
theorem pV4:PicOk [57,40,52,41,86,57] zj 5 1 false 5:=λns n=>by kernel_rfl
theorem pV5:PicOk [57,40,53,41,86,57] zj 6 1 false 6:=λns n=>by kernel_rfl
theorem pV6:PicOk [57,40,54,41,86,57] zj 7 1 false 7:=λns n=>by kernel_rfl
theorem pV7:PicOk [57,40,55,41,86,57] zj 8 1 false 8:=λns n=>by kernel_rfl
theorem pV8:PicOk [57,40,56,41,86,57] zj 9 1 false 9:=λns n=>by kernel_rfl
theorem pV9:PicOk [57,40,57,41,86,57] zj 10 1 false 10:=λns n=>by kernel_rfl
theorem pV10:PicOk [57,40,49,48,41,86,57] zj 11 1 false 11:=λns n=>by kernel_rfl
theorem pV11:PicOk [57,40,49,49,41,86,57] zj 12 1 false 12:=λns n=>by kernel_rfl
theorem pV12:PicOk [57,40,49,50,41,86,57] zj 13 1 false 13:=λns n=>by kernel_rfl
theorem pV13:PicOk [57,40,49,51,41,86,57] zj 14 1 false 14:=λns n=>by kernel_rfl
theorem pV14:PicOk [57,40,49,52,41,86,57] zj 15 1 false 15:=λns n=>by kernel_rfl
theorem pV15:PicOk [57,40,49,53,41,86,57] zj 16 1 false 16:=λns n=>by kernel_rfl
theorem pV16:PicOk [57,40,49,54,41,86,57] zj 17 1 false 17:=λns n=>by kernel_rfl
theorem pV17:PicOk [57,40,49,55,41,86,57] zj 18 1 false 18:=λns n=>by kernel_rfl
theorem pN18:PicOk [57,40,49,56,41] zj 18 0 false 18:=λns n=>by kernel_rfl
theorem pS1:PicOk [83,57,40,49,41] zj 1 0 true 1:=λns n=>by kernel_rfl
theorem pS2:PicOk [83,57,40,50,41] zj 2 0 true 2:=λns n=>by kernel_rfl
theorem pS3:PicOk [83,57,40,51,41] zj 3 0 true 3:=λns n=>by kernel_rfl
theorem pS4:PicOk [83,57,40,52,41] zj 4 0 true 4:=λns n=>by kernel_rfl
theorem pS5:PicOk [83,57,40,53,41] zj 5 0 true 5:=λns n=>by kernel_rfl
theorem pS6:PicOk [83,57,40,54,41] zj 6 0 true 6:=λns n=>by kernel_rfl
theorem pS7:PicOk [83,57,40,55,41] zj 7 0 true 7:=λns n=>by kernel_rfl
theorem pS8:PicOk [83,57,40,56,41] zj 8 0 true 8:=λns n=>by kernel_rfl
theorem pS9:PicOk [83,57,40,57,41] zj 9 0 true 9:=λns n=>by kernel_rfl
theorem pS10:PicOk [83,57,40,49,48,41] zj 10 0 true 10:=λns n=>by kernel_rfl
theorem pS11:PicOk [83,57,40,49,49,41] zj 11 0 true 11:=λns n=>by kernel_rfl
theorem pS12:PicOk [83,57,40,49,50,41] zj 12 0 true 12:=λns n=>by kernel_rfl
theorem pS13:PicOk [83,57,40,49,51,41] zj 13 0 true 13:=λns n=>by kernel_rfl
theorem pS14:PicOk [83,57,40,49,52,41] zj 14 0 true 14:=λns n=>by kernel_rfl
theorem pS15:PicOk [83,57,40,49,53,41] zj 15 0 true 15:=λns n=>by kernel_rfl
theorem pS16:PicOk [83,57,40,49,54,41] zj 16 0 true 16:=λns n=>by kernel_rfl
theorem pS17:PicOk [83,57,40,49,55,41] zj 17 0 true 17:=λns n=>by kernel_rfl
theorem pS18:PicOk [83,57,40,49,56,41] zj 18 0 true 18:=λns n=>by kernel_rfl
theorem qX1:txX 1=[88,40,49,41]:=by kernel_rfl
theorem qX2:txX 2=[88,40,50,41]:=by kernel_rfl
theorem qX3:txX 3=[88,40,51,41]:=by kernel_rfl
theorem qX4:txX 4=[88,40,52,41]:=by kernel_rfl
theorem qX5:txX 5=[88,40,53,41]:=by kernel_rfl
theorem qX6:txX 6=[88,40,54,41]:=by kernel_rfl
theorem qX7:txX 7=[88,40,55,41]:=by kernel_rfl
theorem qX8:txX 8=[88,40,56,41]:=by kernel_rfl
theorem qX9:txX 9=[88,40,57,41]:=by kernel_rfl
theorem qX10:txX 10=[88,40,49,48,41]:=by kernel_rfl
theorem qX11:txX 11=[88,40,49,49,41]:=by kernel_rfl
theorem qX12:txX 12=[88,40,49,50,41]:=by kernel_rfl
theorem qX13:txX 13=[88,40,49,51,41]:=by kernel_rfl
theorem qX14:txX 14=[88,40,49,52,41]:=by kernel_rfl
theorem qX15:txX 15=[88,40,49,53,41]:=by kernel_rfl
theorem qX16:txX 16=[88,40,49,54,41]:=by kernel_rfl
theorem qX17:txX 17=[88,40,49,55,41]:=by kernel_rfl
theorem qX18:txX 18=[88,40,49,56,41]:=by kernel_rfl
theorem allX:AllTo (λk=>PicOk (txX k) zD 0 0 false k) 18:=⟨⟨⟨⟨⟨⟨⟨⟨⟨⟨⟨⟨⟨⟨⟨⟨⟨⟨trivial,pX1.to qX1⟩,pX2.to qX2⟩,pX3.to qX3⟩,pX4.to qX4⟩,pX5.to qX5⟩,pX6.to qX6⟩,pX7.to qX7⟩,pX8.to qX8⟩,pX9.to qX9⟩,pX10.to qX10⟩,pX11.to qX11⟩,pX12.to qX12⟩,pX13.to qX13⟩,pX14.to qX14⟩,pX15.to qX15⟩,pX16.to qX16⟩,pX17.to qX17⟩,pX18.to qX18⟩
theorem qV1:txV 1=[57,40,49,41,86,57]:=by kernel_rfl
theorem qV2:txV 2=[57,40,50,41,86,57]:=by kernel_rfl
theorem qV3:txV 3=[57,40,51,41,86,57]:=by kernel_rfl
theorem qV4:txV 4=[57,40,52,41,86,57]:=by kernel_rfl
theorem qV5:txV 5=[57,40,53,41,86,57]:=by kernel_rfl
theorem qV6:txV 6=[57,40,54,41,86,57]:=by kernel_rfl
theorem qV7:txV 7=[57,40,55,41,86,57]:=by kernel_rfl
theorem qV8:txV 8=[57,40,56,41,86,57]:=by kernel_rfl
theorem qV9:txV 9=[57,40,57,41,86,57]:=by kernel_rfl
theorem qV10:txV 10=[57,40,49,48,41,86,57]:=by kernel_rfl
theorem qV11:txV 11=[57,40,49,49,41,86,57]:=by kernel_rfl
theorem qV12:txV 12=[57,40,49,50,41,86,57]:=by kernel_rfl
theorem qV13:txV 13=[57,40,49,51,41,86,57]:=by kernel_rfl
theorem qV14:txV 14=[57,40,49,52,41,86,57]:=by kernel_rfl
theorem qV15:txV 15=[57,40,49,53,41,86,57]:=by kernel_rfl
theorem qV16:txV 16=[57,40,49,54,41,86,57]:=by kernel_rfl
theorem qV17:txV 17=[57,40,49,55,41,86,57]:=by kernel_rfl
theorem allV:AllTo (λk=>PicOk (txV k) zj (k+1) 1 false (k+1)) 17:=⟨⟨⟨⟨⟨⟨⟨⟨⟨⟨⟨⟨⟨⟨⟨⟨⟨trivial,pV1.to qV1⟩,pV2.to qV2⟩,pV3.to qV3⟩,pV4.to qV4⟩,pV5.to qV5⟩,pV6.to qV6⟩,pV7.to qV7⟩,pV8.to qV8⟩,pV9.to qV9⟩,pV10.to qV10⟩,pV11.to qV11⟩,pV12.to qV12⟩,pV13.to qV13⟩,pV14.to qV14⟩,pV15.to qV15⟩,pV16.to qV16⟩,pV17.to qV17⟩
theorem qS1:txS 1=[83,57,40,49,41]:=by kernel_rfl
theorem qS2:txS 2=[83,57,40,50,41]:=by kernel_rfl
theorem qS3:txS 3=[83,57,40,51,41]:=by kernel_rfl
theorem qS4:txS 4=[83,57,40,52,41]:=by kernel_rfl
theorem qS5:txS 5=[83,57,40,53,41]:=by kernel_rfl
theorem qS6:txS 6=[83,57,40,54,41]:=by kernel_rfl
theorem qS7:txS 7=[83,57,40,55,41]:=by kernel_rfl
theorem qS8:txS 8=[83,57,40,56,41]:=by kernel_rfl
theorem qS9:txS 9=[83,57,40,57,41]:=by kernel_rfl
theorem qS10:txS 10=[83,57,40,49,48,41]:=by kernel_rfl
theorem qS11:txS 11=[83,57,40,49,49,41]:=by kernel_rfl
theorem qS12:txS 12=[83,57,40,49,50,41]:=by kernel_rfl
theorem qS13:txS 13=[83,57,40,49,51,41]:=by kernel_rfl
theorem qS14:txS 14=[83,57,40,49,52,41]:=by kernel_rfl
theorem qS15:txS 15=[83,57,40,49,53,41]:=by kernel_rfl
theorem qS16:txS 16=[83,57,40,49,54,41]:=by kernel_rfl
theorem qS17:txS 17=[83,57,40,49,55,41]:=by kernel_rfl
theorem qS18:txS 18=[83,57,40,49,56,41]:=by kernel_rfl
theorem allS:AllTo (λk=>PicOk (txS k) zj k 0 true k) 18:=⟨⟨⟨⟨⟨⟨⟨⟨⟨⟨⟨⟨⟨⟨⟨⟨⟨⟨trivial,pS1.to qS1⟩,pS2.to qS2⟩,pS3.to qS3⟩,pS4.to qS4⟩,pS5.to qS5⟩,pS6.to qS6⟩,pS7.to qS7⟩,pS8.to qS8⟩,pS9.to qS9⟩,pS10.to qS10⟩,pS11.to qS11⟩,pS12.to qS12⟩,pS13.to qS13⟩,pS14.to qS14⟩,pS15.to qS15⟩,pS16.to qS16⟩,pS17.to qS17⟩,pS18.to qS18⟩
end G
end
section
namespace G
open Mn
noncomputable def allB(p:Nat->Bool):Nat->Bool
 |0=>true
 |n+1=>p n && allB p n
theorem allB.get{p:Nat->Bool}:∀{n k:Nat},allB p n=true->k < n->p k=true
 |n+1,k,h,l=>by
  refine zf (Gs.mp h) λh1 h2=>?_
  rcases GW k n with q|q
  ·exact allB.get h2 q
  ·rw[GP (FM l) q];exact h1
theorem cq(o:Co)(a b:V)(q:Bool)(H:Hp)(h:zW o a b H=some q):zW o a b H=some q:=h
theorem bq(q:Bool):q=q:=rfl
theorem strLen:allB (λk=>G8 (zv (.ofNat k)).length 10) 40=true:=by kernel_rfl
theorem ZK{k:Nat}(h:k < 40):(zv (.ofNat k)).length<=10:=Gj (allB.get (p:=λk=>G8 (zv (.ofNat k)).length 10) strLen h)
theorem gle{a b:List Nat}(h:a.length+b.length<=1000):G8 (a.length+b.length) 1000=true:=G6 h
theorem ltN{a b:Nat}(H:Hp)(h:a < b):zW .lt (.int (.ofNat a)) (.int (.ofNat b)) H=some true:=congrArg some (decide_eq_true (Dk.mpr h))
theorem drDr(H:Hp)(so ce j k:Nat):drH (drH H so ce j) so ce k=drH H so ce k:=List.set_set ..
noncomputable def UsOk(u:List Nat):Prop:=u=[]∨u=zG∨u=zn
noncomputable def inh(tu u:List Nat):List Nat:=match tu with|[]=>u|_::_=>tu
noncomputable def ZQ(ns:List Int)(m so ce k:Nat)(u:List Nat)(H:Hp):Prop:=∃t tu sep z k',Call (zc (P ns) 60 (m+2)) 716 [.obj so,.str u] H (.tup [.str t,.str tu,.bool sep,.int (.ofNat z)]) (drH H so ce k')/\k'<=k+2/\LeafOk (inh tu u) t sep z/\z<=19/\UsOk tu
theorem bw2{n:Nat}(h:n < 5):bw n=2:=by
 unfold bw;rw[G6 (FM h)]
theorem Jl{n k:Nat}(h:k < n):G8 n k=false:=by
 rcases e:G8 n k with _|_
 ·rfl
 ·exact absurd (Gj e) (DI h)
theorem bw4{n:Nat}(h:5<=n)(h2:n < 10):bw n=4:=by
 unfold bw;rw[Jl h,G6 (FM h2)]
theorem bw8{n:Nat}(h:5<=n)(h2:10<=n):bw n=8:=by
 unfold bw;rw[Jl h,Jl h2]
section
variable {ns:List Int} {H:Hp} {so ce k:Nat} {cs:List Int}
theorem wl_w0{m r:Nat}(hr:r < 18)
  (c1:Call (zc (P ns) 60 (m+1)) 709 [.obj so,.int (.ofNat 18)] H (.int (.ofNat r)) (drH H so ce (k+1))) (c2:Call (zc (P ns) 60 (m+1)) 709 [.obj so,.int (.ofNat 5)] (drH H so ce (k+1)) (.int (.ofNat 0)) (drH H so ce (k+2))):ZQ ns m so ce k [] H:=by
 have l:=ZK (k:=1+r) (jm hr)
 exact⟨(txX (1+r)),[],false,(1+r),k+2,zu (as:=.c (.int (.ofNat r)) (drH H so ce (k+1)) <|.c (.int (.ofNat 0)) (drH H so ce (k+2)) <|.g <|.g <|.g <|.nil) (ok (I c1 <|I c2 <|I (G6 (show 1+r+1<=1000000000 by exact Jw hr):Gz (Gx (1+r)).natAbs 1000000000=true) <|I (gle (a:=[88,40]) (b:=zv (.ofNat (1+r))) (show 2+(zv (.ofNat (1+r))).length<=1000 by exact om118 l)) <|I (gle (a:=[88,40]++zv (.ofNat (1+r))) (b:=[41]) (by rw[G7];show 2+(zv (.ofNat (1+r))).length+1<=1000;exact om121 l))<|fin (.tup [.str (txX (1+r)),.str [],.bool false,.int (.ofNat (1+r))]) (drH H so ce (k+2))) (by kernel_rfl)),Gi _,.txt _ _ (allX.get (Gp 1 r) (YG hr)),by exact om124 hr,.inl rfl⟩
theorem wl_w1{m r:Nat}(hr:r < 18)(h:1+r < 18)
  (c1:Call (zc (P ns) 60 (m+1)) 709 [.obj so,.int (.ofNat 18)] H (.int (.ofNat r)) (drH H so ce (k+1))) (c2:Call (zc (P ns) 60 (m+1)) 709 [.obj so,.int (.ofNat 5)] (drH H so ce (k+1)) (.int (.ofNat 1)) (drH H so ce (k+2))):ZQ ns m so ce k [] H:=by
 have l:=ZK (k:=1+r) (om115 h)
 exact⟨(txV (1+r)),[],false,(1+r+1),k+2,zu (as:=.c (.int (.ofNat r)) (drH H so ce (k+1)) <|.c (.int (.ofNat 1)) (drH H so ce (k+2)) <|.b false <|.b false <|.b true <|.b true <|.b true <|.b true <|.g <|.g <|.g <|.nil) (ok (I c1 <|I c2 <|I (cq .eq (.int (.ofNat 1)) (.int 0) false (drH H so ce (k+2)) rfl) <|I (bq false) <|I (cq .eq (.int (.ofNat 1)) (.int 1) true (drH H so ce (k+2)) rfl) <|I (bq true) <|I (ltN (drH H so ce (k+2)) h) <|I (bq true) <|I (G6 (show 1+r+1<=1000000000 by exact om120 h):Gz (Gx (1+r)).natAbs 1000000000=true) <|I (gle (a:=[57,40]) (b:=zv (.ofNat (1+r))) (show 2+(zv (.ofNat (1+r))).length<=1000 by exact om118 l)) <|I (gle (a:=[57,40]++zv (.ofNat (1+r))) (b:=[41,86,57]) (by rw[G7];show 2+(zv (.ofNat (1+r))).length+3<=1000;exact om123 l))<|fin (.tup [.str (txV (1+r)),.str [],.bool false,.int (.ofNat (1+r+1))]) (drH H so ce (k+2))) (by kernel_rfl)),Gi _,.num _ _ _ _ (allV.get (Gp 1 r) (om126 h)),by exact om128 h,.inl rfl⟩
theorem wl_w1e{m r:Nat}(hr:r < 18)(h:18<=1+r)
  (c1:Call (zc (P ns) 60 (m+1)) 709 [.obj so,.int (.ofNat 18)] H (.int (.ofNat r)) (drH H so ce (k+1))) (c2:Call (zc (P ns) 60 (m+1)) 709 [.obj so,.int (.ofNat 5)] (drH H so ce (k+1)) (.int (.ofNat 1)) (drH H so ce (k+2))):ZQ ns m so ce k [] H:=by
 have l:=ZK (k:=1+r) (jm hr)
 exact⟨[57,40,49,56,41],[],false,18,k+2,zu (as:=.c (.int (.ofNat r)) (drH H so ce (k+1)) <|.c (.int (.ofNat 1)) (drH H so ce (k+2)) <|.b false <|.b false <|.b true <|.b true <|.b false <|.b false <|.nil) (ok (I c1 <|I c2 <|I (cq .eq (.int (.ofNat 1)) (.int 0) false (drH H so ce (k+2)) rfl) <|I (bq false) <|I (cq .eq (.int (.ofNat 1)) (.int 1) true (drH H so ce (k+2)) rfl) <|I (bq true) <|I (XB (drH H so ce (k+2)) h) <|I (bq false)<|fin (.tup [.str [57,40,49,56,41],.str [],.bool false,.int (.ofNat 18)]) (drH H so ce (k+2))) (by kernel_rfl)),Gi _,.num _ _ _ _ pN18,by decide,.inl rfl⟩
theorem wl_w2{m r:Nat}(hr:r < 18)
  (c1:Call (zc (P ns) 60 (m+1)) 709 [.obj so,.int (.ofNat 18)] H (.int (.ofNat r)) (drH H so ce (k+1))) (c2:Call (zc (P ns) 60 (m+1)) 709 [.obj so,.int (.ofNat 5)] (drH H so ce (k+1)) (.int (.ofNat 2)) (drH H so ce (k+2))):ZQ ns m so ce k [] H:=by
 have l:=ZK (k:=1+r) (jm hr)
 exact⟨(txS (1+r)),[],true,(1+r+1),k+2,zu (as:=.c (.int (.ofNat r)) (drH H so ce (k+1)) <|.c (.int (.ofNat 2)) (drH H so ce (k+2)) <|.g <|.g <|.g <|.nil) (ok (I c1 <|I c2 <|I (G6 (show 1+r+1<=1000000000 by exact Jw hr):Gz (Gx (1+r)).natAbs 1000000000=true) <|I (gle (a:=[83,57,40]) (b:=zv (.ofNat (1+r))) (show 3+(zv (.ofNat (1+r))).length<=1000 by exact X6 l)) <|I (gle (a:=[83,57,40]++zv (.ofNat (1+r))) (b:=[41]) (by rw[G7];show 3+(zv (.ofNat (1+r))).length+1<=1000;exact X5 l))<|fin (.tup [.str (txS (1+r)),.str [],.bool true,.int (.ofNat (1+r+1))]) (drH H so ce (k+2))) (by kernel_rfl)),Gi _,.sgn _ _ _ _ (allS.get (Gp 1 r) (YG hr)),by exact om129 hr,.inl rfl⟩
theorem wl_w3{m r:Nat}(hr:r < 18)
  (c1:Call (zc (P ns) 60 (m+1)) 709 [.obj so,.int (.ofNat 18)] H (.int (.ofNat r)) (drH H so ce (k+1))) (c2:Call (zc (P ns) 60 (m+1)) 709 [.obj so,.int (.ofNat 5)] (drH H so ce (k+1)) (.int (.ofNat 3)) (drH H so ce (k+2))):ZQ ns m so ce k [] H:=by
 have l:=ZK (k:=1+r) (jm hr)
 exact⟨(txS (1+r)),zG,false,((1+r) / 2+1),k+2,zu (as:=.c (.int (.ofNat r)) (drH H so ce (k+1)) <|.c (.int (.ofNat 3)) (drH H so ce (k+2)) <|.g <|.g <|.g <|.g <|.nil) (ok (I c1 <|I c2 <|I (decide_eq_true (by decide):decide ((0:Int) < 2/\(2:Int) < 1000000000)=true) <|I (G6 (show 1+r+1<=1000000000 by exact Jw hr):Gz (Gx (1+r)).natAbs 1000000000=true) <|I (gle (a:=[83,57,40]) (b:=zv (.ofNat (1+r))) (show 3+(zv (.ofNat (1+r))).length<=1000 by exact X6 l)) <|I (gle (a:=[83,57,40]++zv (.ofNat (1+r))) (b:=[41]) (by rw[G7];show 3+(zv (.ofNat (1+r))).length+1<=1000;exact X5 l))<|I (congrArg (λx=>V.tup [.str (txS (1+r)),.str zG,.bool false,x]) (fdivN (1+r))) (rfl:(drH H so ce (k+2))=(drH H so ce (k+2)))) (by kernel_rfl)),Gi _,.pkd _ _ _ _ (allS.get (Gp 1 r) (YG hr)) (Gp 1 r) (YG hr),by exact om131 hr,.inr (.inl rfl)⟩
theorem wl_p{m r:Nat}(hr:r < 18)
  (c1:Call (zc (P ns) 60 (m+1)) 709 [.obj so,.int (.ofNat 18)] H (.int (.ofNat r)) (drH H so ce (k+1))):ZQ ns m so ce k zG H:=by
 have l:=ZK (k:=1+r) (jm hr)
 exact⟨(txS (1+r)),[],false,((1+r) / 2+1),k+1,zu (as:=.c (.int (.ofNat r)) (drH H so ce (k+1)) <|.g <|.g <|.g <|.g <|.nil) (ok (I c1 <|I (decide_eq_true (by decide):decide ((0:Int) < 2/\(2:Int) < 1000000000)=true) <|I (G6 (show 1+r+1<=1000000000 by exact Jw hr):Gz (Gx (1+r)).natAbs 1000000000=true) <|I (gle (a:=[83,57,40]) (b:=zv (.ofNat (1+r))) (show 3+(zv (.ofNat (1+r))).length<=1000 by exact X6 l)) <|I (gle (a:=[83,57,40]++zv (.ofNat (1+r))) (b:=[41]) (by rw[G7];show 3+(zv (.ofNat (1+r))).length+1<=1000;exact X5 l))<|I (congrArg (λx=>V.tup [.str (txS (1+r)),.str [],.bool false,x]) (fdivN (1+r))) (rfl:(drH H so ce (k+1))=(drH H so ce (k+1)))) (by kernel_rfl)),D4 _,.pkd _ _ _ _ (allS.get (Gp 1 r) (YG hr)) (Gp 1 r) (YG hr),by exact om131 hr,.inl rfl⟩
theorem wl_w4a{m r:Nat}(hr:r < 18)(h:1+r < 5)
  (c1:Call (zc (P ns) 60 (m+1)) 709 [.obj so,.int (.ofNat 18)] H (.int (.ofNat r)) (drH H so ce (k+1))) (c2:Call (zc (P ns) 60 (m+1)) 709 [.obj so,.int (.ofNat 5)] (drH H so ce (k+1)) (.int (.ofNat 4)) (drH H so ce (k+2))):ZQ ns m so ce k [] H:=by
 have l:=ZK (k:=1+r) (om117 h)
 exact⟨(txS (1+r)),zn,false,2,k+2,zu (as:=.c (.int (.ofNat r)) (drH H so ce (k+1)) <|.c (.int (.ofNat 4)) (drH H so ce (k+2)) <|.b false <|.b false <|.b false <|.b false <|.b false <|.b false <|.b false <|.b false <|.b false <|.b false <|.b true <|.b true <|.g <|.g <|.g <|.nil) (ok (I c1 <|I c2 <|I (cq .eq (.int (.ofNat 4)) (.int 0) false (drH H so ce (k+2)) rfl) <|I (bq false) <|I (cq .eq (.int (.ofNat 4)) (.int 1) false (drH H so ce (k+2)) rfl) <|I (bq false) <|I (cq .eq (.int (.ofNat 4)) (.int 2) false (drH H so ce (k+2)) rfl) <|I (bq false) <|I (cq .ne (.str []) (.str []) false (drH H so ce (k+2)) rfl) <|I (bq false) <|I (cq .eq (.str zn) (.str zG) false (drH H so ce (k+2)) rfl) <|I (bq false) <|I (ltN (drH H so ce (k+2)) h) <|I (bq true) <|I (G6 (show 1+r+1<=1000000000 by exact om130 h):Gz (Gx (1+r)).natAbs 1000000000=true) <|I (gle (a:=[83,57,40]) (b:=zv (.ofNat (1+r))) (show 3+(zv (.ofNat (1+r))).length<=1000 by exact X6 l)) <|I (gle (a:=[83,57,40]++zv (.ofNat (1+r))) (b:=[41]) (by rw[G7];show 3+(zv (.ofNat (1+r))).length+1<=1000;exact X5 l))<|fin (.tup [.str (txS (1+r)),.str zn,.bool false,.int (.ofNat 2)]) (drH H so ce (k+2))) (by kernel_rfl)),Gi _,(bw2 h▸.bin _ _ _ _ (allS.get (Gp 1 r) (om135 h)) (Gp 1 r) (om135 h)),by decide,.inr (.inr rfl)⟩
theorem wl_w4b{m r:Nat}(hr:r < 18)(h:5<=1+r)(h2:1+r < 10)
  (c1:Call (zc (P ns) 60 (m+1)) 709 [.obj so,.int (.ofNat 18)] H (.int (.ofNat r)) (drH H so ce (k+1))) (c2:Call (zc (P ns) 60 (m+1)) 709 [.obj so,.int (.ofNat 5)] (drH H so ce (k+1)) (.int (.ofNat 4)) (drH H so ce (k+2))):ZQ ns m so ce k [] H:=by
 have l:=ZK (k:=1+r) (om119 h2)
 exact⟨(txS (1+r)),zn,false,4,k+2,zu (as:=.c (.int (.ofNat r)) (drH H so ce (k+1)) <|.c (.int (.ofNat 4)) (drH H so ce (k+2)) <|.b false <|.b false <|.b false <|.b false <|.b false <|.b false <|.b false <|.b false <|.b false <|.b false <|.b false <|.b false <|.b true <|.b true <|.g <|.g <|.g <|.nil) (ok (I c1 <|I c2 <|I (cq .eq (.int (.ofNat 4)) (.int 0) false (drH H so ce (k+2)) rfl) <|I (bq false) <|I (cq .eq (.int (.ofNat 4)) (.int 1) false (drH H so ce (k+2)) rfl) <|I (bq false) <|I (cq .eq (.int (.ofNat 4)) (.int 2) false (drH H so ce (k+2)) rfl) <|I (bq false) <|I (cq .ne (.str []) (.str []) false (drH H so ce (k+2)) rfl) <|I (bq false) <|I (cq .eq (.str zn) (.str zG) false (drH H so ce (k+2)) rfl) <|I (bq false) <|I (XB (drH H so ce (k+2)) h) <|I (bq false) <|I (ltN (drH H so ce (k+2)) h2) <|I (bq true) <|I (G6 (show 1+r+1<=1000000000 by exact om136 h2):Gz (Gx (1+r)).natAbs 1000000000=true) <|I (gle (a:=[83,57,40]) (b:=zv (.ofNat (1+r))) (show 3+(zv (.ofNat (1+r))).length<=1000 by exact X6 l)) <|I (gle (a:=[83,57,40]++zv (.ofNat (1+r))) (b:=[41]) (by rw[G7];show 3+(zv (.ofNat (1+r))).length+1<=1000;exact X5 l))<|fin (.tup [.str (txS (1+r)),.str zn,.bool false,.int (.ofNat 4)]) (drH H so ce (k+2))) (by kernel_rfl)),Gi _,(bw4 h h2▸.bin _ _ _ _ (allS.get (Gp 1 r) (om140 h2)) (Gp 1 r) (om140 h2)),by decide,.inr (.inr rfl)⟩
theorem wl_w4c{m r:Nat}(hr:r < 18)(h:5<=1+r)(h2:10<=1+r)
  (c1:Call (zc (P ns) 60 (m+1)) 709 [.obj so,.int (.ofNat 18)] H (.int (.ofNat r)) (drH H so ce (k+1))) (c2:Call (zc (P ns) 60 (m+1)) 709 [.obj so,.int (.ofNat 5)] (drH H so ce (k+1)) (.int (.ofNat 4)) (drH H so ce (k+2))):ZQ ns m so ce k [] H:=by
 have l:=ZK (k:=1+r) (jm hr)
 exact⟨(txS (1+r)),zn,false,8,k+2,zu (as:=.c (.int (.ofNat r)) (drH H so ce (k+1)) <|.c (.int (.ofNat 4)) (drH H so ce (k+2)) <|.b false <|.b false <|.b false <|.b false <|.b false <|.b false <|.b false <|.b false <|.b false <|.b false <|.b false <|.b false <|.b false <|.b false <|.g <|.g <|.g <|.nil) (ok (I c1 <|I c2 <|I (cq .eq (.int (.ofNat 4)) (.int 0) false (drH H so ce (k+2)) rfl) <|I (bq false) <|I (cq .eq (.int (.ofNat 4)) (.int 1) false (drH H so ce (k+2)) rfl) <|I (bq false) <|I (cq .eq (.int (.ofNat 4)) (.int 2) false (drH H so ce (k+2)) rfl) <|I (bq false) <|I (cq .ne (.str []) (.str []) false (drH H so ce (k+2)) rfl) <|I (bq false) <|I (cq .eq (.str zn) (.str zG) false (drH H so ce (k+2)) rfl) <|I (bq false) <|I (XB (drH H so ce (k+2)) h) <|I (bq false) <|I (XB (drH H so ce (k+2)) h2) <|I (bq false) <|I (G6 (show 1+r+1<=1000000000 by exact Jw hr):Gz (Gx (1+r)).natAbs 1000000000=true) <|I (gle (a:=[83,57,40]) (b:=zv (.ofNat (1+r))) (show 3+(zv (.ofNat (1+r))).length<=1000 by exact X6 l)) <|I (gle (a:=[83,57,40]++zv (.ofNat (1+r))) (b:=[41]) (by rw[G7];show 3+(zv (.ofNat (1+r))).length+1<=1000;exact X5 l))<|fin (.tup [.str (txS (1+r)),.str zn,.bool false,.int (.ofNat 8)]) (drH H so ce (k+2))) (by kernel_rfl)),Gi _,(bw8 h h2▸.bin _ _ _ _ (allS.get (Gp 1 r) (YG hr)) (Gp 1 r) (YG hr)),by decide,.inr (.inr rfl)⟩
theorem wl_ba{m r:Nat}(hr:r < 18)(h:1+r < 5)
  (c1:Call (zc (P ns) 60 (m+1)) 709 [.obj so,.int (.ofNat 18)] H (.int (.ofNat r)) (drH H so ce (k+1))):ZQ ns m so ce k zn H:=by
 have l:=ZK (k:=1+r) (om117 h)
 exact⟨(txS (1+r)),[],false,2,k+1,zu (as:=.c (.int (.ofNat r)) (drH H so ce (k+1)) <|.b false <|.b false <|.b false <|.b false <|.b false <|.b false <|.b false <|.b false <|.b true <|.b true <|.b false <|.b false <|.b true <|.b true <|.g <|.g <|.g <|.nil) (ok (I c1 <|I (cq .eq (.str zn) (.str []) false (drH H so ce (k+1)) rfl) <|I (bq false) <|I (cq .eq (.int (.ofNat 5)) (.int 0) false (drH H so ce (k+1)) rfl) <|I (bq false) <|I (cq .eq (.int (.ofNat 5)) (.int 1) false (drH H so ce (k+1)) rfl) <|I (bq false) <|I (cq .eq (.int (.ofNat 5)) (.int 2) false (drH H so ce (k+1)) rfl) <|I (bq false) <|I (cq .ne (.str zn) (.str []) true (drH H so ce (k+1)) rfl) <|I (bq true) <|I (cq .eq (.str zn) (.str zG) false (drH H so ce (k+1)) rfl) <|I (bq false) <|I (ltN (drH H so ce (k+1)) h) <|I (bq true) <|I (G6 (show 1+r+1<=1000000000 by exact om130 h):Gz (Gx (1+r)).natAbs 1000000000=true) <|I (gle (a:=[83,57,40]) (b:=zv (.ofNat (1+r))) (show 3+(zv (.ofNat (1+r))).length<=1000 by exact X6 l)) <|I (gle (a:=[83,57,40]++zv (.ofNat (1+r))) (b:=[41]) (by rw[G7];show 3+(zv (.ofNat (1+r))).length+1<=1000;exact X5 l))<|fin (.tup [.str (txS (1+r)),.str [],.bool false,.int (.ofNat 2)]) (drH H so ce (k+1))) (by kernel_rfl)),D4 _,(bw2 h▸.bin _ _ _ _ (allS.get (Gp 1 r) (om135 h)) (Gp 1 r) (om135 h)),by decide,.inl rfl⟩
theorem wl_bb{m r:Nat}(hr:r < 18)(h:5<=1+r)(h2:1+r < 10)
  (c1:Call (zc (P ns) 60 (m+1)) 709 [.obj so,.int (.ofNat 18)] H (.int (.ofNat r)) (drH H so ce (k+1))):ZQ ns m so ce k zn H:=by
 have l:=ZK (k:=1+r) (om119 h2)
 exact⟨(txS (1+r)),[],false,4,k+1,zu (as:=.c (.int (.ofNat r)) (drH H so ce (k+1)) <|.b false <|.b false <|.b false <|.b false <|.b false <|.b false <|.b false <|.b false <|.b true <|.b true <|.b false <|.b false <|.b false <|.b false <|.b true <|.b true <|.g <|.g <|.g <|.nil) (ok (I c1 <|I (cq .eq (.str zn) (.str []) false (drH H so ce (k+1)) rfl) <|I (bq false) <|I (cq .eq (.int (.ofNat 5)) (.int 0) false (drH H so ce (k+1)) rfl) <|I (bq false) <|I (cq .eq (.int (.ofNat 5)) (.int 1) false (drH H so ce (k+1)) rfl) <|I (bq false) <|I (cq .eq (.int (.ofNat 5)) (.int 2) false (drH H so ce (k+1)) rfl) <|I (bq false) <|I (cq .ne (.str zn) (.str []) true (drH H so ce (k+1)) rfl) <|I (bq true) <|I (cq .eq (.str zn) (.str zG) false (drH H so ce (k+1)) rfl) <|I (bq false) <|I (XB (drH H so ce (k+1)) h) <|I (bq false) <|I (ltN (drH H so ce (k+1)) h2) <|I (bq true) <|I (G6 (show 1+r+1<=1000000000 by exact om136 h2):Gz (Gx (1+r)).natAbs 1000000000=true) <|I (gle (a:=[83,57,40]) (b:=zv (.ofNat (1+r))) (show 3+(zv (.ofNat (1+r))).length<=1000 by exact X6 l)) <|I (gle (a:=[83,57,40]++zv (.ofNat (1+r))) (b:=[41]) (by rw[G7];show 3+(zv (.ofNat (1+r))).length+1<=1000;exact X5 l))<|fin (.tup [.str (txS (1+r)),.str [],.bool false,.int (.ofNat 4)]) (drH H so ce (k+1))) (by kernel_rfl)),D4 _,(bw4 h h2▸.bin _ _ _ _ (allS.get (Gp 1 r) (om140 h2)) (Gp 1 r) (om140 h2)),by decide,.inl rfl⟩
theorem wl_bc{m r:Nat}(hr:r < 18)(h:5<=1+r)(h2:10<=1+r)
  (c1:Call (zc (P ns) 60 (m+1)) 709 [.obj so,.int (.ofNat 18)] H (.int (.ofNat r)) (drH H so ce (k+1))):ZQ ns m so ce k zn H:=by
 have l:=ZK (k:=1+r) (jm hr)
 exact⟨(txS (1+r)),[],false,8,k+1,zu (as:=.c (.int (.ofNat r)) (drH H so ce (k+1)) <|.b false <|.b false <|.b false <|.b false <|.b false <|.b false <|.b false <|.b false <|.b true <|.b true <|.b false <|.b false <|.b false <|.b false <|.b false <|.b false <|.g <|.g <|.g <|.nil) (ok (I c1 <|I (cq .eq (.str zn) (.str []) false (drH H so ce (k+1)) rfl) <|I (bq false) <|I (cq .eq (.int (.ofNat 5)) (.int 0) false (drH H so ce (k+1)) rfl) <|I (bq false) <|I (cq .eq (.int (.ofNat 5)) (.int 1) false (drH H so ce (k+1)) rfl) <|I (bq false) <|I (cq .eq (.int (.ofNat 5)) (.int 2) false (drH H so ce (k+1)) rfl) <|I (bq false) <|I (cq .ne (.str zn) (.str []) true (drH H so ce (k+1)) rfl) <|I (bq true) <|I (cq .eq (.str zn) (.str zG) false (drH H so ce (k+1)) rfl) <|I (bq false) <|I (XB (drH H so ce (k+1)) h) <|I (bq false) <|I (XB (drH H so ce (k+1)) h2) <|I (bq false) <|I (G6 (show 1+r+1<=1000000000 by exact Jw hr):Gz (Gx (1+r)).natAbs 1000000000=true) <|I (gle (a:=[83,57,40]) (b:=zv (.ofNat (1+r))) (show 3+(zv (.ofNat (1+r))).length<=1000 by exact X6 l)) <|I (gle (a:=[83,57,40]++zv (.ofNat (1+r))) (b:=[41]) (by rw[G7];show 3+(zv (.ofNat (1+r))).length+1<=1000;exact X5 l))<|fin (.tup [.str (txS (1+r)),.str [],.bool false,.int (.ofNat 8)]) (drH H so ce (k+1))) (by kernel_rfl)),D4 _,(bw8 h h2▸.bin _ _ _ _ (allS.get (Gp 1 r) (YG hr)) (Gp 1 r) (YG hr)),by decide,.inl rfl⟩
theorem JU{m:Nat}{u:List Nat}(s:Src H so ce cs k)(hk:k < 900000)(hu:UsOk u):ZQ ns m so ce k u H:=by
 refine yE (ns:=ns) (m:=m) s (l:=18) (by decide) (om132 hk) ?_;intro r hr c1
 rcases hu with rfl|rfl|rfl
 ·refine yE (ns:=ns) (m:=m) (s.to (k+1)) (l:=5) (by decide) (om133 hk) ?_;intro q hq c2
  rw[drDr] at c2
  rcases q with _|_|_|_|_|q
  ·exact wl_w0 hr c1 c2
  ·rcases GW (1+r) 18 with h|h
   ·exact wl_w1 hr h c1 c2
   ·exact wl_w1e hr h c1 c2
  ·exact wl_w2 hr c1 c2
  ·exact wl_w3 hr c1 c2
  ·rcases GW (1+r) 5 with h|h
   ·exact wl_w4a hr h c1 c2
   ·rcases GW (1+r) 10 with h2|h2
    ·exact wl_w4b hr h h2 c1 c2
    ·exact wl_w4c hr h h2 c1 c2
  ·exact absurd hq (GX (GJ 5 _))
 ·exact wl_p hr c1
 ·rcases GW (1+r) 5 with h|h
  ·exact wl_ba hr h c1
  ·rcases GW (1+r) 10 with h2|h2
   ·exact wl_bb hr h h2 c1
   ·exact wl_bc hr h h2 c1
end
end G
end
section
namespace G
open Mn
noncomputable def kName:List Nat:=[110,97,109,101]
noncomputable def kLeaf:List Nat:=[108,101,97,102]
noncomputable def kUsage:List Nat:=[117,115,97,103,101]
noncomputable def kKids:List Nat:=[107,105,100,115]
noncomputable def kOften:List Nat:=[111,102,116,101,110]
noncomputable def kUpon:List Nat:=[117,112,111,110]
noncomputable def kSize:List Nat:=[115,105,122,101]
noncomputable def leafV(d:D):V:=match d.leaf with|some (t,sep)=>.tup [.str t,.str d.usage,.bool sep,.int (.ofNat d.size)]|none=>.none
noncomputable def dicF(d:D)(kl:Nat):List (List Nat×V):=[(kName,.str d.name),(kLeaf,leafV d),(kUsage,.str d.usage),(kKids,.obj kl),(kOften,.int (.ofNat d.often)),(kUpon,.str d.upon),(kSize,.int (.ofNat d.size))]
noncomputable def DF(B:Nat)(H:Hp):F->List V->Prop
 |.nil,vs=>vs=[]
 |.node d k r,vs=>∃n kl kv r',vs= .obj n::r'/\B<=n/\B<=kl/\H[n]?=some (.dict (dicF d kl))/\H[kl]?=some (.list kv)/\DF B H k kv/\DF B H r r'
theorem DF.mono{B B':Nat}{H H':Hp}(b:B'<=B)(m:∀(i:Nat) (o:O),B<=i->H[i]?=some o->H'[i]?=some o):∀(f:F) (vs:List V),DF B H f vs->DF B' H' f vs:=by
 intro f
 induction f with
 |nil=>
  intro y1 h
  exact h
 |node d k r ihk ihr=>
  intro y1 h
  refine xe4c7 (h) ?_;clear h;intro n kl kv r' e b1 b2 h1 h2 h3 h4
  exact⟨n,kl,kv,r',e,G5 b b1,G5 b b2,m _ _ b1 h1,m _ _ b2 h2,ihk _ h3,ihr _ h4⟩
noncomputable def pnm:F->List V
 |.nil=>[]
 |.node d k r=>.str d.name::(pnm k++pnm r)
theorem Zj:∀f:F,(pnm f).length=nc f:=by
 intro f
 induction f with
 |nil=>
  exact rfl
 |node d k r ihk ihr=>
  show(pnm k++pnm r).length+1=1+nc k+nc r
  rw[G7,ihk,ihr];exact om134
noncomputable def nmS(c:Nat):List Nat:=[78]++zv (.ofNat c)
noncomputable def Nms:Nat->F->Prop
 |_,.nil=>True
 |c,.node d k r=>d.name=nmS c/\Nms (c+1) k/\Nms (c+1+nc k) r
noncomputable def isSome(o:Option Nat)(i:Nat):Bool:=match o with|some j=>Gg i j|none=>false
theorem XK{o:Option Nat}{i:Nat}(h:isSome o i=true):o=some i:=by
 rcases o with _|j
 ·exact absurd h G3
 ·rw[Go (show Gg i j=true from h)]
theorem strDig:allB (λk=>isSome (digits (zv (.ofNat k))) k) 40=true:=by kernel_rfl
theorem nm_ne{i j:Nat}(hi:i < 40)(hj:j < 40)(n:i≠j):eqS (nmS i) (nmS j)=false:=by
 rcases e:eqS (nmS i) (nmS j) with _|_
 ·rfl
 ·have e2:zv (.ofNat i)=zv (.ofNat j):=(List.cons.inj (eqS_iff.mp e)).2
  have h1:=XK (allB.get (p:=λk=>isSome (digits (zv (.ofNat k))) k) strDig hi)
  have h2:=XK (allB.get (p:=λk=>isSome (digits (zv (.ofNat k))) k) strDig hj)
  rw[e2,h2] at h1
  exact absurd (Ga h1).symm n
theorem bl_ht:∀f:F,bl f<=11+2*ht f:=by
 intro f
 induction f with
 |nil=>
  exact Gi _
 |node d k r ihk ihr=>
  have h1:=ihk
  have h2:=ihr
  show max (bl k+2) (bl r)<=11+2*max (ht k+1) (ht r)
  exact om141 h1 h2
theorem bo_ht:∀f:F,bo f<=3+ht f:=by
 intro f
 induction f with
 |nil=>
  exact Gi _
 |node d k r ihk ihr=>
  have h1:=ihk
  have h2:=ihr
  show max (bo k+1) (bo r)<=3+max (ht k+1) (ht r)
  exact om138 h1 h2
noncomputable def szb(dp:Nat):Nat:=match dp with|0=>1026|1=>114|_=>19
noncomputable def ncb(dp:Nat):Nat:=match dp with|0=>9|1=>2|_=>0
noncomputable def kb(dp:Nat):Nat:=match dp with|0=>60|1=>16|_=>4
structure Tok (dp:Nat) (u:List Nat) (c:Nat) (d:D) (kids:F):Prop where
 nd:Nd u d kids
 wf:Wf (effD u d) none kids
 nm:d.name=nmS c
 nk:Nms (c+1) kids
 up:d.upon=[]
 one:dp=0->d.often=1
 sz:d.size<=szb dp
 ht:ht kids+dp<=2
 nc:nc kids<=ncb dp
 us:UsOk d.usage
structure Lw (so nm:Nat) (H H':Hp):Prop where
 old:∀(i:Nat) (o:O),H[i]?=some o->i≠so->i≠nm->H'[i]?=some o
 len:H.length<=H'.length
theorem Lw.refl{so nm:Nat}{H:Hp}:Lw so nm H H:=⟨λ_ _ h _ _=>h,Gi _⟩
theorem Lw.trans{so nm:Nat}{H₁ uh uk:Hp}(a:Lw so nm H₁ uh)(b:Lw so nm uh uk):Lw so nm H₁ uk:=⟨λi o h n m=>b.old i o (a.old i o h n m) n m,G5 a.len b.len⟩
theorem Lw.dr{so nm ce k:Nat}{H:Hp}:Lw so nm H (drH H so ce k):=⟨λi o h n _=>zd h n.symm,by rw[drH,GQ];exact Gi _⟩
theorem Lw.nm{so nm:Nat}{H:Hp}{x:O}:Lw so nm H (H.set nm x):=⟨λi o h _ n=>zd h n.symm,by rw[GQ];exact Gi _⟩
theorem Lw.app{so nm:Nat}{H:Hp}(N:Hp):Lw so nm H (H++N):=⟨λi o h _ _=>zk h,by rw[G7];exact Gp _ _⟩
noncomputable def jI(ns:List Int)(so nm ce:Nat)(cs:List Int)(m dp:Nat)(u:List Nat):Prop:=∀(B:Nat) (H:Hp) (k:Nat) (nv:List V),Src H so ce cs k->k+kb dp<=800000->H[nm]?=some (.list nv)->so≠nm->ce≠nm->so < B->nm < B->B<=H.length->nv.length+1+ncb dp<=40->
 ∀{Gl:Prop},(∀H' d kids kl kv k',(Call (zc (P ns) 60 m) 723 [.obj so,.int (.ofNat dp),.str u,.obj nm] H (.obj H'.length) (H'++[.dict (dicF d kl)]))->(Lw so nm H H')->(Src H' so ce cs k')->(k'<=k+kb dp)->(H'[nm]?=some (.list (nv++.str d.name::pnm kids)))->(B<=kl)->(H'[kl]?=some (.list kv))->(DF B H' kids kv)->(Tok dp u nv.length d kids)->Gl)->Gl
section
variable {ns:List Int} {H:Hp} {so nm ce k:Nat} {cs:List Int}
theorem Src.nms(s:Src H so ce cs k)(n:so≠nm)(c:ce≠nm)(x:O):Src (H.set nm x) so ce cs k:=⟨zd s.s n.symm,zd s.c c.symm,s.p,s.l⟩
theorem Src.ex{H':Hp}(s:Src H so ce cs k)(e:Ex H H'):Src H' so ce cs k:=⟨e _ _ s.s,e _ _ s.c,s.p,s.l⟩
theorem gtZ(dp:Nat)(H:Hp):zW .gt (.int (.ofNat (dp+1))) (.int (.ofNat 0)) H=some true:=congrArg some (decide_eq_true (Dk.mpr (Nat.succ_pos dp)))
theorem JT{m dp:Nat}{u:List Nat}{nv:List V}(s:Src H so ce cs k)(hk:k < 900000)(hn:H[nm]?=some (.list nv))(n1:so≠nm)(n2:ce≠nm)(b:nv.length < 40){Gl:Prop}(kk:∀often k' H1,(1<=often)->(often<=3)->((dp=0->often=1))->(k'<=k+1)->(Src H1 so ce cs k')->(Lw so nm H H1)->(H1[nm]?=some (.list (nv++[.str (nmS nv.length)])))->(∀{v:V} {Hx:Hp} {r:As} {Q:KA},
   exS (P ns) (zc (P ns) 60 (m+1)) 60 (tl (tl (tl f723.body))) [.obj so,.int (.ofNat dp),.str u,.obj nm,.str (nmS nv.length),.int (.ofNat often),.bad,.bad,.bad,.bad,.bad,.bad,.bad] H1 (.c v Hx r) Q->
   ∃as,exS (P ns) (zc (P ns) 60 (m+1)) 60 f723.body [.obj so,.int (.ofNat dp),.str u,.obj nm,.bad,.bad,.bad,.bad,.bad,.bad,.bad,.bad,.bad] H as Q)->Gl):Gl:=by
 have l10:=ZK b
 have g1:Gz ((nv.length:Int)).natAbs 1000000000=true:=G6 (show nv.length+1<=1000000000 by exact om146 b)
 have g2:=gle (a:=[78]) (b:=zv (.ofNat nv.length)) (show 1+(zv (.ofNat nv.length)).length<=1000 by exact om147 l10)
 have g3:Gz nv.length 1000=true:=G6 (om148 b)
 obtain⟨H1,e1⟩:∃X,X=H.set nm (.list (nv++[.str (nmS nv.length)])):=⟨_,rfl⟩
 have s1:=s.nms n1 n2 (.list (nv++[.str (nmS nv.length)]))
 have h1:=zB (x:=.list (nv++[.str (nmS nv.length)])) hn
 have w1:Lw so nm H (H.set nm (.list (nv++[.str (nmS nv.length)]))):=Lw.nm
 rw[←e1] at s1 h1 w1
 rcases dp with _|dp
 ·exact kk 1 k H1 (Gi _) (by decide) (λ_=>rfl) (D4 _) s1 w1 h1 (λ{v Hx r Q} h=>⟨.o (.list nv) <|.g <|.g <|.g <|.o (.list nv) <|.g <|.h H1 <|.c v Hx r,ok (I hn <|I g1 <|I g2 <|I (zN (b:=.append) hn) <|I hn <|I g3 <|I e1.symm h) (by kernel_rfl)⟩)
 ·refine yE (ns:=ns) (m:=m) s1 (l:=3) (by decide) (om132 hk) ?_;intro r0 hr c
  refine kk (1+r0) (k+1) (drH H1 so ce (k+1)) (Gp _ _) (om162 hr) nofun (Gi _) (s1.to (k+1)) (w1.trans Lw.dr) (zd h1 n1) (λ{v Hx r Q} h=>⟨.o (.list nv) <|.g <|.g <|.g <|.o (.list nv) <|.g <|.h H1 <|.b true <|.c (.int (.ofNat r0)) (drH H1 so ce (k+1)) <|.c v Hx r,
   ok (I hn <|I g1 <|I g2 <|I (zN (b:=.append) hn) <|I hn <|I g3 <|I e1.symm <|I (gtZ dp H1) <|I c h) (by kernel_rfl)⟩)
theorem wn_leaf2{m often:Nat}{u name t tu:List Nat}{sep:Bool}{z:Nat}{H2:Hp}(c:Call (zc (P ns) 60 (m+2)) 716 [.obj so,.str u] H (.tup [.str t,.str tu,.bool sep,.int (.ofNat z)]) H2) :
  exS (P ns) (zc (P ns) 60 (m+2)) 60 (tl (tl (tl f723.body))) [.obj so,.int (.ofNat 2),.str u,.obj nm,.str name,.int (.ofNat often),.bad,.bad,.bad,.bad,.bad,.bad,.bad] H (.c (.tup [.str t,.str tu,.bool sep,.int (.ofNat z)]) H2 .nil)
   (λfl _ H₁ _=>Xy fl (.obj (H2++[O.list []]).length)/\H₁=H2++[O.list []]++[O.dict (dicF ⟨name,often,tu,some (t,sep),[],z⟩ H2.length)]):=
 ok (I c <|fin (.obj (H2++[O.list []]).length) (H2++[O.list []]++[O.dict (dicF ⟨name,often,tu,some (t,sep),[],z⟩ H2.length)])) (by kernel_rfl)
theorem wn_leafD{m dp often:Nat}{u name t tu:List Nat}{sep:Bool}{z:Nat}{H1 H2:Hp}(hd:dp=0∨dp=1)(c0:Call (zc (P ns) 60 (m+2)) 709 [.obj so,.int (.ofNat 3)] H (.int (.ofNat 0)) H1)(c:Call (zc (P ns) 60 (m+2)) 716 [.obj so,.str u] H1 (.tup [.str t,.str tu,.bool sep,.int (.ofNat z)]) H2) :
  exS (P ns) (zc (P ns) 60 (m+2)) 60 (tl (tl (tl f723.body))) [.obj so,.int (.ofNat dp),.str u,.obj nm,.str name,.int (.ofNat often),.bad,.bad,.bad,.bad,.bad,.bad,.bad] H (.c (.int (.ofNat 0)) H1 <|.c (.tup [.str t,.str tu,.bool sep,.int (.ofNat z)]) H2 .nil)
   (λfl _ H₁ _=>Xy fl (.obj (H2++[O.list []]).length)/\H₁=H2++[O.list []]++[O.dict (dicF ⟨name,often,tu,some (t,sep),[],z⟩ H2.length)]):=by
 rcases hd with rfl|rfl
 ·exact ok (I c0 <|I c <|fin (.obj (H2++[O.list []]).length) (H2++[O.list []]++[O.dict (dicF ⟨name,often,tu,some (t,sep),[],z⟩ H2.length)])) (by kernel_rfl)
 ·exact ok (I c0 <|I c <|fin (.obj (H2++[O.list []]).length) (H2++[O.list []]++[O.dict (dicF ⟨name,often,tu,some (t,sep),[],z⟩ H2.length)])) (by kernel_rfl)
theorem Ka{tu u:List Nat}{d:D}(h:d.usage=tu):effD u d=inh tu u:=by
 subst h
 show(match d.usage with|[]=>u|u=>u)=match d.usage with|[]=>u|_::_=>d.usage
 rcases d.usage with _|⟨a,b⟩<;>rfl
theorem jM{dp c often k1:Nat}{u t tu:List Nat}{sep:Bool}{z:Nat}(o1:1<=often)(o3:often<=3)(o0:dp=0->often=1)(hd:dp<=2)(lf:LeafOk (inh tu u) t sep z)(hz:z<=19)(ht:UsOk tu):Tok dp u c ⟨nmS c,often,tu,some (t,sep),[],z⟩ .nil where
 nd:=⟨o1,o3,G5 hz (by decide),.inl ⟨t,sep,rfl,rfl,by rw[Ka (tu:=tu) rfl];exact lf⟩⟩
 wf:=trivial
 nm:=rfl
 nk:=trivial
 up:=rfl
 one:=o0
 sz:=G5 hz (by rcases dp with _|_|_<;>first|decide|exact Gi _)
 ht:=by show 0+dp<=2;exact om149 hd
 nc:=D7 _
 us:=ht
theorem XC{m dp often k':Nat}{u t tu:List Nat}{sep:Bool}{z B:Nat}{H0 H1 H2:Hp}{nv:List V}{as:As}(w1:Lw so nm H0 H1)(w2:Lw so nm H1 H2)(s2:Src H2 so ce cs k')(hk:k'<=k+kb dp)(h1:H1[nm]?=some (.list (nv++[.str (nmS nv.length)])))(h2:H2[nm]?=H1[nm]?)(b:B<=H0.length)
  (tk:Tok dp u nv.length ⟨nmS nv.length,often,tu,some (t,sep),[],z⟩ .nil)
  (x:exS (P ns) (zc (P ns) 60 m) 60 f723.body [.obj so,.int (.ofNat dp),.str u,.obj nm,.bad,.bad,.bad,.bad,.bad,.bad,.bad,.bad,.bad] H0 as (λfl _ H₁ _=>Xy fl (.obj (H2++[O.list []]).length)/\H₁=H2++[O.list []]++[O.dict (dicF ⟨nmS nv.length,often,tu,some (t,sep),[],z⟩ H2.length)])) {Gl:Prop} (kG:∀H' d kids kl kv k',(Call (zc (P ns) 60 (m+1)) 723 [.obj so,.int (.ofNat dp),.str u,.obj nm] H0 (.obj H'.length) (H'++[.dict (dicF d kl)]))->(Lw so nm H0 H')->(Src H' so ce cs k')->(k'<=k+kb dp)->(H'[nm]?=some (.list (nv++.str d.name::pnm kids)))->(B<=kl)->(H'[kl]?=some (.list kv))->(DF B H' kids kv)->(Tok dp u nv.length d kids)->Gl):Gl:=
 kG (H2++[O.list []]) _ .nil H2.length ([]) k' (zu (as:=as) (ok x (by kernel_rfl))) ((w1.trans w2).trans (Lw.app _)) (s2.ex (Ex.app _)) hk (zk (h2.trans h1)) (G5 b (w1.trans w2).len) ze rfl tk
theorem node2{m:Nat}{u:List Nat}(hu:UsOk u):jI ns so nm ce cs (m+3) 2 u:=by
 intro B H k nv s hk hn n1 n2 b1 b2 b3 b4 Gl kG
 have hk:k+4<=800000:=hk
 refine JT (ns:=ns) (m:=m+1) (dp:=2) (u:=u) s (om177 hk) hn n1 n2 (om155 b4) ?_;intro often k1 H1 o1 o3 o0 hk1 s1 w1 h1 run
 refine YV (JU (ns:=ns) (m:=m) s1 (by exact on13 (by assumption) hk1) hu) λt tu sep z k2 c hk2 lf hz ht=>?_
 refine Gf (run (wn_leaf2 c)) λas x=>?_
 exact XC w1 Lw.dr (s1.to k2) (show k2<=k+4 by exact om178 hk1 hk2) h1 (List.getElem?_set_ne n1) b3 (jM (k1:=0) o1 o3 o0 (by decide) lf hz ht) x kG
end
end G
end
section
namespace G
open Mn
noncomputable def LL(so dp:Nat)(u:List Nat)(nm:Nat)(name:List Nat)(often:Nat)(own:List Nat)(kl sz:Nat)(lv x y:V):Lc:=[.obj so,.int (.ofNat dp),.str u,.obj nm,.str name,.int (.ofNat often),.bad,.str own,.obj kl,.int (.ofNat sz),lv,x,y]
structure Lk (so nm kl:Nat) (H H':Hp):Prop where
 old:∀(i:Nat) (o:O),H[i]?=some o->i≠so->i≠nm->i≠kl->H'[i]?=some o
 len:H.length<=H'.length
theorem Lk.refl{so nm kl:Nat}{H:Hp}:Lk so nm kl H H:=⟨λ_ _ h _ _ _=>h,Gi _⟩
theorem Lk.trans{so nm kl:Nat}{H₁ uh uk:Hp}(a:Lk so nm kl H₁ uh)(b:Lk so nm kl uh uk):Lk so nm kl H₁ uk:=⟨λi o h n m l=>b.old i o (a.old i o h n m l) n m l,G5 a.len b.len⟩
theorem Lw.toK{so nm kl:Nat}{H H':Hp}(a:Lw so nm H H'):Lk so nm kl H H':=⟨λi o h n m _=>a.old i o h n m,a.len⟩
theorem Lk.kl{so nm kl:Nat}{H:Hp}{x:O}:Lk so nm kl H (H.set kl x):=⟨λi o h _ _ l=>zd h l.symm,by rw[GQ];exact Gi _⟩
theorem Lk.set{so nm kl p:Nat}{H H':Hp}(a:Lk so nm kl H H')(n:H[p]?=none)(x:O):Lk so nm kl H (H'.set p x):=⟨λi o h n1 n2 n3=>zd (a.old i o h n1 n2 n3) (YH h n),by rw[GQ];exact a.len⟩
theorem Lk.up{so nm kl:Nat}{H H':Hp}(a:Lk so nm kl H H')(h1:so<=kl)(h2:nm<=kl)(i:Nat)(o:O)(b:kl+1<=i)(h:H[i]?=some o):H'[i]?=some o:=a.old i o h (om137 h1 b) (om137 h2 b) (om139 b)
inductive LastOk (H:Hp) (kl c sb:Nat):Option D->V->Prop
 |no:LastOk H kl c sb none .none
 |at_ {x:D} {ln kx j:Nat} (b:kl+1<=ln) (h:H[ln]?=some (.dict (dicF x kx))) (s:x.size<=sb) (hj:j < c) (e:x.name=nmS j):LastOk H kl c sb (some x) (.obj ln)
theorem LastOk.mono{H H':Hp}{kl c c' sb:Nat}{last:Option D}{lv:V}(h:LastOk H kl c sb last lv)(m:∀(i:Nat) (o:O),kl+1<=i->H[i]?=some o->H'[i]?=some o)(l:c<=c'):LastOk H' kl c' sb last lv:=by
 rcases h with _|⟨b,h,s,hj,e⟩
 ·exact .no
 ·exact .at_ b (m _ _ b h) s (GR hj l) e
section
variable {ns:List Int} {so nm ce:Nat} {cs:List Int}
theorem wn_kid{m dp n often kl sz:Nat}{u own name:List Nat}{lv x y:V}{H H1:Hp}{as:As}{Q:KA}(c:Call (zc (P ns) 60 m) 723 [.obj so,.int (.ofNat (dp+1)),.str (inh own u),.obj nm] H (.obj n) H1)
  (h:exS (P ns) (zc (P ns) 60 m) 60 (tl (bd f723 0)) (LL so dp u nm name often own kl sz lv x (.obj n)) H1 as Q):exS (P ns) (zc (P ns) 60 m) 60 (bd f723 0) (LL so dp u nm name often own kl sz lv x y) H (.c (.obj n) H1 as) Q:=by
 rcases own with _|⟨a,b⟩
 ·exact ok (I c h) (by kernel_rfl)
 ·exact ok (I c h) (by kernel_rfl)
theorem mulG{d:D}{e:List Nat}{k:F}(h:Nd e d k):decide ((Gx d.size).natAbs < 1000000000/\(Gx d.often).natAbs < 1000000000)=true:=decide_eq_true ⟨GY h.sz (by decide),GY h.of3 (by decide)⟩
noncomputable def TurnTo(ns:List Int)(m so dp:Nat)(u:List Nat)(nm:Nat)(name:List Nat)(often:Nat)(own:List Nat)(kl sz n:Nat)(lv x:V)(H1:Hp)(sz':Nat)(lv':V)(H2:Hp):Prop:=
 ∃as,exS (P ns) (zc (P ns) 60 m) 60 (tl (bd f723 0)) (LL so dp u nm name often own kl sz lv x (.obj n)) H1 as (λg L' H' _=>g= .next/\L'=LL so dp u nm name often own kl sz' lv' x (.obj n)/\H'=H2)
theorem wn_turn{m k dp n klk often kl sz c sb:Nat}{u own name:List Nat}{lv x:V}{d:D}{kv nv:List V}{H:Hp}{e:List Nat}{kids:F}{last:Option D}(nd:Nd e d kids)(s:Src H so ce cs k)(hk:k < 900000)(hm:1<=m)(hs:so < kl)(hnm:nm < kl)(n1:so≠nm)(hnn:H[nm]?=some (.list nv))(hn:H[n]?=some (.dict (dicF d klk)))(hln:kl < n)(hl:H[kl]?=some (.list kv))(b:kv.length < 1000)(lo:LastOk H kl c sb last lv){Gl:Prop}(kk:∀k' H1,(Src H1 so ce cs k')->(k'<=k+1)->(Lw so nm H H1)->(H1[nm]?=some (.list nv))->(H1[n]?=some (.dict (dicF d klk)))->(H1[kl]?=some (.list kv))->((TurnTo ns m so dp u nm name often own kl sz n lv x H (sz+mulS d) (.obj n) (H1.set kl (.list (kv++[.obj n])))∨
    ∃y ln kx,last=some y/\lv= .obj ln/\H1[ln]?=some (.dict (dicF y kx))/\y.often=1/\mulS d<=y.size/\TurnTo ns m so dp u nm name often own kl sz n lv x H sz lv ((H1.set n (.dict (dicF {d with upon:=y.name} klk))).set kl (.list (kv++[.obj n])))))->Gl):Gl:=by
 have bl:Gz kv.length 1000=true:=G6 b
 rcases lo with _|@⟨y,ln,kx,_,b1,hy,sy,_,_⟩
 ·exact kk k H s (D4 _) .refl hnn hn hl (.inl ⟨.o (.dict (dicF d klk)) <|.o (.dict (dicF d klk)) <|.g <|.g <|.o (.list kv) <|.g <|.h (H.set kl (.list (kv++[.obj n]))) .nil,
   ok (I hn <|I hn <|I (mulG nd) <|I (zN (b:=.append) hl) <|I hl <|I bl <|I (rfl:H.set kl (.list (kv++[.obj n]))=H.set kl (.list (kv++[.obj n]))) <|fin3 .next (LL so dp u nm name often own kl (sz+mulS d) (.obj n) x (.obj n)) (H.set kl (.list (kv++[.obj n])))) (by kernel_rfl)⟩)
 ·refine zh (GT hm) λm rq1=>?_;subst rq1
  refine yE (ns:=ns) (m:=m) s (l:=2) (by decide) (om132 hk) ?_;intro q hq c0
  have w:Lw so nm H (drH H so ce (k+1)):=Lw.dr
  have up:=(w.toK (kl:=kl)).up (GL hs) (GL hnm)
  have hn1:=up _ _ hln hn
  have hy1:=up _ _ b1 hy
  have hl1:(drH H so ce (k+1))[kl]?=some (.list kv):=zd hl (D1 hs)
  have hnn1:(drH H so ce (k+1))[nm]?=some (.list nv):=zd hnn n1
  refine kk (k+1) (drH H so ce (k+1)) (s.to _) (Gi _) w hnn1 hn1 hl1 ?_
  generalize drH H so ce (k+1)=H1 at c0 hn1 hy1 hl1
  have eB:=rfl (a:=H1.set kl (.list (kv++[.obj n])))
  have fB:=fin3 .next (LL so dp u nm name often own kl (sz+mulS d) (.obj n) x (.obj n)) (H1.set kl (.list (kv++[.obj n])))
  have gB:=zN (b:=.append) hl1
  have gd:=mulG nd
  rcases q with _|q
  ·rcases GW y.size (mulS d) with lt|le
   ·exact .inl ⟨.c (.int (.ofNat 0)) H1 <|.o (.dict (dicF d klk)) <|.o (.dict (dicF d klk)) <|.g <|.o (.dict (dicF y kx)) <|.b false <|.o (.dict (dicF d klk)) <|.o (.dict (dicF d klk)) <|.g <|.g <|.o (.list kv) <|.g <|.h (H1.set kl (.list (kv++[.obj n]))) .nil,
     ok (I c0 <|I hn1 <|I hn1 <|I gd <|I hy1 <|I (gtN (a:=mulS d) H1 lt) <|I hn1 <|I hn1 <|I gd <|I gB <|I hl1 <|I bl <|I eB fB) (by kernel_rfl)⟩
   ·rcases e1:Gg y.often 1 with _|_
    ·exact .inl ⟨.c (.int (.ofNat 0)) H1 <|.o (.dict (dicF d klk)) <|.o (.dict (dicF d klk)) <|.g <|.o (.dict (dicF y kx)) <|.b true <|.o (.dict (dicF y kx)) <|.b false <|.o (.dict (dicF d klk)) <|.o (.dict (dicF d klk)) <|.g <|.g <|.o (.list kv) <|.g <|.h (H1.set kl (.list (kv++[.obj n]))) .nil,
      ok (I c0 <|I hn1 <|I hn1 <|I gd <|I hy1 <|I (leN (a:=mulS d) H1 le) <|I hy1 <|I (eqNo H1 e1) <|I hn1 <|I hn1 <|I gd <|I gB <|I hl1 <|I bl <|I eB fB) (by kernel_rfl)⟩
    ·have e1:=Go e1
     have hl2:(H1.set n (.dict (dicF {d with upon:=y.name} klk)))[kl]?=some (.list kv):=zd hl1 (D6 hln)
     exact .inr ⟨y,ln,kx,rfl,rfl,hy1,e1,le,.c (.int (.ofNat 0)) H1 <|.o (.dict (dicF d klk)) <|.o (.dict (dicF d klk)) <|.g <|.o (.dict (dicF y kx)) <|.b true <|.o (.dict (dicF y kx)) <|.b true <|.o (.dict (dicF y kx)) <|.o (.dict (dicF d klk)) <|.g <|.h (H1.set n (.dict (dicF {d with upon:=y.name} klk))) <|.g <|.o (.list kv) <|.g <|.h ((H1.set n (.dict (dicF {d with upon:=y.name} klk))).set kl (.list (kv++[.obj n]))) .nil,
      ok (I c0 <|I hn1 <|I hn1 <|I gd <|I hy1 <|I (leN (a:=mulS d) H1 le) <|I hy1 <|I (by rw[e1];rfl:zW .eq (.int (.ofNat y.often)) (.int 1) H1=some true) <|I hy1 <|I hn1 <|I (rfl:Gz 7 1000=Gz 7 1000) <|I (rfl:H1.set n (.dict (dicF {d with upon:=y.name} klk))=H1.set n (.dict (dicF {d with upon:=y.name} klk))) <|
       I (zN (b:=.append) hl2) <|I hl2 <|I bl <|I (rfl:(H1.set n (.dict (dicF {d with upon:=y.name} klk))).set kl (.list (kv++[.obj n]))=(H1.set n (.dict (dicF {d with upon:=y.name} klk))).set kl (.list (kv++[.obj n]))) <|fin3 .next (LL so dp u nm name often own kl sz (.obj ln) x (.obj n)) ((H1.set n (.dict (dicF {d with upon:=y.name} klk))).set kl (.list (kv++[.obj n])))) (by kernel_rfl)⟩
  ·exact .inl ⟨.c (.int (.ofNat (q+1))) H1 <|.b false <|.o (.dict (dicF d klk)) <|.o (.dict (dicF d klk)) <|.g <|.g <|.o (.list kv) <|.g <|.h (H1.set kl (.list (kv++[.obj n]))) .nil,
    ok (I c0 <|I (eqNo (a:=q+1) (b:=0) H1 rfl) <|I hn1 <|I hn1 <|I gd <|I gB <|I hl1 <|I bl <|I eB fB) (by kernel_rfl)⟩
end
end G
end
section
namespace G
open Mn
section
variable {ns:List Int} {so nm ce:Nat} {cs:List Int}
theorem Ys{d:D}(h:d.upon=[]):fre d=true:=by
 show(match d.upon with|[]=>true|_::_=>false)=true
 rw[h]
theorem fre_nm{d:D}{j:Nat}(h:d.upon=nmS j):fre d=false:=by
 show(match d.upon with|[]=>true|_::_=>false)=false
 rw[h];rfl
theorem szb_le{dp:Nat}:szb (dp+1)<=2000:=by rcases dp with _|_|_<;>first|decide|exact(by decide:19<=2000)
theorem wn_loop{m dp often kl:Nat}{u own name:List Nat}{ws:List V}(hm:1<=m)(hd:dp<=1)(KC:jI ns so nm ce cs m (dp+1) (inh own u))(hs:so < kl)(hnm:nm < kl)(n1:so≠nm)(n2:ce≠nm)(cke:ce≠kl)(ts:List V):∀(H:Hp) (k:Nat) (nv kv:List V) (sz:Nat) (last:Option D) (lv x y:V),
  Src H so ce cs k->k+ts.length*(kb (dp+1)+1)<=800000->H[nm]?=some (.list nv)->H[kl]?=some (.list kv)->nv.length+ts.length*(ncb (dp+1)+1)<=40->kv.length+ts.length<=900->LastOk H kl nv.length (szb (dp+1)) last lv->
  ∀{Gl:Prop},(∀(H':Hp) (L':Lc) (g:F) (gv:List V) (k':Nat),(ForR (P ns) (zc (P ns) 60 m) 60 (bd f723 0) [11] true (.vals ws) ts (LL so dp u nm name often own kl sz lv x y) H .next (.obj so::.int (.ofNat dp)::.str u::.obj nm::.str name::.int (.ofNat often)::.bad::.str own::.obj kl::.int (.ofNat (sz+gsz g))::L') H')->(Lk so nm kl H H')->(Src H' so ce cs k')->(k'<=k+ts.length*(kb (dp+1)+1))->(H'[nm]?=some (.list (nv++pnm g)))->(H'[kl]?=some (.list (kv++gv)))->(DF (kl+1) H' g gv)->(Wf (inh own u) last g)->(Nms nv.length g)->(gsz g<=ts.length*(3*szb (dp+1)))->(ht g+dp<=2)->(nc g<=ts.length*(ncb (dp+1)+1))->(ts≠[]->g≠.nil)->Gl)->Gl:=by
 induction ts with
 |nil=>
  intro H k nv kv sz last lv x y s hk hn hl hb hv lo Gl kG
  exact kG H _ .nil ([]) k zV .refl s (Gp _ _) (by rw[show pnm .nil=[] from rfl,GH];exact hn) (by rw[GH];exact hl) rfl trivial trivial (D7 _) (by show 0+dp<=2;exact om142 hd) (D7 _) (λh=>absurd rfl h)
 |cons t ts IH=>
  intro H k nv kv sz last lv x y s hk hn hl hb hv lo Gl kG
  have lc:(t::ts).length=ts.length+1:=rfl
  have hk:k+(ts.length*(kb (dp+1)+1)+(kb (dp+1)+1))<=800000:=by rwa [lc,DJ,DK] at hk
  have hb:nv.length+(ts.length*(ncb (dp+1)+1)+(ncb (dp+1)+1))<=40:=by rwa [lc,DJ,DK] at hb
  have hv:kv.length+(ts.length+1)<=900:=hv
  refine KC (kl+1) H k nv s (om143 hk) hn n1 n2 (Dm hs) (Dm hnm) (Zu hl) (om144 hb) ?_
  intro H0 d kids klk kvk k1 c w0 s0 hk1 hn0 bk hkl0 df0 tk
  have hl0:=w0.old _ _ hl (D6 hs) (D6 hnm)
  have ex:Ex H0 (H0++[O.dict (dicF d klk)]):=Ex.app _
  have hln:kl < H0.length:=Zu hl0
  have up0:∀(i:Nat) (o:O),kl+1<=i->H[i]?=some o->(H0++[O.dict (dicF d klk)])[i]?=some o:=λi o b h=>ex _ _ ((w0.toK (kl:=kl)).up (GL hs) (GL hnm) i o b h)
  have sd:mulS d<=3*szb (dp+1):=by
   show d.size*d.often<=_
   rw[Nat.mul_comm 3];exact Nat.mul_le_mul tk.sz tk.nd.of3
  have nl:(nv++V.str d.name::pnm kids).length=nv.length+1+nc kids:=by rw[G7,GB,Zj];exact om145
  have c':Call (zc (P ns) 60 m) 723 [.obj so,.int (.ofNat (dp+1)),.str (inh own u),.obj nm] H (.obj H0.length) (H0++[.dict (dicF d klk)]):=c
  have ncb':=tk.nc
  have kv':(kv++[V.obj H0.length]).length+ts.length<=900:=by rw[G7,D8];exact on11 (by assumption) lc
  refine wn_turn (ns:=ns) (m:=m) (dp:=dp) (u:=u) (own:=own) (name:=name) (often:=often) (sz:=sz) (x:=t) tk.nd (s0.ex ex) (om150 hk hk1) hm hs hnm n1 (ex _ _ hn0) ze hln (ex _ _ hl0) (by exact on3 (by assumption)) (lo.mono up0 (Gi _)) ?_;intro k2 H2 s2 hk2 w2 hn2 hd2 hl2 tt
  have hh:ht kids+1+dp<=2:=by have:=tk.ht;exact om151 this
  have L0:Lk so nm kl H H2:=((w0.trans (Lw.app _)).trans w2).toK
  have n0:H[H0.length]?=none:=ZJ w0.len
  have n00:H0[H0.length]?=none:=yd
  have sk:so≠kl:=D1 hs
  have nk:nm≠kl:=D1 hnm
  have U2:Lk so nm kl H0 H2:=((Lw.app _).trans w2).toK
  have fin:∀(H3 H':Hp),Lk so nm kl H0 H3->Lk so nm kl H3 H'->DF (kl+1) H' kids kvk/\H'[klk]?=some (.list kvk):=λH3 H' a b=>⟨DF.mono (Gi _) ((a.trans b).up (GL hs) (GL hnm)) _ _ df0,(a.trans b).up (GL hs) (GL hnm) _ _ bk hkl0⟩
  rcases tt with⟨as,run⟩|⟨y0,ln,kx,e1,e2,hy,oy,ly,as,run⟩
  ·have s3:Src (H2.set kl (.list (kv++[.obj H0.length]))) so ce cs k2:=s2.nms sk cke _
   have hd3:(H2.set kl (.list (kv++[.obj H0.length])))[H0.length]?=some (.dict (dicF d klk)):=zd hd2 (D1 hln)
   have lo3:LastOk (H2.set kl (.list (kv++[.obj H0.length]))) kl (nv++V.str d.name::pnm kids).length (szb (dp+1)) (some d) (.obj H0.length):=.at_ hln hd3 tk.sz (j:=nv.length) (by rw[nl];exact kD) tk.nm
   refine IH _ k2 _ (kv++[.obj H0.length]) (sz+mulS d) (some d) (.obj H0.length) t (.obj H0.length) s3 (om164 hk hk1 hk2) (zd hn2 nk.symm) (zB hl2) (by rw[nl];exact om165 hb ncb') kv' lo3 ?_;intro H' L' g gv k' W_run W_lk W_src W_kk W_nmE W_klE W_df W_wf W_nms W_sz W_ht W_nc W_ne
   have fr:=Ys tk.up
   have F2:=fin _ _ (U2.trans .kl) W_lk
   have e3:sz+mulS d+gsz g=sz+gsz (.node d kids g):=by
    show _=sz+(ifN (fre d) (mulS d) 0+gsz g)
    rw[fr,DC];rfl
   refine kG H' L' (.node d kids g) (.obj H0.length::gv) k' (zx rfl (wn_kid c' run) rfl (e3▸W_run)) ((L0.trans .kl).trans W_lk) W_src ?_ ?_ ?_ ?_ ?_ ?_ ?_ ?_ ?_ nofun
   ·have:=W_kk;rw[lc,DJ,DK];exact om169 hk1 hk2 W_kk
   ·rw[W_nmE,Gk];rfl
   ·rw[W_klE,Gk];rfl
   ·exact⟨H0.length,klk,kvk,gv,rfl,hln,bk,W_lk.up (GL hs) (GL hnm) _ _ hln hd3,F2.2,F2.1,W_df⟩
   ·refine⟨tk.nd,tk.wf,?_⟩
    rw[fr];exact W_wf
   ·refine⟨tk.nm,tk.nk,?_⟩
    have:=W_nms;rw[nl] at this;exact this
   ·have:=W_sz
    show ifN (fre d) (mulS d) 0+gsz g<=_
    rw[fr,lc,DJ,DK]
    show mulS d+gsz g<=_
    exact om171 sd W_sz
   ·have:=W_ht
    show max (ht kids+1) (ht g)+dp<=2
    exact om173 hh W_ht
   ·have:=W_nc
    show 1+nc kids+nc g<=_
    rw[lc,DJ,DK];exact om174 ncb' W_nc
  ·subst e1
   subst e2
   rcases lo with _|@⟨_,_,kx',j,b1,hx',sx,hj,ej⟩
   have hd3:=zB (x:=.dict (dicF {d with upon:=y0.name} klk)) hd2
   have hl3:(H2.set H0.length (.dict (dicF {d with upon:=y0.name} klk)))[kl]?=some (.list kv):=zd hl2 (D6 hln)
   have U3:Lk so nm kl H0 ((H2.set H0.length (.dict (dicF {d with upon:=y0.name} klk))).set kl (.list (kv++[.obj H0.length]))):=(U2.set n00 _).trans .kl
   have L3:Lk so nm kl H ((H2.set H0.length (.dict (dicF {d with upon:=y0.name} klk))).set kl (.list (kv++[.obj H0.length]))):=(L0.set n0 _).trans .kl
   have so0:H0.length≠so:=YH s0.s n00
   have nm0:H0.length≠nm:=YH hn0 n00
   have ce0:H0.length≠ce:=YH s0.c n00
   have s3:Src ((H2.set H0.length (.dict (dicF {d with upon:=y0.name} klk))).set kl (.list (kv++[.obj H0.length]))) so ce cs k2:=(s2.nms so0.symm ce0.symm _).nms sk cke _
   have hy3:=zd (x:=.list (kv++[.obj H0.length])) (zd (x:=.dict (dicF {d with upon:=y0.name} klk)) hy (YH hx' n0)) (D1 b1)
   have hd4:=zd (x:=.list (kv++[.obj H0.length])) hd3 (D1 hln)
   have lo3:LastOk ((H2.set H0.length (.dict (dicF {d with upon:=y0.name} klk))).set kl (.list (kv++[.obj H0.length]))) kl (nv++V.str d.name::pnm kids).length (szb (dp+1)) (some y0) (.obj ln):=.at_ b1 hy3 sx (j:=j) (by rw[nl];exact om192 hj) ej
   refine IH _ k2 _ (kv++[.obj H0.length]) sz (some y0) (.obj ln) t (.obj H0.length) s3 (om164 hk hk1 hk2) (zd (zd hn2 nm0) nk.symm) (zB hl3) (by rw[nl];exact om165 hb ncb') kv' lo3 ?_;intro H' L' g gv k' W_run W_lk W_src W_kk W_nmE W_klE W_df W_wf W_nms W_sz W_ht W_nc W_ne
   have fr:fre {d with upon:=y0.name}=false:=fre_nm ej
   have F2:=fin _ _ U3 W_lk
   have e3:sz+gsz g=sz+gsz (.node {d with upon:=y0.name} kids g):=by
    show _=sz+(ifN (fre {d with upon:=y0.name}) _ 0+gsz g)
    rw[fr];exact congrArg _ (GU _).symm
   refine kG H' L' (.node {d with upon:=y0.name} kids g) (.obj H0.length::gv) k' (zx rfl (wn_kid c' run) rfl (e3▸W_run)) (L3.trans W_lk) W_src ?_ ?_ ?_ ?_ ?_ ?_ ?_ ?_ ?_ nofun
   ·have:=W_kk;rw[lc,DJ,DK];exact om169 hk1 hk2 W_kk
   ·rw[W_nmE,Gk];rfl
   ·rw[W_klE,Gk];rfl
   ·exact⟨H0.length,klk,kvk,gv,rfl,hln,bk,W_lk.up (GL hs) (GL hnm) _ _ hln hd4,F2.2,F2.1,W_df⟩
   ·refine⟨⟨tk.nd.of1,tk.nd.of3,tk.nd.sz,tk.nd.is⟩,tk.wf,?_⟩
    rw[fr]
    exact⟨⟨y0,rfl,rfl,oy,by show eqS d.name y0.name=false;rw[tk.nm,ej];exact nm_ne (om203 hb) (om204 hb hj) (om205 hj),ly,G5 sx szb_le⟩,W_wf⟩
   ·refine⟨tk.nm,tk.nk,?_⟩
    have:=W_nms;rw[nl] at this;exact this
   ·have:=W_sz
    show ifN (fre {d with upon:=y0.name}) _ 0+gsz g<=_
    rw[fr,lc,DJ,DK]
    show 0+gsz g<=_
    exact om206 W_sz
   ·have:=W_ht
    show max (ht kids+1) (ht g)+dp<=2
    exact om173 hh W_ht
   ·have:=W_nc
    show 1+nc kids+nc g<=_
    rw[lc,DJ,DK];exact om174 ncb' W_nc
end
end G
end
section
namespace G
open Mn
section
variable {ns:List Int} {so nm ce:Nat} {cs:List Int}
noncomputable def menu:List V:=[.str [],.str [],.str zG,.str zn]
theorem menu4{q:Nat}(h:q < 4){Gl:Prop}(kk:∀own,(UsOk own)->(atV menu (.ofNat q)=some (.str own))->Gl):Gl:=by
 rcases q with _|_|_|_|q
 ·exact kk ([]) (.inl rfl) rfl
 ·exact kk ([]) (.inl rfl) rfl
 ·exact kk zG (.inr (.inl rfl)) rfl
 ·exact kk zn (.inr (.inr rfl)) rfl
 ·exact absurd h (GX (GJ 4 _))
noncomputable def L4(so dp:Nat)(u:List Nat)(nm:Nat)(name:List Nat)(often:Nat)(own:V):Lc:=[.obj so,.int (.ofNat dp),.str u,.obj nm,.str name,.int (.ofNat often),.bad,own,.bad,.bad,.bad,.bad,.bad]
noncomputable def hdS(s:S):S:=match s with|.seq a _=>a|s=>s
theorem tl3_eq:tl (tl (tl f723.body))= .seq (hdS (tl (tl (tl f723.body)))) (.seq (hdS (tl (tl (tl (tl f723.body))))) (tl (tl (tl (tl (tl f723.body)))))):=by kernel_rfl
theorem wn_own{m dp often q k:Nat}{u name:List Nat}{H H1:Hp}(s:Src H1 so ce cs k)(hk:k < 900000)(hu:UsOk u)(hd:dp=0∨dp=1)(c0:Call (zc (P ns) 60 (m+1)) 709 [.obj so,.int (.ofNat 3)] H (.int (.ofNat (q+1))) H1){Gl:Prop}(kk:∀own k' H2,(UsOk own)->(k'<=k+1)->(Src H2 so ce cs k')->(Lw so nm H1 H2)->((so≠nm->H2[nm]?=H1[nm]?))->(∀{rest:S} {r:As} {Q:KA},exS (P ns) (zc (P ns) 60 (m+1)) 60 rest (L4 so dp u nm name often (.str own)) H2 r Q->
   ∃r',exS (P ns) (zc (P ns) 60 (m+1)) 60 (.seq (hdS (tl (tl (tl f723.body)))) (.seq (hdS (tl (tl (tl (tl f723.body))))) rest)) (L4 so dp u nm name often .bad) H (.c (.int (.ofNat (q+1))) H1 r') Q)->Gl):Gl:=by
 have e0:=eqNo (a:=q+1) (b:=0) H1 rfl
 rcases hu with rfl|hu
 ·refine yE (ns:=ns) (m:=m) s (l:=4) (by decide) (om132 hk) ?_;intro j hj c
  refine menu4 hj ?_;intro own ho ha
  refine kk own (k+1) (drH H1 so ce (k+1)) ho (Gi _) (s.to _) .dr (λn=>List.getElem?_set_ne n) (λ{rest r Q} h=>⟨.b false <|.b false <|.b true <|.b true <|.c (.int (.ofNat j)) (drH H1 so ce (k+1)) <|.w (.str own) r,?_⟩)
  rcases hd with rfl|rfl<;>exact ok (I c0 <|I e0 <|I (bq false) <|I (cq .eq (.str []) (.str []) true H1 rfl) <|I (bq true) <|I c <|I ha h) (by kernel_rfl)
 ·refine kk ([]) k H1 (.inl rfl) (D4 _) s .refl (λ_=>rfl) (λ{rest r Q} h=>⟨.b false <|.b false <|.b false <|.b false r,?_⟩)
  rcases hu with rfl|rfl
  ·rcases hd with rfl|rfl<;>exact ok (I c0 <|I e0 <|I (bq false) <|I (cq .eq (.str zG) (.str []) false H1 rfl) <|I (bq false) h) (by kernel_rfl)
  ·rcases hd with rfl|rfl<;>exact ok (I c0 <|I e0 <|I (bq false) <|I (cq .eq (.str zn) (.str []) false H1 rfl) <|I (bq false) h) (by kernel_rfl)
theorem iter_rng{n:Nat}{H:Hp}(h:n<=1000):zU (.rng n) H=some (.vals ((D0 n).map λ(i:Nat)=>V.int (i:Int))):=by
 show(match G8 n 1000 with|true=>some (It.vals ((D0 n).map λ(i:Nat)=>V.int (i:Int)))|false=>none)=_
 rw[G6 h]
noncomputable def dLim(dp:Nat):Nat:=match dp with|0=>3|_=>2
theorem wn_tail{m dp often q z:Nat}{u own name:List Nat}{H H1 H2:Hp}{L':Lc}(hd:dp=0∨dp=1)(hq:q < 3)(c:Call (zc (P ns) 60 (m+1)) 709 [.obj so,.int (.ofNat (dLim dp))] (H++[O.list []]) (.int (.ofNat q)) H1)
  (w:ForR (P ns) (zc (P ns) 60 (m+1)) 60 (bd f723 0) [11] true (.vals ((D0 (1+q)).map λ(i:Nat)=>V.int (i:Int))) ((D0 (1+q)).map λ(i:Nat)=>V.int (i:Int)) (LL so dp u nm name often own H.length 0 .none .bad .bad) H1 .next (.obj so::.int (.ofNat dp)::.str u::.obj nm::.str name::.int (.ofNat often)::.bad::.str own::.obj H.length::.int (.ofNat z)::L') H2) :
  exS (P ns) (zc (P ns) 60 (m+1)) 60 (tl (tl (tl (tl (tl f723.body))))) (L4 so dp u nm name often (.str own)) H (.c (.int (.ofNat q)) H1 <|.g <|.it (.vals ((D0 (1+q)).map λ(i:Nat)=>V.int (i:Int))) <|.l .next (.obj so::.int (.ofNat dp)::.str u::.obj nm::.str name::.int (.ofNat often)::.bad::.str own::.obj H.length::.int (.ofNat z)::L') H2 .nil)
   (λfl _ H₁ _=>Xy fl (.obj H2.length)/\H₁=H2++[O.dict (dicF ⟨name,often,own,none,[],z⟩ H.length)]):=by
 have g:G8 (1+q) 1000=true:=G6 (on14 hq)
 have it:=iter_rng (n:=1+q) (H:=H1) (om152 hq)
 rcases hd with rfl|rfl<;>exact ok (I c <|I g <|I it <|I w <|fin (.obj H2.length) (H2++[O.dict (dicF ⟨name,often,own,none,[],z⟩ H.length)])) (by kernel_rfl)
theorem us_inh{own u:List Nat}(h:UsOk own)(k:UsOk u):UsOk (inh own u):=by
 rcases h with rfl|rfl|rfl
 ·exact k
 ·exact .inr (.inl rfl)
 ·exact .inr (.inr rfl)
theorem Wf.eff{e e':List Nat}{l:Option D}{f:F}(h:Wf e l f)(q:e=e'):Wf e' l f:=q▸h
theorem nG_kb5{dp:Nat}(hd:dp=0∨dp=1):5<=kb dp:=by rcases hd with rfl|rfl<;>decide
theorem nG_kbs{dp:Nat}(hd:dp=0∨dp=1):dLim dp*(kb (dp+1)+1)+4<=kb dp:=by rcases hd with rfl|rfl<;>decide
theorem nG_ncs{dp:Nat}(hd:dp=0∨dp=1):dLim dp*(ncb (dp+1)+1)<=ncb dp:=by rcases hd with rfl|rfl<;>decide
theorem nG_szs{dp:Nat}(hd:dp=0∨dp=1):dLim dp*(3*szb (dp+1))<=szb dp:=by rcases hd with rfl|rfl<;>decide
theorem nG_l3{dp:Nat}(hd:dp=0∨dp=1):dLim dp<=3:=by rcases hd with rfl|rfl<;>decide
theorem nG_l0{dp:Nat}(hd:dp=0∨dp=1):0 < dLim dp:=by rcases hd with rfl|rfl<;>decide
theorem nG_sz2{dp:Nat}(hd:dp=0∨dp=1):szb dp<=2000:=by rcases hd with rfl|rfl<;>decide
theorem nodeG{m dp:Nat}{u:List Nat}(hd:dp=0∨dp=1)(hu:UsOk u)(KC:∀e,UsOk e->jI ns so nm ce cs (m+2) (dp+1) e):jI ns so nm ce cs (m+3) dp u:=by
 intro B H k nv s hk hn n1 n2 b1 b2 b3 b4 Gl kG
 have hd1:dp<=1:=by exact om153 hd
 have kb5:5<=kb dp:=nG_kb5 hd
 have kbs:dLim dp*(kb (dp+1)+1)+4<=kb dp:=nG_kbs hd
 have ncs:dLim dp*(ncb (dp+1)+1)<=ncb dp:=nG_ncs hd
 have szs:dLim dp*(3*szb (dp+1))<=szb dp:=nG_szs hd
 have l3:dLim dp<=3:=nG_l3 hd
 have l0:0 < dLim dp:=nG_l0 hd
 have sz2:szb dp<=2000:=nG_sz2 hd
 refine JT (ns:=ns) (m:=m+1) (dp:=dp) (u:=u) s (om154 hk) hn n1 n2 (om155 b4) ?_;intro often k1 H1 o1 o3 o0 hk1 s1 w1 h1 run
 refine yE (ns:=ns) (m:=m+1) s1 (l:=3) (by decide) (om156 hk hk1) ?_;intro q hq c0
 have s1':=s1.to (k1+1)
 rcases q with _|q
 ·refine YV (JU (ns:=ns) (m:=m) s1' (om157 hk hk1) hu) λt tu sep z k2 c hk2 lf hz ht=>?_
  rw[drDr] at c
  refine Gf (run (wn_leafD hd c0 c)) λas x=>?_
  exact XC w1 Lw.dr (s1.to k2) (om158 kb5 hk1 hk2) h1 (List.getElem?_set_ne n1) b3 (jM (k1:=0) o1 o3 o0 (om159 hd1) lf hz ht) x kG
 ·refine wn_own (ns:=ns) (nm:=nm) (often:=often) (name:=nmS nv.length) s1' (om157 hk hk1) hu hd c0 ?_;intro own k2 H2 ho hk2 s2 w2 hn2 run2
  have hn2:=((hn2 n1).trans (List.getElem?_set_ne n1)).trans h1
  have ex:Ex H2 (H2++[O.list []]):=Ex.app _
  have s3:=s2.ex ex
  refine yE (ns:=ns) (m:=m+1) s3 l0 (om160 hk hk1 hk2) ?_;intro j hj c3
  have s4:=s3.to (k2+1)
  have w12:Lw so nm H H2:=(w1.trans Lw.dr).trans w2
  have bl2:B<=H2.length:=G5 b3 w12.len
  have sk:so < H2.length:=GR b1 bl2
  have nk:nm < H2.length:=GR b2 bl2
  have kl4:(drH (H2++[O.list []]) so ce (k2+1))[H2.length]?=some (.list []):=zd ze (D1 sk)
  have nm4:(drH (H2++[O.list []]) so ce (k2+1))[nm]?=some (.list (nv++[.str (nmS nv.length)])):=zd (ex _ _ hn2) n1
  have tl1:((D0 (1+j)).map λ(i:Nat)=>V.int (i:Int)).length=1+j:=by rw[Gm,List.length_range]
  have jl:1+j<=dLim dp:=by exact om163 hj
  have m1:(1+j)*(kb (dp+1)+1)<=dLim dp*(kb (dp+1)+1):=DQ _ jl
  have m2:(1+j)*(ncb (dp+1)+1)<=dLim dp*(ncb (dp+1)+1):=DQ _ jl
  have m3:(1+j)*(3*szb (dp+1))<=dLim dp*(3*szb (dp+1)):=DQ _ jl
  have nl:(nv++[V.str (nmS nv.length)]).length=nv.length+1:=by rw[G7];rfl
  refine wn_loop (ws:=(D0 (1+j)).map λ(i:Nat)=>V.int (i:Int)) (often:=often) (name:=nmS nv.length) (own:=own) (u:=u) (om166:1<=m+2) hd1 (KC (inh own u) (us_inh ho hu)) sk nk n1 n2 (YH s2.c yd).symm ((D0 (1+j)).map λ(i:Nat)=>V.int (i:Int)) _ (k2+1) _ [] 0 none .none .bad .bad s4 (by rw[tl1];exact om167 hk kbs hk1 hk2 m1) nm4 kl4 (by rw[tl1,nl];exact om168 b4 ncs m2) (by rw[tl1];show 0+(1+j)<=900;exact om170 l3 hj) .no ?_;intro H5 L' g gv k' W_run W_lk W_src W_kk W_nmE W_klE W_df W_wf W_nms W_sz W_ht W_nc W_ne
  have wr:=W_run
  rw[GU] at wr
  refine Gf (run2 (wn_tail hd (om172 l3 hj) c3 wr)) λr' x=>Gf (run (by rw[tl3_eq];exact x)) λas x=>?_
  have kk:=W_kk
  have sz:=W_sz
  have nc':=W_nc
  rw[tl1] at kk sz nc'
  have n0:H[H2.length]?=none:=ZJ w12.len
  have lw:Lw so nm H H5:=by
   have a:=((w12.trans (Lw.app _)).trans Lw.dr).toK.trans W_lk
   exact⟨λi o h i1 i2=>a.old i o h i1 i2 (YH h n0).symm,a.len⟩
  have ne:g≠.nil:=W_ne λe=>by rw[e] at tl1;exact absurd tl1.symm (by show 1+j≠0;exact om175)
  refine kG H5 ⟨nmS nv.length,often,own,none,[],gsz g⟩ g H2.length gv k' (zu (as:=as) (ok x (by kernel_rfl))) lw W_src (om176 kbs hk1 hk2 m1 kk) ?_ bl2 ?_ (DF.mono (DA bl2) (λ_ _ _ h=>h) _ _ W_df) ?_
  ·rw[W_nmE,Gk];rfl
  ·rw[W_klE];rfl
  ·refine⟨⟨o1,o3,G5 (G5 sz m3) (G5 szs sz2),.inr ⟨rfl,ne,rfl⟩⟩,W_wf.eff (Ka (u:=u) (d:=⟨nmS nv.length,often,own,none,[],gsz g⟩) rfl).symm,rfl,?_,rfl,o0,G5 (G5 sz m3) szs,W_ht,G5 (G5 nc' m2) ncs,ho⟩
   have:=W_nms;rw[nl] at this;exact this
theorem node_all{m dp:Nat}{u:List Nat}(hd:dp<=2)(hu:UsOk u):jI ns so nm ce cs (m+5) dp u:=by
 have h2:∀{m:Nat} {u:List Nat},UsOk u->jI ns so nm ce cs (m+3) 2 u:=λh=>node2 h
 have h1:∀{m:Nat} {u:List Nat},UsOk u->jI ns so nm ce cs (m+4) 1 u:=λh=>nodeG (.inr rfl) h λe he=>h2 he
 rcases dp with _|_|_|dp
 ·exact nodeG (.inl rfl) hu λe he=>h1 he
 ·exact h1 hu
 ·exact h2 hu
 ·exact absurd hd (DI (GJ 3 _))
end
end G
end
section
namespace G
open Mn
theorem Kg(k:List Nat)(v:V):∀es,getD k (setD k v es)=some v:=by
 intro es
 induction es with
 |nil=>
  show(match eqS k k with|true=>some v|false=>none)=_
  rw[YR]
 |cons hdp r ih=>
  obtain⟨x,u⟩:=hdp
  show getD k (match eqS x k with|true=>(x,v)::r|false=>(x,u)::setD k v r)=_
  rcases e:eqS x k with _|_
  ·show(match eqS x k with|true=>some u|false=>getD k (setD k v r))=_
   rw[e];exact ih
  ·show(match eqS x k with|true=>some v|false=>getD k r)=_
   rw[e]
theorem getD_ne{j k:List Nat}(h:eqS k j=false)(v:V):∀es,getD j (setD k v es)=getD j es:=by
 intro es
 induction es with
 |nil=>
  show(match eqS k j with|true=>some v|false=>none)=_
  rw[h];rfl
 |cons hdp r ih=>
  obtain⟨x,u⟩:=hdp
  show getD j (match eqS x k with|true=>(x,v)::r|false=>(x,u)::setD k v r)=(match eqS x j with|true=>some u|false=>getD j r)
  rcases e:eqS x k with _|_
  ·show(match eqS x j with|true=>some u|false=>getD j (setD k v r))=_
   rw[ih]
  ·show(match eqS x j with|true=>some v|false=>getD j r)=_
   rw[eqS_iff.mp e,h]
theorem setD_len(k:List Nat)(v:V):∀es,(setD k v es).length<=es.length+1:=by
 intro es
 induction es with
 |nil=>
  exact Gi _
 |cons hdp r ih=>
  obtain⟨x,u⟩:=hdp
  show(match eqS x k with|true=>(x,v)::r|false=>(x,u)::setD k v r).length<=_
  rcases eqS x k with _|_
  ·exact DH (ih)
  ·exact D4 _
noncomputable def plV(base:List Nat)(off z:Nat):V:=.tup [.str base,.int (.ofNat off),.int (.ofNat z)]
noncomputable def Fnd(es:List (List Nat×V))(base:List Nat):Nat->Nat->F->Prop
 |_,_,.nil=>True
 |here,last,.node d k r=>getD d.name es=some (plV base (ifN (fre d) here last) d.size)/\Fnd es base (ifN (fre d) here last) 0 k/\Fnd es base (ifN (fre d) (here+mulS d) here) (ifN (fre d) here last) r
noncomputable def Kp(c n:Nat)(es es':List (List Nat×V)):Prop:=∀j,j < 40->j < c∨c+n<=j->getD (nmS j) es'=getD (nmS j) es
theorem Fnd.mono{es es':List (List Nat×V)}{base:List Nat}: ∀(f:F) (c here last:Nat),Nms c f->(∀j,j < 40->c<=j->j < c+nc f->getD (nmS j) es'=getD (nmS j) es)->c+nc f<=40->Fnd es base here last f->Fnd es' base here last f:=by
 intro f
 induction f with
 |nil=>
  intro y0 y1 y2 y3 y4 y5 y6
  exact trivial
 |node d k r ihk ihr=>
  intro c here last n m b h
  refine zC (n) ?_;clear n;intro n1 n2 n3
  refine zC (h) ?_;clear h;intro h1 h2 h3
  have m:∀j,j < 40->c<=j->j < c+(1+nc k+nc r)->getD (nmS j) es'=getD (nmS j) es:=m
  have b:c+(1+nc k+nc r)<=40:=b
  exact⟨by rw[n1] at h1 ⊢;rw[m c (om180 b) (Gi _) (om181)];exact h1,ihk _ _ _ n2 (λj a b c=>m j a (om182 b) (om183 c)) (om185 b) h2,ihr _ _ _ n3 (λj a b c=>m j a (om188 b) (om189 c)) (om191 b) h3⟩
theorem DF.objs{B:Nat}{H:Hp}: ∀(f:F) (vs:List V),DF B H f vs->Z2 vs vs=true:=by
 intro f
 induction f with
 |nil=>
  intro y0 h
  have e:_=[]:=h
  rw[e];rfl
 |node d k r ihk ihr=>
  intro y0 h
  refine xe4c7 (h) ?_;clear h;intro n kl kv r' rq4 _ _ _ _ _ h4;subst rq4
  show(Gg n n && Z2 r' r')=true
  rw[Fd,ihr _ h4];rfl
theorem yA{i:Nat}{vs:List V}{H:Hp}(h:H[i]?=some (.list vs))(b:Z2 vs vs=true):(It.lst i vs).stands H=true:=by
 show(match H[i]? with|some (.list us)=>Z2 us vs|_=>false)=true
 rw[h];exact b
noncomputable def LastF(es:List (List Nat×V))(base:List Nat)(last c:Nat)(l:Option D):Prop:=∀x,l=some x->(∃z,getD x.name es=some (plV base last z))/\∃j,j < c/\x.name=nmS j
section
variable {ns:List Int} {fo B:Nat} {base:List Nat}
theorem DF.exA{H H':Hp}(hb:fo < B)(e:ExA fo H H'){f:F}{vs:List V}(h:DF B H f vs):DF B H' f vs:=DF.mono (Gi _) (λi o b q=>e i o q (kC hb b)) f vs h
noncomputable def PlLoop(ns:List Int)(fo B:Nat)(base:List Nat)(f:F):Prop:=∀(e:List Nat) (n0 off0 here last c ip:Nat) (l:Option D) (vs ws:List V) (es:List (List Nat×V)) (x y:V) (H:Hp) (m:Nat),
 ht f<=m->fo < B->B<=ip->DF B H f vs->H[ip]?=some (.list ws)->Z2 ws ws=true->H[fo]?=some (.dict es)->Nms c f->Wf e l f->LastF es base last c l->es.length+nc f<=900->c+nc f<=40->
 ∀{Gl:Prop},(∀H' es' L',(ForR (P ns) (zc (P ns) 60 m) 60 (bd f737 0) [5] true (.lst ip ws) vs [.obj n0,.int (.ofNat off0),.str base,.obj fo,.int (.ofNat here),x,y] H .next L' H')->(ExA fo H H')->(H'[fo]?=some (.dict es'))->(Fnd es' base here last f)->(Kp c (nc f) es es')->(es'.length<=es.length+nc f)->Gl)->Gl
theorem kA{kids:F}(IH:PlLoop ns fo B base kids){e:List Nat}{n kl off c m:Nat}{kv:List V}{d:D}{es:List (List Nat×V)}{H:Hp}(hm:ht kids<=m)(hb:fo < B)(bn:B<=n)(bk:B<=kl)(hd:H[n]?=some (.dict (dicF d kl)))(hk:H[kl]?=some (.list kv))(df:DF B H kids kv)(hf:H[fo]?=some (.dict es))(nm:d.name=nmS c)(nk:Nms (c+1) kids)(wf:Wf e none kids)
  (b1:es.length+(1+nc kids)<=900) (b2:c+(1+nc kids)<=40) {Gl:Prop} (kk:∀H' es',(Call (zc (P ns) 60 (m+1)) 737 [.obj n,.int (.ofNat off),.str base,.obj fo] H .none H')->(ExA fo H H')->(H'[fo]?=some (.dict es'))->(getD d.name es'=some (plV base off d.size))->(Fnd es' base off 0 kids)->(Kp c (1+nc kids) es es')->(es'.length<=es.length+(1+nc kids))->Gl):Gl:=by
 obtain⟨H1,e1⟩:∃X,X=H.set fo (.dict (setD d.name (plV base off d.size) es)):=⟨_,rfl⟩
 have x1:ExA fo H (H.set fo (.dict (setD d.name (plV base off d.size) es))):=ExA.set _
 have f1:=zB (x:=.dict (setD d.name (plV base off d.size) es)) hf
 rw[←e1] at x1 f1
 have hd1:=x1 _ _ hd (kC hb bn)
 have hk1:=x1 _ _ hk (kC hb bk)
 have sl:=setD_len d.name (plV base off d.size) es
 refine IH e n off off 0 (c+1) kl none kv kv _ .bad .bad H1 m hm hb bk (df.exA hb x1) hk1 (DF.objs _ _ df) f1 nk wf (λ_ h=>nomatch h) (om186 b1 sl) (om190 b2) ?_;intro H2 es2 L' w x2 f2 fn kp ln
 refine kk H2 es2 (zu (as:=.o (.dict (dicF d kl)) <|.o (.dict (dicF d kl)) <|.o (.dict es) <|.g <|.h H1 <|.o (.dict (dicF d kl)) <|.it (.lst kl kv) <|.l .next L' H2 .nil)
  (ok (I hd <|I hd <|I hf <|I (G6 (om194 b1):Gz es.length 1000=true) <|I e1.symm <|I hd1 <|I (zo hk1) <|I w <|fin .none H2) (by kernel_rfl))) (x1.trans x2) f2 ?_ fn (λj hj h=>?_) (om195 sl ln)
 ·rw[nm,kp c (om196 b2) (.inl (D9 c)),←nm]
  exact Kg _ _ _
 ·rw[kp j hj (om197 h)]
  exact getD_ne (by rw[nm];exact nm_ne (om196 b2) hj (om199 h)) _ _
theorem pl_all(f:F):PlLoop ns fo B base f:=by
 induction f with
 |nil=>
  intro e n0 off0 here last c ip l vs ws es x y H m hm hb bi df hi hw hf nm wf lf b1 b2 Gl kG
  have q:vs=[]:=df
  subst q
  exact kG H es _ zV (.of (Ex.refl H)) hf trivial (λ_ _ _=>rfl) (Gp _ _)
 |node d k r IHk IHr=>
  intro e n0 off0 here last c ip l vs ws es x y H m hm hb bi df hi hw hf nm wf lf b1 b2 Gl kG
  refine xe4c7 (df) ?_;clear df;intro n kl kv r' rq4 bn bk hd hk dk dr;subst rq4
  refine zC (nm) ?_;clear nm;intro nm1 nm2 nm3
  refine zC (wf) ?_;clear wf;intro nd wk wr
  have b1:es.length+(1+nc k+nc r)<=900:=b1
  have b2:c+(1+nc k+nc r)<=40:=b2
  have hm1:ht k+1<=m:=G5 (Dw _ _) hm
  have hm2:ht r<=m:=G5 (GZ _ _) hm
  refine zh (GT (G5 (GJ 1 _) hm1)) λm rq1=>?_;subst rq1
  refine kA (IHk) (off:=ifN (fre d) here last) (De hm1) hb bn bk hd hk dk hf nm1 nm2 wk (om184 b1) (om187 b2) ?_;intro H1 es1 c1 x1 f1 g1 fn1 kp1 ln1
  have hd1:=x1 _ _ hd (kC hb bn)
  have hi1:=x1 _ _ hi (kC hb bi)
  have st:=yA hi1 hw
  have dr1:=dr.exA hb x1
  rcases fr:fre d with _|_
  ·rw[fr] at wr c1 g1 fn1
   obtain⟨⟨x0,u⟩,wr⟩:=wr
   obtain⟨⟨z,hz⟩,j,hj,ej⟩:=lf x0 u.is
   have hz':=hz
   rw[u.name] at hz'
   refine IHr e n0 off0 here last (c+1+nc k) ip l r' ws es1 (.obj n) (.int (.ofNat last)) H1 (m+1) hm2 hb bi dr1 hi1 hw f1 nm3 wr (λy hy=>by
    obtain⟨⟨z,hz⟩,j,hj,ej⟩:=lf y hy
    exact⟨⟨z,by rw[ej,kp1 j (by exact on12 (by assumption) hj) (.inl hj),←ej];exact hz⟩,j,by exact om192 hj,ej⟩) (om193 b1 ln1) (om191 b2) ?_
   intro H2 es2 L' w x2 f2 fn2 kp2 ln2
   refine kG H2 es2 L' (zx (as:=.o (.dict (dicF d kl)) <|.b true <|.o (.dict (dicF d kl)) <|.o (.dict es) <|.w (plV base last z) <|.c .none H1 <|.o (.dict (dicF d kl)) <|.b false .nil) rfl
    (ok (I hd <|I (by rw[yN];exact congrArg (λq=>some (!q)) fr:some (!eqS d.upon [])=some true) <|I hd <|I hf <|I hz' <|I c1 <|I hd1 <|I (by rw[yN];exact congrArg some fr:some (eqS d.upon [])=some false) <|
     fin3 .next [.obj n0,.int (.ofNat off0),.str base,.obj fo,.int (.ofNat here),.obj n,.int (.ofNat last)] H1) (by kernel_rfl)) st w) (x1.trans x2) f2 ⟨?_,?_,?_⟩ (λj hj h=>?_) ?_
   ·rw[fr,nm1,kp2 c (om180 b2) (.inl (kD)),←nm1];exact g1
   ·rw[fr];exact Fnd.mono k (c+1) _ _ nm2 (λj hj h1 h2=>kp2 j hj (.inl (om198 h2))) (om185 b2) fn1
   ·rw[fr];exact fn2
   ·have h:j < c∨c+(1+nc k+nc r)<=j:=h
    rw[kp2 j hj (om200 h),kp1 j hj (om201 h)]
   ·show es2.length<=es.length+(1+nc k+nc r);exact om202 ln1 ln2
  ·rw[fr] at wr c1 g1 fn1
   refine IHr e n0 off0 (here+mulS d) here (c+1+nc k) ip (some d) r' ws es1 (.obj n) (.int (.ofNat here)) H1 (m+1) hm2 hb bi dr1 hi1 hw f1 nm3 wr (λy hy=>by
    cases hy
    exact⟨⟨d.size,g1⟩,c,by exact kD,nm1⟩) (om193 b1 ln1) (om191 b2) ?_
   intro H2 es2 L' w x2 f2 fn2 kp2 ln2
   refine kG H2 es2 L' (zx (as:=.o (.dict (dicF d kl)) <|.b false <|.c .none H1 <|.o (.dict (dicF d kl)) <|.b true <|.o (.dict (dicF d kl)) <|.o (.dict (dicF d kl)) <|.g .nil) rfl
    (ok (I hd <|I (by rw[yN];exact congrArg (λq=>some (!q)) fr:some (!eqS d.upon [])=some false) <|I c1 <|I hd1 <|I (by rw[yN];exact congrArg some fr:some (eqS d.upon [])=some true) <|I hd1 <|I hd1 <|I (mulG nd) <|
     fin3 .next [.obj n0,.int (.ofNat off0),.str base,.obj fo,.int (.ofNat (here+mulS d)),.obj n,.int (.ofNat here)] H1) (by kernel_rfl)) st w) (x1.trans x2) f2 ⟨?_,?_,?_⟩ (λj hj h=>?_) ?_
   ·rw[fr,nm1,kp2 c (om180 b2) (.inl (kD)),←nm1];exact g1
   ·rw[fr];exact Fnd.mono k (c+1) _ _ nm2 (λj hj h1 h2=>kp2 j hj (.inl (om198 h2))) (om185 b2) fn1
   ·rw[fr];exact fn2
   ·have h:j < c∨c+(1+nc k+nc r)<=j:=h
    rw[kp2 j hj (om200 h),kp1 j hj (om201 h)]
   ·show es2.length<=es.length+(1+nc k+nc r);exact om202 ln1 ln2
end
end G
end
section
namespace G
open Mn
noncomputable def itF(lv:Nat)(name:List Nat)(pic:V)(us sg:List Nat)(sep:Bool)(oc:V)(up:List Nat)(cl kl:Nat)(pr:V):List (Nat×V):=[(23,.int (.ofNat lv)),(22,.str name),(21,pic),(20,.str us),(19,.str sg),(18,.bool sep),(17,oc),(16,.str up),(15,.none),(14,.bool false),(13,.bool false),(12,.obj cl),(11,.obj kl),(10,pr),(9,.none),(8,.str []),(7,.int (.ofNat 0)),(6,.int (.ofNat 0)),(5,.none)]
noncomputable def itX(lv:Nat)(name:List Nat)(pic:V)(us sg:List Nat)(sep:Bool)(oc:V)(up:List Nat)(cl kl:Nat)(pr:V):O:=.inst 148 (itF lv name pic us sg sep oc up cl kl pr)
section
variable {ns:List Int}
theorem cb_item(H:Hp)(lv:Nat)(name:List Nat){Gl:Prop}(kk:∀cl kl,(kl=H.length+2)->(Cb ns 2 148 [.int (.ofNat lv),.str name] H (.obj H.length) (H++[itX lv name .none [] [] false .none [] cl kl .none]++[O.list []]++[O.list []]))->Gl):Gl:=by
 obtain⟨cl,ec⟩:∃c,c=(H++[O.inst 148 ((itF lv name .none [] [] false .none [] 0 0 .none).take 11)]).length:=⟨_,rfl⟩
 obtain⟨kl,ek⟩:∃c,c=(H++[O.inst 148 ((itF lv name .none [] [] false .none [] cl 0 .none).take 12)]++[O.list []]).length:=⟨_,rfl⟩
 refine kk cl kl (by rw[ek,len1,len1]) ?_
 have f:=itF lv name .none [] [] false .none [] cl kl .none
 refine YL rfl (i:=119) rfl (zY (ZP (g0 H) 148 (itF lv name .none [] [] false .none [] cl kl .none) 0 11 <|ZP (g1 H (.list [])) 148 (itF lv name .none [] [] false .none [] cl kl .none) 11 1 <|ZP (g2 H (.list []) (.list [])) 148 (itF lv name .none [] [] false .none [] cl kl .none) 12 7 .nil) λ_ _=>?_)
 exact ok (yb 148 (itF lv name .none [] [] false .none [] cl kl .none) (JB H) (YQ H) (yb 148 (itF lv name .none [] [] false .none [] cl kl .none) (g1_at H (.list [])) (g1_set H (.list [])) (yb 148 (itF lv name .none [] [] false .none [] cl kl .none) (g2_at H (.list []) (.list [])) (g2_set H (.list []) (.list []))
  (fin .none (H++[itX lv name .none [] [] false .none [] cl kl .none]++[O.list []]++[O.list []])) 7 12) 1 11) 11 0) (by rw[ek,ec];kernel_rfl)
structure ItS (H0 H:Hp) (a kl:Nat) (x:O):Prop where
 ex:Ex H0 H
 at_:H[a]?=some x
 kE:H[kl]?=some (.list [])
 na:H0[a]?=none
 nk:H0[kl]?=none
theorem ItS.set{H0 H:Hp}{a kl:Nat}{fs gs:List (Nat×V)}{c:Nat}(h:ItS H0 H a kl (.inst c fs)):ItS H0 (H.set a (.inst c gs)) a kl (.inst c gs):=⟨h.ex.set h.na _,zB h.at_,zd h.kE (zi h.kE h.at_ nofun),h.na,h.nk⟩
theorem ItS.app{H0 H:Hp}{a kl:Nat}{x:O}(h:ItS H0 H a kl x)(N:Hp):ItS H0 (H++N) a kl x:=⟨h.ex.trans (Ex.app _),zk h.at_,zk h.kE,h.na,h.nk⟩
noncomputable def tls:Nat->S->S
 |0,s=>s
 |n+1,s=>tls n (tl s)
noncomputable def itL(n lv a:Nat)(x:V):Lc:=[.obj n,.int (.ofNat lv),.obj a,x]
theorem seg_a{m n lv klD:Nat}{d:D}{H0:Hp}(hm:2<=m)(hd:H0[n]?=some (.dict (dicF d klD))){Gl:Prop}(kk:∀cl kl H,(ItS H0 H H0.length kl (itX lv d.name .none d.usage [] false .none d.upon cl kl .none))->(H0.length<=kl)->(∀{rest:S} {r:As} {Q:KA},exS (P ns) (zc (P ns) 60 m) 60 rest (itL n lv H0.length .bad) H r Q->∃as,exS (P ns) (zc (P ns) 60 m) 60 (.seq (hdS f730.body) (.seq (hdS (tl f730.body)) (.seq (hdS (tl (tl f730.body))) rest))) [.obj n,.int (.ofNat lv),.bad,.bad] H0 as Q)->Gl):Gl:=by
 refine cb_item (ns:=ns) H0 lv d.name ?_;intro cl kl ek c
 obtain⟨H1,e1⟩:∃X,X=H0++[itX lv d.name .none [] [] false .none [] cl kl .none]++[O.list []]++[O.list []]:=⟨_,rfl⟩
 have k1:ItS H0 H1 H0.length kl (itX lv d.name .none [] [] false .none [] cl kl .none):=by
  have q:=ze (H:=H0++[itX lv d.name .none [] [] false .none [] cl kl .none]++[O.list []]) (o:=O.list [])
  rw[len1,len1,show H0.length+1+1=kl from ek.symm] at q
  rw[e1]
  exact⟨((Ex.app _).trans (Ex.app _)).trans (Ex.app _),zk (zk ze),q,yd,ZJ (om207 ek)⟩
 rw[←e1] at c
 have k2:ItS H0 (H1.set H0.length (itX lv d.name .none d.usage [] false .none [] cl kl .none)) H0.length kl (itX lv d.name .none d.usage [] false .none [] cl kl .none):=k1.set
 have k3:ItS H0 ((H1.set H0.length (itX lv d.name .none d.usage [] false .none [] cl kl .none)).set H0.length (itX lv d.name .none d.usage [] false .none d.upon cl kl .none)) H0.length kl (itX lv d.name .none d.usage [] false .none d.upon cl kl .none):=k2.set
 refine kk cl kl _ k3 (om207 ek) (λ{rest r Q} h=>⟨.o (.dict (dicF d klD)) <|.c (.obj H0.length) H1 <|.o (.dict (dicF d klD)) <|.o (itX lv d.name .none [] [] false .none [] cl kl .none) <|.h (H1.set H0.length (itX lv d.name .none d.usage [] false .none [] cl kl .none)) <|.o (.dict (dicF d klD)) <|.o (itX lv d.name .none d.usage [] false .none [] cl kl .none) <|.h ((H1.set H0.length (itX lv d.name .none d.usage [] false .none [] cl kl .none)).set H0.length (itX lv d.name .none d.usage [] false .none d.upon cl kl .none)) r,
  ok (I hd <|I (Cb.at (ns:=ns) (c:=m) c (Gi m) (G6 hm)) <|I (k1.ex _ _ hd) <|I k1.at_ <|I (rfl:H1.set H0.length (itX lv d.name .none d.usage [] false .none [] cl kl .none)=H1.set H0.length (itX lv d.name .none d.usage [] false .none [] cl kl .none)) <|I (k2.ex _ _ hd) <|I k2.at_ <|I (rfl:(H1.set H0.length (itX lv d.name .none d.usage [] false .none [] cl kl .none)).set H0.length (itX lv d.name .none d.usage [] false .none d.upon cl kl .none)=(H1.set H0.length (itX lv d.name .none d.usage [] false .none [] cl kl .none)).set H0.length (itX lv d.name .none d.usage [] false .none d.upon cl kl .none)) h) (by kernel_rfl)⟩)
theorem gtT{a b:Nat}(H:Hp)(h:b < a):zW .gt (.int (.ofNat a)) (.int (.ofNat b)) H=some true:=congrArg some (decide_eq_true (Dk.mpr h))
theorem seg_b{m n lv klD a kl cl:Nat}{d:D}{H0 H:Hp}{name us up:List Nat}(hm:2<=m)(hd:H0[n]?=some (.dict (dicF d klD)))(k:ItS H0 H a kl (itX lv name .none us [] false .none up cl kl .none))(o1:1<=d.often){Gl:Prop}(kk:∀oc H',(ItS H0 H' a kl (itX lv name .none us [] false (occV d.often oc) up cl kl .none))->((G8 d.often 1=true/\d.often=1∨G8 d.often 1=false/\H'[oc]?=some (occO d.often)/\H0.length<=oc))->(∀{rest:S} {r:As} {Q:KA},exS (P ns) (zc (P ns) 60 m) 60 rest (itL n lv a .bad) H' r Q->∃as,exS (P ns) (zc (P ns) 60 m) 60 (.seq (hdS (tl (tl (tl f730.body)))) rest) (itL n lv a .bad) H as Q)->Gl):Gl:=by
 have hd1:=k.ex _ _ hd
 rcases GW 1 d.often with g|g
 ·have e:G8 d.often 1=false:=Jl g
  have c:=KI (ns:=ns) H d.often
  have k1:=k.app [occO d.often]
  have k2:ItS H0 ((H++[occO d.often]).set a (itX lv name .none us [] false (.obj H.length) up cl kl .none)) a kl (itX lv name .none us [] false (.obj H.length) up cl kl .none):=k1.set
  have ho:((H++[occO d.often]).set a (itX lv name .none us [] false (.obj H.length) up cl kl .none))[H.length]?=some (occO d.often):=zd ze (zi ze k1.at_ λe=>by cases e)
  have le:H0.length<=H.length:=by
   rcases GW H.length H0.length with l|l
   ·have:=k.ex _ _ (List.getElem?_eq_getElem l)
    rw[yd] at this;cases this
   ·exact l
  refine kk H.length _ (by rw[occ_ob e];exact k2) (.inr ⟨e,ho,le⟩) (λ{rest r Q} h=>⟨.o (.dict (dicF d klD)) <|.b true <|.b true <|.o (.dict (dicF d klD)) <|.c (.obj H.length) (H++[occO d.often]) <|.o (itX lv name .none us [] false .none up cl kl .none) <|.h ((H++[occO d.often]).set a (itX lv name .none us [] false (.obj H.length) up cl kl .none)) r,
   ok (I hd1 <|I (gtT H g) <|I (bq true) <|I hd1 <|I (Cb.at (ns:=ns) (c:=m) c (Gi m) (G6 hm)) <|I k1.at_ <|I (rfl:(H++[occO d.often]).set a (itX lv name .none us [] false (.obj H.length) up cl kl .none)=(H++[occO d.often]).set a (itX lv name .none us [] false (.obj H.length) up cl kl .none)) h) (by kernel_rfl)⟩)
 ·have e:G8 d.often 1=true:=G6 g
  exact kk 0 H (by rw[occ_no e];exact k) (.inl ⟨e,GP g o1⟩) (λ{rest r Q} h=>⟨.o (.dict (dicF d klD)) <|.b false <|.b false r,ok (I hd1 <|I (kK H g) <|I (bq false) h) (by kernel_rfl)⟩)
theorem seg_c{m n lv klD a kl cl:Nat}{d:D}{H0 H:Hp}{name us up:List Nat}{oc:V}(hd:H0[n]?=some (.dict (dicF d klD)))(k:ItS H0 H a kl (itX lv name .none us [] false oc up cl kl .none)){Gl:Prop}(kk:∀H',(ItS H0 H' a kl (itX lv name (picV d.leaf) us (yZ d.leaf) (sepB d.leaf) oc up cl kl .none))->(ExA a H H')->(∀{rest:S} {r:As} {Q:KA},exS (P ns) (zc (P ns) 60 m) 60 rest (itL n lv a .bad) H' r Q->∃as,exS (P ns) (zc (P ns) 60 m) 60 (.seq (hdS (tl (tl (tl (tl f730.body))))) rest) (itL n lv a .bad) H as Q)->Gl):Gl:=by
 obtain⟨name',often',usage',leaf',upon',size'⟩:=d
 rcases leaf' with _|⟨t,sep⟩
 ·have hd1:=k.ex _ _ hd
  exact kk H k (.of (Ex.refl H)) (λ{rest r Q} h=>⟨.o (.dict (dicF ⟨name',often',usage',none,upon',size'⟩ klD)) <|.b false <|.b false r,ok (I hd1 <|I (isnN H) <|I (bq false) h) (by kernel_rfl)⟩)
 ·have k1:ItS H0 (H.set a (itX lv name (.str t) us [] false oc up cl kl .none)) a kl (itX lv name (.str t) us [] false oc up cl kl .none):=k.set
  have k2:ItS H0 ((H.set a (itX lv name (.str t) us [] false oc up cl kl .none)).set a (itX lv name (.str t) us (yZ (some (t,sep))) false oc up cl kl .none)) a kl (itX lv name (.str t) us (yZ (some (t,sep))) false oc up cl kl .none):=k1.set
  have k3:ItS H0 (((H.set a (itX lv name (.str t) us [] false oc up cl kl .none)).set a (itX lv name (.str t) us (yZ (some (t,sep))) false oc up cl kl .none)).set a (itX lv name (.str t) us (yZ (some (t,sep))) sep oc up cl kl .none)) a kl (itX lv name (.str t) us (yZ (some (t,sep))) sep oc up cl kl .none):=k2.set
  refine kk _ k3 (((ExA.set _).trans (ExA.set _)).trans (ExA.set _)) (λ{rest r Q} h=>⟨.o (.dict (dicF ⟨name',often',usage',some (t,sep),upon',size'⟩ klD)) <|.b true <|.b true <|.o (.dict (dicF ⟨name',often',usage',some (t,sep),upon',size'⟩ klD)) <|.o (itX lv name .none us [] false oc up cl kl .none) <|.h (H.set a (itX lv name (.str t) us [] false oc up cl kl .none)) <|
   .o (.dict (dicF ⟨name',often',usage',some (t,sep),upon',size'⟩ klD)) <|.b sep <|.o (itX lv name (.str t) us [] false oc up cl kl .none) <|.h ((H.set a (itX lv name (.str t) us [] false oc up cl kl .none)).set a (itX lv name (.str t) us (yZ (some (t,sep))) false oc up cl kl .none)) <|
   .o (.dict (dicF ⟨name',often',usage',some (t,sep),upon',size'⟩ klD)) <|.o (itX lv name (.str t) us (yZ (some (t,sep))) false oc up cl kl .none) <|.h (((H.set a (itX lv name (.str t) us [] false oc up cl kl .none)).set a (itX lv name (.str t) us (yZ (some (t,sep))) false oc up cl kl .none)).set a (itX lv name (.str t) us (yZ (some (t,sep))) sep oc up cl kl .none)) r,?_⟩)
  have hd0:=k.ex _ _ hd
  have hd1:=k1.ex _ _ hd
  have hd2:=k2.ex _ _ hd
  have i1:zW .isnot (.tup [.str t,.str usage',.bool sep,.int (.ofNat size')]) .none H=some true:=rfl
  have r1:=rfl (a:=H.set a (itX lv name (.str t) us [] false oc up cl kl .none))
  have r2:=rfl (a:=(H.set a (itX lv name (.str t) us [] false oc up cl kl .none)).set a (itX lv name (.str t) us (yZ (some (t,sep))) false oc up cl kl .none))
  have r3:=rfl (a:=((H.set a (itX lv name (.str t) us [] false oc up cl kl .none)).set a (itX lv name (.str t) us (yZ (some (t,sep))) false oc up cl kl .none)).set a (itX lv name (.str t) us (yZ (some (t,sep))) sep oc up cl kl .none))
  rcases sep with _|_
  ·exact ok (I hd0 <|I i1 <|I (bq true) <|I hd0 <|I k.at_ <|I r1 <|I hd1 <|I (bq false) <|I k1.at_ <|I r2 <|I hd2 <|I k2.at_ <|I r3 h) (by kernel_rfl)
  ·exact ok (I hd0 <|I i1 <|I (bq true) <|I hd0 <|I k.at_ <|I r1 <|I hd1 <|I (bq true) <|I k1.at_ <|I r2 <|I hd2 <|I k2.at_ <|I r3 h) (by kernel_rfl)
end
end G
end
section
namespace G
open Mn
noncomputable def Now(T:St)(H:Hp):Prop:=∀(b:Nat) (s:SI),T b=some s->H[b]?=some (zb s [] 0 0 .none)/\Side s H
theorem Now.inv{T:St}{H:Hp}(h:Now T H):Inv T H:=λb s t=>⟨⟨[],0,0,.none,(h b s t).1⟩,(h b s t).2⟩
theorem Now.ex{T:St}{H H':Hp}(h:Now T H)(e:Ex H H'):Now T H':=λb s t=>⟨e _ _ (h b s t).1,(h b s t).2.ex e⟩
noncomputable def extT(T:St)(a:Nat)(s:SI):St:=λb=>match Gg b a with|true=>some s|false=>T b
theorem Kt{T:St}{a:Nat}{s:SI}:extT T a s a=some s:=by
 show(match Gg a a with|true=>some s|false=>T a)=_
 rw[Fd]
theorem yy{T:St}{a b:Nat}{s s':SI}(h:extT T a s b=some s'):b=a/\s'=s∨b≠a/\T b=some s':=by
 refine(?_:(match Gg b a with|true=>some s|false=>T b)=some s'->_) h
 rcases e:Gg b a with _|_
 ·exact λh=>.inr ⟨Dd e,h⟩
 ·exact λh=>.inl ⟨Go e,(Ga h).symm⟩
theorem Ks{T:St}{a:Nat}{s:SI}(n:T a=none){b:Nat}{s':SI}(h:T b=some s'):extT T a s b=some s':=by
 show(match Gg b a with|true=>some s|false=>T b)=_
 rcases e:Gg b a with _|_
 ·exact h
 ·rw[Go e,n] at h;cases h
theorem Des.mono{T T':St}{base:List Nat}(m:∀b s,T b=some s->T' b=some s):∀(f:F) (anc:List Nat) (h l:Nat) (as:List Nat),Des T base anc h l f as->Des T' base anc h l f as:=by
 intro f
 induction f with
 |nil=>
  intro y1 y2 y3 y4 h
  exact h
 |node d k r ihk ihr=>
  intro anc h l as q
  refine Zh (q) ?_;clear q;intro a rs s e n q1 q2
  exact⟨a,rs,s,e,⟨m _ _ n.t,n.d,n.lv,n.par,n.base,n.off⟩,ihk _ _ _ _ q1,ihr _ _ _ _ q2⟩
section
variable {ns:List Int} {base:List Nat}
theorem cb_add{H:Hp}{pa a klp:Nat}{s:SI}{oc:V}{fs:List (Nat×V)}{as:List Nat}(hp:H[pa]?=some (.inst 148 fs))(hk:getF 11 fs=some (.obj klp))(ha:H[a]?=some (yg s oc .none [] 0 0 .none))(hl:H[klp]?=some (.list (as.map .obj)))(n:a≠pa)(b:as.length < 1000) :
  Cb ns 1 126 [.obj pa,.obj a] H .none ((H.set a (yg s oc (.obj pa) [] 0 0 .none)).set klp (.list ((as++[a]).map .obj))):=by
 have hp1:=zd (x:=yg s oc (.obj pa) [] 0 0 .none) hp n
 have hl1:=zd (x:=yg s oc (.obj pa) [] 0 0 .none) hl (zi hl ha λe=>by cases e)
 obtain⟨H1,e1⟩:∃X,X=H.set a (yg s oc (.obj pa) [] 0 0 .none):=⟨_,rfl⟩
 rw[←e1] at hp1 hl1 ⊢
 exact zY (.o (yg s oc .none [] 0 0 .none) <|.h H1 <|.o (.inst 148 fs) <|.w (.obj klp) <|.g <|.o (.list (as.map .obj)) <|.g <|.h (H1.set klp (.list ((as++[a]).map .obj))) .nil) λ_ _=>
  ok (I ha <|I e1.symm <|I hp1 <|I hk <|I (zN (b:=.append) hl1) <|I hl1 <|I (yK b) <|I (by rw[Zt]:H1.set klp (.list (as.map V.obj++[V.obj a]))=H1.set klp (.list ((as++[a]).map .obj))) <|fin .none (H1.set klp (.list ((as++[a]).map .obj)))) (by kernel_rfl)
noncomputable def NewT(T T':St)(n:Nat):Prop:=∀b s,T' b=some s->T b=some s∨n<=b/\n<=s.kl
noncomputable def ItLoop(ns:List Int)(base:List Nat)(f:F):Prop:=∀(e anc:List Nat) (here last lvp n0 pa klp ip B m:Nat) (l:Option D) (vs ws:List V) (fs:List (Nat×V)) (as0:List Nat) (T:St) (H0 H:Hp) (x:V),
 ht f+2<=m->Ex H0 H->DF B H0 f vs->H0[ip]?=some (.list ws)->Z2 ws ws=true->H0[klp]?=none->H[pa]?=some (.inst 148 fs)->getF 11 fs=some (.obj klp)->H[klp]?=some (.list (as0.map .obj))->Now T H->T pa=none->(∀b s,T b=some s->s.kl≠klp)->
 anc.head?=some pa->lvp+4=1+4*anc.length->Wf e l f->as0.length+nc f<=900->
 ∀{Gl:Prop},(∀H' T' as y,(ForR (P ns) (zc (P ns) 60 m) 60 (bd f730 0) [3] true (.lst ip ws) vs (itL n0 lvp pa x) H .next (itL n0 lvp pa y) H')->(Ex H0 H')->(ExA klp H H')->(H.length<=H'.length)->(H'[klp]?=some (.list ((as0++as).map .obj)))->(Now T' H')->((∀b s,T b=some s->T' b=some s))->(NewT T T' H.length)->(Des T' base anc here last f as)->Gl)->Gl
noncomputable def ItNode(ns:List Int)(base:List Nat)(d:D)(k:F):Prop:=∀(e anc:List Nat) (off n klD B m:Nat) (kv:List V) (T:St) (H:Hp),
 ht k+2<=m->H[n]?=some (.dict (dicF d klD))->H[klD]?=some (.list kv)->DF B H k kv->Now T H->Nd e d k->Wf (effD e d) none k->nc k<=900->
 ∀{Gl:Prop},(∀H' T' a s,(Call (zc (P ns) 60 (m+1)) 730 [.obj n,.int (.ofNat (1+4*anc.length))] H (.obj a) H')->(Ex H H')->(H.length<=a)->(H.length<=H'.length)->(H.length<=s.kl)->(s.d=d)->(s.level=1+4*anc.length)->(s.par=anc.head?)->(s.base=base)->(s.off=off)->(H'[a]?=some (yg s (occV d.often s.oc) .none [] 0 0 .none))->(Side s H')->(Now T' H')->((∀b s,T b=some s->T' b=some s))->(NewT T T' H.length)->(T' a=none)->((∀b s',T' b=some s'->s'.kl≠s.kl))->(Des T' base (a::anc) off 0 k s.kids)->Gl)->Gl
theorem body730:f730.body= .seq (hdS f730.body) (.seq (hdS (tl f730.body)) (.seq (hdS (tl (tl f730.body))) (.seq (hdS (tl (tl (tl f730.body)))) (.seq (hdS (tl (tl (tl (tl f730.body))))) (tl (tl (tl (tl (tl f730.body))))))))):=by kernel_rfl
theorem kS{d:D}{k:F}(IH:ItLoop ns base k):ItNode ns base d k:=by
 intro e anc off n klD B m kv T H hm hd hk df nw nd wf b Gl kG
 have m2:2<=m:=by exact om208 hm
 refine seg_a (ns:=ns) (lv:=1+4*anc.length) m2 hd ?_;intro cl kl Ha ka lk ra
 refine seg_b (ns:=ns) (lv:=1+4*anc.length) m2 hd ka nd.of1 ?_;intro oc Hb kb ho rb
 refine seg_c (ns:=ns) (m:=m) (lv:=1+4*anc.length) hd kb ?_;intro Hc kc xc rc
 have tn:T H.length=none:=nw.inv.no yd
 have lc:H.length < Hc.length:=Zu kc.at_
 refine IH (effD e d) (H.length::anc) off 0 (1+4*anc.length) n H.length kl klD B m none kv kv _ [] T H Hc .bad hm kc.ex df hk (DF.objs _ _ df) kc.nk kc.at_ rfl kc.kE (nw.ex kc.ex) tn
  (λb s t e=>by have q:=(nw b s t).2.kids;rw[e,kc.nk] at q;cases q) rfl (by rw[GB];exact om210) wf (by rw[D5];exact om212 b) ?_;intro H' T' as y w ex xa ln hl nw' sub new ds
 have la:kl≠H.length:=zi kc.at_ kc.kE nofun
 have ha:=xa _ _ kc.at_ la.symm
 have fin:exS (P ns) (zc (P ns) 60 m) 60 (tl (tl (tl (tl (tl f730.body))))) (itL n (1+4*anc.length) H.length .bad) Hc (.o (.dict (dicF d klD)) <|.it (.lst klD kv) <|.l .next (itL n (1+4*anc.length) H.length y) H' .nil) (λfl _ H₁ _=>Xy fl (.obj H.length)/\H₁=H'):=
  ok (I (kc.ex _ _ hd) <|I (zo (kc.ex _ _ hk)) <|I w <|Mn.fin (.obj H.length) H') (by kernel_rfl)
 refine zh (rc fin) λa1 q1=>?_
 refine zh (rb q1) λa2 q2=>?_
 refine zh (ra q2) λa3 q3=>?_
 refine kG H' T' H.length ⟨d,1+4*anc.length,anc.head?,kl,cl,oc,as,base,off⟩ (zu (as:=a3) (ok (by rw[body730];exact q3:exS (P ns) (zc (P ns) 60 m) 60 f730.body [.obj n,.int (.ofNat (1+4*anc.length)),.bad,.bad] H a3 _) (by kernel_rfl))) ex (Gi _) (om218 lc ln) lk rfl rfl rfl rfl rfl ha ⟨hl,?_⟩ nw' sub (λb s t=>(new b s t).imp id λh=>⟨by exact om219 lc h,by exact om221 lc h⟩) ?_ (λb s' t q=>?_) ds
 ·refine ho.imp id λ⟨e,h,_⟩=>⟨e,?_⟩
  have h1:=xc _ _ h (zi h kb.at_ λe=>by cases e).symm
  exact xa _ _ h1 (zi h1 kc.kE λe=>by cases e).symm
 ·rcases t:T' H.length with _|s'
  ·rfl
  ·rcases new _ _ t with h|h
   ·rw[tn] at h;cases h
   ·exact absurd h.1 (DI lc)
 ·rcases new b s' t with h|h
  ·have q2:=(nw b s' h).2.kids
   rw[show s'.kl=kl from q,kc.nk] at q2;cases q2
  ·have:=Zu kc.kE
   have q:s'.kl=kl:=q
   exact om222 h this q
theorem it_all(f:F):ItLoop ns base f:=by
 induction f with
 |nil=>
  intro e anc here last lvp n0 pa klp ip B m l vs ws fs as0 T H0 H x hm ex df hi hw nk hp hg hl nw tp kk ha lv wf b Gl kG
  have q:vs=[]:=df
  subst q
  exact kG H T ([]) x zV ex (.of (Ex.refl H)) (Gi _) (by rw[GH];exact hl) nw (λ_ _ h=>h) (λ_ _ h=>.inl h) rfl
 |node d k r it_k it_r=>
  intro e anc here last lvp n0 pa klp ip B m l vs ws fs as0 T H0 H x hm ex df hi hw nk hp hg hl nw tp kk ha lv wf b Gl kG
  refine xe4c7 (df) ?_;clear df;intro n kl kv r' rq4 bn bk hd hk dk dr;subst rq4
  refine zC (wf) ?_;clear wf;intro nd wk wr
  have b:as0.length+(1+nc k+nc r)<=900:=b
  have hm1:ht k+1+2<=m:=G5 (Dy (Dw _ _) 2) hm
  have hm2:ht r+2<=m:=G5 (Dy (GZ _ _) 2) hm
  obtain⟨m,rfl⟩:=GT (show 1<=m by exact om209 hm1)
  have wr':∃l',Wf e l' r:=by
   rcases fr:fre d with _|_
   ·rw[fr] at wr;exact⟨_,wr.2⟩
   ·rw[fr] at wr;exact⟨_,wr⟩
  refine zh (wr') ?_;clear wr';intro l' wq
  refine kS it_k e anc (ifN (fre d) here last) n kl B m kv T H (om211 hm1) (ex _ _ hd) (ex _ _ hk) (DF.mono (Gi _) (λi o _ h=>ex i o h) _ _ dk) nw nd wk (om92 b) ?_
  intro H1 T1 a s c1 x1 la ln1 lk e1 e2 e3 e4 e5 hs sd nw1 sub1 new1 t1a kn1 ds1
  subst e1
  have hp1:=x1 _ _ hp
  have hl1:=x1 _ _ hl
  have pl:pa < H.length:=Zu hp
  have kl':klp < H.length:=Zu hl
  have ne:a≠pa:=by exact om215 la pl
  have c2:=cb_add (ns:=ns) hp1 hg hs hl1 ne (by exact on4 (by assumption))
  rw[show(1+4*anc.length:Nat)=lvp+4 from lv.symm] at c1
  have ho:yg s (occV s.d.often s.oc) (.obj pa) [] 0 0 .none=zb s [] 0 0 .none:=by
   show _=yg s (occV s.d.often s.oc) (parV s.par) [] 0 0 .none
   rw[e3,ha];rfl
  rw[ho] at c2
  obtain⟨H3,q3⟩:∃X,X=(H1.set a (zb s [] 0 0 .none)).set klp (.list ((as0++[a]).map .obj)):=⟨_,rfl⟩
  have x13:∀(i:Nat) (o:O),H1[i]?=some o->i≠a->i≠klp->((H1.set a (zb s [] 0 0 .none)).set klp (.list ((as0++[a]).map .obj)))[i]?=some o:=λi o h n1 n2=>zd (zd h n1.symm) n2.symm
  have a3:((H1.set a (zb s [] 0 0 .none)).set klp (.list ((as0++[a]).map .obj)))[a]?=some (zb s [] 0 0 .none):=zd (zB hs) (om216 la kl')
  have k3:((H1.set a (zb s [] 0 0 .none)).set klp (.list ((as0++[a]).map .obj)))[klp]?=some (.list ((as0++[a]).map .obj)):=zB (zd hl1 (om215 la kl'))
  have l3:((H1.set a (zb s [] 0 0 .none)).set klp (.list ((as0++[a]).map .obj))).length=H1.length:=by rw[GQ,GQ]
  rw[←q3] at c2 x13 a3 k3 l3
  have exA:ExA klp H H3:=λi o h n1=>x13 _ _ (x1 _ _ h) (by have:=Zu h;exact om216 la this) n1
  have ex3:Ex H0 H3:=λi o h=>exA _ _ (ex _ _ h) λq=>by rw[q,nk] at h;cases h
  have sd3:∀{s':SI},s'.kl≠klp->Side s' H1->Side s' H3:=λ{s'} n1 q=>⟨x13 _ _ q.kids (zi q.kids hs nofun).symm n1,q.occ.imp id λq=>⟨q.1,x13 _ _ q.2 (zi q.2 hs λe=>by cases e).symm (zi q.2 hl1 λe=>by cases e).symm⟩⟩
  have sk:s.kl≠klp:=by exact om215 lk kl'
  have kk1:∀b s',T1 b=some s'->s'.kl≠klp:=λb s' t=>(new1 b s' t).elim (kk b s') λh=>by exact om220 kl' h
  have nw3:Now (extT T1 a s) H3:=λb s' t=>by
   rcases yy t with⟨rfl,rfl⟩|⟨n1,t⟩
   ·exact⟨a3,sd3 sk sd⟩
   ·have q:=nw1 b s' t
    exact⟨x13 _ _ q.1 n1 (zi q.1 hl1 nofun).symm,sd3 (kk1 b s' t) q.2⟩
  have tp3:extT T1 a s pa=none:=by
   rcases t:extT T1 a s pa with _|s'
   ·rfl
   ·rcases yy t with⟨q,_⟩|⟨_,t⟩
    ·exact absurd q.symm ne
    ·rcases new1 _ _ t with h|h
     ·rw[tp] at h;cases h
     ·exact absurd h.1 (DI pl)
  have kk3:∀b s',extT T1 a s b=some s'->s'.kl≠klp:=λb s' t=>by
   rcases yy t with⟨_,rfl⟩|⟨_,t⟩
   ·exact sk
   ·exact kk1 b s' t
  refine it_r e anc (ifN (fre s.d) (here+mulS s.d) here) (ifN (fre s.d) here last) lvp n0 pa klp ip B (m+1) l' r' ws fs (as0++[a]) (extT T1 a s) H0 H3 (.obj n) hm2 ex3 dr hi hw nk (exA _ _ hp (zi hp hl nofun).symm) hg k3 nw3 tp3 kk3 ha lv wq (by rw[G7,D8];exact on5 (by assumption)) ?_
  intro H' T' as y w ex' xa ln hl' nw' sub new ds
  rw[Gk] at hl'
  have subA:∀b s',T1 b=some s'->T' b=some s':=λb s' t=>sub _ _ (Ks t1a t)
  exact kG H' T' (a::as) y (zx (as:=.o (.inst 148 fs) <|.c (.obj a) H1 <|.c .none H3 .nil) rfl (ok (I hp <|I c1 <|I (c2.at (ns:=ns) (c:=m+1) (Gi _) (G6 (GJ 1 m))) <|fin3 .next (itL n0 lvp pa (.obj n)) H3) (by kernel_rfl)) (yA (ex3 _ _ hi) hw) w) ex' (exA.trans xa) (om223 ln1 l3 ln) hl' nw' (λb s' t=>subA _ _ (sub1 _ _ t)) (λb s' t=>by
   rcases new b s' t with h|h
   ·rcases yy h with⟨rfl,rfl⟩|⟨_,t⟩
    ·exact .inr ⟨la,lk⟩
    ·exact new1 b s' t
   ·exact .inr ⟨by exact om224 ln1 l3 h,by exact om225 ln1 l3 h⟩) ⟨a,as,s,rfl,⟨sub _ _ Kt,rfl,e2,e3,e4,e5⟩,Des.mono subA _ _ _ _ _ ds1,ds⟩
end
end G
end
section
namespace G
open Mn
theorem Pre.mono{T T':St}(m:∀b s,T b=some s->T' b=some s):∀(f:F) (as res:List Nat),Pre T f as res->Pre T' f as res:=by
 intro f
 induction f with
 |nil=>
  intro y1 y2 h
  exact h
 |node d k r ihk ihr=>
  intro y1 y2 h
  refine YV (h) ?_;clear h;intro a rs s x y e t h1 h2 e2
  exact⟨a,rs,s,x,y,e,m _ _ t,ihk _ _ h1,ihr _ _ h2,e2⟩
noncomputable def Good(T:St)(es:List (List Nat×V))(c:Nat)(a:Nat):Prop:=∃s,T a=some s/\getD s.d.name es=some (plV s.base s.off s.d.size)/\nb s.kids=s.d.leaf.isNone/\(∃j,j < c/\s.d.name=nmS j)/\∃g x,Pre T g [a] x/\nc g<=40
theorem Good.mono{T T':St}{es es':List (List Nat×V)}{c c' a:Nat}(h:Good T es c a)(m:∀b s,T b=some s->T' b=some s)(k:∀j,j < c->getD (nmS j) es'=getD (nmS j) es)(l:c<=c'):Good T' es' c' a:=by
 obtain⟨s,t,h1,h2,⟨j,hj,ej⟩,g,x,h3,h4⟩:=h
 exact⟨s,m _ _ t,by rw[ej,k j hj,←ej];exact h1,h2,⟨j,GR hj l,ej⟩,g,x,Pre.mono m _ _ _ h3,h4⟩
theorem des_all{T:St}{es:List (List Nat×V)}{base:List Nat}: ∀(f:F) (e anc:List Nat) (l:Option D) (h la c:Nat) (as:List Nat),Des T base anc h la f as->Wf e l f->Nms c f->Fnd es base h la f->nc f<=39->∃res,Pre T f as res/\res.map (nmV T)=pnm f/\∀a,a∈res->Good T es (c+nc f) a:=by
 intro f
 induction f with
 |nil=>
  intro y0 y1 y2 y3 y4 y5 as q y8 y9 y10 y11
  exact⟨[],⟨q,rfl⟩,rfl,λ_ m=>nomatch m⟩
 |node d k r ihk ihr=>
  intro e anc l h la c as q wf nm fn b
  refine Zh (q) ?_;clear q;intro a rs s rq3 nd q1 q2;subst rq3
  refine zC (wf) ?_;clear wf;intro sn wk wr
  refine zC (nm) ?_;clear nm;intro n1 n2 n3
  refine zC (fn) ?_;clear fn;intro f1 f2 f3
  have b:1+nc k+nc r<=39:=b
  have wr':∃l',Wf e l' r:=by
   rcases fr:fre d with _|_
   ·rw[fr] at wr;exact⟨_,wr.2⟩
   ·rw[fr] at wr;exact⟨_,wr⟩
  refine zh (wr') ?_;clear wr';intro l' wq
  obtain rfl:=nd.d
  have e1:c+1+nc k<=c+nc (.node s.d k r):=by show _<=c+(1+nc k+nc r);exact om213
  have e2:c+1+nc k+nc r<=c+nc (.node s.d k r):=by show _<=c+(1+nc k+nc r);exact om214
  refine yQ (ihk (effD e s.d) (a::anc) none _ _ (c+1) _ q1 wk n2 f2 (by exact on6 (by assumption))) λx p1 m1 g1=>?_
  refine yQ (ihr e anc l' _ _ (c+1+nc k) _ q2 wq n3 f3 (by exact on7 (by assumption))) λy p2 m2 g2=>?_
  refine⟨a::(x++y),⟨a,rs,s,x,y,rfl,nd.t,p1,p2,rfl⟩,?_,λa' m=>?_⟩
  ·show nmV T a::(x++y).map (nmV T)=V.str s.d.name::(pnm k++pnm r)
   rw[YO nd.t,Gw,m1,m2]
  ·rcases Gh.mp m with rfl|m
   ·refine⟨s,nd.t,?_,?_,⟨c,by exact om217 e1,n1⟩,.node s.d k .nil,_,⟨a',[],s,x,[],rfl,nd.t,p1,⟨rfl,rfl⟩,rfl⟩,by show 1+nc k+0<=40;exact on8 (by assumption)⟩
    ·rw[nd.base,nd.off];exact f1
    ·rcases sn.is with⟨t,sep,hl,hk,_⟩|⟨hl,hk,_⟩
     ·rw[hl]
      subst hk
      have e:s.kids=[]:=q1
      rw[e];rfl
     ·rw[hl]
      rcases k with _|⟨d',k',r'⟩
      ·exact absurd rfl hk
      ·exact q1.len
   ·rcases Gn.mp m with m|m
    ·exact(g1 a' m).mono (λ_ _ h=>h) (λ_ _=>rfl) e1
    ·exact(g2 a' m).mono (λ_ _ h=>h) (λ_ _=>rfl) e2
structure Acc (T:St) (es:List (List Nat×V)) (as:List Nat) (nv:List V) (all:List Nat):Prop where
 pre:RPre T as all
 nm:all.map (nmV T)=nv
 good:∀a,a∈all->Good T es nv.length a
theorem RPre.mono{T T':St}(m:∀b s,T b=some s->T' b=some s):∀(as all:List Nat),RPre T as all->RPre T' as all:=by
 intro as
 induction as with
 |nil=>
  intro y1 h
  exact h
 |cons a r ih=>
  intro y1 h
  refine Zh (h) ?_;clear h;intro f x y h1 h2 h3 e
  exact⟨f,x,y,Pre.mono m _ _ _ h1,h2,ih _ h3,e⟩
theorem RPre.app{T:St}: ∀(as bs x y:List Nat),RPre T as x->RPre T bs y->RPre T (as++bs) (x++y):=by
 intro as
 induction as with
 |nil=>
  intro bs x y h k
  have e:x=[]:=h
  subst e
  exact k
 |cons a r ih=>
  intro bs x y h k
  refine Zh (h) ?_;clear h;intro f u v h1 h2 h3 rq6;subst rq6
  exact⟨f,u,v++y,h1,h2,ih bs v y h3 k,Gk ..⟩
theorem Acc.nil{T:St}{es:List (List Nat×V)}:Acc T es [] [] []:=⟨rfl,rfl,λ_ m=>nomatch m⟩
theorem Acc.len{T:St}{es:List (List Nat×V)}{as all:List Nat}{nv:List V}(h:Acc T es as nv all):all.length=nv.length:=by rw[←h.nm,Gm]
theorem Acc.mono{T T':St}{es es':List (List Nat×V)}{as all:List Nat}{nv:List V}(h:Acc T es as nv all)(m:∀b s,T b=some s->T' b=some s)(k:∀j,j < nv.length->getD (nmS j) es'=getD (nmS j) es):Acc T' es' as nv all:=
 ⟨RPre.mono m _ _ h.pre,by
  rw[←h.nm]
  refine Fw λa ha=>?_
  refine za (h.good a ha) λs t _=>?_
  rw[YO t,YO (m _ _ t)],λa ha=>(h.good a ha).mono m k (Gi _)⟩
theorem Acc.snoc{T:St}{es:List (List Nat×V)}{as all:List Nat}{nv:List V}{base:List Nat}{off:Nat}{d:D}{kids:F}{a:Nat}{s:SI}(h:Acc T es as nv all)(nd:Node T base [] off d a s)(ds:Des T base [a] off 0 kids s.kids)(sn:Nd [] d kids)(wf:Wf (effD [] d) none kids)(nm:d.name=nmS nv.length)(nk:Nms (nv.length+1) kids)
  (g:getD d.name es=some (plV base off d.size)) (fn:Fnd es base off 0 kids) (b:nc kids<=38):∃all',Acc T es (as++[a]) (nv++.str d.name::pnm kids) all':=by
 have ds':Des T base [] off off (.node d kids .nil) [a]:=⟨a,[],s,rfl,by
  have e:ifN (fre d) off off=off:=by rcases fre d<;>rfl
  rw[e];exact⟨nd,ds,rfl⟩⟩
 have e:ifN (fre d) off off=off:=by rcases fre d<;>rfl
 have wf':Wf [] none (.node {d with upon:=[]} kids .nil):=⟨⟨sn.of1,sn.of3,sn.sz,sn.is⟩,wf,trivial⟩
 refine yQ (des_all (es:=es) kids (effD [] d) [a] none off 0 (nv.length+1) s.kids ds wf nk fn (om226 b)) λx p m gd=>?_
 have pr:Pre T (.node d kids .nil) [a] (a::(x++[])):=⟨a,[],s,x,[],rfl,nd.t,p,⟨rfl,rfl⟩,rfl⟩
 have nl:(nv++V.str d.name::pnm kids).length=nv.length+1+nc kids:=by rw[G7,GB,Zj];exact om145
 refine⟨all++(a::(x++[])),RPre.app _ _ _ _ h.pre ⟨_,_,[],pr,by show 1+nc kids+0<=50;exact om227 b,rfl,(GH _).symm⟩,?_,λb hb=>?_⟩
 ·rw[Gw,h.nm,GH]
  show nv++nmV T a::x.map (nmV T)=_
  rw[YO nd.t,nd.d,m]
 ·rw[nl]
  rcases Gn.mp hb with hb|hb
  ·exact(h.good b hb).mono (λ_ _ h=>h) (λ_ _=>rfl) (om228)
  ·rw[GH] at hb
   rcases Gh.mp hb with rfl|hb
   ·obtain rfl:=nd.d
    refine⟨s,nd.t,?_,?_,⟨nv.length,by exact kD,nm⟩,_,_,pr,by show 1+nc kids+0<=40;exact on10 (by assumption)⟩
    ·rw[nd.base,nd.off];exact g
    ·rcases sn.is with⟨t,sep,hl,hk,_⟩|⟨hl,hk,_⟩
     ·rw[hl]
      subst hk
      have e:s.kids=[]:=ds
      rw[e];rfl
     ·rw[hl]
      rcases kids with _|⟨d',k',r'⟩
      ·exact absurd rfl hk
      ·exact ds.len
   ·exact gd b hb
end G
end
section
namespace G
open Mn
noncomputable def gA(g:O->Hp)(l:O)(x:O):Hp:=g x++[l]
theorem Kh{g:O->Hp}{i:Nat}{l:O}(h:∀x,(g x)[i]?=some x)(x:O):(gA g l x)[i]?=some x:=zk (h x)
theorem XL{g:O->Hp}{i:Nat}{l:O}(h:∀x,(g x)[i]?=some x)(k:∀x y,(g x).set i y=g y)(x y:O):(gA g l x).set i y=gA g l y:=by
 show(g x++[l]).set i y=g y++[l]
 rw[jf (Zu (h x)),k]
theorem ym{g:O->Hp}{l x:O}:(gA g l x).length=(g x).length+1:=len1 _ _
theorem jv{g:O->Hp}{l x:O}:(gA g l x)[(g x).length]?=some l:=ze
noncomputable def datF(wl ll fd sl ix:Nat):List (Nat×V):=[(27,.obj wl),(26,.obj ll),(25,.obj fd),(24,.obj sl),(6,.int (.ofNat 0)),(0,.obj ix)]
section
variable {ns:List Int}
theorem cb_data(H:Hp){Gl:Prop}(kk:∀H',(Cb ns 2 174 [] H (.obj H.length) H')->(Ex H H')->(H'.length=H.length+6)->(H'[H.length]?=some (datO (H.length+1) (H.length+2) (H.length+3) (H.length+4) 0 (H.length+5)))->(H'[H.length+1]?=some (.list []))->(H'[H.length+2]?=some (.list []))->(H'[H.length+3]?=some (.dict []))->Gl):Gl:=by
 obtain⟨wl,e1⟩:∃c,c=(g0 H (.inst 174 [])).length:=⟨_,rfl⟩
 obtain⟨ll,e2⟩:∃c,c=(gA (g0 H) (.list []) (.inst 174 ((datF wl 0 0 0 0).take 1))).length:=⟨_,rfl⟩
 obtain⟨fd,e3⟩:∃c,c=(gA (gA (g0 H) (.list [])) (.list []) (.inst 174 ((datF wl ll 0 0 0).take 2))).length:=⟨_,rfl⟩
 obtain⟨sl,e4⟩:∃c,c=(gA (gA (gA (g0 H) (.list [])) (.list [])) (.dict []) (.inst 174 ((datF wl ll fd 0 0).take 3))).length:=⟨_,rfl⟩
 obtain⟨ix,e5⟩:∃c,c=(gA (gA (gA (gA (g0 H) (.list [])) (.list [])) (.dict [])) (.list []) (.inst 174 ((datF wl ll fd sl 0).take 5))).length:=⟨_,rfl⟩
 have l0:∀x,(g0 H x).length=H.length+1:=λx=>len1 _ _
 have a0:=JB H
 have s0:=YQ H
 have a1:∀x,(gA (g0 H) (.list []) x)[H.length]?=some x:=Kh a0
 have s1:∀x y,(gA (g0 H) (.list []) x).set H.length y=gA (g0 H) (.list []) y:=XL a0 s0
 have a2:∀x,(gA (gA (g0 H) (.list [])) (.list []) x)[H.length]?=some x:=Kh a1
 have s2:∀x y,(gA (gA (g0 H) (.list [])) (.list []) x).set H.length y=gA (gA (g0 H) (.list [])) (.list []) y:=XL a1 s1
 have a3:∀x,(gA (gA (gA (g0 H) (.list [])) (.list [])) (.dict []) x)[H.length]?=some x:=Kh a2
 have s3:∀x y,(gA (gA (gA (g0 H) (.list [])) (.list [])) (.dict []) x).set H.length y=gA (gA (gA (g0 H) (.list [])) (.list [])) (.dict []) y:=XL a2 s2
 have a4:∀x,(gA (gA (gA (gA (g0 H) (.list [])) (.list [])) (.dict [])) (.list []) x)[H.length]?=some x:=Kh a3
 have s4:∀x y,(gA (gA (gA (gA (g0 H) (.list [])) (.list [])) (.dict [])) (.list []) x).set H.length y=gA (gA (gA (gA (g0 H) (.list [])) (.list [])) (.dict [])) (.list []) y:=XL a3 s3
 have a5:∀x,(gA (gA (gA (gA (gA (g0 H) (.list [])) (.list [])) (.dict [])) (.list [])) (.dict []) x)[H.length]?=some x:=Kh a4
 have s5:∀x y,(gA (gA (gA (gA (gA (g0 H) (.list [])) (.list [])) (.dict [])) (.list [])) (.dict []) x).set H.length y=gA (gA (gA (gA (gA (g0 H) (.list [])) (.list [])) (.dict [])) (.list [])) (.dict []) y:=XL a4 s4
 have L1:wl=H.length+1:=by rw[e1,l0]
 have L2:ll=H.length+2:=by rw[e2,ym,l0]
 have L3:fd=H.length+3:=by rw[e3,ym,ym,l0]
 have L4:sl=H.length+4:=by rw[e4,ym,ym,ym,l0]
 have L5:ix=H.length+5:=by rw[e5,ym,ym,ym,ym,l0]
 have c:Cb ns 2 174 [] H (.obj H.length) (gA (gA (gA (gA (gA (g0 H) (.list [])) (.list [])) (.dict [])) (.list [])) (.dict []) (.inst 174 (datF wl ll fd sl ix))):=by
  refine YL rfl (i:=166) rfl (zY (ZP (gA (g0 H) (.list [])) 174 (datF wl ll fd sl ix) 0 1 <|ZP (gA (gA (g0 H) (.list [])) (.list [])) 174 (datF wl ll fd sl ix) 1 1 <|ZP (gA (gA (gA (g0 H) (.list [])) (.list [])) (.dict [])) 174 (datF wl ll fd sl ix) 2 1 <|ZP (gA (gA (gA (gA (g0 H) (.list [])) (.list [])) (.dict [])) (.list [])) 174 (datF wl ll fd sl ix) 3 2 <|ZP (gA (gA (gA (gA (gA (g0 H) (.list [])) (.list [])) (.dict [])) (.list [])) (.dict [])) 174 (datF wl ll fd sl ix) 5 1 .nil) λ_ _=>?_)
  refine ok (yb 174 (datF wl ll fd sl ix) a1 s1 (yb 174 (datF wl ll fd sl ix) a2 s2 (yb 174 (datF wl ll fd sl ix) a3 s3 (yb 174 (datF wl ll fd sl ix) a4 s4 (yb 174 (datF wl ll fd sl ix) a5 s5 (fin .none (gA (gA (gA (gA (gA (g0 H) (.list [])) (.list [])) (.dict [])) (.list [])) (.dict []) (.inst 174 (datF wl ll fd sl ix)))) 1 5) 2 3) 1 2) 1 1) 1 0) ?_
  clear L1 L2 L3 L4 L5
  subst e5;subst e4;subst e3;subst e2;subst e1
  kernel_rfl
 refine kk _ c (λi o h=>zk (zk (zk (zk (zk (zk h)))))) (by rw[ym,ym,ym,ym,ym,l0]) ?_ ?_ ?_ ?_
 ·rw[a5,L1,L2,L3,L4,L5];rfl
 ·have q:(gA (g0 H) (O.list []) (.inst 174 (datF wl ll fd sl ix)))[H.length+1]?=some (.list []):=by rw[←l0 (.inst 174 (datF wl ll fd sl ix))];exact jv
  exact zk (zk (zk (zk q)))
 ·have q:(gA (gA (g0 H) (O.list [])) (O.list []) (.inst 174 (datF wl ll fd sl ix)))[H.length+2]?=some (.list []):=by
   have e:(gA (g0 H) (O.list []) (.inst 174 (datF wl ll fd sl ix))).length=H.length+2:=by rw[ym,l0]
   rw[←e];exact jv
  exact zk (zk (zk q))
 ·have q:(gA (gA (gA (g0 H) (O.list [])) (O.list [])) (O.dict []) (.inst 174 (datF wl ll fd sl ix)))[H.length+3]?=some (.dict []):=by
   have e:(gA (gA (g0 H) (O.list [])) (O.list []) (.inst 174 (datF wl ll fd sl ix))).length=H.length+3:=by rw[ym,ym,l0]
   rw[←e];exact jv
  exact zk (zk q)
theorem ok_ints{C:Orc}{it:It}{H:Hp}(st:it.stands H=true):∀(is:List Int) (acc:List V),YJ (ev (P ns) C (.bf .int (.cons (.l 0) .nil)) X0) (cnd (P ns) C (.c (.bool true))) 1 [] it (is.map .int) acc H (acc.reverse++is.map .int) H:=by
 intro is
 induction is with
 |nil=>
  intro acc
  exact by rw[show acc.reverse++([]:List Int).map V.int=acc.reverse from GH _];exact KF
 |cons i r ih=>
  intro acc
  have ih:=ih (.int i::acc)
  rw[show acc.reverse++(i::r).map V.int=(V.int i::acc).reverse++r.map V.int by rw[Dc,Gk];rfl]
  exact cpIn (H₁:=H) (as:=.nil) (as':=.nil) rfl (ok (I (rfl:true=true) (rfl:H=H)) (by kernel_rfl)) (ok (I (rfl:V.int i=V.int i) (rfl:H=H)) (by kernel_rfl)) st ih
theorem ints_eq:∀is:List Int,Z2 (is.map .int) (is.map .int)=true:=by
 intro is
 induction is with
 |nil=>
  exact rfl
 |cons a r ih=>
  show(decide (a=a) && Z2 (r.map .int) (r.map .int))=true
  rw[decide_eq_true rfl,ih];rfl
noncomputable def lawL(k:Nat):S:=tls k lawS
theorem lw_src{C:Orc}{Gl:Prop}(kk:∀so ce cs H,(Src H so ce cs 0)->(so < H.length)->(ce < H.length)->(∀{rest:S} {r:As} {Q:KA},exS (P ns) C 60 rest [.scr,.obj 1,.obj so,.bad,.bad,.bad,.bad,.bad,.bad,.bad,.bad,.bad,.bad] H r Q->
  ∃as,exS (P ns) C 60 (.seq (hdS lawS) (.seq (hdS (tl lawS)) rest)) [.scr,.bad,.bad,.bad,.bad,.bad,.bad,.bad,.bad,.bad,.bad,.bad,.bad] [] as Q)->Gl):Gl:=by
 have l60:(ns.take 60).length<=60:=by rw[DU];exact Nat.min_le_left _ _
 have st:(It.lst 0 ((ns.take 60).map .int)).stands [O.list ((ns.take 60).map .int)]=true:=yA (H:=[O.list ((ns.take 60).map .int)]) rfl (ints_eq _)
 have cm:=ok_ints (ns:=ns) (C:=C) st (ns.take 60) []
 have g:G8 ((ns.take 60).map V.int).length 1000=true:=by rw[Gm];exact G6 (G5 l60 (by decide))
 rcases e:ns.take 60 with _|⟨x,xs⟩
 ·have tb:(match (ns.take 60).map V.int with|[]=>false|_=>true)=false:=by rw[e];rfl
  exact kk 3 2 ([0]) ([.list ((ns.take 60).map .int),.list ((ns.take 60).map .int),.list [.int 0],.list [.obj 2,.int 0]]) ⟨rfl,rfl,by decide,by decide⟩ (by show 3 < 4;decide) (by show 2 < 4;decide) (λ{rest r Q} h=>⟨.m ((ns.take 60).map .int) [O.list ((ns.take 60).map .int)] <|.g <|.b false r,ok (I cm <|I g <|I tb h) (by kernel_rfl)⟩)
 ·have tb:(match (ns.take 60).map V.int with|[]=>false|_=>true)=true:=by rw[e];rfl
  exact kk 2 1 (ns.take 60) ([.list ((ns.take 60).map .int),.list ((ns.take 60).map .int),.list [.obj 1,.int 0]]) ⟨rfl,rfl,by rw[e];exact Nat.succ_pos _,l60⟩ (by show 2 < 3;decide) (by show 1 < 3;decide) (λ{rest r Q} h=>⟨.m ((ns.take 60).map .int) [O.list ((ns.take 60).map .int)] <|.g <|.b true r,ok (I cm <|I g <|I tb h) (by kernel_rfl)⟩)
structure LwS (h so ce:Nat) (cs:List Int) (H:Hp) (k:Nat) (nv:List V) (es fes:List (List Nat×V)) (ws ls:List Nat) (T:St):Prop where
 src:Src H so ce cs k
 so:so < h
 ce:ce < h
 nm:H[h]?=some (.list nv)
 da:H[h+1]?=some (datO (h+2) (h+3) (h+4) (h+5) 0 (h+6))
 wl:H[h+2]?=some (.list (ws.map .obj))
 ll:H[h+3]?=some (.list (ls.map .obj))
 fd:H[h+4]?=some (.dict fes)
 fo:H[h+7]?=some (.dict es)
 now:Now T H
 len:h+8<=H.length
 tb:∀b s,T b=some s->h+8<=b/\h+8<=s.kl
noncomputable def lwL(so h e:Nat)(a b c d x y:V):Lc:=[.scr,.obj 1,.obj so,.obj h,.obj (h+1),.obj (h+7),.int (.ofNat e),a,b,c,d,x,y]
theorem lw_init{m:Nat}(hm:2<=m){H:Hp}{so ce:Nat}{cs:List Int}(s:Src H so ce cs 0)(hs:so < H.length)(hc:ce < H.length){Gl:Prop}(kk:∀H',(LwS H.length so ce cs H' 0 [] [] [] [] [] (λ_=>none))->(∀{rest:S} {r:As} {Q:KA},exS (P ns) (zc (P ns) 60 m) 60 rest (lwL so H.length 0 .bad .bad .bad .bad .bad .bad) H' r Q->
  ∃as,exS (P ns) (zc (P ns) 60 m) 60 (.seq (hdS (lawL 2)) (.seq (hdS (lawL 3)) (.seq (hdS (lawL 4)) (.seq (hdS (lawL 5)) rest)))) [.scr,.obj 1,.obj so,.bad,.bad,.bad,.bad,.bad,.bad,.bad,.bad,.bad,.bad] H as Q)->Gl):Gl:=by
 refine cb_data (ns:=ns) (H++[O.list []]) ?_;intro H1 c x l h1 h2 h3 h4
 have e1:(H++[O.list []]).length=H.length+1:=len1 _ _
 have x0:Ex H (H++[O.list []]):=Ex.app _
 rw[e1] at l h1 h2 h3 h4
 have e2:H1.length=H.length+7:=by exact om302 l
 have nm:H1[H.length]?=some (.list []):=x _ _ ze
 have fo:(H1++[O.dict []])[H.length+7]?=some (.dict []):=by rw[←e2];exact ze
 refine kk (H1++[O.dict []]) ⟨(s.ex (x0.trans x)).ex (Ex.app _),hs,hc,zk nm,zk h1,zk h2,zk h3,zk h4,fo,(λ_ _ t=>nomatch t),(by rw[len1];exact om303 l),(λ_ _ t=>nomatch t)⟩ (λ{rest r Q} h=>⟨.c (.obj (H++[O.list []]).length) H1 r,ok (I (Cb.at (ns:=ns) (c:=m) c (Gi m) (G6 hm)) (by
  have e:[V.scr,.obj 1,.obj so,.obj H.length,.obj (H++[O.list []]).length,.obj H1.length,.int 0,.bad,.bad,.bad,.bad,.bad,.bad]=lwL so H.length 0 .bad .bad .bad .bad .bad .bad:=by rw[e1,e2];rfl
  rw[e];exact h:exS (P ns) (zc (P ns) 60 m) 60 rest [V.scr,.obj 1,.obj so,.obj H.length,.obj (H++[O.list []]).length,.obj H1.length,.int 0,.bad,.bad,.bad,.bad,.bad,.bad] (H1++[O.dict []]) r Q)) (by kernel_rfl)⟩)
end
end G
end
section
namespace G
open Mn
structure PN (B:Nat) (H:Hp) (n:Nat) (d:D) (kl:Nat) (kv:List V) (kids:F):Prop where
 bn:B<=n
 bk:B<=kl
 at_:H[n]?=some (.dict (dicF d kl))
 kid:∃Hk:Hp,Hk[n]?=none/\Hk[kl]?=some (.list kv)/\DF B Hk kids kv/\∀(i:Nat) (o:O),B<=i->Hk[i]?=some o->H[i]?=some o
theorem PN.mono{B:Nat}{H H':Hp}{n kl:Nat}{d:D}{kv:List V}{kids:F}(p:PN B H n d kl kv kids)(m:∀(i:Nat) (o:O),B<=i->H[i]?=some o->H'[i]?=some o):PN B H' n d kl kv kids:=
 ⟨p.bn,p.bk,m _ _ p.bn p.at_,p.kid.elim λHk h=>⟨Hk,h.1,h.2.1,h.2.2.1,λi o b q=>m i o b (h.2.2.2 i o b q)⟩⟩
theorem PN.set{B:Nat}{H:Hp}{n kl:Nat}{d:D}{kv:List V}{kids:F}(p:PN B H n d kl kv kids)(d':D):PN B (H.set n (.dict (dicF d' kl))) n d' kl kv kids:=
 ⟨p.bn,p.bk,zB p.at_,p.kid.elim λHk h=>⟨Hk,h.1,h.2.1,h.2.2.1,λi o b q=>zd (h.2.2.2 i o b q) (YH q h.1)⟩⟩
theorem PN.kl{B:Nat}{H:Hp}{n kl:Nat}{d:D}{kv:List V}{kids:F}(p:PN B H n d kl kv kids):H[kl]?=some (.list kv):=p.kid.elim λ_ h=>h.2.2.2 _ _ p.bk h.2.1
theorem PN.df{B:Nat}{H:Hp}{n kl:Nat}{d:D}{kv:List V}{kids:F}(p:PN B H n d kl kv kids):DF B H kids kv:=p.kid.elim λ_ h=>DF.mono (Gi _) h.2.2.2 _ _ h.2.2.1
section
variable {ns:List Int} {h so ce:Nat} {cs:List Int} {H:Hp} {k:Nat} {nv:List V} {es fes:List (List Nat×V)} {ws ls:List Nat} {T:St}
theorem LwS.dr(s:LwS h so ce cs H k nv es fes ws ls T)(j:Nat):LwS h so ce cs (drH H so ce j) j nv es fes ws ls T:=by
 have f:∀{i:Nat} {o:O},H[i]?=some o->h<=i->(drH H so ce j)[i]?=some o:=λq l=>zd q (by have:=s.so;exact om216 l this)
 refine⟨s.src.to j,s.so,s.ce,f s.nm (om230),f s.da (om231),f s.wl (om233),f s.ll (om234),f s.fd (om236),f s.fo (om239),λb t q=>?_,by rw[drH,GQ];exact s.len,s.tb⟩
 have tb:=s.tb b t q
 have n:=s.now b t q
 exact⟨f n.1 (om248 tb),f n.2.kids (om254 tb),n.2.occ.imp id λq=>⟨q.1,zd q.2 (zi q.2 s.src.s λe=>by cases e)⟩⟩
theorem LwS.up{H':Hp}(s:LwS h so ce cs H k nv es fes ws ls T)(x:∀(i:Nat) (o:O),H[i]?=some o->i < h+8->H'[i]?=some o)(n:Now T H')(l:H.length<=H'.length):LwS h so ce cs H' k nv es fes ws ls T:=
 ⟨⟨x _ _ s.src.s (by have:=s.so;exact om229 this),x _ _ s.src.c (by have:=s.ce;exact om229 this),s.src.p,s.src.l⟩,s.so,s.ce,x _ _ s.nm (om235),x _ _ s.da (om237),x _ _ s.wl (om241),x _ _ s.ll (om242),x _ _ s.fd (om243),x _ _ s.fo (om250),n,by have:=s.len;exact om257 l this,s.tb⟩
theorem LwS.ex{H':Hp}(s:LwS h so ce cs H k nv es fes ws ls T)(x:Ex H H')(l:H.length<=H'.length):LwS h so ce cs H' k nv es fes ws ls T:=s.up (λi o q _=>x i o q) (s.now.ex x) l
theorem LwS.dict{n:Nat}{ds ds':List (List Nat×V)}(s:LwS h so ce cs H k nv es fes ws ls T)(hn:H[n]?=some (.dict ds))(b:h+8<=n):LwS h so ce cs (H.set n (.dict ds')) k nv es fes ws ls T:=
 s.up (λi o q l=>zd q (om232 b l)) (λb t q=>by
  have w:=s.now b t q
  exact⟨zd w.1 (zi w.1 hn nofun),zd w.2.kids (zi w.2.kids hn nofun),w.2.occ.imp id λq=>⟨q.1,zd q.2 (zi q.2 hn λe=>by cases e)⟩⟩) (by rw[GQ];exact Gi _)
theorem LwS.fo'{H':Hp}{es':List (List Nat×V)}(s:LwS h so ce cs H k nv es fes ws ls T)(x:ExA (h+7) H H')(f:H'[h+7]?=some (.dict es'))(l:H.length<=H'.length):LwS h so ce cs H' k nv es' fes ws ls T:=
 ⟨⟨x _ _ s.src.s (by have:=s.so;exact om238 this),x _ _ s.src.c (by have:=s.ce;exact om238 this),s.src.p,s.src.l⟩,s.so,s.ce,x _ _ s.nm (om244),x _ _ s.da (om245),x _ _ s.wl (om247),x _ _ s.ll (om249),x _ _ s.fd (om251),f,λb t q=>by
  have tb:=s.tb b t q
  have w:=s.now b t q
  exact⟨x _ _ w.1 (om255 tb),x _ _ w.2.kids (om256 tb),w.2.occ.imp id λq=>⟨q.1,x _ _ q.2 (zi q.2 s.fo λe=>by cases e).symm⟩⟩,by have:=s.len;exact om257 l this,s.tb⟩
theorem Y1{m dp:Nat}(s:LwS h so ce cs H k nv es fes ws ls T)(hd:dp<=2)(hk:k+kb dp<=800000)(b:nv.length+1+ncb dp<=40)(B:Nat)(hB:h+8<=B)(lB:B<=H.length){Gl:Prop}(kk:∀H' d kids kl kv n k',(Call (zc (P ns) 60 (m+5)) 723 [.obj so,.int (.ofNat dp),.str [],.obj h] H (.obj n) H')->(LwS h so ce cs H' k' (nv++.str d.name::pnm kids) es fes ws ls T)->(k'<=k+kb dp)->(PN B H' n d kl kv kids)->(Tok dp [] nv.length d kids)->((∀(i:Nat) (o:O),h+8<=i->H[i]?=some o->H'[i]?=some o))->(n < H'.length)->(H.length<=n)->Gl):Gl:=by
 have so':=s.so
 have ce':=s.ce
 refine node_all (ns:=ns) (m:=m) (dp:=dp) (u:=[]) hd (.inl rfl) B H k nv s.src hk s.nm (om240 so') (om240 ce') (om246 hB so') (om253 hB) lB b ?_
 intro H1 d kids kl kv k1 c w s1 hk1 hn bk hkl df tk
 have x:∀(i:Nat) (o:O),H[i]?=some o->i≠so->i≠h->(H1++[O.dict (dicF d kl)])[i]?=some o:=λi o q a b=>zk (w.old i o q a b)
 have bn:B<=H1.length:=G5 lB w.len
 refine kk _ d kids kl kv H1.length k1 c ⟨s1.ex (Ex.app _),so',ce',zk hn,x _ _ s.da (om259 so') (om260),x _ _ s.wl (om262 so') (om263),x _ _ s.ll (om264 so') (om265),x _ _ s.fd (om266 so') (om268),x _ _ s.fo (om269 so') (om270),λb t q=>?_,by rw[len1];have:=s.len;have:=w.len;exact on9 (by assumption) this,s.tb⟩ hk1 ⟨bn,bk,ze,H1,yd,hkl,df,λi o _ q=>zk q⟩ tk (λi o b q=>x i o q (om272 so' b) (om273 b)) (by rw[len1];exact om275) w.len
 have tb:=s.tb b t q
 have n:=s.now b t q
 exact⟨x _ _ n.1 (om277 so' tb) (om278 tb),x _ _ n.2.kids (om279 so' tb) (om280 tb),n.2.occ.imp id λq=>⟨q.1,x _ _ q.2 (zi q.2 s.src.s λe=>by cases e).symm (zi q.2 s.nm λe=>by cases e).symm⟩⟩
theorem ZG{m n kl B off c:Nat}{base:List Nat}{kv:List V}{d:D}{kids:F}(s:LwS h so ce cs H k nv es fes ws ls T)(hB:h+8<=B)(p:PN B H n d kl kv kids)(hm:ht kids<=m)(nm:d.name=nmS c)(nk:Nms (c+1) kids)(wf:Wf (effD [] d) none kids)(b1:es.length+(1+nc kids)<=900)(b2:c+(1+nc kids)<=40){Gl:Prop}(kk:∀H' es',(Call (zc (P ns) 60 (m+1)) 737 [.obj n,.int (.ofNat off),.str base,.obj (h+7)] H .none H')->(LwS h so ce cs H' k nv es' fes ws ls T)->((∀(i:Nat) (o:O),h+8<=i->H[i]?=some o->H'[i]?=some o))->(getD d.name es'=some (plV base off d.size))->(Fnd es' base off 0 kids)->(Kp c (1+nc kids) es es')->(es'.length<=es.length+(1+nc kids))->(H.length<=H'.length)->Gl):Gl:=by
 refine kA (pl_all (ns:=ns) (fo:=h+7) (B:=B) (base:=base) kids) (off:=off) hm (om252 hB) p.bn p.bk p.at_ p.kl p.df s.fo nm nk wf b1 b2 ?_;intro H1 es1 c1 x f g fn kp ln
 have l:H.length<=H1.length:=by
  rcases GW H1.length H.length with l|l
  ·rcases GW (h+7) H1.length with q|q
   ·have:=x _ _ (List.getElem?_eq_getElem l) (om258 q)
    rw[yd] at this;cases this
   ·have:=Zu f
    exact om261 q this
  ·exact l
 exact kk H1 es1 c1 (s.fo' x f l) (λi o b q=>x i o q (om267 b)) g fn kp ln l
theorem X3{m n kl B off:Nat}{base:List Nat}{kv:List V}{d:D}{kids:F}(s:LwS h so ce cs H k nv es fes ws ls T)(p:PN B H n d kl kv kids)(hm:ht kids+2<=m)(nd:Nd [] d kids)(wf:Wf (effD [] d) none kids)(one:d.often=1)(b:nc kids<=900){Gl:Prop}(kk:∀H' T' a t,(Call (zc (P ns) 60 (m+1)) 730 [.obj n,.int (.ofNat 1)] H (.obj a) H')->(Ex H H')->(H.length<=H'.length)->(LwS h so ce cs H' k nv es fes ws ls T')->((∀b s,T b=some s->T' b=some s))->(Node T' base [] off d a t)->(Des T' base [a] off 0 kids t.kids)->Gl):Gl:=by
 refine kS (it_all (ns:=ns) (base:=base) kids) [] [] off n kl B m kv T H hm p.at_ p.kl p.df s.now nd wf b ?_
 intro H1 T1 a t c x la ln lk e1 e2 e3 e4 e5 ha sd nw sub new ta kn ds
 subst e1
 have ho:yg t (occV t.d.often t.oc) .none [] 0 0 .none=zb t [] 0 0 .none:=by
  show _=yg t (occV t.d.often t.oc) (parV t.par) [] 0 0 .none
  rw[e3];rfl
 rw[ho] at ha
 have sub':∀b s,T1 b=some s->extT T1 a t b=some s:=λb s q=>Ks ta q
 have nw':Now (extT T1 a t) H1:=λb s q=>by
  rcases yy q with⟨rfl,rfl⟩|⟨_,q⟩
  ·exact⟨ha,sd⟩
  ·exact nw b s q
 have l8:=s.len
 refine kk H1 (extT T1 a t) a t c x ln ⟨s.src.ex x,s.so,s.ce,x _ _ s.nm,x _ _ s.da,x _ _ s.wl,x _ _ s.ll,x _ _ s.fd,x _ _ s.fo,nw',by exact om257 ln l8,λb s' q=>?_⟩ (λb s q=>sub' _ _ (sub _ _ q)) ⟨Kt,rfl,e2,e3,e4,e5⟩ (Des.mono sub' _ _ _ _ _ ds)
 rcases yy q with⟨rfl,rfl⟩|⟨_,q⟩
 ·exact⟨by exact om271 l8 la,by exact om271 l8 lk⟩
 ·rcases new b s' q with q|q
  ·exact s.tb b s' q
  ·exact⟨by exact om274 l8 q,by exact om276 l8 q⟩
end
end G
end
section
namespace G
open Mn
noncomputable def once(d:D)(up:List Nat):D:={d with often:=1,upon:=up}
theorem jL{dp c:Nat}{d:D}{kids:F}(tk:Tok dp [] c d kids)(up:List Nat):Nd [] (once d up) kids:=⟨Gi 1,(by decide:1<=3),tk.nd.sz,tk.nd.is⟩
theorem jg{T:St}{base:List Nat}{off dp c a:Nat}{d:D}{kids:F}{t:SI}(tk:Tok dp [] c d kids)(up:List Nat)(nd:Node T base [] off (once d up) a t)(ds:Des T base [a] off 0 kids t.kids)(b:nc kids<=900):Root T base off (once d up) kids a t:=by
 have h:=tk.ht
 have h1:=bl_ht kids
 have h2:=bo_ht kids
 exact⟨nd,ds,jL tk up,tk.wf,rfl,by exact om281 h,b,by exact om282 h h1,by exact om283 h h2⟩
theorem Node.mono{T T':St}{base anc:List Nat}{off a:Nat}{d:D}{s:SI}(m:∀b s,T b=some s->T' b=some s)(n:Node T base anc off d a s):Node T' base anc off d a s:=⟨m _ _ n.t,n.d,n.lv,n.par,n.base,n.off⟩
theorem Root.mono{T T':St}{base:List Nat}{off a:Nat}{d:D}{kids:F}{s:SI}(m:∀b s,T b=some s->T' b=some s)(r:Root T base off d kids a s):Root T' base off d kids a s:=⟨r.node.mono m,Des.mono m _ _ _ _ _ r.des,r.nd,r.wf,r.one,r.h,r.n,r.b1,r.b2⟩
noncomputable def LK(h:Nat)(H H':Hp):Prop:=∀(i:Nat) (vs:List V),h+8<=i->H[i]?=some (.list vs)->H'[i]?=some (.list vs)
theorem LK.trans{h:Nat}{H₁ uh uk:Hp}(a:LK h H₁ uh)(b:LK h uh uk):LK h H₁ uk:=λi vs l q=>b i vs l (a i vs l q)
theorem ncb9{dp:Nat}:ncb dp<=9:=by rcases dp with _|_|dp<;>first|decide|exact D7 _
section
variable {ns:List Int} {h so ce:Nat} {cs:List Int} {H:Hp} {k:Nat} {nv:List V} {es fes:List (List Nat×V)} {ws ls:List Nat} {T:St}
theorem LwS.link{vs:List Nat}(s:LwS h so ce cs H k nv es fes ws ls T):LwS h so ce cs (H.set (h+3) (.list (vs.map .obj))) k nv es fes ws vs T:=by
 have f:∀{i:Nat} {o:O},H[i]?=some o->i≠h+3->(H.set (h+3) (.list (vs.map .obj)))[i]?=some o:=λq l=>zd q l.symm
 have so':=s.so
 have ce':=s.ce
 exact⟨⟨f s.src.s (om284 so'),f s.src.c (om284 ce'),s.src.p,s.src.l⟩,so',ce',f s.nm (om285),f s.da (om287),f s.wl (om289),zB s.ll,f s.fd (om290),f s.fo (om291),λb t q=>by
  have tb:=s.tb b t q
  have n:=s.now b t q
  exact⟨f n.1 (om292 tb),f n.2.kids (om295 tb),n.2.occ.imp id λq=>⟨q.1,f q.2 (zi q.2 s.ll λe=>by cases e).symm⟩⟩,by rw[GQ];exact s.len,s.tb⟩
theorem seg_link{m e:Nat}{a0 b0 c0 d0 x0 y0:V}{as all:List Nat}(s:LwS h so ce cs H k nv es fes ws [] T)(hk:k<=1000)(bn:nv.length<=30)(be:es.length<=100)(acc:Acc T es as nv all){Gl:Prop}(kk:∀H' k' nv' es' T' a n d kids t all',(LwS h so ce cs H' k' nv' es' fes ws [a] T')->(Acc T' es' (as++[a]) nv' all')->((∀b s,T b=some s->T' b=some s))->(Root T' d.name 0 d kids a t)->(nv'.length<=nv.length+3)->(LK h H H')->(∀{rest:S} {r:As} {Q:KA},exS (P ns) (zc (P ns) 60 (m+8)) 60 rest (lwL so h e a0 (.obj n) c0 d0 x0 y0) H' r Q->
    ∃as,exS (P ns) (zc (P ns) 60 (m+8)) 60 (.seq (hdS (lawL 9)) (.seq (hdS (lawL 10)) (.seq (hdS (lawL 11)) (.seq (hdS (lawL 12)) rest)))) (lwL so h e a0 b0 c0 d0 x0 y0) H as Q)->Gl):Gl:=by
 refine Y1 (ns:=ns) (m:=m+3) (dp:=1) s (by decide) (by show k+16<=800000;exact om286 hk) (by show nv.length+1+2<=40;exact om288 bn) (h+8) (Gi _) s.len ?_
 intro H1 d kids kl kv n k1 c1 s1 hk1 p1 tk u1 nl1 ln1
 have nb2:nc kids<=2:=tk.nc
 have ht2:=tk.ht
 obtain⟨H2,e2⟩:∃X,X=H1.set n (.dict (dicF (once d d.upon) kl)):=⟨_,rfl⟩
 have bn8:h+8<=n:=p1.bn
 have s2:=s1.dict (ds':=dicF (once d d.upon) kl) p1.at_ bn8
 have p2:=p1.set (once d d.upon)
 rw[←e2] at s2 p2
 have nm:(once d d.upon).name=nmS nv.length:=tk.nm
 have wf:Wf (effD [] (once d d.upon)) none kids:=tk.wf
 refine ZG (ns:=ns) (m:=m+7) (base:=d.name) (off:=0) s2 (Gi _) p2 (om293 ht2) nm tk.nk wf (om294 be nb2) (om296 bn nb2) ?_;intro H3 es3 c3 s3 u3 g3 f3 kp3 l3 ln3
 have p3:=p2.mono u3
 refine X3 (ns:=ns) (m:=m+7) (base:=d.name) (off:=0) s3 p3 (om297 ht2) (jL tk d.upon) wf rfl (Jv nb2) ?_;intro H4 T4 a t c4 x4 ln4 s4 sub4 nd4 ds4
 have kj:∀j,j < nv.length->getD (nmS j) es3=getD (nmS j) es:=λj hj=>kp3 j (om299 bn hj) (.inl hj)
 refine zh ((acc.mono sub4 kj).snoc nd4 ds4 (jL tk d.upon) wf nm tk.nk g3 f3 (om300 nb2)) λall' acc'=>?_
 have s5:=s4.link (vs:=[a])
 have lk:LK h H (H4.set (h+3) (.list ([a].map .obj))):=λi vs l q=>zd (x4 _ _ (u3 _ _ l (by rw[e2];exact zd (u1 _ _ l q) (zi (u1 _ _ l q) p1.at_ nofun)))) (om301 l)
 refine kk _ k1 _ es3 T4 a n (once d d.upon) kids t all' s5 acc' sub4 (jg tk d.upon nd4 ds4 (Jv nb2)) (by rw[G7,GB,Zj];exact om304 nb2) lk (λ{rest r Q} q=>⟨.c (.obj n) H1 <|.o (.dict (dicF d kl)) <|.g <|.h H2 <|.o (.dict (dicF (once d d.upon) kl)) <|.c .none H3 <|.o (datO (h+2) (h+3) (h+4) (h+5) 0 (h+6)) <|.g <|.c (.obj a) H4 <|.o (.list []) <|.g <|.h (H4.set (h+3) (.list ([a].map .obj))) r,
  ok (I c1 <|I p1.at_ <|I (rfl:Gz 7 1000=Gz 7 1000) <|I e2.symm <|I p2.at_ <|I c3 <|I s3.da <|I (zN (b:=.append) s3.ll) <|I c4 <|I s4.ll <|I (rfl:Gz 0 1000=Gz 0 1000) <|I (rfl:H4.set (h+3) (.list ([a].map .obj))=H4.set (h+3) (.list ([a].map .obj))) q) (by kernel_rfl)⟩)
end
end G
end
section
namespace G
open Mn
noncomputable def bdL(i:Nat):S:=match (subF lawS)[i]? with|some s=>s|none=>.bad
structure RN (dp c:Nat) (d:D) (kids:F):Prop where
 nd:Nd [] d kids
 wf:Wf (effD [] d) none kids
 nm:d.name=nmS c
 nk:Nms (c+1) kids
 one:d.often=1
 ht:ht kids+dp<=2
 nc:nc kids<=9
theorem RN.root{T:St}{base:List Nat}{off dp c a:Nat}{d:D}{kids:F}{t:SI}(r:RN dp c d kids)(nd:Node T base [] off d a t)(ds:Des T base [a] off 0 kids t.kids):Root T base off d kids a t:=by
 have h:=r.ht
 have h1:=bl_ht kids
 have h2:=bo_ht kids
 have h3:=r.nc
 exact⟨nd,ds,r.nd,r.wf,r.one,by exact om281 h,by exact om305 h3,by exact om282 h h1,by exact om283 h h2⟩
theorem Tok.rn{dp c:Nat}{d:D}{kids:F}(tk:Tok dp [] c d kids)(one:d.often=1)(up:List Nat):RN dp c {d with upon:=up} kids:=⟨⟨tk.nd.of1,tk.nd.of3,tk.nd.sz,tk.nd.is⟩,tk.wf,tk.nm,tk.nk,one,tk.ht,G5 tk.nc ncb9⟩
section
variable {ns:List Int} {h so ce:Nat} {cs:List Int} {H:Hp} {k:Nat} {nv:List V} {es fes:List (List Nat×V)} {ws ls:List Nat} {T:St}
theorem LwS.work{vs:List Nat}(s:LwS h so ce cs H k nv es fes ws ls T):LwS h so ce cs (H.set (h+2) (.list (vs.map .obj))) k nv es fes vs ls T:=by
 have f:∀{i:Nat} {o:O},H[i]?=some o->i≠h+2->(H.set (h+2) (.list (vs.map .obj)))[i]?=some o:=λq l=>zd q l.symm
 have so':=s.so
 have ce':=s.ce
 exact⟨⟨f s.src.s (om306 so'),f s.src.c (om306 ce'),s.src.p,s.src.l⟩,so',ce',f s.nm (om307),f s.da (om308),zB s.wl,f s.ll (om309),f s.fd (om310),f s.fo (om311),λb t q=>by
  have tb:=s.tb b t q
  have n:=s.now b t q
  exact⟨f n.1 (om313 tb),f n.2.kids (om315 tb),n.2.occ.imp id λq=>⟨q.1,f q.2 (zi q.2 s.wl λe=>by cases e).symm⟩⟩,by rw[GQ];exact s.len,s.tb⟩
theorem ja{m e off c n kl:Nat}{a0 c0 tv x0 y0:V}{as all:List Nat}{kv:List V}{d:D}{kids:F}(s:LwS h so ce cs H k (nv++.str d.name::pnm kids) es fes ws ls T)(bn:nv.length<=30)(be:es.length<=100)(bw:ws.length<=10)(acc:Acc T es as nv all)(p:PN (h+8) H n d kl kv kids)(r:RN 0 nv.length d kids)
  (ho:fre d=true/\off=e∨fre d=false/\∃z,getD d.upon es=some (plV [] off z)) {Gl:Prop} (kk:∀H' es' T' a t all',(LwS h so ce cs H' k (nv++.str d.name::pnm kids) es' fes (ws++[a]) ls T')->(Acc T' es' (as++[a]) (nv++.str d.name::pnm kids) all')->((∀b s,T b=some s->T' b=some s))->(Root T' [] off d kids a t)->(getD d.name es'=some (plV [] off d.size))->(es'.length<=es.length+10)->(LK h H H')->(H.length<=H'.length)->(∃z r,exS (P ns) (zc (P ns) 60 (m+8)) 60 (tl (tl (bdL 1))) (lwL so h e a0 (.obj n) c0 tv x0 y0) H (.o z r) (λg L' H₁ _=>g= .next/\L'=lwL so h (max e (off+d.size)) a0 (.obj n) (.int (.ofNat off)) tv x0 y0/\H₁=H'))->Gl):Gl:=by
 have nb:=r.nc
 have hh:=r.ht
 refine ZG (ns:=ns) (m:=m+7) (base:=[]) (off:=off) s (Gi _) p (om312 hh) r.nm r.nk r.wf (om314 be nb) (om316 bn nb) ?_;intro H3 es3 c3 s3 u3 g3 f3 kp3 l3 ln3
 have p3:=p.mono u3
 refine X3 (ns:=ns) (m:=m+7) (base:=[]) (off:=off) s3 p3 (om317 hh) r.nd r.wf r.one (om305 nb) ?_;intro H4 T4 a t c4 x4 ln4 s4 sub4 nd4 ds4
 have kj:∀j,j < nv.length->getD (nmS j) es3=getD (nmS j) es:=λj hj=>kp3 j (om299 bn hj) (.inl hj)
 refine zh ((acc.mono sub4 kj).snoc nd4 ds4 r.nd r.wf r.nm r.nk g3 f3 (om318 nb)) λall' acc'=>?_
 have s5:=s4.work (vs:=ws++[a])
 have lk:LK h H (H4.set (h+2) (.list ((ws++[a]).map .obj))):=λi vs l q=>zd (x4 _ _ (u3 _ _ l q)) (om319 l)
 refine kk _ es3 T4 a t all' s5 acc' sub4 (r.root nd4 ds4) g3 (om320 nb l3) lk (by rw[GQ];exact om321 ln3 ln4) ?_
 have e1:H4.set (h+2) (.list (ws.map V.obj++[V.obj a]))=H4.set (h+2) (.list ((ws++[a]).map .obj)):=by rw[Zt]
 have mx:([.scr,.obj 1,.obj so,.obj h,.obj (h+1),.obj (h+7),.int (max (Gx e) (Gx (off+d.size))),a0,.obj n,.int (.ofNat off),tv,x0,y0]:Lc)=lwL so h (max e (off+d.size)) a0 (.obj n) (.int (.ofNat off)) tv x0 y0:=congrArg (λi=>([.scr,.obj 1,.obj so,.obj h,.obj (h+1),.obj (h+7),.int i,a0,.obj n,.int (.ofNat off),tv,x0,y0]:Lc)) (maxN e (off+d.size))
 have gw:Gz (ws.map V.obj).length 1000=true:=yK (om322 bw)
 rcases ho with⟨fr,rfl⟩|⟨fr,z,hz⟩
 ·exact⟨.dict (dicF d kl),.b false <|.b false <|.c .none H3 <|.o (.dict (dicF d kl)) <|.o (datO (h+2) (h+3) (h+4) (h+5) 0 (h+6)) <|.g <|.c (.obj a) H4 <|.o (.list (ws.map .obj)) <|.g <|.h (H4.set (h+2) (.list ((ws++[a]).map .obj))) .nil,
   ok (I p.at_ <|I (by rw[yN];exact congrArg (λq=>some (!q)) fr:some (!eqS d.upon [])=some false) <|I (bq false) <|I c3 <|I p3.at_ <|I s3.da <|I (zN (b:=.append) s3.wl) <|I c4 <|I s4.wl <|I gw <|I e1 <|I (rfl:Fl.next=Fl.next) <|I mx (rfl:H4.set (h+2) (.list ((ws++[a]).map .obj))=H4.set (h+2) (.list ((ws++[a]).map .obj)))) (by kernel_rfl)⟩
 ·exact⟨.dict (dicF d kl),.b true <|.b true <|.o (.dict (dicF d kl)) <|.o (.dict es) <|.w (plV [] off z) <|.c .none H3 <|.o (.dict (dicF d kl)) <|.o (datO (h+2) (h+3) (h+4) (h+5) 0 (h+6)) <|.g <|.c (.obj a) H4 <|.o (.list (ws.map .obj)) <|.g <|.h (H4.set (h+2) (.list ((ws++[a]).map .obj))) .nil,
   ok (I p.at_ <|I (by rw[yN];exact congrArg (λq=>some (!q)) fr:some (!eqS d.upon [])=some true) <|I (bq true) <|I p.at_ <|I s.fo <|I hz <|I c3 <|I p3.at_ <|I s3.da <|I (zN (b:=.append) s3.wl) <|I c4 <|I s4.wl <|I gw <|I e1 <|I (rfl:Fl.next=Fl.next) <|I mx (rfl:H4.set (h+2) (.list ((ws++[a]).map .obj))=H4.set (h+2) (.list ((ws++[a]).map .obj)))) (by kernel_rfl)⟩
theorem wk_h0{C:Orc}{n e:Nat}{a0 b0 c0 x0 y0:V}{H1:Hp}{z:O}{r:As}{Q:KA}{rest:S}(c:Call C 723 [.obj so,.int (.ofNat 0),.str [],.obj h] H (.obj n) H1)
  (q:exS (P ns) C 60 rest (lwL so h e a0 (.obj n) c0 (.int (.ofNat 0)) x0 y0) H1 (.o z r) Q):exS (P ns) C 60 (.seq (hdS (bdL 1)) (.seq (hdS (tl (bdL 1))) rest)) (lwL so h e a0 b0 c0 (.int (.ofNat 0)) x0 y0) H (.c (.obj n) H1 <|.o z r) Q:=
 ok (I c q) (by kernel_rfl)
theorem wk_h1{C:Orc}{n e j:Nat}{a0 b0 c0 x0 y0:V}{H1 H2:Hp}{z:O}{r:As}{Q:KA}{rest:S}(c:Call C 723 [.obj so,.int (.ofNat 0),.str [],.obj h] H (.obj n) H1)(c2:Call C 709 [.obj so,.int (.ofNat 3)] H1 (.int (.ofNat (j+1))) H2)
  (q:exS (P ns) C 60 rest (lwL so h e a0 (.obj n) c0 (.int (.ofNat 1)) x0 y0) H2 (.o z r) Q):exS (P ns) C 60 (.seq (hdS (bdL 1)) (.seq (hdS (tl (bdL 1))) rest)) (lwL so h e a0 b0 c0 (.int (.ofNat 1)) x0 y0) H (.c (.obj n) H1 <|.c (.int (.ofNat (j+1))) H2 <|.b false <|.o z r) Q:=
 ok (I c <|I c2 <|I (eqNo (a:=j+1) (b:=0) H2 rfl) q) (by kernel_rfl)
theorem wk_h2{C:Orc}{n kl e g:Nat}{a0 b0 c0 x0 y0:V}{H1 H2 H3:Hp}{z:O}{r:As}{Q:KA}{rest:S}{d:D}{b:List Nat}{o zz:Nat}{sh:V}{sg:SI}(c:Call C 723 [.obj so,.int (.ofNat 0),.str [],.obj h] H (.obj n) H1)(c2:Call C 709 [.obj so,.int (.ofNat 3)] H1 (.int (.ofNat 0)) H2)
  (hd:H2[h+1]?=some (datO (h+2) (h+3) (h+4) (h+5) 0 (h+6))) (hw:H2[h+2]?=some (.list [.obj g])) (hg:H2[g]?=some (zb sg b o zz sh)) (ug:sg.d.upon=[]) (hn:H2[n]?=some (.dict (dicF d kl))) (e3:H2.set n (.dict (dicF {d with upon:=sg.d.name} kl))=H3)
  (q:exS (P ns) C 60 rest (lwL so h e a0 (.obj n) c0 (.int (.ofNat 1)) x0 y0) H3 (.o z r) Q):∃as,exS (P ns) C 60 (.seq (hdS (bdL 1)) (.seq (hdS (tl (bdL 1))) rest)) (lwL so h e a0 b0 c0 (.int (.ofNat 1)) x0 y0) H (.c (.obj n) H1 <|.c (.int (.ofNat 0)) H2 as) Q:=
 ⟨.o (datO (h+2) (h+3) (h+4) (h+5) 0 (h+6)) <|.o (.list [.obj g]) <|.o (zb sg b o zz sh) <|.b true <|.o (datO (h+2) (h+3) (h+4) (h+5) 0 (h+6)) <|.o (.list [.obj g]) <|.o (zb sg b o zz sh) <|.o (.dict (dicF d kl)) <|.g <|.h H3 <|.o z r,
  ok (I c <|I c2 <|I hd <|I hw <|I hg <|I (by rw[ug];rfl:some (eqS sg.d.upon [])=some true) <|I hd <|I hw <|I hg <|I hn <|I (rfl:Gz 7 1000=Gz 7 1000) <|I e3 q) (by kernel_rfl)⟩
end
end G
end
section
namespace G
open Mn
theorem bodyW:bdL 1= .seq (hdS (bdL 1)) (.seq (hdS (tl (bdL 1))) (tl (tl (bdL 1)))):=by kernel_rfl
theorem YW{T:St}{e last a e':Nat}{l:Option D}{r:List Nat}{d:D}{kids:F}{s:SI}(fr:fre d=true)(rt:Root T [] e d kids a s)(k:WRl T (max e (e+d.size)) e (some d) r e'):WRl T e last l (a::r) e':=by
 refine⟨d,kids,s,?_,?_⟩
 ·rw[fr];exact rt
 ·rw[fr];exact k
theorem wrl_up{T:St}{e last a e':Nat}{x:D}{r:List Nat}{d:D}{kids:F}{s:SI}(fr:fre d=false)(rt:Root T [] last d kids a s)(u:x.name=d.upon/\x.often=1/\eqS d.name d.upon=false)(k:WRl T (max e (last+d.size)) last (some x) r e'):WRl T e last (some x) (a::r) e':=by
 refine⟨d,kids,s,?_,?_⟩
 ·rw[fr];exact rt
 ·rw[fr];exact⟨⟨x,rfl,u⟩,k⟩
section
variable {ns:List Int} {h so ce:Nat} {cs:List Int} {H:Hp} {k:Nat} {nv:List V} {es fes:List (List Nat×V)} {ws ls:List Nat} {T:St}
structure WkTo (ns:List Int) (h so ce:Nat) (cs:List Int) (m e k:Nat) (nv:List V) (es fes:List (List Nat×V)) (ws ls:List Nat) (T:St) (as:List Nat) (H:Hp) (L:Lc) (H':Hp) (k':Nat) (nv':List V) (es':List (List Nat×V)) (T':St) (a n off:Nat) (d:D) (kids:F) (t:SI) (all':List Nat) (LT:V->V->V->Lc):Prop where
 s:LwS h so ce cs H' k' nv' es' fes (ws++[a]) ls T'
 kk:k'<=k+61
 acc:Acc T' es' (as++[a]) nv' all'
 sub:∀b s,T b=some s->T' b=some s
 rt:Root T' [] off d kids a t
 pl:getD d.name es'=some (plV [] off d.size)
 nl:nv'.length<=nv.length+10
 n0:nv.length < nv'.length
 el:es'.length<=es.length+10
 lk:LK h H H'
 nm:d.name=nmS nv.length
 run:∃ans,exS (P ns) (zc (P ns) 60 (m+8)) 60 (bdL 1) L H ans (λg L' H₁ _=>g= .next/\L'=LT (.int (.ofNat (max e (off+d.size)))) (.obj n) (.int (.ofNat off))/\H₁=H')
noncomputable def LT(so h:Nat)(a0 tv x0 y0:V)(e n o:V):Lc:=[.scr,.obj 1,.obj so,.obj h,.obj (h+1),.obj (h+7),e,a0,n,o,tv,x0,y0]
theorem wk_one{m e:Nat}{a0 b0 c0 x0 y0:V}{as all:List Nat}(s:LwS h so ce cs H k nv es fes [] ls T)(hk:k<=2000)(bn:nv.length<=30)(be:es.length<=100)(acc:Acc T es as nv all){Gl:Prop}(kk:∀H' k' nv' es' T' a n d kids t all',(WkTo ns h so ce cs m e k nv es fes [] ls T as H (lwL so h e a0 b0 c0 (.int (.ofNat 0)) x0 y0) H' k' nv' es' T' a n e d kids t all' (LT so h a0 (.int (.ofNat 0)) x0 y0))->(fre d=true)->Gl):Gl:=by
 refine Y1 (ns:=ns) (m:=m+3) (dp:=0) s (by decide) (by show k+60<=800000;exact om323 hk) (by show nv.length+1+9<=40;exact om324 bn) (h+8) (Gi _) s.len ?_
 intro H1 d kids kl kv n k1 c1 s1 hk1 p1 tk u1 nl1 ln1
 have hk1:k1<=k+60:=hk1
 have r:RN 0 nv.length d kids:=tk.rn (tk.one rfl) d.upon
 have fr:=Ys tk.up
 refine ja (ns:=ns) (m:=m) (e:=e) (off:=e) (c:=0) (a0:=a0) (c0:=c0) (tv:=.int (.ofNat 0)) (x0:=x0) (y0:=y0) s1 bn be (by decide) acc p1 r (.inl ⟨fr,rfl⟩) ?_
 intro H2 es2 T2 a t all' s2 acc2 sub2 rt2 pl2 el2 lk2 ln2
 rintro⟨z,ans,run⟩
 have nc9:=r.nc
 refine kk H2 k1 _ es2 T2 a n d kids t all' ⟨s2,by exact om325 hk1,acc2,sub2,rt2,pl2,by rw[G7,GB,Zj];exact om327 nc9,(by rw[G7,GB];exact om330),el2,λi vs l q=>lk2 i vs l (u1 _ _ l q),tk.nm,⟨.c (.obj n) H1 <|.o z ans,by rw[bodyW];exact wk_h0 c1 run⟩⟩ fr
theorem wk_two{m e e0 g:Nat}{a0 b0 c0 x0 y0:V}{as all:List Nat}{dg:D}{kg:F}{tg:SI}{j0:Nat}(s:LwS h so ce cs H k nv es fes [g] ls T)(hk:k<=2000)(bn:nv.length<=29)(be:es.length<=100)(acc:Acc T es as nv all)(rg:Root T [] e0 dg kg g tg)(frg:fre dg=true)(pg:getD dg.name es=some (plV [] e0 dg.size))(hj:j0 < nv.length)(nmg:dg.name=nmS j0){Gl:Prop}(kk:∀H' k' nv' es' T' a n d kids t all' off,(WkTo ns h so ce cs m e k nv es fes [g] ls T as H (lwL so h e a0 b0 c0 (.int (.ofNat 1)) x0 y0) H' k' nv' es' T' a n off d kids t all' (LT so h a0 (.int (.ofNat 1)) x0 y0))->((fre d=true/\off=e∨fre d=false/\off=e0/\dg.name=d.upon/\dg.often=1/\eqS d.name d.upon=false))->Gl):Gl:=by
 refine Y1 (ns:=ns) (m:=m+3) (dp:=0) s (by decide) (by show k+60<=800000;exact om323 hk) (by show nv.length+1+9<=40;exact om326 bn) (h+8) (Gi _) s.len ?_
 intro H1 d kids kl kv n k1 c1 s1 hk1 p1 tk u1 nl1 ln1
 have hk1:k1<=k+60:=hk1
 have fr:=Ys tk.up
 refine yE (ns:=ns) (m:=m+7) s1.src (l:=3) (by decide) (om329 hk hk1) ?_;intro q hq c2
 have s2:=s1.dr (k1+1)
 have so':=s.so
 have n8:h+8<=n:=p1.bn
 have p2:PN (h+8) (drH H1 so ce (k1+1)) n d kl kv kids:=p1.mono λi o b q=>zd q (om331 so' b)
 have lkd:LK h H1 (drH H1 so ce (k1+1)):=λi vs l q=>zd q (om331 so' l)
 have nlen:(nv++V.str d.name::pnm kids).length<=nv.length+10:=by
  rw[G7,GB,Zj]
  have:=tk.nc
  have:nc kids<=9:=this
  exact om327 this
 rcases q with _|q
 ·obtain rfl:=rg.node.d
  have ug:tg.d.upon=[]:=by
   rcases e:tg.d.upon with _|⟨x,y⟩
   ·rfl
   ·have:(match tg.d.upon with|[]=>true|_::_=>false)=true:=frg
    rw[e] at this;cases this
  obtain⟨H3,e3⟩:∃X,X=(drH H1 so ce (k1+1)).set n (.dict (dicF {d with upon:=tg.d.name} kl)):=⟨_,rfl⟩
  have s3:=s2.dict (ds':=dicF {d with upon:=tg.d.name} kl) p2.at_ n8
  have p3:=p2.set {d with upon:=tg.d.name}
  have lk3:LK h (drH H1 so ce (k1+1)) ((drH H1 so ce (k1+1)).set n (.dict (dicF {d with upon:=tg.d.name} kl))):=λi vs l q=>zd q (zi q p2.at_ nofun)
  rw[←e3] at s3 p3 lk3
  have r:RN 0 nv.length {d with upon:=tg.d.name} kids:=tk.rn (tk.one rfl) tg.d.name
  have fr3:fre {d with upon:=tg.d.name}=false:=fre_nm nmg
  refine ja (ns:=ns) (m:=m) (e:=e) (off:=e0) (c:=0) (a0:=a0) (c0:=c0) (tv:=.int (.ofNat 1)) (x0:=x0) (y0:=y0) (d:={d with upon:=tg.d.name}) s3 (om337 bn) be (by show 1<=10;decide) acc p3 r (.inr ⟨fr3,_,pg⟩) ?_
  intro H4 es4 T4 a t all' s4 acc4 sub4 rt4 pl4 el4 lk4 ln4
  rintro⟨z,ans,run⟩
  have hg:=(s2.now g tg rg.node.t).1
  refine zh (wk_h2 (ns:=ns) (b0:=b0) c1 c2 s2.da s2.wl hg ug p2.at_ e3.symm run) λas2 x=>?_
  exact kk H4 (k1+1) _ es4 T4 a n _ kids t all' e0 ⟨s4,by exact om348 hk1,acc4,sub4,rt4,pl4,nlen,(by rw[G7,GB];exact om330),el4,λi vs l q=>lk4 i vs l (lk3 i vs l (lkd i vs l (u1 _ _ l q))),tk.nm,⟨_,by rw[bodyW];exact x⟩⟩ (.inr ⟨fr3,rfl,rfl,rg.one,by show eqS d.name tg.d.name=false;rw[tk.nm,nmg];exact nm_ne (om358 bn) (om360 bn hj) (om205 hj)⟩)
 ·have r:RN 0 nv.length d kids:=tk.rn (tk.one rfl) d.upon
  refine ja (ns:=ns) (m:=m) (e:=e) (off:=e) (c:=0) (a0:=a0) (c0:=c0) (tv:=.int (.ofNat 1)) (x0:=x0) (y0:=y0) s2 (om337 bn) be (by show 1<=10;decide) acc p2 r (.inl ⟨fr,rfl⟩) ?_
  intro H4 es4 T4 a t all' s4 acc4 sub4 rt4 pl4 el4 lk4 ln4
  rintro⟨z,ans,run⟩
  exact kk H4 (k1+1) _ es4 T4 a n d kids t all' e ⟨s4,by exact om348 hk1,acc4,sub4,rt4,pl4,nlen,(by rw[G7,GB];exact om330),el4,λi vs l q=>lk4 i vs l (lkd i vs l (u1 _ _ l q)),tk.nm,⟨_,by rw[bodyW];exact wk_h1 c1 c2 run⟩⟩ (.inl ⟨fr,rfl⟩)
theorem seg_work{m e:Nat}{a0 b0 c0 d0 x0 y0:V}{as all:List Nat}(s:LwS h so ce cs H k nv es fes [] [] T)(hk:k<=500)(bn:nv.length<=10)(be:es.length<=60)(acc:Acc T es as nv all){Gl:Prop}(kG:∀H' k' nv' es' T' ws' all' e' b c d,(LwS h so ce cs H' k' nv' es' fes ws' [] T')->(Acc T' es' (as++ws') nv' all')->((∀b s,T b=some s->T' b=some s))->(WRl T' e 0 none ws' e')->(ws'.length<=2)->(nv'.length<=nv.length+20)->(es'.length<=es.length+20)->(k'<=k+130)->(LK h H H')->(∀{rest:S} {r:As} {Q:KA},exS (P ns) (zc (P ns) 60 (m+8)) 60 rest (lwL so h e' a0 b c d x0 y0) H' r Q->
    ∃as,exS (P ns) (zc (P ns) 60 (m+8)) 60 (.seq (hdS (lawL 7)) (.seq (hdS (lawL 8)) rest)) (lwL so h e a0 b0 c0 d0 x0 y0) H as Q)->Gl):Gl:=by
 refine yE (ns:=ns) (m:=m+7) s.src (l:=2) (by decide) (om328 hk) ?_;intro q hq c0'
 have s1:=s.dr (k+1)
 have so':=s.so
 have lk0:LK h H (drH H so ce (k+1)):=λi vs l q=>zd q (om331 so' l)
 refine wk_one (ns:=ns) (m:=m) (e:=e) (a0:=a0) (b0:=b0) (c0:=.int (.ofNat 0)) (x0:=x0) (y0:=y0) s1 (om332 hk) (om333 bn) (om334 be) acc ?_
 intro H2 k2 nv2 es2 T2 a n d kids t all2 W fr
 refine zh (W.run) λans run=>?_
 have kk:=W.kk
 have nl:=W.nl
 have el:=W.el
 rcases q with _|_|q
 ·refine kG H2 k2 nv2 es2 T2 ([a]) all2 (max e (e+d.size)) (.obj n) (.int (.ofNat e)) (.int (.ofNat 0)) W.s W.acc W.sub (YW fr W.rt rfl) (by decide:1<=2) (om335 nl) (om335 el) (om336 kk) (lk0.trans W.lk) (λ{rest r Q} x=>⟨.c (.int (.ofNat 0)) (drH H so ce (k+1)) <|.g <|.it (.vals [.int (.ofNat 0)]) <|.l .next (lwL so h (max e (e+d.size)) a0 (.obj n) (.int (.ofNat e)) (.int (.ofNat 0)) x0 y0) H2 r,?_⟩)
  have lp:ForR (P ns) (zc (P ns) 60 (m+8)) 60 (bdL 1) [10] true (.vals [.int (.ofNat 0)]) [.int (.ofNat 0)] (lwL so h e a0 b0 (.int (.ofNat 0)) d0 x0 y0) (drH H so ce (k+1)) .next (lwL so h (max e (e+d.size)) a0 (.obj n) (.int (.ofNat e)) (.int (.ofNat 0)) x0 y0) H2:=zx rfl run rfl zV
  exact ok (I c0' <|I (rfl:G8 1 1000=G8 1 1000) <|I (rfl:some (It.vals [V.int (.ofNat 0)])=some (It.vals [V.int (.ofNat 0)])) <|I lp x) (by kernel_rfl)
 ·refine wk_two (ns:=ns) (m:=m) (e:=max e (e+d.size)) (a0:=a0) (b0:=.obj n) (c0:=.int (.ofNat e)) (x0:=x0) (y0:=y0) W.s (om343 hk kk) (om346 bn nl) (om347 be el) W.acc W.rt fr W.pl (j0:=nv.length) W.n0 W.nm ?_
  intro H3 k3 nv3 es3 T3 a3 n3 d3 kids3 t3 all3 off W3 hoff
  refine zh (W3.run) λans3 run3=>?_
  have kk3:=W3.kk
  have nl3:=W3.nl
  have el3:=W3.el
  have wr:WRl T3 e 0 none [a,a3] (max (max e (e+d.size)) (off+d3.size)):=by
   refine YW fr (W.rt.mono W3.sub) ?_
   rcases hoff with⟨f3,rfl⟩|⟨f3,rfl,u⟩
   ·exact YW f3 W3.rt rfl
   ·exact wrl_up f3 W3.rt u rfl
  have ac3:=W3.acc
  rw[Gk] at ac3
  refine kG H3 k3 nv3 es3 T3 ([a,a3]) all3 _ (.obj n3) (.int (.ofNat off)) (.int (.ofNat 1)) W3.s ac3 (λb s q=>W3.sub _ _ (W.sub _ _ q)) wr (by decide:2<=2) (om362 nl nl3) (om362 el el3) (om365 kk kk3) ((lk0.trans W.lk).trans W3.lk) (λ{rest r Q} x=>⟨.c (.int (.ofNat 1)) (drH H so ce (k+1)) <|.g <|.it (.vals [.int (.ofNat 0),.int (.ofNat 1)]) <|.l .next (lwL so h (max (max e (e+d.size)) (off+d3.size)) a0 (.obj n3) (.int (.ofNat off)) (.int (.ofNat 1)) x0 y0) H3 r,?_⟩)
  have lp:ForR (P ns) (zc (P ns) 60 (m+8)) 60 (bdL 1) [10] true (.vals [.int (.ofNat 0),.int (.ofNat 1)]) [.int (.ofNat 0),.int (.ofNat 1)] (lwL so h e a0 b0 (.int (.ofNat 0)) d0 x0 y0) (drH H so ce (k+1)) .next (lwL so h (max (max e (e+d.size)) (off+d3.size)) a0 (.obj n3) (.int (.ofNat off)) (.int (.ofNat 1)) x0 y0) H3:=zx rfl run rfl (zx rfl run3 rfl zV)
  exact ok (I c0' <|I (rfl:G8 2 1000=G8 2 1000) <|I (rfl:some (It.vals [V.int (.ofNat 0),.int (.ofNat 1)])=some (It.vals [V.int (.ofNat 0),.int (.ofNat 1)])) <|I lp x) (by kernel_rfl)
 ·exact absurd hq (GX (GJ 2 _))
end
end G
end
section
namespace G
open Mn
theorem PN.setU{B:Nat}{H:Hp}{n kl p:Nat}{d:D}{kv:List V}{kids:F}{x:O}(q:PN B H n d kl kv kids)(l:n < p):PN B (H.set p x) n d kl kv kids:=
 ⟨q.bn,q.bk,zd q.at_ (D6 l),q.kid.elim λHk w=>⟨Hk,w.1,w.2.1,w.2.2.1,λi o b e=>zd (w.2.2.2 i o b e) λt=>by
  have l1:=Zu e
  rcases GW n Hk.length with l2|l2
  ·rw[List.getElem?_eq_getElem l2] at w;cases w.1
  ·exact om338 l t l1 l2⟩⟩
section
variable {ns:List Int} {h so ce:Nat} {cs:List Int} {H:Hp} {k:Nat} {nv:List V} {es fes:List (List Nat×V)} {ws ls:List Nat} {T:St}
theorem LwS.file{fs':List (List Nat×V)}(s:LwS h so ce cs H k nv es fes ws ls T):LwS h so ce cs (H.set (h+4) (.dict fs')) k nv es fs' ws ls T:=by
 have f:∀{i:Nat} {o:O},H[i]?=some o->i≠h+4->(H.set (h+4) (.dict fs'))[i]?=some o:=λq l=>zd q l.symm
 have so':=s.so
 have ce':=s.ce
 exact⟨⟨f s.src.s (om339 so'),f s.src.c (om339 ce'),s.src.p,s.src.l⟩,so',ce',f s.nm (om340),f s.da (om342),f s.wl (om344),f s.ll (om345),zB s.fd,f s.fo (om350),λb t q=>by
  have tb:=s.tb b t q
  have n:=s.now b t q
  exact⟨f n.1 (om351 tb),f n.2.kids (om352 tb),n.2.occ.imp id λq=>⟨q.1,f q.2 (zi q.2 s.fd λe=>by cases e).symm⟩⟩,by rw[GQ];exact s.len,s.tb⟩
noncomputable abbrev nodeE:E:=.call 723 (.cons (.l 1) (.cons (.bin .add (.c (.int 1)) (.call 709 (.cons (.l 1) (.cons (.c (.int 2)) .nil)))) (.cons (.c (.str [])) (.cons (.l 2) .nil))))
noncomputable abbrev itemE:E:=.call 730 (.cons (.l 0) (.cons (.c (.int 1)) .nil))
theorem Kq{m:Nat}{v:V}(s:LwS h so ce cs H k nv es fes ws ls T)(hk:k<=1000)(b:nv.length<=3){Gl:Prop}(kk:∀H' d kids kl kv n k' dp B,(1<=dp)->(dp<=2)->(B<=n)->(H.length<=B)->(LwS h so ce cs H' k' (nv++.str d.name::pnm kids) es fes ws ls T)->(k'<=k+17)->(PN B H' n d kl kv kids)->(Tok dp [] nv.length d kids)->(nc kids<=2)->((∀(i:Nat) (o:O),h+8<=i->H[i]?=some o->H'[i]?=some o))->(n < H'.length)->(∃as,evS (P ns) (zc (P ns) 60 (m+8)) nodeE [v,.obj so,.obj h] H as (λx H₁ _=>x= .obj n/\H₁=H'))->Gl):Gl:=by
 refine yE (ns:=ns) (m:=m+7) s.src (l:=2) (by decide) (om341 hk) ?_;intro q hq c0
 have s1:=s.dr (k+1)
 have so':=s.so
 have ll:(drH H so ce (k+1)).length=H.length:=by rw[drH,GQ]
 have kb1:kb (1+q)<=16:=by rcases q with _|_|q<;>first|decide|exact om349 hq
 have nb1:ncb (1+q)<=2:=by rcases q with _|_|q<;>first|decide|exact om353 hq
 refine Y1 (ns:=ns) (m:=m+3) (dp:=1+q) s1 (om354 hq) (om355 hk kb1) (om357 b nb1) H.length s.len (om359 ll) ?_
 intro H1 d kids kl kv n k1 c1 s2 hk1 p1 tk u1 nl1 ln1
 exact kk H1 d kids kl kv n k1 (1+q) H.length (om366) (om354 hq) (om367 ll ln1) (Gi _) s2 (om368 kb1 hk1) p1 tk (G5 tk.nc nb1) (λi o b e=>u1 i o b (zd e (om331 so' b))) nl1 ⟨.c (.int (.ofNat q)) (drH H so ce (k+1)) <|.c (.obj n) H1 .nil,ok (I c0 <|I c1 <|I (rfl:V.obj n=V.obj n) (rfl:H1=H1)) (by kernel_rfl)⟩
theorem Ko{m e n kl B c:Nat}{a0 c0 d0 x0 y0:V}{kv:List V}{d:D}{kids:F}(s:LwS h so ce cs H k nv es fes ws ls T)(hB:h+8<=B)(p:PN B H n d kl kv kids)(hm:ht kids<=2)(nm:d.name=nmS c)(nk:Nms (c+1) kids)(wf:Wf (effD [] d) none kids)(b1:es.length<=10)(b2:c<=10)(nc2:nc kids<=2){Gl:Prop}(kk:∀H' es',(LwS h so ce cs H' k nv es' fes ws ls T)->((∀(i:Nat) (o:O),h+8<=i->i≠n->H[i]?=some o->H'[i]?=some o))->(PN B H' n (once d d.upon) kl kv kids)->(getD d.name es'=some (plV [] 0 d.size))->(Fnd es' [] 0 0 kids)->(Kp c (1+nc kids) es es')->(es'.length<=es.length+(1+nc kids))->(H.length<=H'.length)->((∀{B' n' kl':Nat} {d':D} {kv':List V} {kids':F},h+8<=B'->n' < n∨n < B'->PN B' H n' d' kl' kv' kids'->PN B' H' n' d' kl' kv' kids'))->(∃as,exS (P ns) (zc (P ns) 60 (m+8)) 60 (bdL 0) (lwL so h e a0 (.obj n) c0 d0 x0 y0) H as (λg L' H₁ _=>g= .next/\L'=lwL so h (max e (0+d.size)) a0 (.obj n) c0 d0 x0 y0/\H₁=H'))->Gl):Gl:=by
 have n8:h+8<=n:=G5 hB p.bn
 obtain⟨H2,e2⟩:∃X,X=H.set n (.dict (dicF (once d d.upon) kl)):=⟨_,rfl⟩
 have s2:=s.dict (ds':=dicF (once d d.upon) kl) p.at_ n8
 have p2:=p.set (once d d.upon)
 have st:∀(i:Nat) (o:O),h+8<=i->i≠n->H[i]?=some o->(H.set n (.dict (dicF (once d d.upon) kl)))[i]?=some o:=λi o _ ne q=>zd q ne.symm
 have sp:∀{B' n' kl':Nat} {d':D} {kv':List V} {kids':F},n' < n∨n < B'->PN B' H n' d' kl' kv' kids'->PN B' (H.set n (.dict (dicF (once d d.upon) kl))) n' d' kl' kv' kids':=λl q=>l.elim (λl=>q.setU l) λl=>q.mono λi o b e=>zd e (om356 l b)
 have ln2:(H.set n (.dict (dicF (once d d.upon) kl))).length=H.length:=GQ ..
 rw[←e2] at s2 p2 st sp ln2
 refine ZG (ns:=ns) (m:=m+7) (base:=[]) (off:=0) s2 hB p2 (om361 hm) (c:=c) nm nk wf (om363 b1 nc2) (om364 b2 nc2) ?_;intro H3 es3 c3 s3 u3 g3 f3 kp3 l3 ln3
 have p3:=p2.mono λi o b q=>u3 i o (om271 hB b) q
 have mx:([.scr,.obj 1,.obj so,.obj h,.obj (h+1),.obj (h+7),.int (max (Gx e) (Gx d.size)),a0,.obj n,c0,d0,x0,y0]:Lc)=lwL so h (max e (0+d.size)) a0 (.obj n) c0 d0 x0 y0:=by
  rw[GU]
  exact congrArg (λi=>([.scr,.obj 1,.obj so,.obj h,.obj (h+1),.obj (h+7),.int i,a0,.obj n,c0,d0,x0,y0]:Lc)) (maxN e d.size)
 exact kk H3 es3 s3 (λi o b ne q=>u3 _ _ b (st _ _ b ne q)) p3 g3 f3 kp3 l3 (om367 ln2 ln3) (λhb l q=>(sp l q).mono λi o b e=>u3 i o (om271 hb b) e) ⟨.o (.dict (dicF d kl)) <|.g <|.h H2 <|.c .none H3 <|.o (.dict (dicF (once d d.upon) kl)) .nil,ok (I p.at_ <|I (rfl:Gz 7 1000=Gz 7 1000) <|I e2.symm <|I c3 <|I p3.at_ <|I (rfl:Fl.next=Fl.next) <|I mx (rfl:H3=H3)) (by kernel_rfl)⟩
end
end G
end
section
namespace G
open Mn
section
variable {ns:List Int} {h so ce:Nat} {cs:List Int} {H:Hp} {k:Nat} {T:St}
theorem Kr{m n kl B:Nat}{nv:List V}{es fes:List (List Nat×V)}{ws ls:List Nat}{kv:List V}{d:D}{kids:F}(s:LwS h so ce cs H k nv es fes ws ls T)(p:PN B H n d kl kv kids)(hm:ht kids<=2)(nd:Nd [] d kids)(wf:Wf (effD [] d) none kids)(one:d.often=1)(b:nc kids<=900){Gl:Prop}(kk:∀H' T' a t,(LwS h so ce cs H' k nv es fes ws ls T')->(Ex H H')->(H.length<=H'.length)->((∀b s,T b=some s->T' b=some s))->(Node T' [] [] 0 d a t)->(Des T' [] [a] 0 0 kids t.kids)->(∃as,evS (P ns) (zc (P ns) 60 (m+8)) itemE [.obj n] H as (λx H₁ _=>x= .obj a/\H₁=H'))->Gl):Gl:=by
 refine X3 (ns:=ns) (m:=m+7) (base:=[]) (off:=0) s p (om369 hm) nd wf one b ?_;intro H4 T4 a t c4 x4 ln4 s4 sub4 nd4 ds4
 exact kk H4 T4 a t s4 x4 ln4 sub4 nd4 ds4 ⟨.c (.obj a) H4 .nil,ok (I c4 <|I (rfl:V.obj a=V.obj a) (rfl:H4=H4)) (by kernel_rfl)⟩
theorem Tok.once{dp c:Nat}{d:D}{kids:F}(tk:Tok dp [] c d kids):Nd [] (Mn.G.once d d.upon) kids/\Wf (effD [] (Mn.G.once d d.upon)) none kids:=⟨jL tk d.upon,tk.wf⟩
theorem objs2(a b:Nat):Z2 [V.obj a,.obj b] [.obj a,.obj b]=true:=kH [a,b]
theorem seg_file{m:Nat}{c0 d0 x0 y0:V}(s:LwS h so ce cs H 0 [] [] [] [] [] (λ_=>none)){Gl:Prop}(kk:∀H' k' nv' es' fes' T' fs all' e' a b,(LwS h so ce cs H' k' nv' es' fes' [] [] T')->(Acc T' es' fs nv' all')->(FRl T' 0 0 fs e')->((fes'=[]/\fs=[]∨∃fl,fes'=[([70],.obj fl)]/\h+8<=fl/\H'[fl]?=some (.list (fs.map .obj))))->(fs.length<=2)->(nv'.length<=6)->(es'.length<=6)->(k'<=100)->(∀{rest:S} {r:As} {Q:KA},exS (P ns) (zc (P ns) 60 (m+8)) 60 rest (lwL so h e' a b c0 d0 x0 y0) H' r Q->
    ∃as,exS (P ns) (zc (P ns) 60 (m+8)) 60 (.seq (hdS (lawL 6)) rest) (lwL so h 0 .bad .bad c0 d0 x0 y0) H as Q)->Gl):Gl:=by
 refine yE (ns:=ns) (m:=m+7) s.src (l:=2) (by decide) (om370) ?_;intro q hq cc
 have s1:=s.dr 1
 have so':=s.so
 rcases q with _|_|q
 ·refine kk _ 1 ([]) ([]) ([]) _ ([]) ([]) 0 .bad .bad s1 .nil rfl (.inl ⟨rfl,rfl⟩) (by decide) (by decide) (by decide) (by decide) (λ{rest r Q} x=>⟨.c (.int (.ofNat 0)) (drH H so ce 1) <|.b false <|.b false r,ok (I cc <|I (cq .eq (.int (.ofNat 0)) (.int 1) false (drH H so ce 1) rfl) <|I (bq false) x) (by kernel_rfl)⟩)
 ·
  refine Kq (ns:=ns) (m:=m) (v:=.int (.ofNat 0)) s1 (by decide) (by decide) ?_
  intro H1 d1 g1 kl1 kv1 n1 k1 dp1 B1 p1a p1b bn1 hB1 s2 kk1 q1 tk1 nc1 u1 nl1
  rintro⟨as1,r1⟩
  have l1:([]++V.str d1.name::pnm g1).length=1+nc g1:=by rw[Ft,GB,Zj];exact om371
  refine Kq (ns:=ns) (m:=m) (v:=.int (.ofNat 1)) s2 (om372 kk1) (om373 nc1 l1) ?_
  intro H2 d2 g2 kl2 kv2 n2 k2 dp2 B2 p2a p2b bn2 hB2 s3 kk2 q2 tk2 nc2 u2 nl2
  rintro⟨as2,r2⟩
  have hl:=s.len
  have ll1:(drH H so ce 1).length=H.length:=by rw[drH,GQ]
  have b1:h+8<=B1:=by exact om374 hB1 hl ll1
  have b2:h+8<=B2:=by have:=s2.len;exact om257 hB2 this
  have n12:n1 < B2:=by exact om375 nl1 hB2
  have q1':=q1.mono λi o b e=>u2 i o (om376 hB1 hl ll1 b) e
  have cp:YJ (ev (P ns) (zc (P ns) 60 (m+8)) nodeE X0) (cnd (P ns) (zc (P ns) 60 (m+8)) (.c (.bool true))) 1 [.obj so,.obj h] (.vals [.int (.ofNat 0),.int (.ofNat 1)]) [.int (.ofNat 0),.int (.ofNat 1)] [] (drH H so ce 1) [.obj n1,.obj n2] H2:=
   cpIn (H₁:=drH H so ce 1) (as:=.nil) rfl (ok (I (rfl:true=true) (rfl:drH H so ce 1=drH H so ce 1)) (by kernel_rfl)) r1 rfl (cpIn (H₁:=H1) (as:=.nil) rfl (ok (I (rfl:true=true) (rfl:H1=H1)) (by kernel_rfl)) r2 rfl KF)
  have x3:Ex H2 (H2++[O.list [.obj n1,.obj n2]]):=Ex.app _
  have nl:(H2++[O.list [V.obj n1,.obj n2]])[H2.length]?=some (.list [.obj n1,.obj n2]):=ze
  have s4:=s3.ex x3 (by rw[len1];exact om231)
  have q1:=q1'.mono λi o _ e=>x3 i o e
  have q2:=q2.mono λi o _ e=>x3 i o e
  have h1:=tk1.ht
  have h2:=tk2.ht
  refine Ko (ns:=ns) (m:=m) (e:=0) (c:=0) (a0:=.obj H2.length) (c0:=c0) (d0:=d0) (x0:=x0) (y0:=y0) s4 b1 q1 (om384 h1) tk1.nm tk1.nk tk1.wf (by decide) (by decide) nc1 ?_
  intro H4 es4 s5 st4 q1 gd1 fn1 kp1 el1 ln4 pn4
  rintro⟨as4,r4⟩
  have q2:=pn4 b2 (.inr n12) q2
  have el1:es4.length<=0+(1+nc g1):=el1
  have tn2:d2.name=nmS (1+nc g1):=by rw[tk2.nm,l1]
  have tk22:Nms (1+nc g1+1) g2:=by have:=tk2.nk;rw[l1] at this;exact this
  refine Ko (ns:=ns) (m:=m) (e:=max 0 (0+d1.size)) (c:=1+nc g1) (a0:=.obj H2.length) (c0:=c0) (d0:=d0) (x0:=x0) (y0:=y0) s5 b2 q2 (om384 h2) tn2 tk22 tk2.wf (om386 nc1 el1) (om388 nc1) nc2 ?_
  intro H5 es5 s6 st5 q2 gd2 fn2 kp2 el2 ln5 pn5
  rintro⟨as5,r5⟩
  have q1:=pn5 b1 (.inl (om389 bn2 n12)) q1
  have nla:=st4 _ _ (om390 bn2 nl2 b2) (om391 bn2 nl2 n12) nl
  have nlb:=st5 _ _ (om390 bn2 nl2 b2) (om205 nl2) nla
  have lp:ForR (P ns) (zc (P ns) 60 (m+8)) 60 (bdL 0) [8] true (.lst H2.length [.obj n1,.obj n2]) [.obj n1,.obj n2] (lwL so h 0 (.obj H2.length) .bad c0 d0 x0 y0) (H2++[O.list [.obj n1,.obj n2]]) .next (lwL so h (max (max 0 (0+d1.size)) (0+d2.size)) (.obj H2.length) (.obj n2) c0 d0 x0 y0) H5:=
   zx rfl r4 (yA nla (objs2 n1 n2)) (zx rfl r5 (yA nlb (objs2 n1 n2)) zV)
  refine Kr (ns:=ns) (m:=m) s6 q1 (om384 h1) tk1.once.1 tk1.once.2 rfl (Jv nc1) ?_
  intro H6 T6 a1 t1 s7 x6 ln6 sub6 nd6 ds6
  rintro⟨as6,r6⟩
  have q2:=q2.mono λi o _ e=>x6 i o e
  refine Kr (ns:=ns) (m:=m) s7 q2 (om384 h2) tk2.once.1 tk2.once.2 rfl (Jv nc2) ?_
  intro H7 T7 a2 t2 s8 x7 ln7 sub7 nd7 ds7
  rintro⟨as7,r7⟩
  have nlc:=x6 _ _ nlb
  have nld:=x7 _ _ nlc
  have cp2:YJ (ev (P ns) (zc (P ns) 60 (m+8)) itemE X0) (cnd (P ns) (zc (P ns) 60 (m+8)) (.c (.bool true))) 1 [] (.lst H2.length [.obj n1,.obj n2]) [.obj n1,.obj n2] [] H5 [.obj a1,.obj a2] H7:=
   cpIn (H₁:=H5) (as:=.nil) rfl (ok (I (rfl:true=true) (rfl:H5=H5)) (by kernel_rfl)) r6 (yA nlc (objs2 n1 n2)) (cpIn (H₁:=H6) (as:=.nil) rfl (ok (I (rfl:true=true) (rfl:H6=H6)) (by kernel_rfl)) r7 (yA nld (objs2 n1 n2)) KF)
  have x8:Ex H7 (H7++[O.list [.obj a1,.obj a2]]):=Ex.app _
  have s9:=s8.ex x8 (by rw[len1];exact om231)
  have s10:=s9.file (fs':=[([70],.obj H7.length)])
  have fl8:h+8<=H7.length:=s8.len
  have kj:∀j,j < 1+nc g1->getD (nmS j) es5=getD (nmS j) es4:=λj hj=>kp2 j (om397 nc1 hj) (.inl hj)
  have gd1':getD (once d1 d1.upon).name es5=some (plV [] 0 (once d1 d1.upon).size):=by
   show getD d1.name es5=some (plV [] 0 d1.size)
   rw[tk1.nm,show([]:List V).length=0 from rfl,kj 0 (om400)]
   have:=gd1;rw[tk1.nm] at this;exact this
  have fn1':Fnd es5 [] 0 0 g1:=Fnd.mono g1 1 _ _ tk1.nk (λj hj _ h2=>kj j (om402 h2)) (om403 nc1) fn1
  refine zh ((Acc.nil (T:=T6) (es:=es5)).snoc nd6 ds6 tk1.once.1 tk1.once.2 tk1.nm tk1.nk gd1' fn1' (om300 nc1)) λall1 ac1=>?_
  refine zh ((ac1.mono sub7 λ_ _=>rfl).snoc nd7 ds7 tk2.once.1 tk2.once.2 tk2.nm tk2.nk gd2 fn2 (om300 nc2)) λall2 ac2=>?_
  have rt1:=(jg tk1 d1.upon nd6 ds6 (Jv nc1)).mono sub7
  have rt2:=jg tk2 d2.upon nd7 ds7 (Jv nc2)
  refine kk _ k2 _ es5 _ T7 ([a1,a2]) all2 (max (max 0 (0+d1.size)) (0+d2.size)) (.obj H2.length) (.obj n2) s10 ac2 ⟨_,_,_,rt1,Ys tk1.up,_,_,_,rt2,Ys tk2.up,rfl⟩ (.inr ⟨H7.length,rfl,fl8,zd ze (om405 fl8)⟩) (by decide:2<=2) (by rw[G7,GB,Zj,l1];exact om406 nc1 nc2) (om407 nc1 nc2 el1 el2) (om408 kk1 kk2) (λ{rest r Q} x=>⟨.c (.int (.ofNat 1)) (drH H so ce 1) <|.b true <|.b true <|.m [.obj n1,.obj n2] H2 <|.it (.lst H2.length [.obj n1,.obj n2]) <|.l .next (lwL so h (max (max 0 (0+d1.size)) (0+d2.size)) (.obj H2.length) (.obj n2) c0 d0 x0 y0) H5 <|.it (.lst H2.length [.obj n1,.obj n2]) <|.m [.obj a1,.obj a2] H7 <|.o (datO (h+2) (h+3) (h+4) (h+5) 0 (h+6)) <|.o (.dict []) <|.g <|.h ((H7++[O.list [.obj a1,.obj a2]]).set (h+4) (.dict [([70],.obj H7.length)])) r,?_⟩)
  exact ok (I cc <|I (cq .eq (.int (.ofNat 1)) (.int 1) true (drH H so ce 1) rfl) <|I (bq true) <|I cp <|I (zo nl) <|I lp <|I (zo nlb) <|I cp2 <|I s9.da <|I s9.fd <|I (rfl:Gz 0 1000=Gz 0 1000) <|I (rfl:(H7++[O.list [V.obj a1,.obj a2]]).set (h+4) (.dict [([70],.obj H7.length)])=(H7++[O.list [.obj a1,.obj a2]]).set (h+4) (.dict [([70],.obj H7.length)])) x) (by kernel_rfl)
 ·exact absurd hq (GX (GJ 2 _))
end
end G
end
section
namespace G
open Mn
theorem FRl.mono{T T':St}(m:∀b s,T b=some s->T' b=some s){off:Nat}:∀(as:List Nat) (e e':Nat),FRl T off e as e'->FRl T' off e as e':=by
 intro as
 induction as with
 |nil=>
  intro y1 y2 h
  exact h
 |cons a r ih=>
  intro e e' h
  refine Z9 (h) ?_;clear h;intro d k s rt f h
  exact⟨d,k,s,rt.mono m,f,ih _ _ h⟩
theorem WRl.mono{T T':St}(m:∀b s,T b=some s->T' b=some s):∀(as:List Nat) (e la:Nat) (l:Option D) (e':Nat),WRl T e la l as e'->WRl T' e la l as e':=by
 intro as
 induction as with
 |nil=>
  intro y1 y2 y3 y4 h
  exact h
 |cons a r ih=>
  intro e la l e' h
  refine zF (h) ?_;clear h;intro d k s rt h
  refine⟨d,k,s,rt.mono m,?_⟩
  rcases fr:fre d with _|_
  ·rw[fr] at h;exact⟨h.1,ih _ _ _ _ h.2⟩
  ·rw[fr] at h;exact ih _ _ _ _ h
structure Fin (T:St) (es:List (List Nat×V)) (H:Hp) (a:Nat) (s:SI) (p:Nat) (fs:List (Nat×V)) (c:List Nat):Prop where
 t:T a=some s
 at_:H[a]?=some (zb s s.base s.off s.d.size (.obj p))
 sh:H[p]?=some (.inst 528 fs)
 z:getF 6 fs=some (.int (.ofNat s.d.size))
 cE:getF 31 fs=some (.str c)
 g:eqS c yz=s.d.leaf.isNone
 pl:getD s.d.name es=some (plV s.base s.off s.d.size)
 nb:nb s.kids=s.d.leaf.isNone
 kl:H[s.kl]?=some (.list (s.kids.map .obj))
theorem pre_szof{T:St}{H:Hp}{base:List Nat}: ∀(f g:F) (anc:List Nat) (h l:Nat) (as res:List Nat),Pre T f as res->Des T base anc h l g as->SzAll T H g as->OfAll T H g as->∀a,a∈res->SzOk T H a/\OfOk T H a:=by
 intro f
 induction f with
 |nil=>
  intro y0 y1 y2 y3 y4 y5 p y7 y8 y9 a m
  exact by rw[p.2] at m;cases m
 |node d k r ihk ihr=>
  intro g anc h l y4 y5 p q z o b m
  refine YV (p) ?_;clear p;intro a rs s x y rq5 t p1 p2 rq9;subst rq5;subst rq9
  rcases g with _|⟨d',k',r'⟩
  ·have e:a::rs=[]:=q
   cases e
  refine Zh (q) ?_;clear q;intro _ _ _ e nd q1 q2
  cases e
  cases t.symm.trans nd.t
  refine YD (z) ?_;clear z;intro _ _ _ e t2 z1 z2 z3
  cases e
  cases t.symm.trans t2
  refine YD (o) ?_;clear o;intro _ _ _ e t3 o1 o2 o3
  cases e
  cases t.symm.trans t3
  rcases Gh.mp m with rfl|m
  ·exact⟨z1,o1⟩
  ·exact(Gn.mp m).elim (ihk k' _ _ _ _ _ p1 q1 z2 o2 b) (ihr r' _ _ _ _ _ p2 q2 z3 o3 b)
theorem done_all{T:St}{H:Hp}: ∀(as all:List Nat),RPre T as all->DoneL T H as->∀a,a∈all->SzOk T H a/\OfOk T H a:=by
 intro as
 induction as with
 |nil=>
  intro all p y2 a m
  have e:all=[]:=p
  rw[e] at m;cases m
 |cons a r ih=>
  intro all p dn b m
  refine Zh (p) ?_;clear p;intro f x y p1 _ p3 rq6;subst rq6
  refine JS (dn a (.head _)) λbase off d kids s rt q=>?_
  rcases Gn.mp m with m|m
  ·refine pre_szof f (.node d kids .nil) [] off off [a] x p1 (base:=base) ⟨a,[],s,rfl,?_,?_,rfl⟩ ⟨a,[],s,rfl,rt.node.t,q.sz,q.sk,trivial⟩ ⟨a,[],s,rfl,rt.node.t,q.of,q.ok,trivial⟩ b m
   ·have e:ifN (fre d) off off=off:=by rcases fre d<;>rfl
    rw[e];exact rt.node
   ·have e:ifN (fre d) off off=off:=by rcases fre d<;>rfl
    rw[e];exact rt.des
  ·exact ih y p3 (λc hc=>dn c (.tail _ hc)) b m
theorem fin_of{T:St}{H:Hp}{es:List (List Nat×V)}{c a:Nat}(iv:Inv T H)(z:SzOk T H a)(o:OfOk T H a)(g:Good T es c a){Gl:Prop}(kk:∀s p fs k,(Fin T es H a s p fs k)->Gl):Gl:=by
 refine xe6c6 (z) ?_;clear z;intro s b o' p fs k t h1 h2 h3 h4 h5
 refine zF (o) ?_;clear o;intro s2 z2 sh t2 h6
 cases t.symm.trans t2
 refine Zo (Xc (Ga (h1.symm.trans h6))) λe1 e2 _ _=>?_
 refine j8 (g) ?_;clear g;intro s3 t3 g1 g2 _
 cases t.symm.trans t3
 exact kk s p fs k ⟨t,by rw[h1,e1,e2],h2,h3,h4,h5,g1,g2,(iv a s t).2.kids⟩
theorem eqFs_rf{T:St}: ∀as:List Nat,(∀a,a∈as->∃s,T a=some s)->eqFs (as.map (nmV T)) (as.map (nmV T))=some true:=by
 intro as
 induction as with
 |nil=>
  intro y0
  exact rfl
 |cons a r ih=>
  intro h
  refine zh (h a (.head _)) λs t=>?_
  show(match eqF (nmV T a) (nmV T a),eqFs (r.map (nmV T)) (r.map (nmV T)) with|some x,some y=>some (x && y)|_,_=>none)=_
  rw[YO t,ih λq hq=>h q (.tail _ hq)]
  show some (eqS s.d.name s.d.name && true)=_
  rw[YR];rfl
theorem eq_lists{H:Hp}{i j:Nat}{vs:List V}(h1:H[i]?=some (.list vs))(h2:H[j]?=some (.list vs))(e:eqFs vs vs=some true):zW .ne (.obj i) (.obj j) H=some false:=by
 show((match H[i]? with|some (.list vs)=>(match H[j]? with|some (.list us)=>(match Gg vs.length us.length with|true=>eqFs vs us|false=>some false)|_=>none)|_=>none).map (!·))=_
 rw[h1,h2]
 show((match Gg vs.length vs.length with|true=>eqFs vs vs|false=>some false).map (!·))=_
 rw[Fd,e];rfl
theorem Kx(i:Int):eqI i i=true:=decide_eq_true rfl
theorem eq_pl(b:List Nat)(o z:Nat)(H:Hp):zW .ne (.tup [.str b,.int (.ofNat o),.int (.ofNat z)]) (plV b o z) H=some false:=by
 show(some (eqS b b && (eqI (.ofNat o) (.ofNat o) && (eqI (.ofNat z) (.ofNat z) && true)))).map (!·)=_
 rw[YR,Kx,Kx];rfl
theorem ne_int(z:Nat)(H:Hp):zW .ne (.int (.ofNat z)) (.int (.ofNat z)) H=some false:=by
 show(some (eqI (.ofNat z) (.ofNat z))).map (!·)=_
 rw[Kx];rfl
theorem ne_bool(q:Bool)(H:Hp):zW .ne (.bool q) (.bool q) H=some false:=by rcases q<;>rfl
section
variable {ns:List Int} {h so ce:Nat} {cs:List Int} {H:Hp} {T:St}
theorem end_loop{C:Orc}{e ip:Nat}{a0 b0 c0 d0:V}{es:List (List Nat×V)}{all:List Nat}{uf:Hp}(hf:uf[h+7]?=some (.dict es))(hi:uf[ip]?=some (.list (all.map .obj))):∀(as:List Nat) (y0:V) (H:Hp),Ex uf H->(∀a,a∈as->∃s p fs c,Fin T es uf a s p fs c)->
  ∃L' H',ForR (P ns) C 60 (bdL 2) [12] true (.lst ip (all.map .obj)) (as.map .obj) (lwL so h e a0 b0 c0 d0 (.obj ip) y0) H .next L' H':=by
 intro as
 induction as with
 |nil=>
  intro y0 H x g
  exact⟨_,_,zV⟩
 |cons a as ih=>
  intro y0 H x g
  refine xe4c1 (g a (.head _)) λs p fs c f=>?_
  have x2:=x.trans (Ex.app [O.list []])
  refine Jo (ih (.obj a) (H++[O.list []]) x2 λq hq=>g q (.tail _ hq)) λL' H' w=>?_
  have ha:=x _ _ f.at_
  have hp:=x _ _ f.sh
  have nk:zW .ne (.obj s.kl) (.obj H.length) (H++[O.list []])=some (nb s.kids):=jX (x2 _ _ f.kl) ze
  have hq:zW .ne (.bool (eqS c yz)) (.bool (nb s.kids)) (H++[O.list []])=some false:=by rw[f.g,f.nb];exact ne_bool _ _
  exact⟨L',H',zx (as:=.o (zb s s.base s.off s.d.size (.obj p)) <|.o (zb s s.base s.off s.d.size (.obj p)) <|.o (zb s s.base s.off s.d.size (.obj p)) <|.o (zb s s.base s.off s.d.size (.obj p)) <|.o (.dict es) <|.w (plV s.base s.off s.d.size) <|.b false <|.b false <|
    .o (zb s s.base s.off s.d.size (.obj p)) <|.o (.inst 528 fs) <|.w (.int (.ofNat s.d.size)) <|.o (zb s s.base s.off s.d.size (.obj p)) <|.b false <|.b false <|
    .o (zb s s.base s.off s.d.size (.obj p)) <|.o (.inst 528 fs) <|.w (.str c) <|.b (eqS c yz) <|.o (zb s s.base s.off s.d.size (.obj p)) <|.b (nb s.kids) <|.b false <|.b false .nil) rfl
   (ok (I ha <|I ha <|I ha <|I ha <|I (x _ _ hf) <|I f.pl <|I (eq_pl s.base s.off s.d.size H) <|I (bq false) <|I ha <|I hp <|I f.z <|I ha <|I (ne_int s.d.size H) <|I (bq false) <|I ha <|I hp <|I f.cE <|I (rfl:some (eqS c yz)=some (eqS c yz)) <|I ha <|I nk <|I hq <|I (bq false) <|
    fin3 .next (lwL so h e a0 b0 c0 d0 (.obj ip) (.obj a)) (H++[O.list []])) (by kernel_rfl)) (zm (x2 _ _ hi)) w⟩
theorem c2_in{C:Orc}{it:It}{v:V}{H:Hp}(st:it.stands H=true):∀(ys:List Nat) (acc:List V) (Q:List V->Hp->Prop),Q (acc.reverse++ys.map .obj) H->Zm (ev (P ns) C (.l 0) X0) (λ_ H q=>q true H) 1 [v] it (ys.map .obj) acc H Q:=by
 intro ys
 induction ys with
 |nil=>
  intro acc Q q
  exact by rw[show([]:List Nat).map V.obj=[] from rfl,GH] at q;exact q
 |cons y r ih=>
  intro acc Q q
  refine gd_iff.mpr ⟨rfl,gd_iff.mpr ⟨st,ih (.obj y::acc) Q ?_⟩⟩
  rw[Dc,Gk];exact q
theorem c2_loop{m ip:Nat}{rs:List Nat}{uf:Hp}(iv:Inv T uf)(hi:uf[ip]?=some (.list (rs.map .obj))):∀(as all dn:List Nat) (H:Hp),Ex uf H->RPre T as all->dn.length+all.length<=900->
  ∃H',Ex uf H'/\Jm (.lst ip (rs.map .obj)) (ev (P ns) (zc (P ns) 60 (m+1)) (.call 192 (.cons (.l 0) .nil)) X0) (ev (P ns) (zc (P ns) 60 (m+1)) (.l 0) X0) (as.map .obj) (dn.map V.obj).reverse H ((dn++all).map .obj) H':=by
 intro as
 induction as with
 |nil=>
  intro all dn H x p b
  have e:all=[]:=p
  rw[e,GH]
  exact⟨H,x,λQ q=>by show Q (dn.map V.obj).reverse.reverse H;rw[DB];exact q⟩
 |cons a r ih=>
  intro all dn H x p b
  refine Zh (p) ?_;clear p;intro f u v p1 p2 p3 rq6;subst rq6
  rw[G7] at b
  refine jq (ns:=ns) (m:=m) ((Le.ex x).inv iv) p1 p2 ?_;intro H1 c x1 q1
  refine za (ih v (dn++u) H1 (x.trans x1) p3 (by rw[G7];exact om106 b)) λH2 x2 w=>?_
  refine⟨H2,x2,λQ q=>?_⟩
  have e:evS (P ns) (zc (P ns) 60 (m+1)) (.call 192 (.cons (.l 0) .nil)) [.obj a] H (.c (.obj H.length) H1 .nil) (λz H' _=>z= .obj H.length/\H'=H1):=ok (I c <|I (rfl:V.obj H.length=V.obj H.length) (rfl:H1=H1)) (by kernel_rfl)
  refine gd_iff.mpr ⟨G6 (by rw[Dh,Gm];exact on3l b),yk (P ns) _ _ e λz H' _ hz=>?_⟩
  refine zf (hz) ?_;clear hz;intro rq0 rq1;subst rq0;subst rq1
  refine Yr (zo q1) (c2_in (zm q1) u _ _ (gd_iff.mpr ⟨zm (x1 _ _ (x _ _ hi)),?_⟩))
  rw[DB,ye]
  refine w Q ?_
  rw[Gk];exact q
end
end G
end
section
namespace G
open Mn
section
variable {ns:List Int} {h so ce:Nat} {cs:List Int} {H:Hp} {T:St}
theorem kind_db{i:Nat}{vs:List (List Nat×V)}{H:Hp}(h:H[i]?=some (.dict vs)):YT .get (.obj i) H=true:=by
 show(match H[i]? with|some (.dict _)=>true|_=>false)=true
 rw[h]
theorem end_run{m e2 ix p:Nat}{a0 b0 c0 d0 x0 y0:V}{fes:List (List Nat×V)}{fs ws ls all:List Nat}{nms:List V}{C:Orc}{H1 H5 H8:Hp}{L8:Lc}(hg:fes=[]/\p=H1.length∨fes=[([70],.obj p)])(c1:Call C 702 [.obj (h+1)] H .none H1)
  (hd:H1[h+1]?=some (datO (h+2) (h+3) (h+4) (h+5) e2 ix)) (hf:H1[h+4]?=some (.dict fes)) (hp:(H1++[O.list []])[p]?=some (.list (fs.map .obj))) (hw:H1[h+2]?=some (.list (ws.map .obj))) (hl:H1[h+3]?=some (.list (ls.map .obj))) (b1:fs.length+ws.length<=1000) (b2:(fs++ws).length+ls.length<=1000) (b3:all.length<=1000) (b4:nms.length<=1000)
  (w5:Jm (.lst (H1++[O.list []]++[O.list ((fs++ws).map .obj)]).length ((fs++ws++ls).map .obj)) (ev (P ns) C (.call 192 (.cons (.l 0) .nil)) X0) (ev (P ns) C (.l 0) X0) ((fs++ws++ls).map .obj) [] (H1++[O.list []]++[O.list ((fs++ws).map .obj)]++[O.list ((fs++ws++ls).map .obj)]) (all.map .obj) H5)
  (cpn:YJ (ev (P ns) C (.a (.l 0) 22) X0) (cnd (P ns) C (.c (.bool true))) 1 [] (.lst H5.length (all.map .obj)) (all.map .obj) [] (H5++[O.list (all.map .obj)]) nms (H5++[O.list (all.map .obj)]))
  (enm:zW .ne (.obj (H5++[O.list (all.map V.obj)]).length) (.obj h) (H5++[O.list (all.map .obj)]++[O.list nms])=some false) (hd7:(H5++[O.list (all.map V.obj)]++[O.list nms])[h+1]?=some (datO (h+2) (h+3) (h+4) (h+5) e2 ix))
  (w8:ForR (P ns) C 60 (bdL 2) [12] true (.lst H5.length (all.map .obj)) (all.map .obj) (lwL so h e2 a0 b0 c0 d0 (.obj H5.length) y0) (H5++[O.list (all.map .obj)]++[O.list nms]) .next L8 H8) :
  ∃as,exS (P ns) C 60 (lawL 13) (lwL so h e2 a0 b0 c0 d0 x0 y0) H as (λg _ _ _=>g= .ret (.bool true)):=by
 have x2:Ex H1 (H1++[O.list []]):=Ex.app _
 have x3:Ex H1 (H1++[O.list []]++[O.list ((fs++ws).map .obj)]):=x2.trans (Ex.app _)
 have k1:=kind_db hf
 have o1:(H1++[O.list []]++[O.list (fs.map V.obj++ws.map V.obj)])[h+1]?=some (datO (h+2) (h+3) (h+4) (h+5) e2 ix):=by rw[ye];exact x3 _ _ hd
 have o2:(H1++[O.list []]++[O.list (fs.map V.obj++ws.map V.obj)])[(H1++[O.list []]).length]?=some (.list ((fs++ws).map .obj)):=by rw[ye];exact ze
 have o3:(H1++[O.list []]++[O.list (fs.map V.obj++ws.map V.obj)])[h+3]?=some (.list (ls.map .obj)):=by rw[ye];exact x3 _ _ hl
 have o4:zU (.obj (H1++[O.list []]++[O.list (fs.map V.obj++ws.map V.obj)]).length) (H1++[O.list []]++[O.list (fs.map V.obj++ws.map V.obj)]++[O.list ((fs++ws).map V.obj++ls.map V.obj)])=some (.lst (H1++[O.list []]++[O.list ((fs++ws).map .obj)]).length ((fs++ws++ls).map .obj)):=by rw[ye,ye];exact zo ze
 have o5:Jm (.lst (H1++[O.list []]++[O.list ((fs++ws).map .obj)]).length ((fs++ws++ls).map .obj)) (ev (P ns) C (.call 192 (.cons (.l 0) .nil)) X0) (ev (P ns) C (.l 0) X0) ((fs++ws++ls).map .obj) [] (H1++[O.list []]++[O.list (fs.map V.obj++ws.map V.obj)]++[O.list ((fs++ws).map V.obj++ls.map V.obj)]) (all.map .obj) H5:=by rw[ye,ye];exact w5
 have g3:G8 (all.map V.obj).length 1000=true:=by rw[Gm];exact G6 b3
 have it7:zU (.obj H5.length) (H5++[O.list (all.map V.obj)])=some (.lst H5.length (all.map .obj)):=zo ze
 have it8:zU (.obj H5.length) (H5++[O.list (all.map V.obj)]++[O.list nms])=some (.lst H5.length (all.map .obj)):=zo (zk ze)
 have hf2:=x2 _ _ hf
 refine⟨.c .none H1 <|.o (datO (h+2) (h+3) (h+4) (h+5) e2 ix) <|.g <|.o (.dict fes) <|.o (datO (h+2) (h+3) (h+4) (h+5) e2 ix) <|.o (.list (fs.map .obj)) <|.o (.list (ws.map .obj)) <|.g <|.o (datO (h+2) (h+3) (h+4) (h+5) e2 ix) <|.o (.list ((fs++ws).map .obj)) <|.o (.list (ls.map .obj)) <|.g <|
  .it (.lst (H1++[O.list []]++[O.list ((fs++ws).map .obj)]).length ((fs++ws++ls).map .obj)) <|.m (all.map .obj) H5 <|.g <|.it (.lst H5.length (all.map .obj)) <|.m nms (H5++[O.list (all.map .obj)]) <|.g <|.b false <|.b false <|.o (datO (h+2) (h+3) (h+4) (h+5) e2 ix) <|.b false <|.b false <|.it (.lst H5.length (all.map .obj)) <|.l .next L8 H8 .nil,?_⟩
 have rest:=I g3 <|I it7 <|I cpn <|I (G6 b4) <|I enm <|I (bq false) <|I hd7 <|I (ne_int e2 (H5++[O.list (all.map .obj)]++[O.list nms])) <|I (bq false) <|I it8 <|I w8 (rfl:Fl.ret (.bool true)= .ret (.bool true))
 rcases hg with⟨rfl,rfl⟩|rfl
 ·exact ok (I c1 <|I hd <|I k1 <|I hf2 <|I (x2 _ _ hd) <|I hp <|I (x2 _ _ hw) <|I (Z1 b1) <|I o1 <|I o2 <|I o3 <|I (Z1 b2) <|I o4 <|I o5 rest) (by kernel_rfl)
 ·exact ok (I c1 <|I hd <|I k1 <|I hf2 <|I (x2 _ _ hd) <|I hp <|I (x2 _ _ hw) <|I (Z1 b1) <|I o1 <|I o2 <|I o3 <|I (Z1 b2) <|I o4 <|I o5 rest) (by kernel_rfl)
theorem seg_end{m e1 e2 k a:Nat}{a0 b0 c0 d0 x0 y0:V}{nv:List V}{es fes:List (List Nat×V)}{fs ws all:List Nat}(s:LwS h so ce cs H k nv es fes ws [a] T)(acc:Acc T es (fs++ws++[a]) nv all)(r1:FRl T 0 0 fs e1)(r2:WRl T e1 0 none ws e2)(r3:∃d kids t,Root T d.name 0 d kids a t)
  (fl:fes=[]/\fs=[]∨∃fl,fes=[([70],.obj fl)]/\h+8<=fl/\H[fl]?=some (.list (fs.map .obj))) (bf:fs.length<=2) (bw:ws.length<=2) (bn:nv.length<=40) :
  ∃as,exS (P ns) (zc (P ns) 60 (m+20)) 60 (lawL 13) (lwL so h e2 a0 b0 c0 d0 x0 y0) H as (λg _ _ _=>g= .ret (.bool true)):=by
 have tno:∀{i:Nat},i < h+8->T i=none:=λ{i} l=>by
  rcases t:T i with _|q
  ·rfl
  ·exact absurd (s.tb _ _ t).1 (DI l)
 have iv:=s.now.inv
 have lal:=acc.len
 have kd:Dat H (h+2) (h+3) (h+4) fes fs ws [a]:=⟨s.fd,fl.imp id λ⟨x,q⟩=>⟨x,q.1,q.2.2⟩,s.wl,s.ll⟩
 have lb:fs.length+ws.length+ [a].length<=900:=by show fs.length+ws.length+1<=900;exact om377 bf bw
 obtain⟨H1,ix,c1,x1,hd1,dn⟩:=lo_call (ns:=ns) (m:=m+17) (GJ 17 m:17<=m+17) s.da kd lb iv r1 r2 ⟨r3,trivial⟩ acc.pre (om378 bn lal) (λb hb=>by
  obtain⟨q,t,_,_,_,g,x,p,n⟩:=acc.good b hb
  exact⟨q,g,x,t,p,G5 n (Gj rfl)⟩)
 have iv1:=x1.inv iv
 have nm1:=x1.old _ _ s.nm (tno (om235)) (om379)
 have fo1:=x1.old _ _ s.fo (tno (om250)) (om380)
 have wl1:=x1.old _ _ s.wl (tno (om241)) (om381)
 have ll1:=x1.old _ _ s.ll (tno (om242)) (om382)
 have fd1:=x1.old _ _ s.fd (tno (om243)) (om383)
 have x2:Ex H1 (H1++[O.list []]):=Ex.app _
 have hfl:∃p,(fes=[]/\p=H1.length∨fes=[([70],.obj p)])/\(H1++[O.list []])[p]?=some (.list (fs.map .obj)):=by
  rcases fl with⟨rfl,rfl⟩|⟨p,rfl,b,q⟩
  ·exact⟨H1.length,.inl ⟨rfl,rfl⟩,ze⟩
  ·refine⟨p,.inr rfl,x2 _ _ (x1.old _ _ q ?_ (om385 b))⟩
   rcases t:T p with _|q'
   ·rfl
   ·have:=(s.now p q' t).1
    rw[q] at this;cases this
 refine za (hfl) ?_;clear hfl;intro p ep hp
 have x3:Ex H1 (H1++[O.list []]++[O.list ((fs++ws).map .obj)]):=x2.trans (Ex.app _)
 have x4:Ex H1 (H1++[O.list []]++[O.list ((fs++ws).map .obj)]++[O.list ((fs++ws++[a]).map .obj)]):=x3.trans (Ex.app _)
 have hr:(H1++[O.list []]++[O.list ((fs++ws).map .obj)]++[O.list ((fs++ws++[a]).map .obj)])[(H1++[O.list []]++[O.list ((fs++ws).map .obj)]).length]?=some (.list ((fs++ws++[a]).map .obj)):=ze
 refine za (c2_loop (ns:=ns) (m:=m+19) ((Le.ex x4).inv iv1) hr (fs++ws++[a]) all [] _ (Ex.refl _) acc.pre (by show 0+all.length<=900;exact om387 bn lal)) λH5 x5 w5=>?_
 have x15:=x4.trans x5
 have x6:Ex H1 (H5++[O.list (all.map .obj)]):=x15.trans (Ex.app _)
 have hal:(H5++[O.list (all.map V.obj)])[H5.length]?=some (.list (all.map .obj)):=ze
 have iv6:=(Le.ex x6).inv iv1
 have mem:∀b,b∈all->∃q,T b=some q:=λb hb=>(acc.good b hb).elim λq w=>⟨q,w.1⟩
 have cpn:=kL (ns:=ns) (C:=zc (P ns) 60 (m+20)) iv6 (zm hal) all [] mem
 have x7:Ex H1 (H5++[O.list (all.map .obj)]++[O.list (all.map (nmV T))]):=x6.trans (Ex.app _)
 have enm:zW .ne (.obj (H5++[O.list (all.map V.obj)]).length) (.obj h) (H5++[O.list (all.map .obj)]++[O.list (all.map (nmV T))])=some false:=eq_lists ze (by have q:=x7 _ _ nm1;rw[←acc.nm] at q;exact q) (eqFs_rf all mem)
 have hal7:(H5++[O.list (all.map V.obj)]++[O.list (all.map (nmV T))])[H5.length]?=some (.list (all.map .obj)):=zk hal
 have hfin:∀b,b∈all->∃q p fs c,Fin T es (H5++[O.list (all.map .obj)]++[O.list (all.map (nmV T))]) b q p fs c:=λb hb=>by
  have q:=done_all _ _ acc.pre dn b hb
  have l7:=(Le.ex (T:=T) x7)
  exact fin_of ((Le.ex x7).inv iv1) (l7.sz _ q.1) (l7.of _ q.2) (acc.good b hb) λs p fs k h=>⟨s,p,fs,k,h⟩
 refine Jo (end_loop (ns:=ns) (so:=so) (C:=zc (P ns) 60 (m+20)) (e:=e2) (a0:=a0) (b0:=b0) (c0:=c0) (d0:=d0) (x7 _ _ fo1) hal7 all y0 _ (Ex.refl _) hfin) λL8 H8 w8=>?_
 exact end_run (m:=0) (all:=all) (nms:=all.map (nmV T)) ep c1 hd1 fd1 hp wl1 ll1 (om105 lb) (by rw[G7];show fs.length+ws.length+1<=1000;exact om392 lb) (om393 bn lal) (by rw[Gm];exact om393 bn lal) w5 cpn enm (x7 _ _ hd1) w8
end
end G
end
section
namespace G
open Mn
theorem bodyLaw:lawS= .seq (hdS lawS) (.seq (hdS (tl lawS)) (.seq (hdS (lawL 2)) (.seq (hdS (lawL 3)) (.seq (hdS (lawL 4)) (.seq (hdS (lawL 5)) (.seq (hdS (lawL 6)) (.seq (hdS (lawL 7)) (.seq (hdS (lawL 8)) (.seq (hdS (lawL 9)) (.seq (hdS (lawL 10)) (.seq (hdS (lawL 11)) (.seq (hdS (lawL 12)) (lawL 13))))))))))))):=by kernel_rfl
theorem law01(ns:List Int)(m:Nat)(X:QX):ex (P ns) (zc (P ns) 60 (m+20)) X 60 lawS [.scr,.bad,.bad,.bad,.bad,.bad,.bad,.bad,.bad,.bad,.bad,.bad,.bad] [] (λg _ _=>g= .ret (.bool true)):=by
 refine lw_src (ns:=ns) (C:=zc (P ns) 60 (m+20)) ?_;intro so ce cs H s0 hs hc r0
 refine lw_init (ns:=ns) (m:=m+20) (GJ 2 (m+18)) s0 hs hc ?_;intro H1 s1 r1
 refine seg_file (ns:=ns) (m:=m+12) (c0:=.bad) (d0:=.bad) (x0:=.bad) (y0:=.bad) s1 ?_
 intro H2 k2 nv2 es2 fes T2 fs all2 e2 a2 b2 s2 ac2 f2 fl2 lf ln2 le2 lk2 r2
 refine seg_work (ns:=ns) (m:=m+12) (e:=e2) (a0:=a2) (b0:=b2) (c0:=.bad) (d0:=.bad) (x0:=.bad) (y0:=.bad) s2 (om394 lk2) (om395 ln2) (om396 le2) ac2 ?_
 intro H3 k3 nv3 es3 T3 ws all3 e3 b3 c3 d3 s3 ac3 sub3 w3 lw ln3 le3 lk3 L3 r3
 refine seg_link (ns:=ns) (m:=m+12) (e:=e3) (a0:=a2) (b0:=b3) (c0:=c3) (d0:=d3) (x0:=.bad) (y0:=.bad) s3 (om398 lk2 lk3) (om399 ln2 ln3) (om401 le2 le3) ac3 ?_
 intro H4 k4 nv4 es4 T4 a n d kids t all4 s4 ac4 sub4 rt4 ln4 L4 r4
 have fl4:fes=[]/\fs=[]∨∃fl,fes=[([70],.obj fl)]/\H.length+8<=fl/\H4[fl]?=some (.list (fs.map .obj)):=fl2.imp id λ⟨x,e,b,q⟩=>⟨x,e,b,(L3.trans L4) _ _ b q⟩
 refine zh (seg_end (ns:=ns) (m:=m) (a0:=a2) (b0:=.obj n) (c0:=c3) (d0:=d3) (x0:=.bad) (y0:=.bad) s4 ac4 (FRl.mono sub4 _ _ _ (FRl.mono sub3 _ _ _ f2)) (WRl.mono sub4 _ _ _ _ _ w3) ⟨d,kids,t,rt4⟩ fl4 lf lw (om404 ln2 ln3 ln4)) λas x=>?_
 refine zh (r4 x) ?_;clear x;intro as x
 refine zh (r3 x) ?_;clear x;intro as x
 refine zh (r2 x) ?_;clear x;intro as x
 refine zh (r1 x) ?_;clear x;intro as x
 refine zh (r0 x) ?_;clear x;intro as x
 rw[←bodyLaw] at x
 exact XO _ _ _ _ x λ_ _ _ _ h=>h
end G
end
namespace G
theorem yx{α:Type}{k:Nat}{v:α}:∀{l:List (Nat×α)},yj k l=some v->(k,v)∈l:=by
 intro l
 induction l with
 |nil=>
  intro h
  exact nomatch h
 |cons hdp r ih=>
  intro h
  obtain⟨a,u⟩:=hdp
  refine(?_:(match Gg a k with|true=>some u|false=>yj k r)=some v->_) h
  rcases e:Gg a k with _|_
  ·exact λh=>.tail _ (ih h)
  ·rw[Go e]
   exact λh=>by cases h;exact .head _
theorem XE{k m c:Nat}:∀{l:List (Nat×Nat×Nat)},look3 k m l=some c->(k,m,c)∈l:=by
 intro l
 induction l with
 |nil=>
  intro h
  exact nomatch h
 |cons hdp r ih=>
  intro h
  obtain⟨a,b,u⟩:=hdp
  refine(?_:(match Gg a k && Gg b m with|true=>some u|false=>look3 k m r)=some c->_) h
  rcases e:Gg a k && Gg b m with _|_
  ·exact λh=>.tail _ (ih h)
  ·obtain⟨e1,e2⟩:=Gs.mp e
   rw[Go e1,Go e2]
   exact λh=>by cases h;exact .head _
theorem Z0{α:Type}{l:List (Nat×α)}{f a:Nat}(h:here l f=some a):a=f/\∃v,yj f l=some v:=by
 refine(?_:(match yj f l with|some _=>some f|none=>none)=some a->_) h
 rcases e:yj f l with _|v
 ·exact nn
 ·exact λh=>⟨(Ga h).symm,v,rfl⟩
noncomputable def injB:Bool:=(D0 attrT.length).all λf=>(D0 attrT.length).all λg=>Gg f g ||!zQ (attr f) (attr g)
noncomputable def smallB:Bool:=(D0 attrT.length).all λf=>Gz (attr f).cps.size 112
theorem injT:injB=true:=by kernel_rfl
theorem smallT:smallB=true:=by kernel_rfl
theorem Xn{f:Nat}(h:attrT.length<=f):(attr f).cps.size=f+60:=by
 show(match attrT[f]? with|some x=>x|none=>big f).cps.size=_
 rw[List.getElem?_eq_none h]
 exact Array.size_replicate
theorem YU{f:Nat}(h:f < attrT.length):(attr f).cps.size < 112:=Gj (GA.mp smallT f (List.mem_range.mpr h))
theorem attr_len:attrT.length=52:=rfl
theorem attr_inj(f g:Nat)(e:attr f=attr g):f=g:=by
 have l:=attr_len
 have es:(attr f).cps.size=(attr g).cps.size:=by rw[e]
 rcases GW f attrT.length with h|h
 ·rcases GW g attrT.length with k|k
  ·have q:=GA.mp (GA.mp injT f (List.mem_range.mpr h)) g (List.mem_range.mpr k)
   rw[e,show zQ (attr g) (attr g)=true from eqStr_iff.mpr rfl] at q
   rcases c:Gg f g with _|_
   ·rw[c] at q;exact absurd q G3
   ·exact Go c
  ·exact(om409 l es.symm k (Xn k) (YU h)).symm
 ·have a:=Xn h
  rcases GW g attrT.length with k|k
  ·have:=YU k
   exact om409 l es h a this
  ·have:=Xn k
   exact om410 es a this
noncomputable def apartB:Bool:=mthT.all λp=>match yj p.1 ownT with|some l=>l.all λf=>!zQ (attr f) (meth p.2.1)|none=>true
theorem apartT:apartB=true:=by kernel_rfl
theorem KU{c f:Nat}(h:att c f=true):∃l,yj c ownT=some l/\f∈l:=by
 refine(?_:(match yj c ownT with|some l=>l.any (Gg f)|none=>false)=true->_) h
 rcases e:yj c ownT with _|l
 ·exact λh=>absurd h G3
 ·exact λh=>by
   obtain⟨g,m,q⟩:=Fh.mp h
   rw[Go q];exact⟨l,rfl,m⟩
theorem Zw{α:Type}{o:Option α}(h:o.isSome=true):∃a,o=some a:=by
 rcases o with _|a
 ·exact absurd h G3
 ·exact⟨a,rfl⟩
theorem tpOk{prog:Program}{w:World}{K:Frag}{scr:Addr}{ns:List Int}(h1:attB K=true)(h2:mthB K=true)(h3:gloB K=true):TpOk (T prog w K scr ns) (P ns) N where
 scr:=rfl
 prm:=rfl
 nat:=rfl
 ata:=rfl
 lmK:=rfl
 lmP:=by rfl
 lmX:=rfl
 lmN:=rfl
 inj:=attr_inj
 att k f C a c:=by
  obtain⟨rfl,_⟩:=Z0 (show here initT k=some C from c)
  obtain⟨l,e,m⟩:=KU a
  exact GA.mp (GA.mp h1 (C,l) (yx e)) f m
 mth k m g C e c:=by
  obtain⟨rfl,_⟩:=Z0 (show here initT k=some C from c)
  obtain⟨q1,q2⟩:=Gs.mp (GA.mp h2 (C,m,g) (XE e))
  obtain⟨a,ea⟩:=Zw q1
  obtain⟨rfl,_⟩:=Z0 ea
  exact⟨_,ea,q2⟩
 apart k m g f e a q:=by
  obtain⟨l,el,ml⟩:=KU a
  have w:=GA.mp apartT (k,m,g) (XE e)
  have w:(match yj k ownT with|some l=>l.all λf=>!zQ (attr f) (meth m)|none=>true)=true:=w
  rw[el] at w
  have w:=GA.mp w f ml
  rw[show zQ (attr f) (meth m)=true from eqStr_iff.mpr q] at w
  exact absurd w G3
 glo f x e:=by
  obtain⟨q1,q2⟩:=Gs.mp (GA.mp h3 (f,x) (yx e))
  rcases Dg.mp q1 with q|q
  ·obtain⟨a,ea⟩:=Zw q
   obtain⟨rfl,_⟩:=Z0 ea
   exact⟨_,.inl ea,q2⟩
  ·obtain⟨a,ea⟩:=Zw q
   obtain⟨rfl,_⟩:=Z0 ea
   exact⟨_,.inr ea,q2⟩
theorem fnsB_get{K:Frag}{a:Nat}{v:Bool×List Str}:∀{l:List (Nat×Bool×List Str)},fnsB K l=true->(a,v)∈l->∃fn,yj a fnT=some fn/\fnB K fn v.1 v.2 a=true:=by
 intro l
 induction l with
 |nil=>intro h m;exact absurd m GN
 |cons hdp r ih=>
  intro h m
  obtain⟨b,lm,tb⟩:=hdp
  obtain⟨h1,h2⟩:=Gs.mp h
  rcases m with _|⟨_,m⟩
  ·refine(?_:(match yj a fnT with|some fn=>fnB K fn lm tb a|none=>false)=true->_) h1
   rcases e:yj a fnT with _|fn
   ·exact λh=>absurd h G3
   ·exact λh=>⟨fn,rfl,h⟩
  ·exact ih h2 m
theorem fnsOk{prog:Program}{w:World}{K:Frag}{scr:Addr}{ns:List Int}(h1:fnsB K chT=true)(h2:clsB K=true):FnsOk (T prog w K scr ns) (P ns) N where
 fn f a e:=by
  obtain⟨rfl,v,ev⟩:=Z0 (show here chT f=some a from e)
  obtain⟨fn,e1,e2⟩:=fnsB_get h1 (yx ev)
  exact⟨fn,e1,fnB_at e2⟩
 cls f C e:=by
  obtain⟨rfl,v,ev⟩:=Z0 (show here initT f=some C from e)
  obtain⟨q,q5⟩:=Gs.mp (GA.mp h2 (C,v) (yx ev))
  obtain⟨q,q4⟩:=Gs.mp q
  obtain⟨q,q3⟩:=Gs.mp q
  obtain⟨q1,q2⟩:=Gs.mp q
  refine⟨?_,λi ei=>?_⟩
  ·show yj C fnT=none
   rcases z:yj C fnT with _|y
   ·rfl
   ·rw[z] at q5;exact absurd q5 G3
  ·have ei:yj C initT=some i:=ei
   rw[ev] at ei;cases ei
   obtain⟨a,ea⟩:=Zw q4
   obtain⟨rfl,_⟩:=Z0 ea
   exact⟨_,ea,q1,beq_iff_eq.mp q2,q3⟩
 lam:=⟨20,rfl,rfl,rfl⟩
 lamX:=by rfl
 exc _:=rfl
end G
namespace G
theorem law_run{prog:Program}{w:World}{K:Frag}{scr:Addr}{ns:List Int}{vs:List Value}{qual:Str}{scope:Scope}{fa:Addr}{cdv:Value}{g:Heap}{L:Addr}{s:Shared}{body:List Gy}{cells:Lg}{Q:Flow->Shared->Prop}{Er:Value->Shared->Prop}
  (b1:attB K=true) (b2:mthB K=true) (b3:gloB K=true) (b4:fnsB K chT=true) (b5:clsB K=true) (hc:chkS N K false scope lawT lawS body=true) (hk:scope.kind= .function) (z:YN ((cellsFrom 0 scope.names []).map (·.1))=true)
  (hs:scope.names.lookup (G0 "script")=some .local)
  (B:Below callerA g [] g) (X:K.In g) (top:∃p loose mean mg mb,Top p loose mean mg mb g) (tab:CodeHd g 241 237) (hL:g.IsList scr vs.toArray) (hI:IntsAre vs ns) (hn:ns.length<=1048576)
  (ca:CellsAre (bindC (envOfC qual scope L fa cdv).kindOf [(G0 "script",.ref scr)] λ_=>none) (cellsFrom (L+1) scope.names []) cells)
  (F:Fr g L s.heap (bindL (envOfC qual scope L fa cdv).kindOf [(G0 "script",.ref scr)] λ_=>none)) (Nw:∀p,p∈(237,tabObj #[])::cells->p∈cells++[(237,tabObj #[])]) (N0:News g L s.heap (cells++[(237,tabObj #[])])) (l0:237 < L)
  (q:∀(h':Heap) (tk:Nat) (m':Str->Option Value) (ps:Array Value),Fr g L h' m'->h'.get? 237=some (tabObj ps)->Q (.ret (.bool true)) {s with heap:=h',toks:=tk}) :
  wpAny (model prog w) (callerA.deeper (envOfC qual scope L fa cdv)) (execs body (envOfC qual scope L fa cdv)) Q Er s:=by
 have K1:=tpOk (prog:=prog) (w:=w) (scr:=scr) (ns:=ns) b1 b2 b3
 have F1:=fnsOk (prog:=prog) (w:=w) (scr:=scr) (ns:=ns) b4 b5
 have hO:=orc_ok (w:=60) K1 F1 20 20 (Gi _)
 let fm:Fm:=⟨callerA.deeper (envOfC qual scope L fa cdv),envOfC qual scope L fa cdv,g,L⟩
 obtain⟨cy1,cy2⟩:=ZB ca
 obtain⟨ca1,ca2⟩:=ZV scope.names (L+1) [] (by simp) (by simp)
 have FO:fm.Ok (T prog w K scr ns) 20:=
  {B:=⟨callerA,g,[],envOfC qual scope L fa cdv,B,rfl,rfl,hk⟩
   kd:=hk
   gl:=rfl
   bi:=rfl
   X:=X
   top:=top
   tab:=tab
   hh:=rfl
   dep:=by show callerA.depth+1+4*20+8<=1000;decide
   un:=by show callerA.units+3+16*20+200<=9900;decide
   scr:=⟨vs,hL,hI,hn⟩
   loc:=rfl
   cel:=λx hx=>yM (cellsFrom_some _ _ _ (.inl hx))
   cnd:=by
    have:=yL z
    rw[cellsFrom_names scope.names 0 (L+1) [] [] rfl] at this
    exact this}
 have FS:FSc (T prog w K scr ns) false scope fm:=⟨λx h=>zt h,λx h=>zt h,λx h=>zt h,λh=>absurd h G3⟩
 have RR:(fm.cx (bindL (envOfC qual scope L fa cdv).kindOf [(G0 "script",.ref scr)] λ_=>none) (bindC (envOfC qual scope L fa cdv).kindOf [(G0 "script",.ref scr)] λ_=>none) ([]++cells)).Rep (T prog w K scr ns) [] [] [] s.heap:=by
  refine⟨F,⟨tabObj #[],⟨#[],rfl,.inl rfl⟩,λp hp=>N0 p (Nw p hp)⟩,?_,rfl,(λ_ _ _ _ h=>nomatch h),List.nodup_nil⟩
  show(237::cells.map (·.1)).Nodup
  refine Gr.mpr ⟨λm=>?_,by rw[cy1];exact ca2⟩
  rw[cy1] at m
  obtain⟨p,hp,e⟩:=D2.mp m
  have h1:L+1<=p.2:=(ca1 p hp).resolve_left (λh=>nomatch h)
  rw[e] at h1
  exact absurd (GR (Dm l0) h1) (DE _)
 have LK:LOk (T prog w K scr ns) lawT (fm.cx (bindL (envOfC qual scope L fa cdv).kindOf [(G0 "script",.ref scr)] λ_=>none) (bindC (envOfC qual scope L fa cdv).kindOf [(G0 "script",.ref scr)] λ_=>none) ([]++cells)) [] [] [.scr,.bad,.bad,.bad,.bad,.bad,.bad,.bad,.bad,.bad,.bad,.bad,.bad]:=by
  intro k v hk hv
  rcases k with _|k
  ·cases hk
   refine⟨G0 "script",.ref scr,rfl,?_,.scr⟩
   show(match scope.names.lookup (G0 "script") with|some .local=>_|some .cell=>_|_=>none)=_
   rw[hs]
   show bindL _ _ _ _=_
   simp[bindL,envOfC,Env.kindOf,hs]
  ·exact absurd (List.eq_of_mem_replicate (n:=12) (List.mem_of_getElem? (show(F6 12 V.bad)[k]?=some v from hk))) hv
 refine wpAny_mono (st_ok K1 hO.ok (ra_ok0 F1.exc) lawS (f:=fm) (s:=s) (Er:=λ_ _=>False) (ex:=[]) hc (yL (by kernel_rfl)) FO FS (law01 ns 0 X0) cy2 RR LK PassesOwn.never (λ_ _ _ _ _ q=>XPost.no0 q)) (λfl s' p=>?_) λ_ _ e=>e.elim
 obtain⟨h',tk',m',cm',Gc',ub,ux,H',ρ',E',rfl,cg',uH,x',lk',fo,qq⟩:=p
 subst qq
 cases fo with
 |ret hr=>
  cases hr
  obtain⟨tb,⟨ps,rfl,_⟩,uB⟩:=uH.N
  exact q h' tk' m' ps uH.F (uB (237,tabObj ps) (Gb _ (.head _))).1
end G

end Mn
set_option tactic.hygienic true
namespace Mn.main
noncomputable def tw10451590341717862716:=0
noncomputable def tw4749847746608680234:=0
noncomputable def tw7234013710607380273:=0
noncomputable def tw8001662322616400405:=0
noncomputable def tw7417148196948622902:=0
noncomputable def tw9900207189469833962:=0
noncomputable def tw14887010508279282374:=0
noncomputable def tw5465660887687161224:=0
noncomputable def tw12080012555803662708:=0
noncomputable def tw14959396543388607604:=0
noncomputable def tw5367776098587035988:=0
noncomputable def tw13080059885629953088:=0
noncomputable def tw961983304396955467:=0
noncomputable def tw10484549436551286983:=0
noncomputable def tw15417843195497308409:=0
noncomputable def tw17480822869299829923:=0
noncomputable def tw18268355248443505914:=0
noncomputable def tw10054569890089895860:=0
noncomputable def tw16246956782305295510:=0
noncomputable def tw3785310241841774238:=0
noncomputable def tw16639495132470155110:=0
noncomputable def tw1915808867901234037:=0
noncomputable def tw7145846973341693528:=0
noncomputable def tw6885832196258441145:=0
noncomputable def tw17748542203758294058:=0
noncomputable def tw13267434031079924451:=0
noncomputable def tw13591639554591055988:=0
noncomputable def tw9511103890349637630:=0
noncomputable def tw9803976328026480065:=0
noncomputable def tw1530092167967196294:=0
noncomputable def tw18300159404320975974:=0
noncomputable def tw18009942291147675786:=0
noncomputable def tw9136674916618852602:=0
noncomputable def tw6821246599232723535:=0
noncomputable def tw7325091196498394705:=0
noncomputable def tw12522562236903956296:=0
noncomputable def tw14875526901776612999:=0
noncomputable def tw5318863478226355625:=0
noncomputable def tw14938426041714756053:=0
noncomputable def tw4587441324231201306:=0
noncomputable def tw13149964460515474157:=0
noncomputable def tw8454111674984431053:=0
noncomputable def tw1110532487362282611:=0
noncomputable def tw3211433488266219224:=0
noncomputable def tw525516047397842566:=0
noncomputable def tw7179969838305985155:=0
noncomputable def tw4865399554622247109:=0
noncomputable def tw1428936970006402595:=0
noncomputable def tw16451131362818500787:=0
noncomputable def tw244750341265270538:=0
noncomputable def tw9524902365898564000:=0
noncomputable def tw12110391062429570589:=0
noncomputable def tw10594711178829210298:=0
noncomputable def tw1178277067029072109:=0
noncomputable def tw9264470950220476853:=0
noncomputable def tw3037615652813268534:=0
noncomputable def tw3094806242372983845:=0
noncomputable def tw4795809091457353916:=0
noncomputable def tw9727923502575487089:=0
noncomputable def tw15304572858967996470:=0
noncomputable def tw11675483323918722860:=0
noncomputable def tw17948059575925288081:=0
noncomputable def tw1062766333268142100:=0
noncomputable def tw1938555882093844268:=0
noncomputable def tw12591758346241670283:=0
noncomputable def tw7743061975028851289:=0
noncomputable def tw3618262562804835309:=0
noncomputable def tw14290491395505075644:=0
noncomputable def tw2632147232652990602:=0
noncomputable def tw821137119482703324:=0
noncomputable def tw9038532963380008271:=0
noncomputable def tw140518973967218024:=0
noncomputable def tw3557294537326173275:=0
noncomputable def tw15551919272057315279:=0
noncomputable def tw1413422323224028824:=0
noncomputable def tw11364709001804448504:=0
noncomputable def tw14305623347895267715:=0
noncomputable def tw13612577952394301773:=0
noncomputable def tw8679061357679795169:=0
noncomputable def tw730595095293281063:=0
noncomputable def tw18031858257773515100:=0
noncomputable def tw2632902747111579459:=0
noncomputable def tw15142772116488253810:=0
noncomputable def tw7899081194998100674:=0
noncomputable def tw9140356399226585265:=0
noncomputable def tw37430313809648114:=0
noncomputable def tw9402432158384569145:=0
noncomputable def tw2545098414175163849:=0
noncomputable def tw18208047245150589918:=0
noncomputable def tw13936422969798159480:=0
noncomputable def tw15820771399355878714:=0
noncomputable def tw3598129738145802807:=0
noncomputable def tw12738973532788936175:=0
noncomputable def tw15578076892875786224:=0
noncomputable def tw1777128718538650628:=0
noncomputable def tw10062169177228394086:=0
noncomputable def tw1057672202423308860:=0
noncomputable def tw11743274133678249789:=0
noncomputable def tw17328403496010319421:=0
noncomputable def tw4318186530391856525:=0
noncomputable def tw12629345071229305507:=0
noncomputable def tw14653988852581033296:=0
noncomputable def tw237878447362211650:=0
noncomputable def tw6620482835074183360:=0
noncomputable def tw10246495114823982737:=0
noncomputable def tw1247832210779329835:=0
noncomputable def tw7756747875223543108:=0
noncomputable def tw2177730872775655528:=0
noncomputable def tw483697779000781684:=0
noncomputable def tw6186570969791505107:=0
noncomputable def tw12100085818800134857:=0
noncomputable def tw6781036012612941071:=0
noncomputable def tw15051055068020143643:=0
noncomputable def tw2818179635254945214:=0
noncomputable def tw10651969260410873088:=0
noncomputable def tw770704483479989061:=0
noncomputable def tw6685590485973202056:=0
noncomputable def tw1024508616001332679:=0
noncomputable def tw7000980448468089504:=0
noncomputable def tw9429867333130707657:=0
noncomputable def tw5594657308921820127:=0
noncomputable def tw14926865021098518308:=0
noncomputable def tw8819989902680167331:=0
noncomputable def tw3597548330072819103:=0
noncomputable def tw8663826928523763127:=0
noncomputable def tw5283877214913045669:=0
noncomputable def tw4136554579368556478:=0
noncomputable def tw15796073611582514292:=0
noncomputable def tw11495304363467715271:=0
noncomputable def tw7322724679980039298:=0
noncomputable def tw1645616728590467508:=0
noncomputable def tw10652517509871936044:=0
noncomputable def tw10731625084980186641:=0
noncomputable def tw7956556662113901917:=0
noncomputable def tw9014425018841210347:=0
noncomputable def tw17801237019911456827:=0
noncomputable def tw4905759261117674724:=0
noncomputable def tw16737230310946803909:=0
noncomputable def tw18104227646693809233:=0
noncomputable def tw10943605928828055757:=0
noncomputable def tw12974705830670484283:=0
noncomputable def tw16866756496584972257:=0
noncomputable def tw5034210122596640648:=0
noncomputable def tw6129787930936311762:=0
noncomputable def tw8265226811824325334:=0
noncomputable def tw9578204906976349847:=0
noncomputable def tw15782484640469720832:=0
noncomputable def tw937911625533511970:=0
noncomputable def tw18251006714711358936:=0
noncomputable def tw1387398912007123397:=0
noncomputable def tw1522190686325547007:=0
noncomputable def tw10159024864598881182:=0
noncomputable def tw12302036730884740278:=0
noncomputable def tw16727193467077782241:=0
noncomputable def tw6200899263734549692:=0
noncomputable def tw7042009929466044833:=0
noncomputable def tw12666815724758492335:=0
noncomputable def tw4038802423653129707:=0
noncomputable def tw1633725117172809667:=0
noncomputable def tw3387756691084257275:=0
noncomputable def tw9632687157133079683:=0
noncomputable def tw18181416702482308189:=0
noncomputable def tw18122594209332792366:=0
noncomputable def tw1878020807264988764:=0
noncomputable def tw10340090753902190149:=0
noncomputable def tw4687726464702896619:=0
noncomputable def tw11975724696225204635:=0
noncomputable def tw3905306951232130778:=0
noncomputable def tw11188566861079906320:=0
noncomputable def tw9042985828520376973:=0
noncomputable def tw1275504568242959967:=0
noncomputable def tw16339265751584958671:=0
noncomputable def tw4587067540251378128:=0
noncomputable def tw2122755690719355482:=0
noncomputable def tw14288228164838861880:=0
noncomputable def tw9266070683795062587:=0
noncomputable def tw4919010146126891257:=0
noncomputable def tw920543519412742124:=0
noncomputable def tw2827449516116753022:=0
noncomputable def tw14301756233271316113:=0
noncomputable def tw3762649932512641596:=0
noncomputable def tw14280065830785307296:=0
noncomputable def tw5984923773566844108:=0
noncomputable def tw7522147277643177870:=0
noncomputable def tw6438073557197676745:=0
noncomputable def tw13226845667610468960:=0
noncomputable def tw6863619939905737920:=0
noncomputable def tw3608584689602323268:=0
noncomputable def tw6238941955654726484:=0
noncomputable def tw6799105035749934635:=0
noncomputable def tw13312173129636339206:=0
noncomputable def tw123442363170677149:=0
noncomputable def tw15042673351470871551:=0
noncomputable def tw3530293539711722357:=0
noncomputable def tw15755266499814092707:=0
noncomputable def tw11772050293226031630:=0
noncomputable def tw13440818945013572398:=0
noncomputable def tw8706602636251827001:=0
noncomputable def tw3813131326671535946:=0
noncomputable def tw13073549428908099766:=0
noncomputable def tw1003394390542630205:=0
noncomputable def tw17523897945462834920:=0
noncomputable def tw6546260214227475698:=0
noncomputable def tw4000192387376100640:=0
noncomputable def tw14415524648785994374:=0
noncomputable def tw872360092797258117:=0
noncomputable def tw9076440292900609349:=0
noncomputable def tw4576636460793552403:=0
noncomputable def tw13941344485419558980:=0
noncomputable def tw18093354193580273870:=0
noncomputable def tw6333433834943119773:=0
noncomputable def tw1934777621415507806:=0
noncomputable def tw6302927515444095572:=0
noncomputable def tw5736024633683486117:=0
noncomputable def tw7784910106399366984:=0
noncomputable def tw3137363801816258777:=0
noncomputable def tw7058497229782841269:=0
noncomputable def tw8196525886039055605:=0
noncomputable def tw6710290111425241891:=0
noncomputable def tw16164256678523365347:=0
noncomputable def tw15140494327760089190:=0
noncomputable def tw1653462495027570679:=0
noncomputable def tw2034788038359669208:=0
noncomputable def tw11448361702163056045:=0
noncomputable def tw14267968071787588116:=0
noncomputable def tw2746473803747717433:=0
noncomputable def tw16669012484799551919:=0
noncomputable def tw7663569940169570858:=0
noncomputable def tw10810139008851417968:=0
noncomputable def tw9203636464259925436:=0
noncomputable def tw17498813484664799451:=0
noncomputable def tw14515399769469367099:=0
noncomputable def tw1950444285358372956:=0
noncomputable def tw165119233986003003:=0
noncomputable def tw2683718756771137885:=0
noncomputable def tw4827254663981733211:=0
noncomputable def tw12167414556529752928:=0
noncomputable def tw14259409907561026449:=0
noncomputable def tw2727451664351245161:=0
noncomputable def tw15114564958663506085:=0
noncomputable def tw16887462532806518497:=0
noncomputable def tw1118633837604256633:=0
noncomputable def tw9719380193554332253:=0
noncomputable def tw16067796903095743919:=0
noncomputable def tw8704265052359314078:=0
noncomputable def tw12644382687647858237:=0
noncomputable def tw350791316573618659:=0
noncomputable def tw8186819988469481321:=0
noncomputable def tw13093075018204419064:=0
noncomputable def tw17369407956699316665:=0
noncomputable def tw13835750590314247471:=0
noncomputable def tw12747060668465777993:=0
noncomputable def tw6799024222777167692:=0
noncomputable def tw6442064998904052066:=0
noncomputable def tw9490618682913687971:=0
noncomputable def tw15644651453232168206:=0
noncomputable def tw15755671726913917251:=0
noncomputable def tw18032225077125750843:=0
noncomputable def tw14996652537046216923:=0
noncomputable def tw11871577020697775606:=0
noncomputable def tw11501084286917214796:=0
noncomputable def tw2963056176285247514:=0
noncomputable def tw7117642633747173666:=0
noncomputable def tw879716615306577660:=0
noncomputable def tw942230484768325993:=0
noncomputable def tw6236051677351012778:=0
noncomputable def tw3374185204808827565:=0
noncomputable def tw14094719882420683686:=0
noncomputable def tw8958389478088814326:=0
noncomputable def tw8399437147723303678:=0
noncomputable def tw1436428048536313484:=0
noncomputable def tw12371622455451706470:=0
noncomputable def tw5284875881855814682:=0
noncomputable def tw3682452177728093345:=0
noncomputable def tw13369093178811003540:=0
noncomputable def tw68190324787776899:=0
noncomputable def tw3395331987137804318:=0
noncomputable def tw14228482378865986800:=0
noncomputable def tw4906621675091368667:=0
noncomputable def tw1409940767317962974:=0
noncomputable def tw490665490409006060:=0
noncomputable def tw15216847078844125273:=0
noncomputable def tw3958370505883809195:=0
noncomputable def tw11848236019933330463:=0
noncomputable def tw15413184586971608164:=0
noncomputable def tw2958266590324680167:=0
noncomputable def tw3694584875555737225:=0
noncomputable def tw13355626825689493562:=0
noncomputable def tw1150503522366556744:=0
noncomputable def tw3639218505504700210:=0
noncomputable def tw68106172930522329:=0
noncomputable def tw13837137030685353804:=0
noncomputable def tw14987355510360544826:=0
noncomputable def tw15001735123388502149:=0
noncomputable def tw18317931023082558325:=0
noncomputable def tw1746701891870189108:=0
noncomputable def tw12363577365300937641:=0
noncomputable def tw5744069984175029905:=0
noncomputable def tw7663697489843409921:=0
noncomputable def tw12563533951396675910:=0
noncomputable def tw15774794530293005864:=0
noncomputable def tw17330414587749306613:=0
noncomputable def tw12288822525035244991:=0
noncomputable def tw8991648101390414946:=0
noncomputable def tw10629518745983643131:=0
noncomputable def tw15383505408066558588:=0
noncomputable def tw1913979538262298882:=0
noncomputable def tw11444902567976107412:=0
noncomputable def tw8029574596734804959:=0
noncomputable def tw1408252015218082374:=0
noncomputable def tw15479508384313572702:=0
noncomputable def tw51340648833890007:=0
noncomputable def tw16367791001609008592:=0
noncomputable def tw5693878277417876301:=0
noncomputable def tw11938141620938750925:=0
noncomputable def tw8467354891196544893:=0
noncomputable def tw1290331859543287970:=0
noncomputable def tw7697863328968910308:=0
noncomputable def tw9772989275591567563:=0
noncomputable def tw12412800303494362646:=0
noncomputable def tw4577276338274145875:=0
noncomputable def tw3132789141863933634:=0
noncomputable def tw17992849786020409604:=0
noncomputable def tw17636497490714344007:=0
noncomputable def tw11732510604392302386:=0
noncomputable def tw12531146480259338595:=0
noncomputable def tw9059847699579048484:=0
noncomputable def tw2374983518461631415:=0
noncomputable def tw7546048314477209431:=0
noncomputable def tw5567746334029803671:=0
noncomputable def tw3300198013153986701:=0
noncomputable def tw1128786173268074637:=0
noncomputable def tw14575132699753190354:=0
noncomputable def tw804152974351811944:=0
noncomputable def tw10250345554192262558:=0
noncomputable def tw8963616281150371022:=0
noncomputable def tw13636244407462155146:=0
noncomputable def tw289311965590647993:=0
noncomputable def tw17800036330579789472:=0
noncomputable def tw5789986246131009036:=0
noncomputable def tw1798179562271595777:=0
noncomputable def tw7045588536289855977:=0
noncomputable def tw4364494630184093190:=0
noncomputable def tw5098828625563759723:=0
noncomputable def tw11656992516243929690:=0
noncomputable def tw12214694288426136713:=0
noncomputable def tw15702462562912032973:=0
noncomputable def tw6515919349671672042:=0
noncomputable def tw4568066167732532451:=0
noncomputable def tw15982631497929940496:=0
noncomputable def tw15982169763291234652:=0
noncomputable def tw7798525788219338364:=0
noncomputable def tw12733509474408155553:=0
noncomputable def tw7586572924165068800:=0
noncomputable def tw12714525880781101873:=0
noncomputable def tw5949272882191711219:=0
noncomputable def tw3584587202979402312:=0
noncomputable def tw6097711999414715357:=0
noncomputable def tw13418053149347786548:=0
noncomputable def tw10365757703487400023:=0
noncomputable def tw2593748081036044481:=0
noncomputable def tw16008465147940452946:=0
noncomputable def tw11876348843363395966:=0
noncomputable def tw6466097483534042:=0
noncomputable def tw17882599527510899942:=0
noncomputable def tw875882161392195721:=0
noncomputable def tw15414511397735714029:=0
noncomputable def tw11761129641040345945:=0
noncomputable def tw8062514135945822327:=0
noncomputable def tw12415130582391177972:=0
noncomputable def tw15063612003741550147:=0
noncomputable def tw658439495532273788:=0
noncomputable def tw13858660199663366916:=0
noncomputable def tw13769662147053591173:=0
noncomputable def tw6300097552667732949:=0
noncomputable def tw8259361692304146610:=0
noncomputable def tw10362207363611752510:=0
noncomputable def tw7106644357468194134:=0
noncomputable def tw14852555761336987594:=0
noncomputable def tw12685955718441200052:=0
noncomputable def tw17389590284184301371:=0
noncomputable def tw4002245419063357169:=0
noncomputable def tw4601466405829638011:=0
noncomputable def tw6478402801588559981:=0
noncomputable def tw15270254982301071674:=0
noncomputable def tw14773272820680001990:=0
noncomputable def tw12878185280505970095:=0
noncomputable def tw17305152178587470151:=0
noncomputable def tw15640786432189771938:=0
noncomputable def tw9785289799405794113:=0
noncomputable def tw16193295388612109422:=0
noncomputable def tw8625394660359994040:=0
noncomputable def tw14242479737507117315:=0
noncomputable def tw2292900746420694864:=0
noncomputable def tw7243953721604504209:=0
noncomputable def tw10257238485368878865:=0
noncomputable def tw12944134836502420326:=0
noncomputable def tw6049388297951611893:=0
noncomputable def tw4883991264688670576:=0
noncomputable def tw10080745328685973482:=0
noncomputable def tw1442013798034653943:=0
noncomputable def tw11399762480012532149:=0
noncomputable def tw15905651811242639460:=0
noncomputable def tw11226437433689714198:=0
noncomputable def tw7377216216434450244:=0
noncomputable def tw3934678269566169100:=0
noncomputable def tw14425099650446149404:=0
noncomputable def tw4276634059539472162:=0
noncomputable def tw10865197623887379047:=0
noncomputable def tw14704829980105079228:=0
noncomputable def tw7235584991943879692:=0
noncomputable def tw5507673144389862748:=0
noncomputable def tw10920789119438256739:=0
noncomputable def tw3765343482144099562:=0
noncomputable def tw8087125507395989403:=0
noncomputable def tw3576791165608439724:=0
noncomputable def tw12916975771909949958:=0
noncomputable def tw10961804335315212964:=0
noncomputable def tw13431183577850152618:=0
noncomputable def tw10067793096287949640:=0
noncomputable def tw16151913343522895007:=0
noncomputable def tw8021130348258490834:=0
noncomputable def tw9298797663974590028:=0
noncomputable def tw7760145311050407875:=0
noncomputable def tw16201687666240552580:=0
noncomputable def tw16465223584878912879:=0
noncomputable def tw9706109808010617224:=0
noncomputable def tw5761738476465021671:=0
noncomputable def tw3155824428715869463:=0
noncomputable def tw14496895494541983521:=0
noncomputable def tw11541781861126423392:=0
noncomputable def tw3758077920849522845:=0
noncomputable def tw16170113154972733733:=0
noncomputable def tw3383441557956042000:=0
noncomputable def tw10380830290998338984:=0
noncomputable def tw5039176015838458567:=0
noncomputable def tw11686882146823456997:=0
noncomputable def tw3818356160602928217:=0
noncomputable def tw7684396587735253632:=0
noncomputable def tw2366622823422046156:=0
noncomputable def tw16357708799992620258:=0
noncomputable def tw2475688637711826527:=0
noncomputable def tw17075694341908271769:=0
noncomputable def tw14747009384173330993:=0
noncomputable def tw2265280495504707296:=0
noncomputable def tw4863239822191873364:=0
noncomputable def tw11185698669861754409:=0
noncomputable def tw7327508941102857057:=0
noncomputable def tw15963741780705209695:=0
noncomputable def tw15461820211219418633:=0
noncomputable def tw7468959323419892406:=0
noncomputable def tw9596454217074457359:=0
noncomputable def tw13890555782062599649:=0
noncomputable def tw4671974819019968642:=0
noncomputable def tw18044754138785506104:=0
noncomputable def tw5926673043722407287:=0
noncomputable def tw3760165905331285119:=0
noncomputable def tw12556391916601985444:=0
noncomputable def tw14354063683051382699:=0
noncomputable def tw13039394495123761483:=0
noncomputable def tw8061022676676974134:=0
noncomputable def tw4165707082588943831:=0
noncomputable def tw16841722265731794260:=0
noncomputable def tw16707371005774534473:=0
noncomputable def tw12227257710587050383:=0
noncomputable def tw5736616945575812512:=0
noncomputable def tw2847708602634545697:=0
noncomputable def tw14316255256140594981:=0
noncomputable def tw5286832057320639649:=0
noncomputable def tw18192296445312147518:=0
noncomputable def tw9182131686901054190:=0
noncomputable def tw17718337332382742331:=0
noncomputable def tw12274512601232818798:=0
noncomputable def tw1871561944734621554:=0
noncomputable def tw14317548982042813097:=0
noncomputable def tw13056524985637369320:=0
noncomputable def tw13424610503165109685:=0
noncomputable def tw10204745399519116255:=0
noncomputable def tw5277389386253536268:=0
noncomputable def tw17938789764433526297:=0
noncomputable def tw417100372614831564:=0
noncomputable def tw12399786536574780153:=0
noncomputable def tw2995268123936307353:=0
noncomputable def tw3150910541434539367:=0
noncomputable def tw1976120336052359599:=0
noncomputable def tw11393002529984626605:=0
noncomputable def tw5471682616860630735:=0
noncomputable def tw4890651335600013217:=0
noncomputable def tw10114650676098052211:=0
noncomputable def tw11451963580860511873:=0
noncomputable def tw13592809192703496938:=0
noncomputable def tw8606912596269023830:=0
noncomputable def tw17405409503230586959:=0
noncomputable def tw1354031798843050735:=0
noncomputable def tw8206528755270618833:=0
noncomputable def tw15166009035658763969:=0
noncomputable def tw9963800032913639505:=0
noncomputable def tw12737911850504884368:=0
noncomputable def tw398615455254843650:=0
noncomputable def tw1787588216739968880:=0
noncomputable def tw13161421274527920883:=0
noncomputable def tw16321646975746336804:=0
noncomputable def tw14039988022544308802:=0
noncomputable def tw17486837140146275920:=0
noncomputable def tw16160225017085390207:=0
noncomputable def tw3622097474620511234:=0
noncomputable def tw10578380234721085864:=0
noncomputable def tw11025379065469517352:=0
noncomputable def tw15346133980101501382:=0
noncomputable def tw3362392403076890039:=0
noncomputable def tw15228348460574506327:=0
noncomputable def tw5255515486076034708:=0
noncomputable def tw7448634654999926559:=0
noncomputable def tw7053282207256789758:=0
noncomputable def tw1604362545866591001:=0
noncomputable def tw5649567175455667392:=0
noncomputable def tw847714771190004184:=0
noncomputable def tw12115348497744150537:=0
noncomputable def tw9583521203199133521:=0
noncomputable def tw17503446508145783282:=0
noncomputable def tw15858986293381326689:=0
noncomputable def tw18008147350620130783:=0
noncomputable def tw4427048828337333670:=0
noncomputable def tw7417150325906772546:=0
noncomputable def tw13440853913271221669:=0
noncomputable def tw1436489783879730536:=0
noncomputable def tw17704774546736439401:=0
noncomputable def tw3848909792650852921:=0
noncomputable def tw16665558913941235307:=0
noncomputable def tw11517120959375594617:=0
noncomputable def tw18309313484306545278:=0
noncomputable def tw10511490365114153201:=0
noncomputable def tw14374514570360620729:=0
noncomputable def tw1245196879464112213:=0
noncomputable def tw3325928918170161370:=0
noncomputable def tw17131642704599829865:=0
noncomputable def tw9097195434154715647:=0
noncomputable def tw16097662915241194210:=0
noncomputable def tw11285690925301423232:=0
noncomputable def tw10526926704096895971:=0
noncomputable def tw7072221321998297979:=0
noncomputable def tw9901304441629692403:=0
noncomputable def tw4953273229719125421:=0
noncomputable def tw4150070786133256091:=0
noncomputable def tw1783145157415130921:=0
noncomputable def tw1671616819100450227:=0
noncomputable def tw7369803130914008449:=0
noncomputable def tw9794688157450087435:=0
noncomputable def tw5142281652551826142:=0
noncomputable def tw11387604224382173311:=0
noncomputable def tw15771868481144303058:=0
noncomputable def tw10008002387635064370:=0
noncomputable def tw14382599290649771867:=0
noncomputable def tw11404981479676635940:=0
noncomputable def tw2483727769240308079:=0
noncomputable def tw7252060366148287539:=0
noncomputable def tw11078647658844164507:=0
noncomputable def tw5914221317056072366:=0
noncomputable def tw1385384528555739250:=0
noncomputable def tw17661271571807637810:=0
noncomputable def tw13816233122500386724:=0
noncomputable def tw8929124409623813923:=0
noncomputable def tw11510220589485700974:=0
noncomputable def tw10594760955111717654:=0
noncomputable def tw7188365534466626338:=0
noncomputable def tw16702968419897811480:=0
noncomputable def tw1388546266321257364:=0
noncomputable def tw287553910471666626:=0
noncomputable def tw10035927051747255526:=0
noncomputable def tw8409622754814712194:=0
noncomputable def tw10638772521296301150:=0
noncomputable def tw17650793380862441687:=0
noncomputable def tw1556773571962533320:=0
noncomputable def tw16344424243346225400:=0
noncomputable def tw479831495674660689:=0
noncomputable def tw5577710653194748301:=0
noncomputable def tw6322594986054043874:=0
noncomputable def tw4469667864442010368:=0
noncomputable def tw12265337330642885471:=0
noncomputable def tw17265942051399695446:=0
noncomputable def tw77790559869769845:=0
noncomputable def tw12407493047148293196:=0
noncomputable def tw3525672924023295780:=0
noncomputable def tw6267973024386514905:=0
noncomputable def tw14509169859850688876:=0
noncomputable def tw13046184122545266360:=0
noncomputable def tw5270937744214470340:=0
noncomputable def tw11101729385572484073:=0
noncomputable def tw10954693158132624445:=0
noncomputable def tw2775048574980291410:=0
noncomputable def tw14278022028282354165:=0
noncomputable def tw8345298525907873572:=0
noncomputable def tw4273374749730858650:=0
noncomputable def tw14531404368525772907:=0
noncomputable def tw9748774853598806146:=0
noncomputable def tw12225826608338475656:=0
noncomputable def tw1619379503513841428:=0
noncomputable def tw10548202260618893361:=0
noncomputable def tw4663931255805564733:=0
noncomputable def tw15530452461478973007:=0
noncomputable def tw2607264120010310315:=0
noncomputable def tw9788329714554297217:=0
noncomputable def tw2521987504881779433:=0
noncomputable def tw11289650771036112454:=0
noncomputable def tw1655346907862495906:=0
noncomputable def tw13620378413939820131:=0
noncomputable def tw1135912991517814230:=0
noncomputable def tw2019498625093732536:=0
noncomputable def tw17501229017344783305:=0
noncomputable def tw8843834812852221838:=0
noncomputable def tw384442561145553505:=0
noncomputable def tw15906950008868418342:=0
noncomputable def tw17435858990151891911:=0
noncomputable def tw7640497417904911961:=0
noncomputable def tw10795396423437910689:=0
noncomputable def tw17336434880006721126:=0
noncomputable def tw15199928422989653396:=0
noncomputable def tw15007287080062106212:=0
noncomputable def tw14560227323716806978:=0
noncomputable def tw10454326101112616534:=0
noncomputable def tw493834858229989756:=0
noncomputable def tw14239538644078344915:=0
noncomputable def tw11797382807860080290:=0
noncomputable def tw11083674774836481877:=0
noncomputable def tw7077356850028996697:=0
noncomputable def tw7144671731582724324:=0
noncomputable def tw13022162160302030756:=0
noncomputable def tw947333413972583320:=0
noncomputable def tw14204299464091868218:=0
noncomputable def tw18156578198032030022:=0
noncomputable def tw6154353637672505412:=0
noncomputable def tw11783262830379730154:=0
noncomputable def tw12274533641401692267:=0
noncomputable def tw4115713442018606742:=0
noncomputable def tw12439555144055508968:=0
noncomputable def tw12481987096743178036:=0
noncomputable def tw7393786657831637298:=0
noncomputable def tw1343973718490755110:=0
noncomputable def tw11087244493327682799:=0
noncomputable def tw13800452624123385740:=0
noncomputable def tw18227269978175995471:=0
noncomputable def tw8855582252536166631:=0
noncomputable def tw16333730620385967964:=0
noncomputable def tw1245109854109422522:=0
noncomputable def tw18231108379527554564:=0
noncomputable def tw4268755091201625890:=0
noncomputable def tw10759050082951177121:=0
noncomputable def tw14047194009481612577:=0
noncomputable def tw1758434349022600262:=0
noncomputable def tw7807568334274946058:=0
noncomputable def tw9099270917698327015:=0
noncomputable def tw862601305721597915:=0
noncomputable def tw8271266442738332534:=0
noncomputable def tw13288796612416069751:=0
noncomputable def tw15872190184476267276:=0
noncomputable def tw11463423511450189946:=0
noncomputable def tw11981115934452557827:=0
noncomputable def tw9117785473499494602:=0
noncomputable def tw3827316810890613323:=0
noncomputable def tw13626228321988445278:=0
noncomputable def tw13910429518892949746:=0
noncomputable def tw18064458297734519111:=0
noncomputable def tw2529242120893490367:=0
noncomputable def tw3564397897553733883:=0
noncomputable def tw4898885848510086693:=0
noncomputable def tw14563101738733346089:=0
noncomputable def tw3078944131535419219:=0
noncomputable def tw16786093198407202238:=0
noncomputable def tw1395343439317545143:=0
noncomputable def tw14872205193035058864:=0
noncomputable def tw13081045176177732004:=0
noncomputable def tw18161616774804256472:=0
noncomputable def tw14651199230119539178:=0
noncomputable def tw3458607075097048583:=0
noncomputable def tw18065256030033538961:=0
noncomputable def tw2731571226372330854:=0
noncomputable def tw720676241729839032:=0
noncomputable def tw3396478487331913989:=0
noncomputable def tw8563544744241611098:=0
noncomputable def tw15961224224403832359:=0
noncomputable def tw6249726184491197654:=0
noncomputable def tw3141768723630556515:=0
noncomputable def tw13604142003474190333:=0
noncomputable def tw7575700602458059530:=0
noncomputable def tw3285505687845166228:=0
noncomputable def tw5741612965711687700:=0
noncomputable def tw9555157874938256342:=0
noncomputable def tw1263226250385822422:=0
noncomputable def tw11908134285495133574:=0
noncomputable def tw5691880392883877299:=0
noncomputable def tw4157195871747635564:=0
noncomputable def tw5180733186839368250:=0
noncomputable def tw6974827390973646457:=0
noncomputable def tw16611571832258636370:=0
noncomputable def tw8424013256025347109:=0
noncomputable def tw17573787616400687231:=0
noncomputable def tw14073934591668961954:=0
noncomputable def tw12050060661910729777:=0
noncomputable def tw1480319075350207477:=0
noncomputable def tw7552282244128664632:=0
noncomputable def tw6599670407042330378:=0
noncomputable def tw7405620822954752206:=0
noncomputable def tw18334800457649394470:=0
noncomputable def tw2916260883989975513:=0
noncomputable def tw10361626137744076941:=0
noncomputable def tw2214214007894541772:=0
noncomputable def tw5744561244773882775:=0
noncomputable def tw10544271253278702392:=0
noncomputable def tw10598732760136259957:=0
noncomputable def tw8349147138327735698:=0
noncomputable def tw2761559649242594305:=0
noncomputable def tw1335039117200322062:=0
noncomputable def tw2365176882811686025:=0
noncomputable def tw10737132530940363376:=0
noncomputable def tw13371161980071465340:=0
noncomputable def tw3643901825935317944:=0
noncomputable def tw15514749477390607573:=0
noncomputable def tw14734220722534961626:=0
noncomputable def tw3476615815674619614:=0
noncomputable def tw5395456496990951690:=0
end Mn.main
set_option Elab.async true
open PySem PySem.W PyProof.Rows Mn.G
set_option maxHeartbeats 8000000 in
theorem Mn.main : PySem.Challenge.rw_pc0156_01.Holds := by
  w_on; o_law; k_head; (case hw => w_witness2)
  k_go0
  refine' law_run (K := ?zzK) (ns := ?zzns) (cells := ?zzcells) (g := ?zzg) (scr := ?zzscr) (vs := ?zzvs) ?zzb1 ?zzb2 ?zzb3 ?zzb4 ?zzb5 ?zzhc ?zzhk ?zzz ?zzhs ?zzB ?zzX ?zztop ?zztab ?zzhL ?zzhI ?zzhn ?zzca ?zzF ?zzNw ?zzN0 ?zzl0 ?zzq
  case zzB => assumption
  case zzX => assumption
  case zzhL => assumption
  case zzhI => assumption
  case zztab => assumption
  case zzca => assumption
  case zzF => assumption
  case zzN0 => assumption
  case zzl0 => assumption
  case zzb1 => kernel_rfl
  case zzb2 => kernel_rfl
  case zzb3 => kernel_rfl
  case zzb4 => kernel_rfl
  case zzb5 => kernel_rfl
  case zzhc => kernel_rfl
  case zzhk => kernel_rfl
  case zzz => kernel_rfl
  case zzhs => kernel_rfl
  case zztop => exact ⟨_, _, _, _, _, by assumption⟩
  case zzhn => omega
  case zzNw => exact fun p hp => (List.mem_cons.mp hp).elim (fun e => e ▸ List.mem_append_right _ (.head _)) fun m => List.mem_append_left _ m
  case zzq =>
    intro h' tk m' ps hF ht
    refine ⟨?_, ⟨ps, ht⟩, trivial⟩
    refine goodW_bool hF (by assumption) (raisesW_false ?_) ?_
    · wrow_none_raised
    · kc_post
theorem PySem.Challenge.cw_pc0156_01_holds : PySem.Challenge.rw_pc0156_01.Holds :=
  Mn.main
