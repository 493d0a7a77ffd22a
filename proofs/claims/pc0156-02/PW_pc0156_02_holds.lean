import PyProof.Rows.All
import Wide.All
import OpenK.AllK
import Wide.FinOn
import Lean
import PySem.Challenge.RW_pc0156_02
open And renaming intro->Ic
open Bool renaming false_ne_true->G4,true->G6,false->G7,and_eq_true_iff->GC,casesOn->GN,and_eq_true->Dc,not_eq_true'->Dd,or_eq_true_iff->Dg,or_eq_false_iff->F4,false_eq_true->I7
open Decidable renaming byContradiction->M8
open Exists renaming elim->Gf,imp->GY
open False renaming elim->Du
open ForInStep renaming yield->DK
open Int renaming ofNat->GX,natCast_nonneg->D2,ofNat_le->DA,ofNat_lt->F0,not_lt->FD,natAbs->Iw,max_eq_right->Iy,fmod->IJ,negSucc_lt_zero->IU,lt_of_le_of_lt->M2,negSucc->Mb,fdiv->MA
open List renaming mem_append_right->Gd,mem_append_left->Gg,mem_cons_self->Gn,mem_cons_of_mem->Go,mem_cons->Gp,length_append->Gr,length_map->Gs,append_assoc->Gw,all_eq_true->Gz,map_append->GB,nodup_append->GG,size_toArray->GH,nodup_cons->GJ,mem_append->GL,length_cons->GO,mem_singleton->GQ,lookup_cons->GS,map_cons->GV,not_mem_nil->D1,length_nil->D3,mem_map_of_mem->D4,append_nil->D5,casesOn->D8,mem_map->Df,reverse_cons->Dq,length_reverse->DC,perm_middle->DF,zip_cons_cons->DG,toList_toArray->DL,lookup->DS,cons_append->DU,length_drop->DV,length_singleton->DZ,range->F8,filter_cons_of_pos->Fe,filter_cons_of_neg->Ff,drop_of_length_le->Fp,foldl_cons->Fs,take_append_drop->Fw,reverse_reverse->FF,length_take->FP,map_reverse->FQ,sublist_append_left->FX,replicate->Ij,length_take_of_le->Io,any_eq_true->Iz,any_cons->IF,filterMap_cons->IV,map_nil->IZ,drop_zero->M3,nodup_nil->M7,take_nil->Me,all_cons->Mh,map_map->Mq
open List.Nodup renaming sublist->DX
open List.Perm renaming swap->Fd
open List.Sublist renaming refl->Fx,map->IB
open List.cons renaming inj->Fv
open Nat renaming le_of_ble_eq_true->G5,le_trans->Ga,beq->Gi,ble->Gj,ble_eq_true_of_le->Gk,eq_of_beq_eq_true->GE,le_add_left->GF,le_refl->GI,exists_eq_add_of_le'->GP,lt_of_le_of_lt->GT,le_succ_of_le->GU,zero_add->GZ,blt->D0,lt_succ_of_lt->D6,ne_of_lt->D9,lt_succ_self->Da,le_add_right->Db,succ_le_of_lt->De,not_succ_le_zero->Dj,lt_of_lt_of_le->Dk,le_of_succ_le_succ->Dm,le_antisymm->Dr,mul_one->Dv,add_le_add_right->Dw,add_sub_cancel_left->Dx,zero_le->DD,succ_le_succ->DE,lt_irrefl->DH,add_le_add_left->DM,le_of_lt->DO,ne_of_beq_eq_false->DP,ne_of_gt->DQ,not_lt_of_le->DT,le_max_right->DW,le_succ->F5,add_comm->Fh,not_lt->Fj,add_assoc->Fu,le_of_succ_le->Fy,blt_eq->FE,le_of_add_le_add_right->FH,min_eq_left->I3,add_le_add->Ih,le_of_eq->Ii,lt_of_succ_lt_succ->Ik,lt_or_ge->Ip,ge_of_not_lt->Iv,min_eq_right->IA,lt_trans->M0
open Ne renaming symm->Mc
open Option renaming some->G3,none->Gb,casesOn->GD,map_eq_some_iff->GK,map_some->I4
open Option.some renaming inj->Gm
open PyProof.Rows renaming envOfC->DB,News->FW,assignInOrder_cons->Ia
open PySem renaming Expr->G8,Value->G9,wpAny_bind->Ge,Shared->Gh,Stmt->Gq,wpAny_mono->Gu,wpAny_pure->Gv,Addr->Gx,model->Gy,wpAny->GA,wpAny_holding->GR,Scope->GW,sizeLine_eq->D7,Around->Dh,Program->Di,wpAny_standAt->Dl,Heap->Do,mainGlobals->Dy,codeAny->DI,wpAny_truthy_bool->DJ,NameKind->DY,starEach->F6,compEnvC->F7,plainObj_wpAny_Assign_Attribute->Fa,World->Fb,Arguments->Fg,eval->Ft,wpAny_loadPart_at->Fz,wpAny_assign_Name->FB,holding->FC,wpAny_loadName_local->FI,stored->FJ,constantsAlone->FL,wpAny_execs_cons->FR,codeAny_mono->FT,cellsFrom->FU,DictEntry->FV,wpAny_getItem_list_slice->FY,foldedForSure->FZ,Comprehension->I1,wpAny_execs_nil->I5,builtinsNs->I9,assignEach->Ib,strIterType->Ie,compareOp->Ig,wpAny_newObj_type->Iq,sizeLine->Ir,wpAny_storeName_local->Iu,wpAny_call->IC,strKind_is->ID,getMethod->IE,standAt->IG,assignInOrder->II,rawInt->IP,letOwnedTupleGo->IQ,backTo->IS,assign->IT,list_getitem_lookup->IW,any_of_findIdx_some->IX,Model->IY,notedBy->M1
open PySem.Builtin renaming divisionGoesByPylong->IN
open PySem.Builtin.List renaming listTooLong->Mi
open PySem.Builtin.Range renaming rangeSize->Mm
open PySem.Builtin.Str renaming strSliceIndices->DR
open PySem.Calls renaming Name_function_global->IM
open PySem.Expr.Attribute renaming elim->M9
open PySem.Expr.BinOp renaming elim->Mu
open PySem.Expr.BoolOp renaming elim->Mo
open PySem.Expr.Call renaming elim->IK
open PySem.Expr.Compare renaming elim->Ml
open PySem.Expr.Constant renaming elim->Mf
open PySem.Expr.Dict renaming elim->MC
open PySem.Expr.IfExp renaming elim->Mv
open PySem.Expr.Lambda renaming elim->Mp
open PySem.Expr.List renaming elim->IL
open PySem.Expr.ListComp renaming elim->Mg
open PySem.Expr.Name renaming elim->MB
open PySem.Expr.Slice renaming elim->Mw
open PySem.Expr.Subscript renaming elim->Ma
open PySem.Expr.Tuple renaming elim->Mx
open PySem.Expr.UnaryOp renaming elim->Mk
open PySem.Heap renaming SameBut->Fi,lt_size->Fk,size_push->Il
open PySem.Heap.IsList renaming typeIs->M4
open PySem.Heap.IsSliceOf renaming new->M5
open PySem.Heap.SameBut renaming update->Fc
open PySem.Keeper renaming boundFrame->Im,machine->M6,frame->Mr
open PySem.NameKind renaming free->F9,cell->Mj
open PySem.Stmt.Assign renaming elim->Mt
open PySem.Stmt.Expr renaming elim->MD
open PySem.Stmt.Raise renaming elim->Mz
open PySem.Stmt.Return renaming elim->Ms
open PySem.Stmt.While renaming elim->My
open PySem.Str renaming ofString->G0,length->I6
open PySem.Value renaming isStr->Md
open PySem.W renaming tabObj->Dz,Frag->DN,listOf->Fq,looks_mroIn->FK,Looks->I0,findIn->I8,dictOf->IR
noncomputable section
open PySem PySem.W PyProof.Rows PySem.Calls PySem.Spec PySem.SeqAt PyProof.Rows.LCg
namespace Mn
set_option Elab.async false
set_option tactic.hygienic false
set_option genSizeOf false
set_option linter.all false
set_option genInjectivity false
set_option maxRecDepth 100000
set_option genSizeOf false in
set_option genInjectivity false in
set_option genCtorIdx false in
inductive Lx where
 |v (i:Nat)|n (k:Nat)|a (x y:Lx)|m (k:Nat) (x:Lx)|r (x:Lx) (k:Nat)
noncomputable def cAt:List Nat->Nat->Nat
 |[],_=>0
 |a::_,0=>a
 |_::t,i+1=>cAt t i
noncomputable def Lx.den(c:List Nat):Lx->Nat
 |.v i=>cAt c i
 |.n k=>k
 |.a x y=>x.den c+y.den c
 |.m k x=>k*x.den c
 |.r x k=>x.den c*k
noncomputable def padd:List Nat->List Nat->List Nat
 |[],q=>q
 |p,[]=>p
 |a::p,b::q=>(a+b)::padd p q
noncomputable def psc(k:Nat)(p:List Nat):List Nat:=p.map (k * ·)
noncomputable def pun:Nat->List Nat
 |0=>[1]
 |i+1=>0::pun i
noncomputable def Lx.nf:Lx->List Nat
 |.v i=>0::pun i
 |.n k=>[k]
 |.a x y=>padd x.nf y.nf
 |.m k x=>psc k x.nf
 |.r x k=>psc k x.nf
noncomputable def ple:List Nat->List Nat->Bool
 |[],_=>G6
 |a::p,[]=>Gj a 0 && ple p []
 |a::p,b::q=>Gj a b && ple p q
noncomputable def pev:List Nat->List Nat->Nat
 |_,[]=>0
 |[],_=>0
 |a::c,k::p=>k*a+pev c p
noncomputable def hyL:List (Nat×Lx×Lx)->List Nat
 |[]=>[]
 |(m,l,_)::t=>padd (psc m l.nf) (hyL t)
noncomputable def hyR:List (Nat×Lx×Lx)->List Nat
 |[]=>[]
 |(m,_,r)::t=>padd (psc m r.nf) (hyR t)
noncomputable def hyps(c:List Nat)(P:Prop):List (Nat×Lx×Lx)->Prop
 |[]=>P
 |(_,l,r)::t=>l.den c<=r.den c->hyps c P t
theorem Xg(c:List Nat):pev c []=0:=by rcases c with _|_<;>rfl
theorem ZZ:∀(c p q:List Nat),pev c (padd p q)=pev c p+pev c q:=by
 intro c
 induction c with
 |nil=>intro p q;rcases p with _|⟨a,p⟩<;>rcases q with _|⟨b,q⟩<;>rfl
 |cons x c ih=>
  intro p q;rcases p with _|⟨a,p⟩
  ·exact(GZ _).symm
  ·rcases q with _|⟨b,q⟩
   ·rfl
   ·show(a+b)*x+pev c (padd p q)=(a*x+pev c p)+(b*x+pev c q);rw[ih,Nat.add_mul,Nat.add_add_add_comm]
theorem X3(k:Nat):∀(c p:List Nat),pev c (psc k p)=k*pev c p:=by
 intro c
 induction c with
 |nil=>intro p;rcases p with _|⟨a,p⟩<;>rfl
 |cons x c ih=>
  intro p;rcases p with _|⟨a,p⟩
  ·rfl
  ·show k*a*x+pev c (psc k p)=k*(a*x+pev c p);rw[ih,Nat.mul_add,Nat.mul_assoc]
theorem pev_un:∀(c:List Nat) (i:Nat),pev c (pun i)=cAt c i:=by
 intro c
 induction c with
 |nil=>intro i;rcases i with _|i<;>rfl
 |cons x c ih=>
  intro i;rcases i with _|i
  ·show 1*x+pev c []=x;rw[Xg,Nat.one_mul];rfl
  ·show 0*x+pev c (pun i)=cAt c i;rw[ih,Nat.zero_mul,GZ]
theorem Je(c:List Nat)(x:Lx):pev (1::c) x.nf=x.den c:=by
 induction x with
 |v i=>show 0*1+pev c (pun i)=cAt c i;rw[pev_un,Nat.zero_mul,GZ]
 |n k=>show k*1+pev c []=k;rw[Xg,Dv];rfl
 |a x y h g=>show pev _ (padd x.nf y.nf)=x.den c+y.den c;rw[ZZ,h,g]
 |m k x h=>show pev _ (psc k x.nf)=k*x.den c;rw[X3,h]
 |r x k h=>show pev _ (psc k x.nf)=x.den c*k;rw[X3,h,Nat.mul_comm]
theorem ple_le:∀(c p q:List Nat),ple p q=G6->pev c p<=pev c q:=by
 intro c
 induction c with
 |nil=>intro p q _;rcases p with _|⟨a,p⟩<;>exact DD _
 |cons x c ih=>
  intro p q h;rcases p with _|⟨a,p⟩
  ·exact DD _
  ·rcases q with _|⟨b,q⟩
   ·obtain⟨h1,h2⟩:=GC.mp (show(Gj a 0 && ple p [])=G6 from h);show a*x+pev c p<=0;have e:=G5 h1;have w:=ih p [] h2;rw[Xg] at w;rw[Nat.le_zero.mp e,Nat.zero_mul,GZ];exact w
   ·obtain⟨h1,h2⟩:=GC.mp (show(Gj a b && ple p q)=G6 from h);exact Ih (Nat.mul_le_mul_right x (G5 h1)) (ih p q h2)
theorem hyps_ok(c:List Nat){P:Prop}:∀(hs:List (Nat×Lx×Lx)),(pev (1::c) (hyL hs)<=pev (1::c) (hyR hs)->P)->hyps c P hs:=by
 intro hs
 induction hs generalizing P with
 |nil=>exact λh=>h (GI _)
 |cons x t ih=>obtain⟨m,l,r⟩:=x;intro h k;refine ih λw=>h ?_;show pev _ (padd (psc m l.nf) (hyL t))<=pev _ (padd (psc m r.nf) (hyR t));rw[ZZ,ZZ,X3,X3,Je,Je];exact Ih (Nat.mul_le_mul_left m k) w
theorem lin(c:List Nat)(g:Nat)(hs:List (Nat×Lx×Lx))(l r:Lx)(k:(Gj 1 g && ple (padd (psc g l.nf) (hyR hs)) (padd [g - 1] (padd (psc g r.nf) (hyL hs))))=G6):hyps c (l.den c<=r.den c) hs:=by obtain⟨g1,k⟩:=GC.mp k;have g1:=G5 g1;refine hyps_ok c hs λw=>?_;have e:=ple_le (1::c) _ _ k;rw[ZZ,ZZ,ZZ,X3,X3,Je,Je] at e;have e:g*l.den c+pev (1::c) (hyR hs)<=((g - 1)*1+pev c [])+(g*r.den c+pev (1::c) (hyL hs)):=e;rw[Xg] at e;refine Iv λn=>?_;have n:g*(r.den c+1)<=g*l.den c:=Nat.mul_le_mul_left g n;rw[Nat.mul_add,Dv] at n;refine DT (Ga (Ih n w) e) ?_;rw[Dv,Nat.add_zero,←Fu,Fh (g - 1),Fu,Fu];exact Nat.add_lt_add_left (Nat.add_lt_add_right (Nat.sub_lt g1 Nat.one_pos) _) _
theorem l1(c:List Nat)(hs:List (Nat×Lx×Lx))(l r:Lx)(k:(Gj 1 1 && ple (padd (psc 1 l.nf) (hyR hs)) (padd [1 - 1] (padd (psc 1 r.nf) (hyL hs))))=G6):hyps c (l.den c<=r.den c) hs:=lin c 1 hs l r k
theorem hyps_imp(c:List Nat){P Q:Prop}(f:P->Q)(hs:List (Nat×Lx×Lx))(h:hyps c P hs):hyps c Q hs:=by
 induction hs with
 |nil=>exact f h
 |cons x t ih=>exact λk=>ih (h k)
theorem lf(c:List Nat)(hs:List (Nat×Lx×Lx))(k:(Gj 1 1 && ple (padd (psc 1 (Lx.n 1).nf) (hyR hs)) (padd [1 - 1] (padd (psc 1 (Lx.n 0).nf) (hyL hs))))=G6):hyps c False hs:=hyps_imp c (Dj 0) hs (lin c 1 hs (.n 1) (.n 0) k)
noncomputable abbrev V0:=Lx.v 0
noncomputable abbrev V1:=Lx.v 1
noncomputable abbrev V2:=Lx.v 2
noncomputable abbrev V3:=Lx.v 3
noncomputable abbrev V4:=Lx.v 4
noncomputable abbrev N0:=Lx.n 0
noncomputable abbrev N1:=Lx.n 1
noncomputable abbrev N2:=Lx.n 2
noncomputable abbrev N3:=Lx.n 3
noncomputable abbrev N4:=Lx.n 4
noncomputable abbrev N8:=Lx.n 8
noncomputable abbrev N40:=Lx.n 40
noncomputable abbrev yo:=Lx.n 1000
noncomputable abbrev N900:=Lx.n 900
theorem le1{a b:Nat}(h:a=b):a<=b:=Ii h
theorem nn{α:Type}{t:α}{p:Prop}(h:(Gb:Option α)=G3 t):p:=nomatch h
section
variable {a b c d e f g:Nat}
theorem hsub(h0:a<=b):a+c - b<=c:=Nat.sub_le_of_le_add (Ga (Dw h0 c) (le1 (Fh b c)))
theorem z63{n:Nat}(h:n<=1000):(n:Int) < 2 ^ 63:=M2 (DA.mpr h) (by decide:((1000:Nat):Int) < 2 ^ 63)
theorem zn63(n:Nat):-2 ^ 63<=GX n:=Int.le_trans (by decide:(-2 ^ 63:Int)<=0) (D2 n)
theorem z64{a:Int}(h:Iw a < 1000000000):a < 2 ^ 64:=M2 Int.le_natAbs (Int.lt_of_lt_of_le (F0.mpr h) (by decide:((1000000000:Nat):Int)<=2 ^ 64))
theorem om1(h0:a<=b)(h1:c=a)(h2:c=d):d<=b:=l1 [a,b,c,d] [(1,V0,V1),(1,V2,V0),(1,V3,V2)] V3 V1 rfl h0 (le1 h1) (le1 h2.symm)
theorem om2(h0:a+(b+1)<=c):a<=c:=l1 [a,b,c] [(1,.a V0 (.a V1 N1),V2)] V0 V2 rfl h0
theorem om4(h0:a+(b+1)<=c)(h1:d<=a+1):d+b<=c:=l1 [a,b,c,d] [(1,.a V0 (.a V1 N1),V2),(1,V3,.a V0 N1)] (.a V3 V1) V2 rfl h0 h1
theorem om5(h0:¬a < b)(h1:a < b+1):a=b:=Dr (l1 [a,b] [(1,.a V0 N1,.a V1 N1)] V0 V1 rfl h1) (l1 [a,b] [(1,V1,V0)] V1 V0 rfl (Iv h0))
theorem om6{a:Int}(h0:Iw a < 1000000000):-2 ^ 64 < a:=Int.neg_lt_of_neg_lt (z64 ((Int.natAbs_neg a).symm▸h0))
theorem om7:¬0 > 300:=λe=>lf [] [(1,.a (.n 300) N1,N0)] rfl e
theorem om8{a:Int}(h0:Iw a < 1000000000):Iw a < 2 ^ 64:=Dk h0 (G5 rfl)
theorem om9{a:Int}(h0:Iw a < 1000000000):a < 2 ^ 64:=z64 h0
theorem om10(h0:a < 64):¬a / 30+1 > 300:=DT (Ga (DE (Nat.div_le_self a 30)) (Ga h0 (G5 rfl)))
theorem om11:Mb a=-((a:Int)+1):=Int.negSucc_eq a
theorem om12(h0:a=b)(h1:c < a):c < b:=l1 [a,b,c] [(1,V0,V1),(1,.a V2 N1,V0)] (.a V2 N1) V1 rfl (le1 h0) h1
theorem om13(h0:¬a<=b):b<=a:=l1 [a,b] [(1,.a V1 N1,V0)] V1 V0 rfl (Nat.gt_of_not_le h0)
theorem om14(h0:0<=GX a):-2 ^ 63<=GX a:=zn63 a
theorem om15(h0:a<=1000)(h1:b < a)(h2:GX b=(b:Int)):GX b < 2 ^ 63:=z63 (Ga (DO h1) h0)
theorem om16:Mb a < 2 ^ 63:=Int.lt_of_lt_of_le (IU a) (by decide)
theorem om17(h0:a<=1000)(h1:a=b):(b:Int) < 2 ^ 63:=z63 (h1▸h0)
theorem om18(h0:a < 64):a < 1920:=l1 [a] [(1,.a V0 N1,.n 64)] (.a V0 N1) (.n 1920) rfl h0
theorem om19(h0:a<=4):a<=4300:=l1 [a] [(1,V0,N4)] V0 (.n 4300) rfl h0
theorem om20(h0:a<=1000):(a:Int) < 2 ^ 63:=z63 h0
theorem om21(h0:a < 55296)(h1:GX a=(a:Int)):¬GX a > 1114111:=FD.mpr (DA.mpr (Ga (DO h0) (G5 rfl)))
theorem om22:a+1+b=a+(b+1):=Dr (l1 [a,b] [] (.a (.a V0 N1) V1) (.a V0 (.a V1 N1)) rfl) (l1 [a,b] [] (.a V0 (.a V1 N1)) (.a (.a V0 N1) V1) rfl)
theorem om23(h0:GX a=(a:Int)):Int.toNat (max 0 (GX a))=a:=congrArg Int.toNat (Iy (D2 a))
theorem om24(h0:Nat.succ a < b+1):a < b:=l1 [a,b] [(1,.a (.a V0 N1) N1,.a V1 N1)] (.a V0 N1) V1 rfl h0
theorem om25(h0:a<=b):a+(b - a)=b:=Nat.add_sub_of_le h0
theorem om26(h0:a<=40):a+2<=16777216:=l1 [a] [(1,V0,N40)] (.a V0 N2) (.n 16777216) rfl h0
theorem om27(h0:a<=40):a<=1000:=l1 [a] [(1,V0,N40)] V0 yo rfl h0
theorem om28:a<=a+b:=l1 [a,b] [] V0 (.a V0 V1) rfl
theorem om29(h0:a+b<=1000):a+b<=16777216:=l1 [a,b] [(1,.a V0 V1,yo)] (.a V0 V1) (.n 16777216) rfl h0
theorem om30(h0:a<=b)(h1:b < a+c):b - a < c:=Nat.sub_lt_left_of_lt_add h0 h1
theorem om31(h0:a < 1000):a+1<=1000:=l1 [a] [(1,.a V0 N1,yo)] (.a V0 N1) yo rfl h0
theorem om32(h0:¬a+b < c)(h1:¬c < a+b):c=a+b:=Dr (l1 [a,b,c] [(1,V2,.a V0 V1)] V2 (.a V0 V1) rfl (Iv h0)) (l1 [a,b,c] [(1,.a V0 V1,V2)] (.a V0 V1) V2 rfl (Iv h1))
theorem om33(h0:a < 1000):a<=16777216:=l1 [a] [(1,.a V0 N1,yo)] V0 (.n 16777216) rfl h0
theorem om34(h0:GX a=(a:Int)):¬GX a < -2 ^ 63:=FD.mpr (zn63 a)
theorem om35(h0:a<=1000)(h1:b < a)(h2:GX b=(b:Int)):¬GX b>=2 ^ 63:=Int.not_le.mpr (z63 (Ga (DO h1) h0))
theorem om36(h0:a+b<=1000):a<=1000:=l1 [a,b] [(1,.a V0 V1,yo)] V0 yo rfl h0
theorem om37(h0:a=b)(h1:b<=999):a+1<=16777216:=l1 [a,b] [(1,V0,V1),(1,V1,.n 999)] (.a V0 N1) (.n 16777216) rfl (le1 h0) h1
theorem om38(h0:a < 1000):min b a+(a - b+1)<=1000:=Ga (le1 (congrArg (·+ 1) ((Fh (min b a) (a - b)).trans ((congrArg (a - b+ ·) (Nat.min_comm b a)).trans (Nat.sub_add_min_cancel ..))))) h0
theorem om39(h0:a<=1000):a<=16777216:=l1 [a] [(1,V0,yo)] V0 (.n 16777216) rfl h0
theorem om40(h0:a<=1000):min b a<=1000:=Ga (Nat.min_le_right b a) h0
theorem om41(h0:a<=b+1):a+1<=b+1+1:=l1 [a,b] [(1,V0,.a V1 N1)] (.a V0 N1) (.a (.a V1 N1) N1) rfl h0
theorem om42(h0:a<=1048576):a<=16777216:=l1 [a] [(1,V0,.n 1048576)] V0 (.n 16777216) rfl h0
theorem om43(h0:a < 100)(h1:b<=a+1):b<=1000:=l1 [a,b] [(1,.a V0 N1,.n 100),(1,V1,.a V0 N1)] V1 yo rfl h0 h1
theorem om44(h0:a < 100)(h1:b<=a+1):b<=100:=l1 [a,b] [(1,.a V0 N1,.n 100),(1,V1,.a V0 N1)] V1 (.n 100) rfl h0 h1
theorem om45{a:Int}(h0:0 < a/\a < 1000000000):a≠0:=Int.ne_of_gt h0.1
theorem om46{a:Int}(h0:0 < a/\a < 1000000000):Iw a < 1000000000:=F0.mp ((Int.natAbs_of_nonneg (Int.le_of_lt h0.1)).symm▸h0.2:((Iw a:Nat):Int) < ((1000000000:Nat):Int))
theorem om47{a:Int}(h0:0 < a):a≠0:=Int.ne_of_gt h0
theorem om48(h0:a+16*b+200<=9900)(h1:c=9900):a+1 < c:=l1 [a,b,c] [(1,.a (.a V0 (.m 16 V1)) (.n 200),.n 9900),(1,.n 9900,V2)] (.a (.a V0 N1) N1) V2 rfl h0 (le1 h1.symm)
theorem om49(h0:a < 29):a < 30:=l1 [a] [(1,.a V0 N1,.n 29)] (.a V0 N1) (.n 30) rfl h0
theorem om50:↑(Int.toNat ((a:Int) - 0))=(a:Int):=congrArg (λz=>(Int.toNat z:Int)) (Int.sub_zero a)
theorem om51(h0:a<=1000):(a:Int) < 2 ^ 62:=by omega
theorem om52(h0:a<=b):(a:Int) - (b:Int)<=0:=Int.sub_nonpos_of_le (DA.mpr h0)
theorem om53(h0:a < b):0 < (b:Int) - (a:Int):=Int.sub_pos_of_lt (F0.mpr h0)
theorem om54:(a:Int)+1=((a+1:Nat):Int):=rfl
theorem om55:(a:Int) - (b:Int) - 1=(a:Int) - ((b+1:Nat):Int):=Int.sub_sub a b 1
theorem om57(h0:a+b=c+b):a=c:=Dr (l1 [a,b,c] [(1,.a V0 V1,.a V2 V1)] V0 V2 rfl (le1 h0)) (l1 [a,b,c] [(1,.a V2 V1,.a V0 V1)] V2 V0 rfl (le1 h0.symm))
theorem om58(h0:a < b):b - (a+1) < b - a:=Nat.sub_lt_sub_left h0 (Da a)
theorem om59(h0:a<=b+c):a<=b+(c+1):=l1 [a,b,c] [(1,V0,.a V1 V2)] V0 (.a V1 (.a V2 N1)) rfl h0
theorem om60(h0:a<=1000)(h1:b<=1000)(h2:c<=b+d)(h3:d < a)(h4:e=c):e<=16777216:=l1 [a,b,c,d,e] [(1,V0,yo),(1,V1,yo),(1,V2,.a V1 V3),(1,.a V3 N1,V0),(1,V4,V2)] V4 (.n 16777216) rfl h0 h1 h2 h3 (le1 h4)
theorem om61(h0:a<=b+c):a+1<=b+(c+1):=l1 [a,b,c] [(1,V0,.a V1 V2)] (.a V0 N1) (.a V1 (.a V2 N1)) rfl h0
theorem om62:0<=(a:Int):=D2 a
theorem om63(h0:a < b)(h1:b<=1000):(a:Int) < 2 ^ 63:=z63 (Ga (DO h0) h1)
theorem om64(h0:a < b)(h1:c=b):(a:Int) < (c:Int):=F0.mpr (h1▸h0)
theorem om65(h0:a < 1000)(h1:a=b):b<=16777216:=l1 [a,b] [(1,.a V0 N1,yo),(1,V1,V0)] V1 (.n 16777216) rfl h0 (le1 h1.symm)
theorem om66(h0:a=b)(h1:a=c)(h2:c=d):b=d:=Dr (l1 [a,b,c,d] [(1,V1,V0),(1,V0,V2),(1,V2,V3)] V1 V3 rfl (le1 h0.symm) (le1 h1) (le1 h2)) (l1 [a,b,c,d] [(1,V0,V1),(1,V2,V0),(1,V3,V2)] V3 V1 rfl (le1 h0) (le1 h1.symm) (le1 h2.symm))
theorem om67(h0:a < b):b+1 - (a+1) < b+1 - a:=Nat.sub_lt_sub_left (D6 h0) (Da a)
theorem om68(h0:a<=b):a+c - b<=c:=Nat.sub_le_of_le_add (Ga (Dw h0 c) (le1 (Fh b c)))
theorem om69(h0:a<=b)(h1:c<=b):a+c - b<=b - (b - c):=Ga (hsub h0) (le1 (Nat.sub_sub_self h1).symm)
theorem om70(h0:a<=b+c)(h1:c<=a):a - c+(b+c - a)=b:=(Fh _ _).trans ((Nat.sub_add_sub_cancel h0 h1).trans (Nat.add_sub_cancel ..))
theorem om71(h0:a<=b):b - (b - a) - (c+a - b)=a - (c+a - b):=congrArg (· - (c+a - b)) (Nat.sub_sub_self h0)
theorem om72(h0:a=b):a<=b:=l1 [a,b] [(1,V0,V1)] V0 V1 rfl (le1 h0)
theorem om73(h0:a=b)(h1:c<=b):min c a=c:=h0.symm▸I3 h1
theorem om74(h0:a<=b)(h1:c=b)(h2:a=d):d<=c:=l1 [a,b,c,d] [(1,V0,V1),(1,V1,V2),(1,V3,V0)] V3 V2 rfl h0 (le1 h1.symm) (le1 h2.symm)
theorem om75(h0:a<=b+c)(h1:d=a)(h2:b=e)(h3:c=f):d<=e+f:=l1 [a,b,c,d,e,f] [(1,V0,.a V1 V2),(1,V3,V0),(1,V1,V4),(1,V2,.v 5)] V3 (.a V4 (.v 5)) rfl h0 (le1 h1) (le1 h2) (le1 h3)
theorem om76(h0:a=b)(h1:c=d)(h2:e=f):c+e - b=d+f - a:=by subst h0 h1 h2;rfl
theorem om77(h0:a<=b)(h1:b<=a+c)(h2:d=b)(h3:a=e)(h4:c=f):b=e+(f - (e+f - d)):=by subst h2 h3 h4;exact((Nat.add_sub_assoc (hsub h0) a).symm.trans (Nat.sub_sub_self h1)).symm
theorem om78(h0:a+4*(b+1)+8<=1000):a+1+4*b+8<=1000:=l1 [a,b] [(1,.a (.a V0 (.m 4 (.a V1 N1))) N8,yo)] (.a (.a (.a V0 N1) (.m 4 V1)) N8) yo rfl h0
theorem om79(h0:a+16*(b+1)+200<=9900):a+3+16*b+200<=9900:=l1 [a,b] [(1,.a (.a V0 (.m 16 (.a V1 N1))) (.n 200),.n 9900)] (.a (.a (.a V0 N3) (.m 16 V1)) (.n 200)) (.n 9900) rfl h0
theorem om82(h0:a=b+1)(h1:b+4*(c+1)+8<=1000):a+4*c+8<=1000:=l1 [a,b,c] [(1,V0,.a V1 N1),(1,.a (.a V1 (.m 4 (.a V2 N1))) N8,yo)] (.a (.a V0 (.m 4 V2)) N8) yo rfl (le1 h0) h1
theorem om83(h0:a=b+1)(h1:b+16*(c+1)+200<=9900):a+16*c+200<=9900:=l1 [a,b,c] [(1,V0,.a V1 N1),(1,.a (.a V1 (.m 16 (.a V2 N1))) (.n 200),.n 9900)] (.a (.a V0 (.m 16 V2)) (.n 200)) (.n 9900) rfl (le1 h0) h1
theorem om84(h0:a+(b+1) < 100):a+(0+1)+b < 100:=l1 [a,b] [(1,.a (.a V0 (.a V1 N1)) N1,.n 100)] (.a (.a (.a V0 (.a N0 N1)) V1) N1) (.n 100) rfl h0
theorem om85(h0:a+b < 100):a < 1000:=l1 [a,b] [(1,.a (.a V0 V1) N1,.n 100)] (.a V0 N1) yo rfl h0
theorem om86(h0:a < 50):1+a<=1000:=l1 [a] [(1,.a V0 N1,.n 50)] (.a N1 V0) yo rfl h0
theorem om87(h0:a < 50):60=59 - a+a+1:=congrArg (·+ 1) (Nat.sub_add_cancel (n:=59) (Ga (DO h0) (G5 rfl))).symm
theorem om88(h0:a < 50):0+a < 100:=l1 [a] [(1,.a V0 N1,.n 50)] (.a (.a N0 V0) N1) (.n 100) rfl h0
theorem om89(h0:a<=b):a+1<=1+c+b:=l1 [a,b,c] [(1,V0,V1)] (.a V0 N1) (.a (.a N1 V2) V1) rfl h0
theorem om90(h0:a+1+b<=9):a<=20:=l1 [a,b] [(1,.a (.a V0 N1) V1,.n 9)] V0 (.n 20) rfl h0
theorem om91(h0:a<=20):a < 50:=l1 [a] [(1,V0,.n 20)] (.a V0 N1) (.n 50) rfl h0
theorem om92(h0:a+(1+b+c)<=900):b<=900:=l1 [a,b,c] [(1,.a V0 (.a (.a N1 V1) V2),N900)] V1 N900 rfl h0
theorem om93(h0:a+(1+b+c)<=900):a+1+c<=900:=l1 [a,b,c] [(1,.a V0 (.a (.a N1 V1) V2),N900)] (.a (.a V0 N1) V2) N900 rfl h0
theorem om94(h0:a<=50):60 - a=59 - a+1:=Nat.succ_sub (m:=59) (Ga h0 (G5 rfl))
theorem om95(h0:a<=b/\c=b)(h1:d<=e/\f=e):d+1<=1+b+e/\c+f+1=1+b+e:=⟨l1 [a,b,c,d,e,f] [(1,V3,V4)] (.a V3 N1) (.a (.a N1 V1) V4) rfl h1.1,Dr (l1 [a,b,c,d,e,f] [(1,V2,V1),(1,.v 5,V4)] (.a (.a V2 (.v 5)) N1) (.a (.a N1 V1) V4) rfl (le1 h0.2) (le1 h1.2)) (l1 [a,b,c,d,e,f] [(1,V1,V2),(1,V4,.v 5)] (.a (.a N1 V1) V4) (.a (.a V2 (.v 5)) N1) rfl (le1 h0.2.symm) (le1 h1.2.symm))⟩
theorem om96(h0:a<=50):60 - a+a=60:=Nat.sub_add_cancel (Ga h0 (G5 rfl))
theorem om97(h0:a<=b/\c=b)(h1:d<=e/\f=e)(h2:g+(1+b+e)<=900):d+g+a<=1000:=l1 [a,b,c,d,e,f,g] [(1,V0,V1),(1,V3,V4),(1,.a (.v 6) (.a (.a N1 V1) V4),N900)] (.a (.a V3 (.v 6)) V0) yo rfl h0.1 h1.1 h2
theorem om98(h0:a+(1+b+c)<=900):a+1+b<=900:=l1 [a,b,c] [(1,.a V0 (.a (.a N1 V1) V2),N900)] (.a (.a V0 N1) V1) N900 rfl h0
theorem om99(h0:a<=b/\c=b)(h1:d+(1+e+b)<=900):a+d+e<=900:=l1 [a,b,c,d,e] [(1,V0,V1),(1,.a V3 (.a (.a N1 V4) V1),N900)] (.a (.a V0 V3) V4) N900 rfl h0.1 h1
theorem om100(h0:a<=b/\c=b)(h1:d+(1+b+e)<=900):d+1+c+e<=900:=l1 [a,b,c,d,e] [(1,V2,V1),(1,.a V3 (.a (.a N1 V1) V4),N900)] (.a (.a (.a V3 N1) V2) V4) N900 rfl (le1 h0.2) h1
theorem om101(h0:a+(1+b+c)<=900):a+c<=900:=l1 [a,b,c] [(1,.a V0 (.a (.a N1 V1) V2),N900)] (.a V0 V2) N900 rfl h0
theorem om102:a+(1+b+c)=a+c+b+1:=Dr (l1 [a,b,c] [] (.a V0 (.a (.a N1 V1) V2)) (.a (.a (.a V0 V2) V1) N1) rfl) (l1 [a,b,c] [] (.a (.a (.a V0 V2) V1) N1) (.a V0 (.a (.a N1 V1) V2)) rfl)
theorem om103(h0:a+b+c<=900):0+a<=1000:=l1 [a,b,c] [(1,.a (.a V0 V1) V2,N900)] (.a N0 V0) yo rfl h0
theorem om104(h0:a+(b+c)<=900):a+b<=1000:=l1 [a,b,c] [(1,.a V0 (.a V1 V2),N900)] (.a V0 V1) yo rfl h0
theorem om105(h0:a+b+c<=900):a+b<=1000:=l1 [a,b,c] [(1,.a (.a V0 V1) V2,N900)] (.a V0 V1) yo rfl h0
theorem om106(h0:a+(b+c)<=900):a+b+c<=900:=l1 [a,b,c] [(1,.a V0 (.a V1 V2),N900)] (.a (.a V0 V1) V2) N900 rfl h0
theorem om107(h0:a+b+c<=900):a+b+c<=1000:=l1 [a,b,c] [(1,.a (.a V0 V1) V2,N900)] (.a (.a V0 V1) V2) yo rfl h0
theorem om108(h0:a+(b+1)<=900):a < 1000:=l1 [a,b] [(1,.a V0 (.a V1 N1),N900)] (.a V0 N1) yo rfl h0
theorem om109(h0:a+(b+1)<=900):a+1+b<=900:=l1 [a,b] [(1,.a V0 (.a V1 N1),N900)] (.a (.a V0 N1) V1) N900 rfl h0
theorem om111{a:Int}{b:Nat}(h0:a < (b:Int))(h1:0<=a):Int.toNat a < b:=(Int.toNat_lt h1).mpr h0
theorem om112(h0:a<=60):(a:Int) < 1000000000:=F0.mpr (GT h0 (G5 rfl))
theorem om113(h0:a < 1000000):a < 1000000000:=l1 [a] [(1,.a V0 N1,.n 1000000)] (.a V0 N1) (.n 1000000000) rfl h0
theorem om409(h0:a=52)(h1:b=c)(h2:d>=a)(h3:b=d+60)(h4:c < 112):d=e:=Du (lf [a,b,c,d] [(1,.n 52,V0),(1,V0,V3),(1,.a V3 (.n 60),V1),(1,V1,V2),(1,.a V2 N1,.n 112)] rfl (le1 h0.symm) h2 (le1 h3.symm) (le1 h1) h4)
theorem om410(h0:a=b)(h1:a=c+60)(h2:b=d+60):c=d:=Dr (l1 [a,b,c,d] [(1,V0,V1),(1,.a V2 (.n 60),V0),(1,V1,.a V3 (.n 60))] V2 V3 rfl (le1 h0) (le1 h1.symm) (le1 h2)) (l1 [a,b,c,d] [(1,V1,V0),(1,V0,.a V2 (.n 60)),(1,.a V3 (.n 60),V1)] V3 V2 rfl (le1 h0.symm) (le1 h1) (le1 h2.symm))
theorem on1(h0:a < 1000)(h1:a=b)(h2:c=d)(h3:d<=b+1):c<=1000:=l1 [a,b,c,d] [(1,.a V0 N1,yo),(1,V1,V0),(1,V2,V3),(1,V3,.a V1 N1)] V2 yo rfl h0 (le1 h1.symm) (le1 h2) h3
theorem on2(h0:a+4*(b+1)+8<=1000)(h1:c=1000):a < c:=l1 [a,b,c] [(1,.a (.a V0 (.m 4 (.a V1 N1))) N8,yo),(1,yo,V2)] (.a V0 N1) V2 rfl h0 (le1 h1.symm)
theorem on3(h0:a+b<=900):a < 1000:=l1 [a,b] [(1,.a V0 V1,N900)] (.a V0 N1) yo rfl h0
theorem ot1(h:a<=1000):a<=16777216:=Ga h (G5 rfl)
theorem ot3(h:a+b<=1000):a<=16777216:=ot1 (Ga (Db a b) h)
theorem ot4(h:a<=100):a<=16777216:=Ga h (G5 rfl)
theorem zneg{k:Nat}(h:k<=1000):-2 ^ 63<=Mb k:=Int.neg_le_neg (a:=((k+1:Nat):Int)) (Int.le_of_lt (M2 (DA.mpr (DE h):((k+1:Nat):Int)<=((1001:Nat):Int)) (by decide)))
end
set_option genCtorIdx false in
inductive V where
 |none|bool (b:Bool)|int (i:Int)|str (s:List Nat)|obj (i:Nat)|tup (vs:List V)|fn (k:Nat)|rng (n:Nat)|scr|bad
 deriving Inhabited
noncomputable def V.ctorIdx(x:V):Nat:=V.casesOn x 0 (λ_=>1) (λ_=>2) (λ_=>3) (λ_=>4) (λ_=>5) (λ_=>6) (λ_=>7) 8 9
set_option genCtorIdx false in
inductive O where
 |inst (c:Nat) (fs:List (Nat×V))|list (vs:List V)|dict (es:List (List Nat×V))|exc (c:Nat)
 deriving Inhabited
noncomputable def O.ctorIdx(x:O):Nat:=O.casesOn x (λ_ _=>0) (λ_=>1) (λ_=>2) (λ_=>3)
inductive Op where|add|sub|mul|fdiv|mod
inductive Co where|eq|ne|lt|le|gt|ge|is|isnot|isin|notin
inductive Bf where|len|int|str|sum|tuple|max|chr|ord|list|range
inductive Bm where|append|extend|pop|insert|split|find|join|get
set_option genCtorIdx false in
inductive E where
 |bad
 |c (v:V)
 |l (k:Nat)
 |g (x:Nat) (v:V)
 |a (e:E) (f:Nat)
 |bin (o:Op) (a b:E)
 |cmp (o:Co) (a b:E)
 |cmp2 (o p:Co) (a b c:E)
 |not (a:E)
 |and (a b:E)
 |or (a b:E)
 |ifx (c a b:E)
 |call (f:Nat) (as:E)
 |bf (b:Bf) (as:E)
 |meth (a:E) (m:Nat) (as:E)
 |bm (b:Bm) (a:E) (as:E)
 |callv (f:E) (as:E)
 |idx (a b:E)
 |slice (a lo hi:E)
 |rev (a:E)
 |tup (es:E)
 |lst (es:E)
 |dct (es:E)
 |comp (elt iter cond:E) (n:Nat) (caps:List Nat)
 |lam (k:Nat)
 |nil
 |cons (a b:E)
 deriving Inhabited
noncomputable def E.ctorIdx(x:E):Nat:=E.casesOn x 0 (λ_=>1) (λ_=>2) (λ_ _=>3) (λ_ _=>4) (λ_ _ _=>5) (λ_ _ _=>6) (λ_ _ _ _ _=>7) (λ_=>8) (λ_ _=>9) (λ_ _=>10) (λ_ _ _=>11) (λ_ _=>12) (λ_ _=>13) (λ_ _ _=>14) (λ_ _ _=>15) (λ_ _=>16) (λ_ _=>17) (λ_ _ _=>18) (λ_=>19) (λ_=>20) (λ_=>21) (λ_=>22) (λ_ _ _ _ _=>23) (λ_=>24) 25 (λ_ _=>26)
set_option genCtorIdx false in
inductive S where
 |bad
 |nop
 |seq (a b:S)
 |ret (e:E)
 |ex (e:E)
 |set (k:Nat) (e:E)
 |setA (a:E) (f:Nat) (e:E)
 |setI (a i e:E)
 |unp (ks:List Nat) (e:E)
 |unp2 (wF wG:Nat) (a b:E)
 |ifs (c:E) (a b:S)
 |whl (c:E) (b:S)
 |for_ (k:Nat) (e:E) (b:S)
 |forT (ks:List Nat) (e:E) (b:S)
 |brk
 |raise (f:Nat) (as:E)
 |fault (k:Nat) (e:E)
 |tryc (g k:Nat)
 deriving Inhabited
noncomputable def S.ctorIdx(x:S):Nat:=S.casesOn x 0 1 (λ_ _=>2) (λ_=>3) (λ_=>4) (λ_ _=>5) (λ_ _ _=>6) (λ_ _ _=>7) (λ_ _=>8) (λ_ _ _ _=>9) (λ_ _ _=>10) (λ_ _=>11) (λ_ _ _=>12) (λ_ _ _=>13) 14 (λ_ _=>15) (λ_ _=>16) (λ_ _=>17)
abbrev Hp:=List O
abbrev Lc:=List V
structure Fn where
 n:Nat
 dflt:List V
 loc:Nat
 body:S
structure Prg where
 fn:Nat->Option Fn
 cls:Nat->Option (Nat)
 meth:Nat->Nat->Option Nat
 att:Nat->Nat->Bool
 frm:Nat->Bool
 exc:Nat->Bool
 scr:List Int
def gd(b:Bool)(p:Prop):Prop:=match b with|true=>p|false=>False
noncomputable def getF(f:Nat):List (Nat×V)->Option V
 |[]=>Gb
 |(k,v)::r=>match Gi k f with|true=>G3 v|false=>getF f r
noncomputable def setF(f:Nat)(v:V):List (Nat×V)->List (Nat×V)
 |[]=>[(f,v)]
 |(k,u)::r=>match Gi k f with|true=>(k,v)::r|false=>(k,u)::setF f v r
noncomputable def zU{α:Type}(k:Nat):List (Nat×α)->Option α
 |[]=>Gb
 |(a,v)::r=>match Gi a k with|true=>G3 v|false=>zU k r
noncomputable def eqS:List Nat->List Nat->Bool
 |[],[]=>G6
 |a::as,b::bs=>match Gi a b with|true=>eqS as bs|false=>G7
 |_,_=>G7
noncomputable def ltS:List Nat->List Nat->Bool
 |[],[]=>G7
 |[],_::_=>G6
 |_::_,[]=>G7
 |a::as,b::bs=>match D0 a b with|true=>G6|false=>match Gi a b with|true=>ltS as bs|false=>G7
noncomputable def getD(k:List Nat):List (List Nat×V)->Option V
 |[]=>Gb
 |(x,v)::r=>match eqS x k with|true=>G3 v|false=>getD k r
noncomputable def setD(k:List Nat)(v:V):List (List Nat×V)->List (List Nat×V)
 |[]=>[(k,v)]
 |(x,u)::r=>match eqS x k with|true=>(x,v)::r|false=>(x,u)::setD k v r
noncomputable def eqI(a b:Int):Bool:=decide (a=b)
def eqF:V->V->Option Bool
 |.none,.none=>G3 G6
 |.none,.str _=>G3 G7
 |.str _,.none=>G3 G7
 |.none,.int _=>G3 G7
 |.int _,.none=>G3 G7
 |.bool a,.bool b=>G3 (a==b)
 |.int a,.int b=>G3 (eqI a b)
 |.str a,.str b=>G3 (eqS a b)
 |_,_=>Gb
noncomputable def eqFs:List V->List V->Option Bool
 |[],[]=>G3 G6
 |a::as,b::bs=>match eqF a b,eqFs as bs with
  |some x,G3 y=>G3 (x && y)
  |_,_=>Gb
 |_,_=>Gb
noncomputable def isNo(v:V):Bool:=match v with|.none=>G6|_=>G7
noncomputable def isBo(v:V)(a:Bool):Bool:=match v with|.bool b=>decide (a=b)|_=>G7
noncomputable def isIn(v:V)(a:Int):Bool:=match v with|.int b=>decide (a=b)|_=>G7
def isSt(v:V)(a:List Nat):Bool:=match v with|.str b=>eqS a b|_=>G7
noncomputable def isOb(v:V)(a:Nat):Bool:=match v with|.obj b=>Gi a b|_=>G7
noncomputable def isFu(v:V)(a:Nat):Bool:=match v with|.fn b=>Gi a b|_=>G7
mutual
noncomputable def beqV:V->V->Bool
 |.none,v=>isNo v
 |.bool a,v=>isBo v a
 |.int a,v=>isIn v a
 |.str a,v=>isSt v a
 |.obj a,v=>isOb v a
 |.tup a,v=>(match v with|.tup b=>Yj a b|_=>G7)
 |.fn a,v=>isFu v a
 |_,_=>G7
noncomputable def Yj:List V->List V->Bool
 |[],v=>(match v with|[]=>G6|_::_=>G7)
 |a::as,v=>(match v with|b::bs=>beqV a b && Yj as bs|[]=>G7)
end
noncomputable def eqKs:List (List Nat×V)->List (List Nat×V)->Bool
 |[],v=>(match v with|[]=>G6|_::_=>G7)
 |a::as,v=>(match v with|b::bs=>eqS a.1 b.1 && eqKs as bs|[]=>G7)
noncomputable def ke(c:Nat):List Nat->Nat->Option Nat
 |[],_=>Gb
 |x::r,i=>match Gi x c with|true=>G3 i|false=>ke c r (i+1)
noncomputable def yF:List Nat->List (List Nat)
 |[]=>[[]]
 |x::r=>match Gi x 32 with
  |true=>[]::yF r
  |false=>match yF r with|w::ws=>(x::w)::ws|[]=>[[x]]
noncomputable def splitCs:List (List Nat):=[[65,32,88,32,57,32,66,32,48,32,47],[57,32,80,32,83,32,86],[80,32,83,32,86],[83,32,86,32,46,32,67,82,32,68,66],[100,105,115,112,108,97,121,32,112,97,99,107,101,100,32,98,105,110,97,114,121,32,105,110,100,101,120]]
noncomputable def digits(s:List Nat):Option Nat:=s.foldl (λa c=>match a with|none=>Gb|some n=>match Gj 48 c && Gj c 57 with|true=>G3 (n*10+(c - 48))|false=>Gb) (G3 0)
noncomputable def JU(acc:List (List Nat×V)):List V->List (List Nat×V)
 |.str k::v::r=>JU (setD k v acc) r
 |_=>acc
noncomputable def ZX:List V->Bool
 |[]=>G6
 |.str _::_::r=>ZX r
 |_=>G7
noncomputable def Yw(i:Int):List Nat:=(PySem.Str.ofString (toString i)).cps.toList
def ifS{α:Type}(o:Option α)(f:α->Prop):Prop:=match o with|some a=>f a|none=>False
def ite2(t:Bool)(p q:Prop):Prop:=match t with|true=>p|false=>q
def intP(v:V)(f:Int->Prop):Prop:=match v with|.int i=>f i|_=>False
def strP(v:V)(f:List Nat->Prop):Prop:=match v with|.str i=>f i|_=>False
def tupP(v:V)(f:List V->Prop):Prop:=match v with|.tup i=>f i|_=>False
def fnP(v:V)(f:Nat->Prop):Prop:=match v with|.fn i=>f i|_=>False
def objP(v:V)(f:Nat->Prop):Prop:=match v with|.obj i=>f i|_=>False
def ym(v:V)(p:Prop):Prop:=match v with|.none=>p|_=>False
def scrP(v:V)(p:Prop):Prop:=match v with|.scr=>p|_=>False
def instP(o:O)(f:Nat->List (Nat×V)->Prop):Prop:=match o with|.inst c fs=>f c fs|_=>False
def listP(o:O)(f:List V->Prop):Prop:=match o with|.list vs=>f vs|_=>False
def dictP(o:O)(f:List (List Nat×V)->Prop):Prop:=match o with|.dict vs=>f vs|_=>False
def atI(v:V)(H:Hp)(f:Nat->Nat->List (Nat×V)->Prop):Prop:=objP v λi=>ifS H[i]? λo=>instP o (f i)
def atL(v:V)(H:Hp)(f:Nat->List V->Prop):Prop:=objP v λi=>ifS H[i]? λo=>listP o (f i)
def atD(v:V)(H:Hp)(f:Nat->List (List Nat×V)->Prop):Prop:=objP v λi=>ifS H[i]? λo=>dictP o (f i)
def natP(i:Int)(f:Nat->Prop):Prop:=match i with|.ofNat n=>f n|.negSucc _=>False
noncomputable def kd:V->Nat
 |.none=>0|.bool _=>1|.int _=>2|.str _=>3|.obj _=>4|.tup _=>5|.fn _=>6|.rng _=>7|.scr=>8|.bad=>9
def addP(a b:V)(H:Hp)(Q:V->Hp->Prop):Prop:=match kd a with
 |2=>intP a λx=>intP b λy=>Q (.int (x+y)) H
 |3=>strP a λx=>strP b λy=>gd (Gj (x.length+y.length) 1000) (Q (.str (x++y)) H)
 |_=>atL a H λ_ x=>atL b H λ_ y=>gd (Gj (x.length+y.length) 1000) (Q (.obj H.length) (H++[.list (x++y)]))
def binop(o:Op)(a b:V)(H:Hp)(Q:V->Hp->Prop):Prop:=match o with
 |.add=>addP a b H Q
 |.sub=>intP a λx=>intP b λy=>Q (.int (x - y)) H
 |.mul=>intP a λx=>intP b λy=>gd (decide (x.natAbs < 1000000000/\y.natAbs < 1000000000)) (Q (.int (x*y)) H)
 |.fdiv=>intP a λx=>intP b λy=>gd (decide (0 < y/\y < 1000000000)) (Q (.int (MA x y)) H)
 |.mod=>intP a λx=>intP b λy=>gd (decide (0 < y)) (Q (.int (IJ x y)) H)
noncomputable def inS(c:Nat):List Nat->Bool
 |[]=>G7
 |x::r=>match Gi x c with|true=>G6|false=>inS c r
noncomputable def inVs(s:List Nat):List V->Option Bool
 |[]=>G3 G7
 |.str x::r=>(inVs s r).map (eqS s x ||·)
 |_::_=>Gb
noncomputable def oI{α:Type}(v:V)(f:Int->Option α):Option α:=match v with|.int i=>f i|_=>Gb
noncomputable def oS{α:Type}(v:V)(f:List Nat->Option α):Option α:=match v with|.str i=>f i|_=>Gb
noncomputable def oT{α:Type}(v:V)(f:List V->Option α):Option α:=match v with|.tup i=>f i|_=>Gb
noncomputable def oL{α:Type}(v:V)(H:Hp)(f:List V->Option α):Option α:=match v with|.obj i=>(match H[i]? with|some (.list vs)=>f vs|_=>Gb)|_=>Gb
def isin(a b:V)(H:Hp):Option Bool:=oS a λx=>(match b with
 |.str s=>(match x with|[c]=>G3 (inS c s)|_=>Gb)
 |.tup vs=>inVs x vs
 |.obj i=>(match H[i]? with
  |some (.list vs)=>inVs x vs
  |some (.dict es)=>G3 (getD x es).isSome
  |_=>Gb)
 |_=>Gb)
def iseq(a b:V)(H:Hp):Option Bool:=match kd a with
 |4=>oL a H λx=>oL b H λy=>(match Gi x.length y.length with|true=>eqFs x y|false=>G3 G7)
 |5=>oT a λx=>oT b λy=>eqFs x y
 |_=>eqF a b
noncomputable def ja:V->Option Bool
 |.none=>G3 G6
 |.bad=>Gb
 |_=>G3 G7
noncomputable def jG:V->Bool
 |.none=>G6
 |_=>G7
def leO(a b:V):Option Bool:=match kd a with
 |2=>oI a λx=>oI b λy=>G3 (decide (x<=y))
 |_=>oS a λx=>oS b λy=>G3 (!ltS y x)
def yg(o:Co)(a b:V)(H:Hp):Option Bool:=match o with
 |.eq=>iseq a b H
 |.ne=>(iseq a b H).map (!·)
 |.isin=>isin a b H
 |.notin=>(isin a b H).map (!·)
 |.is=>(match jG b with|true=>ja a|false=>Gb)
 |.isnot=>(match jG b with|true=>(ja a).map (!·)|false=>Gb)
 |.lt=>oI a λx=>oI b λy=>G3 (decide (x < y))
 |.le=>leO a b
 |.gt=>oI a λx=>oI b λy=>G3 (decide (x > y))
 |.ge=>oI a λx=>oI b λy=>G3 (decide (x>=y))
noncomputable def yD(v:V)(H:Hp):Option Bool:=match v with
 |.bool b=>G3 b
 |.none=>G3 G7
 |.obj i=>match H[i]? with|some (.list vs)=>G3 (match vs with|[]=>G7|_=>G6)|_=>Gb
 |_=>Gb
noncomputable def atV(vs:List V)(i:Int):Option V:=match i with|.ofNat k=>vs[k]?|.negSucc k=>match D0 k vs.length with|true=>vs[vs.length - (k+1)]?|false=>Gb
def idx(a b:V)(H:Hp)(Q:V->Prop):Prop:=match kd a with
 |5=>tupP a λvs=>intP b λi=>gd (Gj vs.length 1000) (ifS (atV vs i) Q)
 |3=>strP a λs=>intP b λi=>natP i λi=>gd (Gj s.length 1000) (ifS s[i]? λc=>Q (.str [c]))
 |_=>(match kd b with
  |2=>intP b λi=>atL a H λ_ vs=>ifS (atV vs i) Q
  |_=>strP b λs=>atD a H λ_ es=>ifS (getD s es) Q)
noncomputable def cut(lo hi:Nat){α:Type}(l:List α):List α:=(l.take hi).drop lo
noncomputable def Yi(n:Nat):Int->Nat
 |.ofNat i=>i
 |.negSucc i=>n - (i+1)
def slice(sc:List Int)(a lo hi:V)(H:Hp)(Q:V->Hp->Prop):Prop:=match kd a with
 |3=>strP a λs=>intP lo λl=>natP l λl=>intP hi λh=>natP h λh=>gd (Gj l h && Gj s.length 1000) (Q (.str (cut l h s)) H)
 |4=>atL a H λ_ vs=>ym lo (intP hi λh=>Q (.obj H.length) (H++[.list (vs.take (Yi vs.length h))]))
 |_=>scrP a (ym lo (intP hi λh=>natP h λh=>gd (Gj h 1000) (Q (.obj H.length) (H++[.list ((sc.take h).map .int)]))))
noncomputable def sumI:List V->Option Int
 |[]=>G3 0
 |.int i::r=>(sumI r).map (i+ ·)
 |_=>Gb
noncomputable def strsL:List V->Option (List (List Nat))
 |[]=>G3 []
 |.str s::r=>(strsL r).map (s::·)
 |_=>Gb
noncomputable def joinS(sep:List Nat):List (List Nat)->List Nat
 |[]=>[]
 |[x]=>x
 |x::r=>x++sep++joinS sep r
def arg1(as:List V)(f:V->Prop):Prop:=match as with|[a]=>f a|_=>False
def arg2(as:List V)(f:V->V->Prop):Prop:=match as with|[a,b]=>f a b|_=>False
def arg0(as:List V)(p:Prop):Prop:=match as with|[]=>p|_=>False
def lenP(a:V)(H:Hp)(Q:V->Hp->Prop):Prop:=match kd a with
 |3=>strP a λs=>gd (Gj s.length 1000) (Q (.int s.length) H)
 |_=>atL a H λ_ vs=>Q (.int vs.length) H
def intFP(a:V)(H:Hp)(Q:V->Hp->Prop):Prop:=match kd a with
 |2=>intP a λi=>Q (.int i) H
 |_=>strP a λs=>ifS (digits s) λn=>gd (Gj 1 s.length && Gj s.length 4) (Q (.int n) H)
def bfun(b:Bf)(as:List V)(H:Hp)(Q:V->Hp->Prop):Prop:=match b with
 |.len=>arg1 as λa=>lenP a H Q
 |.int=>arg1 as λa=>intFP a H Q
 |.str=>arg1 as λa=>intP a λi=>gd (D0 i.natAbs 1000000000) (Q (.str (Yw i)) H)
 |.sum=>arg1 as λa=>atL a H λ_ vs=>ifS (sumI vs) λn=>Q (.int n) H
 |.tuple=>arg1 as λa=>tupP a λvs=>Q (.tup vs) H
 |.max=>arg2 as λa b=>intP a λa=>intP b λb=>Q (.int (max a b)) H
 |.chr=>arg1 as λa=>intP a λi=>natP i λi=>gd (D0 i 0xD800) (Q (.str [i]) H)
 |.ord=>arg1 as λa=>strP a λs=>(match s with|[c]=>Q (.int c) H|_=>False)
 |.range=>arg1 as λa=>intP a λi=>natP i λn=>gd (Gj n 1000) (Q (.rng n) H)
 |.list=>arg1 as λa=>atD a H λ_ es=>Q (.obj H.length) (H++[.list (es.map λe=>.str e.1)])
def jY(b:Bm)(a:V)(as:List V)(H:Hp)(Q:V->Hp->Prop):Prop:=match b with
 |.find=>strP a λs=>arg2 as λx y=>strP x λx=>(match x with
  |[c]=>intP y λi=>natP i λi=>Q (.int (match ke c (s.drop i) i with|some j=>(j:Int)|none=>-1)) H
  |_=>False)
 |.split=>strP a λs=>arg1 as λx=>strP x λx=>(match x with
  |[32]=>gd (splitCs.any (eqS s)) <|Q (.obj H.length) (H++[.list ((yF s).map .str)])
  |_=>False)
 |.join=>strP a λs=>arg1 as λx=>atL x H λ_ vs=>ifS (strsL vs) λws=>gd (Gj ((ws.map (·.length)).sum+ws.length*s.length) 1000) (Q (.str (joinS s ws)) H)
 |.append=>atL a H λi vs=>arg1 as λv=>gd (D0 vs.length 1000) (Q .none (H.set i (.list (vs++[v]))))
 |.extend=>atL a H λi vs=>arg1 as λx=>atL x H λ_ us=>gd (Gj (vs.length+us.length) 1000) (Q .none (H.set i (.list (vs++us))))
 |.pop=>atL a H λi vs=>arg0 as (match vs.reverse with|v::r=>Q v (H.set i (.list r.reverse))|[]=>False)
 |.insert=>atL a H λi vs=>arg2 as λk v=>intP k λk=>natP k λk=>gd (D0 vs.length 1000 && Gj k 1000) <|Q .none (H.set i (.list (vs.take k++v::vs.drop k)))
 |.get=>atD a H λ_ es=>arg2 as λk d=>strP k λk=>Q ((getD k es).getD d) H
noncomputable def isSB(u:V):Bool:=match u with|.str _=>G6|_=>G7
noncomputable def isLB(u:V)(H:Hp):Bool:=match u with|.obj i=>(match H[i]? with|some (.list _)=>G6|_=>G7)|_=>G7
noncomputable def isDB(u:V)(H:Hp):Bool:=match u with|.obj i=>(match H[i]? with|some (.dict _)=>G6|_=>G7)|_=>G7
def jn(b:Bm)(u:V)(H:Hp):Bool:=match b with
 |.split=>isSB u
 |.find=>isSB u
 |.join=>isSB u
 |.get=>isDB u H
 |.append=>isLB u H
 |.extend=>isLB u H
 |.pop=>isLB u H
 |.insert=>isLB u H
abbrev Orc:=Nat->List V->Hp->(V->Hp->Prop)->(Nat->Hp->Prop)->Prop
def C0:Orc:=λ_ _ _ _ _=>False
set_option genCtorIdx false in
inductive It where
 |vals (vs:List V)
 |lst (i:Nat) (vs:List V)
 |keys (i:Nat) (es:List (List Nat×V))
noncomputable def yC(v:V)(H:Hp):Option It:=match v with
 |.tup vs=>match Gj vs.length 1000 with|true=>G3 (.vals vs)|false=>Gb
 |.str s=>match Gj s.length 1000 with|true=>G3 (.vals (s.map λc=>.str [c]))|false=>Gb
 |.rng n=>match Gj n 1000 with|true=>G3 (.vals ((F8 n).map λ(i:Nat)=>V.int (i:Int)))|false=>Gb
 |.obj i=>match H[i]? with
  |some (.list vs)=>G3 (.lst i vs)
  |some (.dict es)=>G3 (.keys i es)
  |_=>Gb
 |_=>Gb
noncomputable def It.items:It->List V
 |.vals vs=>vs
 |.lst _ vs=>vs
 |.keys _ es=>es.map λe=>.str e.1
def It.stands:It->Hp->Bool
 |.vals _,_=>G6
 |.lst i vs,H=>match H[i]? with|some (.list us)=>Yj us vs|_=>G7
 |.keys i es,H=>match H[i]? with|some (.dict fs)=>eqKs fs es|_=>G7
noncomputable def zJ(one:Bool)(v:V):List V:=match one with|true=>[v]|false=>(match v with|.tup us=>us|_=>[])
noncomputable def locO(L:Lc)(k:Nat):Option V:=match L[k]? with|some v=>(match v with|.bad=>Gb|v=>G3 v)|none=>Gb
noncomputable def kP(v:V)(H:Hp):Option (List V):=match v with
 |.tup vs=>G3 vs
 |.obj i=>(match H[i]? with|some (.list vs)=>G3 vs|_=>Gb)
 |_=>Gb
noncomputable def Zl(f:Fn)(as:List V):Option Lc:=
 match Gj as.length f.n,Gj f.n (as.length+f.dflt.length) with
 |true,G6=>G3 (as++f.dflt.drop (as.length+f.dflt.length - f.n)++Ij (f.loc - f.n) .bad)
 |_,_=>Gb
noncomputable def Yy(as:List V):Bool:=match as with|[.str _]=>G6|_=>G7
def fltB(s:S)(f:Nat->E->Prop):Prop:=match s with|.fault k e=>f k e|_=>False
section
variable (P:Prg) (C:Orc)
noncomputable def YT(elt:Lc->Hp->(V->Hp->Prop)->Prop)(cond:Lc->Hp->(Bool->Hp->Prop)->Prop)(n:Nat)(cap:Lc)(it:It):List V->List V->Hp->(List V->Hp->Prop)->Prop
 |[],acc,H,Q=>Q acc.reverse H
 |v::r,acc,H,Q=>gd (Gi (zJ (Gi n 1) v++cap).length (n+cap.length)) <|cond (zJ (Gi n 1) v++cap) H λb H₁=>ite2 b
   (elt (zJ (Gi n 1) v++cap) H₁ λu H₂=>gd (it.stands H₂) (YT elt cond n cap it r (u::acc) H₂ Q))
   (gd (it.stands H₁) (YT elt cond n cap it r acc H₁ Q))
noncomputable def ev:E->(Nat->Hp->Prop)->Lc->Hp->(V->Hp->Prop)->Prop
 |.bad,_,_,_,_=>False
 |.c v,_,_,H,Q=>Q v H
 |.l k,_,L,H,Q=>ifS (locO L k) λv=>Q v H
 |.g _ v,_,_,H,Q=>Q v H
 |.a e f,X,L,H,Q=>ev e X L H λv H₁=>atI v H₁ λ_ c fs=>gd (P.att c f) (ifS (getF f fs) λu=>Q u H₁)
 |.bin o a b,X,L,H,Q=>ev a X L H λu H₁=>ev b X L H₁ λv H₂=>binop o u v H₂ Q
 |.cmp o a b,X,L,H,Q=>ev a X L H λu H₁=>ev b X L H₁ λv H₂=>ifS (yg o u v H₂) λr=>Q (.bool r) H₂
 |.cmp2 o p a b c,X,L,H,Q=>ev a X L H λu H₁=>ev b X L H₁ λv H₂=>ifS (yg o u v H₂) λt=>ite2 t
   (ev c X L H₂ λw U5=>ifS (yg p v w U5) λr=>Q (.bool r) U5) (Q (.bool G7) H₂)
 |.not a,X,L,H,Q=>ev a X L H λu H₁=>ifS (yD u H₁) λb=>Q (.bool (!b)) H₁
 |.and a b,X,L,H,Q=>ev a X L H λu H₁=>ifS (yD u H₁) λt=>ite2 t (ev b X L H₁ Q) (Q u H₁)
 |.or a b,X,L,H,Q=>ev a X L H λu H₁=>ifS (yD u H₁) λt=>ite2 t (Q u H₁) (ev b X L H₁ Q)
 |.ifx c a b,X,L,H,Q=>ev c X L H λu H₁=>ifS (yD u H₁) λt=>ite2 t (ev a X L H₁ Q) (ev b X L H₁ Q)
 |.call f as,X,L,H,Q=>ev as X L H λv H₁=>tupP v λvs=>C f vs H₁ Q X
 |.bf b as,X,L,H,Q=>ev as X L H λv H₁=>tupP v λvs=>bfun b vs H₁ Q
 |.meth a m as,X,L,H,Q=>ev a X L H λu H₁=>atI u H₁ λ_ c _=>ifS (P.meth c m) λf=>ev as X L H₁ λv H₂=>tupP v λvs=>C f (u::vs) H₂ Q X
 |.bm b a as,X,L,H,Q=>ev a X L H λu H₁=>gd (jn b u H₁) <|ev as X L H₁ λv H₂=>tupP v λvs=>jY b u vs H₂ Q
 |.callv f as,X,L,H,Q=>ev f X L H λu H₁=>fnP u λk=>ev as X L H₁ λv H₂=>tupP v λvs=>C k vs H₂ Q X
 |.idx a b,X,L,H,Q=>ev a X L H λu H₁=>ev b X L H₁ λv H₂=>idx u v H₂ λw=>Q w H₂
 |.slice a lo hi,X,L,H,Q=>ev a X L H λu H₁=>ev lo X L H₁ λv H₂=>ev hi X L H₂ λw U5=>slice P.scr u v w U5 Q
 |.rev a,X,L,H,Q=>ev a X L H λu H₁=>atL u H₁ λ_ vs=>Q (.obj H₁.length) (H₁++[.list vs.reverse])
 |.tup es,X,L,H,Q=>ev es X L H Q
 |.lst es,X,L,H,Q=>ev es X L H λv H₁=>tupP v λvs=>gd (Gj vs.length 1000) (Q (.obj H₁.length) (H₁++[.list vs]))
 |.dct es,_,L,H,Q=>ev es (λ_ _=>False) L H λv H₁=>tupP v λvs=>gd (ZX vs) (Q (.obj H₁.length) (H₁++[.dict (JU [] vs)]))
 |.comp elt iter cond n caps,X,L,H,Q=>ev iter X L H λu H₁=>ifS (yC u H₁) λit=>
   YT (ev elt (λ_ _=>False)) (λl H q=>ev cond (λ_ _=>False) l H λv H'=>ifS (yD v H') λb=>q b H') n (caps.map λk=>(L[k]?).getD .bad) it it.items [] H₁ λvs H₂=>gd (Gj vs.length 1000) (Q (.obj H₂.length) (H₂++[.list vs]))
 |.lam k,_,_,H,Q=>Q (.fn k) H
 |.nil,_,_,H,Q=>Q (.tup []) H
 |.cons a b,X,L,H,Q=>ev a X L H λu H₁=>ev b X L H₁ λv H₂=>tupP v λvs=>Q (.tup (u::vs)) H₂
inductive Fl where|next|brk|ret (v:V)
abbrev KS:=Fl->Lc->Hp->Prop
noncomputable def setL(k:Nat)(v:V)(L:Lc):Lc:=L.set k v
noncomputable def ZY:List Nat->List V->Lc->Option Lc
 |[],[],L=>G3 L
 |k::ks,v::vs,L=>ZY ks vs (setL k v L)
 |_,_,_=>Gb
def flP(f:Fl)(n:Prop)(b:Prop)(r:V->Prop):Prop:=match f with|.next=>n|.brk=>b|.ret v=>r v
noncomputable def Yu(t:Lc->Hp->(Bool->Hp->Prop)->Prop)(b:Lc->Hp->KS->Prop):Nat->Lc->Hp->KS->Prop
 |0,_,_,_=>False
 |n+1,L,H,Q=>t L H λc H₁=>ite2 c (b L H₁ λf Uh H₂=>flP f (Yu t b n Uh H₂ Q) (Q .next Uh H₂) λv=>Q (.ret v) Uh H₂) (Q .next L H₁)
noncomputable def forL(b:Lc->Hp->KS->Prop)(ks:List Nat)(one:Bool)(it:It):List V->Lc->Hp->KS->Prop
 |[],L,H,Q=>Q .next L H
 |v::r,L,H,Q=>ifS (ZY ks (zJ one v) L) λL₁=>b L₁ H λf Uh H₂=>flP f (gd (it.stands H₂) (forL b ks one it r Uh H₂ Q)) (Q .next Uh H₂) λv=>Q (.ret v) Uh H₂
def Jv(f:Nat)(vs:List V)(H:Hp)(X:Nat->Hp->Prop):Prop:=match P.fn f with
 |some fn=>fltB fn.body λk e=>gd (P.exc k) (ifS (Zl fn vs) λL=>ev P C0 e (λ_ _=>False) L H λv H'=>strP v λ_=>X k H')
 |none=>gd (P.exc f && Yy vs) (X f H)
noncomputable def ex(X:Nat->Hp->Prop)(w:Nat):S->Lc->Hp->KS->Prop
 |.bad,_,_,_=>False
 |.nop,L,H,Q=>Q .next L H
 |.seq a b,L,H,Q=>ex X w a L H λf L₁ H₁=>flP f (ex X w b L₁ H₁ Q) (Q .brk L₁ H₁) λv=>Q (.ret v) L₁ H₁
 |.ret e,L,H,Q=>ev P C e X L H λv H₁=>Q (.ret v) L H₁
 |.ex e,L,H,Q=>ev P C e X L H λv H₁=>ym v (Q .next L H₁)
 |.set k e,L,H,Q=>ev P C e X L H λv H₁=>Q .next (setL k v L) H₁
 |.setA a f e,L,H,Q=>ev P C e X L H λv H₁=>ev P C a X L H₁ λu H₂=>atI u H₂ λi c fs=>gd (P.att c f && D0 fs.length 100) (Q .next L (H₂.set i (.inst c (setF f v fs))))
 |.setI a i e,L,H,Q=>ev P C e X L H λv H₁=>ev P C a X L H₁ λu H₂=>ev P C i X L H₂ λk U5=>(match kd k with
  |2=>intP k λn=>natP n λn=>atL u U5 λj vs=>gd (D0 n vs.length) (Q .next L (U5.set j (.list (vs.set n v))))
  |_=>strP k λs=>atD u U5 λj es=>gd (D0 es.length 1000) (Q .next L (U5.set j (.dict (setD s v es)))))
 |.unp ks e,L,H,Q=>ev P C e X L H λv H₁=>ifS (kP v H₁) λvs=>ifS (ZY ks vs L) λL₁=>Q .next L₁ H₁
 |.unp2 wF wG a b,L,H,Q=>ev P C a X L H λu H₁=>ev P C b X L H₁ λv H₂=>Q .next (setL wG v (setL wF u L)) H₂
 |.ifs c a b,L,H,Q=>ev P C c X L H λu H₁=>ifS (yD u H₁) λt=>ite2 t (ex X w a L H₁ Q) (ex X w b L H₁ Q)
 |.whl c b,L,H,Q=>Yu (λL H q=>ev P C c X L H λu H₁=>ifS (yD u H₁) λt=>q t H₁) (ex X w b) w L H Q
 |.for_ k e b,L,H,Q=>ev P C e X L H λu H₁=>ifS (yC u H₁) λit=>forL (ex X w b) [k] G6 it it.items L H₁ Q
 |.forT ks e b,L,H,Q=>ev P C e X L H λu H₁=>ifS (yC u H₁) λit=>forL (ex X w b) ks G7 it it.items L H₁ Q
 |.brk,L,H,Q=>Q .brk L H
 |.raise f as,L,H,_=>ev P C as X L H λu H₁=>tupP u λvs=>Jv P f vs H₁ X
 |.fault _ _,_,_,_=>False
 |.tryc _ _,_,_,_=>False
end
noncomputable def shV(k:Nat):V->V
 |.obj i=>.obj (k+i)
 |.tup vs=>.tup (go vs)
 |v=>v
where go:List V->List V
 |[]=>[]
 |v::r=>shV k v::go r
def shO(k:Nat):O->O
 |.inst c fs=>.inst c (fs.map λp=>(p.1,shV k p.2))
 |.list vs=>.list (vs.map (shV k))
 |.dict es=>.dict (es.map λp=>(p.1,shV k p.2))
 |.exc c=>.exc c
noncomputable def Yg:V->Bool
 |.none|.bool _|.int _|.str _=>G6
 |_=>G7
def yM(P:Prg)(w:Nat)(C:Orc)(fn:Fn):Orc:=λ_ as H Q X=>ifS (Zl fn as) λL=>ex P C X w fn.body L H λfl _ H₁=>flP fl (Q .none H₁) False λv=>Q v H₁
noncomputable def zb(P:Prg)(w:Nat):Nat->Orc
 |0=>λ_ _ _ _ _=>False
 |n+1=>λf as H Q X=>match P.fn f with
  |some fn=>ite2 (P.frm f)
    (gd (as.all Yg) (yM P w (zb P w n) fn f as [] (λv H'=>Q (shV H.length v) (H++H'.map (shO H.length))) λ_ _=>False))
    (yM P w (zb P w n) fn f as H Q X)
  |none=>(match P.cls f with
   |some i=>zb P w n i (.obj H.length::as) (H++[.inst f []]) (λv H₁=>ym v (Q (.obj H.length) H₁)) λ_ _=>False
   |none=>False)
noncomputable def Yv(f:Fn):Option (Nat×Nat):=match f.body with|.tryc g k=>(match Gi f.n 1 with|true=>G3 (g,k)|false=>Gb)|_=>Gb
def callT(P:Prg)(w n:Nat):Orc:=λf as H Q X=>match (P.fn f).bind Yv with
 |some (g,k)=>arg1 as λ_=>gd (P.exc k) (zb P w n g as H (λv H₁=>ym v (Q (.bool G6) H₁)) λc H₁=>gd (Gi c k) (Q (.bool G7) H₁))
 |none=>zb P w n f as H Q X
theorem zh{p0 p1:Prop}{G:Prop}(h:p0/\p1)(k:p0->p1->G):G:=k h.1 h.2
theorem zP{p0 p1 p2:Prop}{G:Prop}(h:p0/\p1/\p2)(k:p0->p1->p2->G):G:=zh h.2 (k h.1)
theorem ZB{p0 p1 p2 p3:Prop}{G:Prop}(h:p0/\p1/\p2/\p3)(k:p0->p1->p2->p3->G):G:=zP h.2 (k h.1)
theorem JK{p0 p1 p2 p3 p4:Prop}{G:Prop}(h:p0/\p1/\p2/\p3/\p4)(k:p0->p1->p2->p3->p4->G):G:=ZB h.2 (k h.1)
theorem Yr{p0 p1 p2 p3 p4 p5:Prop}{G:Prop}(h:p0/\p1/\p2/\p3/\p4/\p5)(k:p0->p1->p2->p3->p4->p5->G):G:=JK h.2 (k h.1)
theorem xe0c7{p0 p1 p2 p3 p4 p5 p6:Prop}{G:Prop}(h:p0/\p1/\p2/\p3/\p4/\p5/\p6)(k:p0->p1->p2->p3->p4->p5->p6->G):G:=Yr h.2 (k h.1)
theorem xe0c8{p0 p1 p2 p3 p4 p5 p6 p7:Prop}{G:Prop}(h:p0/\p1/\p2/\p3/\p4/\p5/\p6/\p7)(k:p0->p1->p2->p3->p4->p5->p6->p7->G):G:=xe0c7 h.2 (k h.1)
theorem zj{α0:Type}{p0:α0->Prop}{G:Prop}(h:∃a0,p0 a0)(k:∀a0,p0 a0->G):G:=Gf h λa h=>k a h
theorem za{α0:Type}{p0 p1:α0->Prop}{G:Prop}(h:∃a0,p0 a0/\p1 a0)(k:∀a0,p0 a0->p1 a0->G):G:=Gf h λa h=>zh h (k a)
theorem yK{α0:Type}{p0 p1 p2:α0->Prop}{G:Prop}(h:∃a0,p0 a0/\p1 a0/\p2 a0)(k:∀a0,p0 a0->p1 a0->p2 a0->G):G:=Gf h λa h=>zP h (k a)
theorem XO{α0:Type}{p0 p1 p2 p3:α0->Prop}{G:Prop}(h:∃a0,p0 a0/\p1 a0/\p2 a0/\p3 a0)(k:∀a0,p0 a0->p1 a0->p2 a0->p3 a0->G):G:=Gf h λa h=>ZB h (k a)
theorem xe1c5{α0:Type}{p0 p1 p2 p3 p4:α0->Prop}{G:Prop}(h:∃a0,p0 a0/\p1 a0/\p2 a0/\p3 a0/\p4 a0)(k:∀a0,p0 a0->p1 a0->p2 a0->p3 a0->p4 a0->G):G:=Gf h λa h=>JK h (k a)
theorem xe1c6{α0:Type}{p0 p1 p2 p3 p4 p5:α0->Prop}{G:Prop}(h:∃a0,p0 a0/\p1 a0/\p2 a0/\p3 a0/\p4 a0/\p5 a0)(k:∀a0,p0 a0->p1 a0->p2 a0->p3 a0->p4 a0->p5 a0->G):G:=Gf h λa h=>Yr h (k a)
theorem xe1c7{α0:Type}{p0 p1 p2 p3 p4 p5 p6:α0->Prop}{G:Prop}(h:∃a0,p0 a0/\p1 a0/\p2 a0/\p3 a0/\p4 a0/\p5 a0/\p6 a0)(k:∀a0,p0 a0->p1 a0->p2 a0->p3 a0->p4 a0->p5 a0->p6 a0->G):G:=Gf h λa h=>xe0c7 h (k a)
theorem xe2c1{α0 α1:Type}{p0:α0->α1->Prop}{G:Prop}(h:∃a0 a1,p0 a0 a1)(k:∀a0 a1,p0 a0 a1->G):G:=Gf h λa h=>zj h (k a)
theorem zf{α0 α1:Type}{p0 p1:α0->α1->Prop}{G:Prop}(h:∃a0 a1,p0 a0 a1/\p1 a0 a1)(k:∀a0 a1,p0 a0 a1->p1 a0 a1->G):G:=Gf h λa h=>za h (k a)
theorem zF{α0 α1:Type}{p0 p1 p2:α0->α1->Prop}{G:Prop}(h:∃a0 a1,p0 a0 a1/\p1 a0 a1/\p2 a0 a1)(k:∀a0 a1,p0 a0 a1->p1 a0 a1->p2 a0 a1->G):G:=Gf h λa h=>yK h (k a)
theorem yz{α0 α1:Type}{p0 p1 p2 p3:α0->α1->Prop}{G:Prop}(h:∃a0 a1,p0 a0 a1/\p1 a0 a1/\p2 a0 a1/\p3 a0 a1)(k:∀a0 a1,p0 a0 a1->p1 a0 a1->p2 a0 a1->p3 a0 a1->G):G:=Gf h λa h=>XO h (k a)
theorem Ye{α0 α1:Type}{p0 p1 p2 p3 p4:α0->α1->Prop}{G:Prop}(h:∃a0 a1,p0 a0 a1/\p1 a0 a1/\p2 a0 a1/\p3 a0 a1/\p4 a0 a1)(k:∀a0 a1,p0 a0 a1->p1 a0 a1->p2 a0 a1->p3 a0 a1->p4 a0 a1->G):G:=Gf h λa h=>xe1c5 h (k a)
theorem xe2c6{α0 α1:Type}{p0 p1 p2 p3 p4 p5:α0->α1->Prop}{G:Prop}(h:∃a0 a1,p0 a0 a1/\p1 a0 a1/\p2 a0 a1/\p3 a0 a1/\p4 a0 a1/\p5 a0 a1)(k:∀a0 a1,p0 a0 a1->p1 a0 a1->p2 a0 a1->p3 a0 a1->p4 a0 a1->p5 a0 a1->G):G:=Gf h λa h=>xe1c6 h (k a)
theorem xe2c7{α0 α1:Type}{p0 p1 p2 p3 p4 p5 p6:α0->α1->Prop}{G:Prop}(h:∃a0 a1,p0 a0 a1/\p1 a0 a1/\p2 a0 a1/\p3 a0 a1/\p4 a0 a1/\p5 a0 a1/\p6 a0 a1)(k:∀a0 a1,p0 a0 a1->p1 a0 a1->p2 a0 a1->p3 a0 a1->p4 a0 a1->p5 a0 a1->p6 a0 a1->G):G:=Gf h λa h=>xe1c7 h (k a)
theorem ju{α0 α1 α2:Type}{p0:α0->α1->α2->Prop}{G:Prop}(h:∃a0 a1 a2,p0 a0 a1 a2)(k:∀a0 a1 a2,p0 a0 a1 a2->G):G:=Gf h λa h=>xe2c1 h (k a)
theorem zA{α0 α1 α2:Type}{p0 p1:α0->α1->α2->Prop}{G:Prop}(h:∃a0 a1 a2,p0 a0 a1 a2/\p1 a0 a1 a2)(k:∀a0 a1 a2,p0 a0 a1 a2->p1 a0 a1 a2->G):G:=Gf h λa h=>zf h (k a)
theorem Z3{α0 α1 α2:Type}{p0 p1 p2:α0->α1->α2->Prop}{G:Prop}(h:∃a0 a1 a2,p0 a0 a1 a2/\p1 a0 a1 a2/\p2 a0 a1 a2)(k:∀a0 a1 a2,p0 a0 a1 a2->p1 a0 a1 a2->p2 a0 a1 a2->G):G:=Gf h λa h=>zF h (k a)
theorem XN{α0 α1 α2:Type}{p0 p1 p2 p3:α0->α1->α2->Prop}{G:Prop}(h:∃a0 a1 a2,p0 a0 a1 a2/\p1 a0 a1 a2/\p2 a0 a1 a2/\p3 a0 a1 a2)(k:∀a0 a1 a2,p0 a0 a1 a2->p1 a0 a1 a2->p2 a0 a1 a2->p3 a0 a1 a2->G):G:=Gf h λa h=>yz h (k a)
theorem XM{α0 α1 α2:Type}{p0 p1 p2 p3 p4:α0->α1->α2->Prop}{G:Prop}(h:∃a0 a1 a2,p0 a0 a1 a2/\p1 a0 a1 a2/\p2 a0 a1 a2/\p3 a0 a1 a2/\p4 a0 a1 a2)(k:∀a0 a1 a2,p0 a0 a1 a2->p1 a0 a1 a2->p2 a0 a1 a2->p3 a0 a1 a2->p4 a0 a1 a2->G):G:=Gf h λa h=>Ye h (k a)
theorem xe3c6{α0 α1 α2:Type}{p0 p1 p2 p3 p4 p5:α0->α1->α2->Prop}{G:Prop}(h:∃a0 a1 a2,p0 a0 a1 a2/\p1 a0 a1 a2/\p2 a0 a1 a2/\p3 a0 a1 a2/\p4 a0 a1 a2/\p5 a0 a1 a2)(k:∀a0 a1 a2,p0 a0 a1 a2->p1 a0 a1 a2->p2 a0 a1 a2->p3 a0 a1 a2->p4 a0 a1 a2->p5 a0 a1 a2->G):G:=Gf h λa h=>xe2c6 h (k a)
theorem jt{α0 α1 α2:Type}{p0 p1 p2 p3 p4 p5 p6:α0->α1->α2->Prop}{G:Prop}(h:∃a0 a1 a2,p0 a0 a1 a2/\p1 a0 a1 a2/\p2 a0 a1 a2/\p3 a0 a1 a2/\p4 a0 a1 a2/\p5 a0 a1 a2/\p6 a0 a1 a2)(k:∀a0 a1 a2,p0 a0 a1 a2->p1 a0 a1 a2->p2 a0 a1 a2->p3 a0 a1 a2->p4 a0 a1 a2->p5 a0 a1 a2->p6 a0 a1 a2->G):G:=Gf h λa h=>xe2c7 h (k a)
theorem xe4c1{α0 α1 α2 α3:Type}{p0:α0->α1->α2->α3->Prop}{G:Prop}(h:∃a0 a1 a2 a3,p0 a0 a1 a2 a3)(k:∀a0 a1 a2 a3,p0 a0 a1 a2 a3->G):G:=Gf h λa h=>ju h (k a)
theorem Z2{α0 α1 α2 α3:Type}{p0 p1:α0->α1->α2->α3->Prop}{G:Prop}(h:∃a0 a1 a2 a3,p0 a0 a1 a2 a3/\p1 a0 a1 a2 a3)(k:∀a0 a1 a2 a3,p0 a0 a1 a2 a3->p1 a0 a1 a2 a3->G):G:=Gf h λa h=>zA h (k a)
theorem xe4c3{α0 α1 α2 α3:Type}{p0 p1 p2:α0->α1->α2->α3->Prop}{G:Prop}(h:∃a0 a1 a2 a3,p0 a0 a1 a2 a3/\p1 a0 a1 a2 a3/\p2 a0 a1 a2 a3)(k:∀a0 a1 a2 a3,p0 a0 a1 a2 a3->p1 a0 a1 a2 a3->p2 a0 a1 a2 a3->G):G:=Gf h λa h=>Z3 h (k a)
theorem JJ{α0 α1 α2 α3:Type}{p0 p1 p2 p3:α0->α1->α2->α3->Prop}{G:Prop}(h:∃a0 a1 a2 a3,p0 a0 a1 a2 a3/\p1 a0 a1 a2 a3/\p2 a0 a1 a2 a3/\p3 a0 a1 a2 a3)(k:∀a0 a1 a2 a3,p0 a0 a1 a2 a3->p1 a0 a1 a2 a3->p2 a0 a1 a2 a3->p3 a0 a1 a2 a3->G):G:=Gf h λa h=>XN h (k a)
theorem XL{α0 α1 α2 α3:Type}{p0 p1 p2 p3 p4:α0->α1->α2->α3->Prop}{G:Prop}(h:∃a0 a1 a2 a3,p0 a0 a1 a2 a3/\p1 a0 a1 a2 a3/\p2 a0 a1 a2 a3/\p3 a0 a1 a2 a3/\p4 a0 a1 a2 a3)(k:∀a0 a1 a2 a3,p0 a0 a1 a2 a3->p1 a0 a1 a2 a3->p2 a0 a1 a2 a3->p3 a0 a1 a2 a3->p4 a0 a1 a2 a3->G):G:=Gf h λa h=>XM h (k a)
theorem xe4c6{α0 α1 α2 α3:Type}{p0 p1 p2 p3 p4 p5:α0->α1->α2->α3->Prop}{G:Prop}(h:∃a0 a1 a2 a3,p0 a0 a1 a2 a3/\p1 a0 a1 a2 a3/\p2 a0 a1 a2 a3/\p3 a0 a1 a2 a3/\p4 a0 a1 a2 a3/\p5 a0 a1 a2 a3)(k:∀a0 a1 a2 a3,p0 a0 a1 a2 a3->p1 a0 a1 a2 a3->p2 a0 a1 a2 a3->p3 a0 a1 a2 a3->p4 a0 a1 a2 a3->p5 a0 a1 a2 a3->G):G:=Gf h λa h=>xe3c6 h (k a)
theorem YX{α0 α1 α2 α3 α4:Type}{p0:α0->α1->α2->α3->α4->Prop}{G:Prop}(h:∃a0 a1 a2 a3 a4,p0 a0 a1 a2 a3 a4)(k:∀a0 a1 a2 a3 a4,p0 a0 a1 a2 a3 a4->G):G:=Gf h λa h=>xe4c1 h (k a)
theorem kE{α0 α1 α2 α3 α4:Type}{p0 p1:α0->α1->α2->α3->α4->Prop}{G:Prop}(h:∃a0 a1 a2 a3 a4,p0 a0 a1 a2 a3 a4/\p1 a0 a1 a2 a3 a4)(k:∀a0 a1 a2 a3 a4,p0 a0 a1 a2 a3 a4->p1 a0 a1 a2 a3 a4->G):G:=Gf h λa h=>Z2 h (k a)
theorem xe5c3{α0 α1 α2 α3 α4:Type}{p0 p1 p2:α0->α1->α2->α3->α4->Prop}{G:Prop}(h:∃a0 a1 a2 a3 a4,p0 a0 a1 a2 a3 a4/\p1 a0 a1 a2 a3 a4/\p2 a0 a1 a2 a3 a4)(k:∀a0 a1 a2 a3 a4,p0 a0 a1 a2 a3 a4->p1 a0 a1 a2 a3 a4->p2 a0 a1 a2 a3 a4->G):G:=Gf h λa h=>xe4c3 h (k a)
theorem xe5c4{α0 α1 α2 α3 α4:Type}{p0 p1 p2 p3:α0->α1->α2->α3->α4->Prop}{G:Prop}(h:∃a0 a1 a2 a3 a4,p0 a0 a1 a2 a3 a4/\p1 a0 a1 a2 a3 a4/\p2 a0 a1 a2 a3 a4/\p3 a0 a1 a2 a3 a4)(k:∀a0 a1 a2 a3 a4,p0 a0 a1 a2 a3 a4->p1 a0 a1 a2 a3 a4->p2 a0 a1 a2 a3 a4->p3 a0 a1 a2 a3 a4->G):G:=Gf h λa h=>JJ h (k a)
theorem kD{α0 α1 α2 α3 α4:Type}{p0 p1 p2 p3 p4:α0->α1->α2->α3->α4->Prop}{G:Prop}(h:∃a0 a1 a2 a3 a4,p0 a0 a1 a2 a3 a4/\p1 a0 a1 a2 a3 a4/\p2 a0 a1 a2 a3 a4/\p3 a0 a1 a2 a3 a4/\p4 a0 a1 a2 a3 a4)(k:∀a0 a1 a2 a3 a4,p0 a0 a1 a2 a3 a4->p1 a0 a1 a2 a3 a4->p2 a0 a1 a2 a3 a4->p3 a0 a1 a2 a3 a4->p4 a0 a1 a2 a3 a4->G):G:=Gf h λa h=>XL h (k a)
theorem xe5c6{α0 α1 α2 α3 α4:Type}{p0 p1 p2 p3 p4 p5:α0->α1->α2->α3->α4->Prop}{G:Prop}(h:∃a0 a1 a2 a3 a4,p0 a0 a1 a2 a3 a4/\p1 a0 a1 a2 a3 a4/\p2 a0 a1 a2 a3 a4/\p3 a0 a1 a2 a3 a4/\p4 a0 a1 a2 a3 a4/\p5 a0 a1 a2 a3 a4)(k:∀a0 a1 a2 a3 a4,p0 a0 a1 a2 a3 a4->p1 a0 a1 a2 a3 a4->p2 a0 a1 a2 a3 a4->p3 a0 a1 a2 a3 a4->p4 a0 a1 a2 a3 a4->p5 a0 a1 a2 a3 a4->G):G:=Gf h λa h=>xe4c6 h (k a)
theorem xe6c2{α0 α1 α2 α3 α4 α5:Type}{p0 p1:α0->α1->α2->α3->α4->α5->Prop}{G:Prop}(h:∃a0 a1 a2 a3 a4 a5,p0 a0 a1 a2 a3 a4 a5/\p1 a0 a1 a2 a3 a4 a5)(k:∀a0 a1 a2 a3 a4 a5,p0 a0 a1 a2 a3 a4 a5->p1 a0 a1 a2 a3 a4 a5->G):G:=Gf h λa h=>kE h (k a)
theorem XJ{α0 α1 α2 α3 α4 α5:Type}{p0 p1 p2:α0->α1->α2->α3->α4->α5->Prop}{G:Prop}(h:∃a0 a1 a2 a3 a4 a5,p0 a0 a1 a2 a3 a4 a5/\p1 a0 a1 a2 a3 a4 a5/\p2 a0 a1 a2 a3 a4 a5)(k:∀a0 a1 a2 a3 a4 a5,p0 a0 a1 a2 a3 a4 a5->p1 a0 a1 a2 a3 a4 a5->p2 a0 a1 a2 a3 a4 a5->G):G:=Gf h λa h=>xe5c3 h (k a)
theorem xe6c4{α0 α1 α2 α3 α4 α5:Type}{p0 p1 p2 p3:α0->α1->α2->α3->α4->α5->Prop}{G:Prop}(h:∃a0 a1 a2 a3 a4 a5,p0 a0 a1 a2 a3 a4 a5/\p1 a0 a1 a2 a3 a4 a5/\p2 a0 a1 a2 a3 a4 a5/\p3 a0 a1 a2 a3 a4 a5)(k:∀a0 a1 a2 a3 a4 a5,p0 a0 a1 a2 a3 a4 a5->p1 a0 a1 a2 a3 a4 a5->p2 a0 a1 a2 a3 a4 a5->p3 a0 a1 a2 a3 a4 a5->G):G:=Gf h λa h=>xe5c4 h (k a)
theorem xe6c6{α0 α1 α2 α3 α4 α5:Type}{p0 p1 p2 p3 p4 p5:α0->α1->α2->α3->α4->α5->Prop}{G:Prop}(h:∃a0 a1 a2 a3 a4 a5,p0 a0 a1 a2 a3 a4 a5/\p1 a0 a1 a2 a3 a4 a5/\p2 a0 a1 a2 a3 a4 a5/\p3 a0 a1 a2 a3 a4 a5/\p4 a0 a1 a2 a3 a4 a5/\p5 a0 a1 a2 a3 a4 a5)(k:∀a0 a1 a2 a3 a4 a5,p0 a0 a1 a2 a3 a4 a5->p1 a0 a1 a2 a3 a4 a5->p2 a0 a1 a2 a3 a4 a5->p3 a0 a1 a2 a3 a4 a5->p4 a0 a1 a2 a3 a4 a5->p5 a0 a1 a2 a3 a4 a5->G):G:=Gf h λa h=>xe5c6 h (k a)
theorem xe7c2{α0 α1 α2 α3 α4 α5 α6:Type}{p0 p1:α0->α1->α2->α3->α4->α5->α6->Prop}{G:Prop}(h:∃a0 a1 a2 a3 a4 a5 a6,p0 a0 a1 a2 a3 a4 a5 a6/\p1 a0 a1 a2 a3 a4 a5 a6)(k:∀a0 a1 a2 a3 a4 a5 a6,p0 a0 a1 a2 a3 a4 a5 a6->p1 a0 a1 a2 a3 a4 a5 a6->G):G:=Gf h λa h=>xe6c2 h (k a)
def DictN(prog:Di)(w:Fb)(o:Obj)(kvs:List (Str×G9)):Prop:=
 ∃es,o.ExactDict/\o.data= .dict es kvs.length/\KeysOf (strKind prog w) es/\Pairs (strKind prog w) es.toList kvs/\(kvs.map (·.1)).Nodup
theorem DictN.of{prog:Di}{w:Fb}{o:Obj}{kvs:List (Str×G9)}(h:DictN prog w o kvs):o.IsDictOf (strKind prog w) kvs:=h.imp λ_ h=>⟨_,h⟩
theorem DictN.at{prog:Di}{w:Fb}{o:Obj}{kvs:List (Str×G9)}{h:Do}{d:Gx}(ho:h.get? d=G3 o)(q:DictN prog w o kvs):h.DictAt (strKind prog w) d kvs kvs.length:=⟨o,q.imp λ_ h=>⟨ho,h⟩⟩
section
variable {prog:Di} {w:Fb} {A:Dh} {E:G9->Gh->Prop} {s:Gh}
theorem ji{d:Gx}{kvs:List (Str×G9)}{k:Str}{key v:G9}{Q:Unit->Gh->Prop}{o:Obj}(hkey:(strKind prog w).is k key=G6)(ho:s.heap.get? d=G3 o)(hm:DictN prog w o kvs)
  (hQ:∀h' o',h'.get? d=G3 o'->DictN prog w o' (FJ kvs k v)->Fi d s.heap h'->Q () {s with heap:=h',toks:=s.toks+1})
  (hsz:kvs.length<=Ir) :
  GA (Gy prog w) A (dictSet d key v) Q E s:=by
 refine xe1c5 (hm) ?_;clear hm;intro es hc hd hk hp hn;have hes:es.size<=Ir:=by
  have e1:=hp.length;have e2:es.toList.length=es.size:=by simp
  exact om1 hsz e1 e2
 unfold dictSet
 try with_reducible refine GR ?_
 refine Ge ((strKind prog w).pyHash hkey ?_);unfold dictSetHashed
 try with_reducible refine GR ?_
 refine Ge (wpAny_dictFind_of (s:={s with toks:=s.toks+1}) hkey ho hd hk ?_);have hidx:(es.findIdx? λe=>(strKind prog w).is k e.key)=kvs.findIdx? λkv=>decide (kv.1=k):=by rw[←hp.findIdx k];obtain⟨l⟩:=es;simp
 induction hi:es.findIdx? λe=>(strKind prog w).is k e.key using GD with
 |some i=>
  refine Ge (wpAny_rule (Ge (wpAny_updateDict (s:={s with toks:=s.toks+1}) ho hd (wpAny_point (hQ _ _ (Heap.get?_update_self _ ho (Obj.isFreed_of_dict (Obj.data_mapDict hd _))) ⟨_,
   hc.mapDict _,?_,hk.modify i v,?_,?_⟩ (Fc ..))))))
  ·rw[Obj.data_mapDict hd,FJ,if_pos (IX (hidx▸hi)),Gs]
  ·rw[FJ,if_pos (IX (hidx▸hi))];have hl:(es.toList.findIdx? λe=>(strKind prog w).is k e.key)=G3 i:=by rw[←hi];obtain⟨l⟩:=es;simp
   have:=hp.modify hn hl v;obtain⟨l⟩:=es;simpa using this
  ·rw[FJ,if_pos (IX (hidx▸hi)),keys_map_store];exact hn
 |none=>
  have hnot:k∉kvs.map (·.1):=not_mem_of_findIdx_none (hidx▸hi);have hany:¬(kvs.any λkv=>decide (kv.1=k))=G6:=by rw[Iz];rintro⟨kv,hkv,he⟩;exact hnot (Df.mpr ⟨kv,hkv,of_decide_eq_true he⟩)
  refine Ge (wpAny_rule (wpAny_updateDictKeys (hz:=hes) (s:={s with toks:=s.toks+1}) ho hd (hQ _ _ (Heap.get?_update_self _ ho (Obj.isFreed_of_dict (Obj.data_mapDictKeys hd _))) ⟨_,
   hc.mapDictKeys _,?_,hk.push hkey v,?_,?_⟩ (Fc ..))))
  ·rw[Obj.data_mapDictKeys hd,FJ,if_neg hany,Gr,DZ]
  ·rw[FJ,if_neg hany];have:=hp.append hkey ((strKind prog w).hash k) v;obtain⟨l⟩:=es;simpa using this
  ·rw[FJ,if_neg hany,GB,GG];refine⟨hn,by simp,?_⟩;intro a ha b hb;simp only[GV,IZ,GQ] at hb;subst hb;exact λe=>hnot (e▸ha)
theorem Ke{d:Gx}{kvs:List (Str×G9)}{k:Str}{key v:G9}{Q:Unit->Gh->Prop}{o:Obj}(hkey:(strKind prog w).is k key=G6)(ho:s.heap.get? d=G3 o)(hm:DictN prog w o kvs)
  (hQ:∀h' o',h'.get? d=G3 o'->DictN prog w o' (FJ kvs k v)->Fi d s.heap h'->Q () {s with heap:=h',toks:=s.toks+1})
  (hsz:kvs.length<=Ir):GA (Gy prog w) A (setItem (.ref d) key v) Q E s:=by
 have hT:s.TypeIs (.ref d) "dict":=(hm.at ho).dictOf.typeIs;unfold setItem
 try with_reducible refine GR ?_
 refine Ge (wpAny_sequenceKey hT (by decide) ?_);refine Ge (wpAny_callSpecial?_slot (name:=G0 "__setitem__") hT slot_dict_setitem
  (wpAny_call_entry slot_dict_setitem hT entry_dict_setitem ?_ (args_dict_setitem _ _ _)))
 show GA _ _ (Builtin.Dict.notOrdered "__setitem__" ⟨[.ref d,key,v],[]⟩ >>= _) _ _ s;refine Ge (wpAny_notOrdered_dict hT ?_);show GA _ _ (dictSet d key v >>= _) _ _ s;exact Ge (ji hkey ho hm (λh' o' ho' hm' hs'=>Gv ⟨.none,rfl,Gv (hQ h' o' ho' hm' hs')⟩) hsz)
theorem JO{d:Gx}:∀(vs:List (G9×G9)) (kvs acc:List (Str×G9)) (s:Gh) (o:Obj) (Q:PUnit->Gh->Prop),Carries (strKind prog w) vs kvs->s.heap.get? d=G3 o->DictN prog w o acc->acc.length+kvs.length<=Ir->
  (∀h' o',h'.get? d=G3 o'->DictN prog w o' (merged acc kvs)->Fi d s.heap h'->Q PUnit.unit {s with heap:=h',toks:=s.toks+vs.length})->
  GA (Gy prog w) A (storeAll d vs) Q E s:=by
 intro vs
 induction vs with
 |nil=>
  intro xx acc s o Q hc ho hm y9 hQ;rcases xx with _|⟨_,_⟩
  ·unfold storeAll;rw[List.forIn_nil];exact Gv (by simpa [merged] using hQ s.heap o ho (by simpa [merged] using hm) (Heap.SameBut.refl _ _))
  ·exact hc.elim
 |cons hdp vs ih=>
  intro xx acc s o Q hc ho hm hsz hQ;obtain⟨key,v⟩:=hdp;rcases xx with _|⟨⟨k,v'⟩,kvs⟩
  ·exact hc.elim
  ·refine zP (hc) ?_;clear hc;intro hkey rq1 hc';subst rq1;rw[GO] at hsz;unfold storeAll;rw[List.forIn_cons];refine Ge (Ge (ji hkey ho hm (λh₁ wS wq wh wu=>Gv ?_) (om2 hsz)));refine ih kvs (FJ acc k v) _ wS Q hc' wq wh (by have e:=stored_length_le acc k v;exact om4 hsz e) λh' o' ho' hm' hs'=>?_;have:=hQ h' o' ho' (by simpa [merged] using hm') (wu.trans hs');simpa [Fu,Fh 1] using this
end
section
set_option autoImplicit true
abbrev Lg:=List (Gx×Obj)
abbrev Rn:=List (Gx×Gx)
noncomputable abbrev tupO(us:List G9)(n:Nat):Obj:={cls:=.type "tuple",data:=.seq us.toArray n}
noncomputable def Z0(o:Obj):Bool:=cond (Gi o.data.ctorIdx 2) (match o.cls with|.type n=>n=="tuple"|_=>G7) (!Gi o.data.ctorIdx 3)
theorem Zi{o:Obj}{D:Data}(h:o.data=D):Z0 o=cond (Gi D.ctorIdx 2) (match o.cls with|.type n=>n=="tuple"|_=>G7) (!Gi D.ctorIdx 3):=h▸rfl
def TupAt(K:DN)(E:Lg)(a:Gx)(us:List G9):Prop:=(∃n,(a,tupO us n)∈E)∨∃dd n sl,K.lookup a=G3 ⟨.type "tuple",dd,.seq us.toArray n,sl⟩
structure Tp where
 prog:Di
 w:Fb
 K:DN
 P:Params
 lamK:Nat
 lamP:Pos
 lamQ:Str
 lamX:Str
 lamN:Str
 attr:Nat->Str
 cls:Nat->Option Gx
 tab:Gx
 tabC:Gx
 scr:Gx
 ns:List Int
 fn:Nat->Option Gx
 att:Nat->Nat->Bool
inductive LamAt (T:Tp) (E:Lg) (k:Nat) (a:Gx):Prop
 |mk (ar:Arg) (p1 p2:Pos) (csc:GW) (pm:G9) (c':Gx) (ctv:G9) (oc:Obj) (vs:Array G9) (t:Tok):k=T.lamK->(a,kla_obj "<lambda>" T.lamQ ⟨[],[ar],Gb,[],[],Gb,[]⟩ (.Attribute (.Name T.lamX p1) T.lamN p2) csc [] pm c' ctv)∈E->
  ar.arg=T.lamX->csc.names.lookup T.lamX=G3 .local->(∀x∈csc.names,x.2≠.cell)->csc.kind= .function->csc.isCoroutine=G7->csc.isGenerator=G7->
  (c',oc)∈E->oc.data= .fields vs->vs[1]?=G3 (.str T.lamQ t)->LamAt T E k a
def RngAt(E:Lg)(a:Gx)(n:Nat):Prop:=∃t u v,(a,({cls:=.type "range",data:=.fields #[.int 0 t,.int (n:Int) u,.int 1 v]}:Obj))∈E
variable (T:Tp)
mutual
inductive VR (E:Lg) (ρ:Rn):V->G9->Prop
 |none:VR E ρ .none .none
 |bool (b:Bool):VR E ρ (.bool b) (.bool b)
 |int (i:Int) (t:Tok):VR E ρ (.int i) (.int i t)
 |str (s:List Nat) (t:Tok):VR E ρ (.str s) (.str ⟨s.toArray⟩ t)
 |obj {i:Nat} {a d:Gx}:ρ[i]?=G3 (a,d)->VR E ρ (.obj i) (.ref a)
 |tup {vs:List V} {us:List G9} {a:Gx}:TupAt T.K E a us->VRs E ρ vs us->VR E ρ (.tup vs) (.ref a)
 |fn {k:Nat} {a:Gx}:LamAt T E k a->VR E ρ (.fn k) (.ref a)
 |rng {n:Nat} {a:Gx}:RngAt E a n->VR E ρ (.rng n) (.ref a)
 |scr:VR E ρ .scr (.ref T.scr)
inductive VRs (E:Lg) (ρ:Rn):List V->List G9->Prop
 |nil:VRs E ρ [] []
 |cons {v:V} {u:G9} {vs:List V} {us:List G9}:VR E ρ v u->VRs E ρ vs us->VRs E ρ (v::vs) (u::us)
end
structure Ext (E:Lg) (ρ:Rn) (E':Lg) (ρ':Rn):Prop where
 pre:∀(i:Nat) (p:Gx×Gx),ρ[i]?=G3 p->ρ'[i]?=G3 p
 fix:∀p∈E,Z0 p.2=G6->p∈E'
theorem Ext.refl(E:Lg)(ρ:Rn):Ext E ρ E ρ:=⟨λ_ _ h=>h,λ_ h _=>h⟩
theorem Ext.trans{E E' E'':Lg}{ρ ρ' ρ'':Rn}(a:Ext E ρ E' ρ')(b:Ext E' ρ' E'' ρ''):Ext E ρ E'' ρ'':=
 ⟨λi p h=>b.pre i p (a.pre i p h),λp h q=>b.fix p (a.fix p h q) q⟩
variable {T:Tp}
theorem TupAt.ext{Uc:DN}{E E':Lg}(x:∀p∈E,Z0 p.2=G6->p∈E'){a:Gx}{us:List G9}(h:TupAt Uc E a us):TupAt Uc E' a us:=h.imp (GY λ_ h=>x _ h rfl) id
theorem RngAt.ext{E E':Lg}(x:∀p∈E,Z0 p.2=G6->p∈E'){a:Gx}{n:Nat}(h:RngAt E a n):RngAt E' a n:=
 h.imp λ_=>GY λ_=>GY λ_ h=>x _ h rfl
theorem LamAt.ext{E E':Lg}(x:∀p∈E,Z0 p.2=G6->p∈E'){k:Nat}{a:Gx}:LamAt T E k a->LamAt T E' k a
 |⟨ar,p1,p2,csc,pm,c',ctv,oc,vs,t,h1,h2,y1,y2,y3,y4,y5,y6,h3,h4,h5⟩=>⟨ar,p1,p2,csc,pm,c',ctv,oc,vs,t,h1,x _ h2 rfl,y1,y2,y3,y4,y5,y6,x _ h3 (Zi h4),h4,h5⟩
theorem VR.ext{E E':Lg}{ρ ρ':Rn}(x:Ext E ρ E' ρ'){v:V}{u:G9}(h:VR T E ρ v u):VR T E' ρ' v u:=
 VR.rec (motive_1:=λv u _=>VR T E' ρ' v u) (motive_2:=λvs us _=>VRs T E' ρ' vs us) .none .bool .int .str (λh=>.obj (x.pre _ _ h)) (λh _ r=>.tup (h.ext x.fix) r) (λh=>.fn (h.ext x.fix)) (λh=>.rng (h.ext x.fix)) .scr .nil (λ_ _ a r=>.cons a r) h
theorem VRs.ind{E:Lg}{ρ:Rn}{Pr:List V->List G9->Prop}(n:Pr [] [])(k:∀{v u vs us},VR T E ρ v u->VRs T E ρ vs us->Pr vs us->Pr (v::vs) (u::us)){vs:List V}{us:List G9}(h:VRs T E ρ vs us):Pr vs us:=
 VRs.rec (motive_1:=λ_ _ _=>True) (motive_2:=λvs us _=>Pr vs us) trivial (λ_=>trivial) (λ_ _=>trivial) (λ_ _=>trivial) (λ_=>trivial) (λ_ _ _=>trivial) (λ_=>trivial) (λ_=>trivial) trivial n (λa r _ q=>k a r q) h
theorem VRs.ext{E E':Lg}{ρ ρ':Rn}(x:Ext E ρ E' ρ'){v:List V}{u:List G9}(h:VRs T E ρ v u):VRs T E' ρ' v u:=h.ind .nil λa _ r=>.cons (a.ext x) r
theorem VRs.length{E:Lg}{ρ:Rn}{vs:List V}{us:List G9}(h:VRs T E ρ vs us):vs.length=us.length:=h.ind (Pr:=λvs us=>vs.length=us.length) rfl λ_ _ r=>congrArg (·+ 1) r
theorem VRs.append{E ρ}{vs us vs' us'}(h:VRs T E ρ vs us)(g:VRs T E ρ vs' us'):VRs T E ρ (vs++vs') (us++us'):=h.ind (Pr:=λvs us=>VRs T E ρ (vs++vs') (us++us')) g λa _ r=>.cons a r
theorem VRs.at{E:Lg}{ρ:Rn}{vs:List V}{us:List G9}(h:VRs T E ρ vs us):∀{i:Nat} {v:V},vs[i]?=G3 v->∃u,us[i]?=G3 u/\VR T E ρ v u:=by
 refine h.ind (Pr:=λvs us=>∀{i:Nat} {v:V},vs[i]?=G3 v->∃u,us[i]?=G3 u/\VR T E ρ v u) (λh=>nn h) ?_;intro _ u _ _ a _ r i v h;rcases i with _|i
 ·exact⟨u,rfl,Gm h▸a⟩
 ·exact r h
theorem VRs.reverse{E:Lg}{ρ:Rn}{vs:List V}{us:List G9}(h:VRs T E ρ vs us):VRs T E ρ vs.reverse us.reverse:=
 h.ind (Pr:=λvs us=>VRs T E ρ vs.reverse us.reverse) .nil λ{v u vs us} a _ r=>by rw[Dq,Dq];exact r.append (.cons a .nil)
theorem VRs.take{E:Lg}{ρ:Rn}{vs:List V}{us:List G9}(n:Nat)(h:VRs T E ρ vs us):VRs T E ρ (vs.take n) (us.take n):=
 h.ind (Pr:=λvs us=>∀n,VRs T E ρ (vs.take n) (us.take n)) (λn=>by rw[Me,Me];exact .nil) (λa _ r n=>Nat.rec (motive:=λn=>VRs T E ρ ((_::_).take n) ((_::_).take n)) .nil (λn _=>.cons a (r n)) n) n
theorem VRs.drop{E:Lg}{ρ:Rn}{vs:List V}{us:List G9}(n:Nat)(h:VRs T E ρ vs us):VRs T E ρ (vs.drop n) (us.drop n):=
 h.ind (Pr:=λvs us=>∀n,VRs T E ρ (vs.drop n) (us.drop n)) (λn=>by rw[List.drop_nil,List.drop_nil];exact .nil) (λa q r n=>Nat.rec (motive:=λn=>VRs T E ρ ((_::_).drop n) ((_::_).drop n)) (.cons a q) (λn _=>r n) n) n
theorem VRs.set{E:Lg}{ρ:Rn}{vs:List V}{us:List G9}(n:Nat){v:V}{u:G9}(h:VRs T E ρ vs us)(g:VR T E ρ v u):VRs T E ρ (vs.set n v) (us.set n u):=
 h.ind (Pr:=λvs us=>∀n,VRs T E ρ (vs.set n v) (us.set n u)) (λ_=>.nil) (λa q r n=>Nat.rec (motive:=λn=>VRs T E ρ ((_::_).set n v) ((_::_).set n u)) (.cons g q) (λn _=>.cons a (r n)) n) n
def KeyE(P:Params)(k:Str)(e:FV):Prop:=e.hash=PyData.keyHash P k/\∃t,e.key= .str k t
inductive FRs (T:Tp) (E:Lg) (ρ:Rn) (nm:κ->Str):List (κ×V)->List FV->Prop
 |nil:FRs T E ρ nm [] []
 |cons {k:κ} {v:V} {e:FV} {fs:List (κ×V)} {es:List FV}:KeyE T.P (nm k) e->VR T E ρ v e.val->FRs T E ρ nm fs es->FRs T E ρ nm ((k,v)::fs) (e::es)
noncomputable def strL(s:List Nat):Str:=⟨s.toArray⟩
inductive KVs (T:Tp) (E:Lg) (ρ:Rn):List (List Nat×V)->List (Str×G9)->Prop
 |nil:KVs T E ρ [] []
 |cons {k:List Nat} {v:V} {u:G9} {fs:List (List Nat×V)} {es:List (Str×G9)}:VR T E ρ v u->KVs T E ρ fs es->KVs T E ρ ((k,v)::fs) ((strL k,u)::es)
noncomputable def lim:Nat:=1000
def OAt(T:Tp)(E:Lg)(ρ:Rn)(a d:Gx):O->Prop
 |.list vs=>∃us n,(a,Fq us.toArray n)∈E/\VRs T E ρ vs us/\vs.length<=lim
 |.inst c fs=>∃C es n,T.cls c=G3 C/\(a,instObj C d)∈E/\(d,IR es n)∈E/\FRs T E ρ T.attr fs es/\fs.length<=100/\∀p∈fs,T.att c p.1=G6
 |.exc c=>∃C ob t,T.cls c=G3 C/\(a,ob)∈E/\ob.cls= .ref C/\ob.data= .fields #[.ref t,.none,.none,.none,.bool G7,.none]
 |.dict es=>∃o kvs,(a,o)∈E/\DictN T.prog T.w o kvs/\KVs T E ρ es kvs/\es.length<=lim/\(a==sysModules)=G7
noncomputable def zZ:O->Gx×Gx->List Gx
 |.inst _ _,p=>[p.1,p.2]
 |_,p=>[p.1]
noncomputable def foot:List O->Rn->List Gx
 |o::H,p::ρ=>zZ o p++foot H ρ
 |_,_=>[]
def TbOk(T:Tp)(E:Lg)(o:Obj):Prop:=∃ps,o=Dz ps/\(ps=#[]∨∃c' oc vs t,ps=#[IP T.lamP.line,IP T.lamP.col,.ref c']/\(c',oc)∈E/\oc.data= .fields vs/\vs[1]?=G3 (.str T.lamQ t))
structure Rep (T:Tp) (wy:Do) (L:Gx) (m:Str->Option G9) (G:Lg) (H:List O) (ρ:Rn) (E:Lg) (h:Do):Prop where
 F:Fr wy L h m
 N:∃tb,TbOk T E tb/\FW wy L h (E++(T.tab,tb)::G)
 nd:((E++(T.tab,Dz #[])::G).map (·.1)).Nodup
 len:ρ.length=H.length
 enc:∀(i:Nat) (o:O) (a d:Gx),H[i]?=G3 o->ρ[i]?=G3 (a,d)->OAt T E ρ a d o
 ft:(foot H ρ).Nodup
end
section
variable {T:Tp} {wy h h':Do} {L:Gx} {m m':Str->Option G9} {G:Lg} {H:List O} {ρ ρ':Rn} {E E':Lg}
theorem FRs.ext{κ:Type}{nm:κ->Str}(x:Ext E ρ E' ρ'){fs:List (κ×V)}{es:List FV}(h:FRs T E ρ nm fs es):FRs T E' ρ' nm fs es:=
 FRs.rec (motive:=λfs es _=>FRs T E' ρ' nm fs es) .nil (λk v _ r=>.cons k (v.ext x) r) h
theorem FRs.length{κ:Type}{nm:κ->Str}{fs:List (κ×V)}{es:List FV}(h:FRs T E ρ nm fs es):fs.length=es.length:=
 FRs.rec (motive:=λfs es _=>fs.length=es.length) rfl (λ_ _ _ r=>congrArg (·+ 1) r) h
theorem KVs.ext(x:Ext E ρ E' ρ'){fs:List (List Nat×V)}{es:List (Str×G9)}(h:KVs T E ρ fs es):KVs T E' ρ' fs es:=
 KVs.rec (motive:=λfs es _=>KVs T E' ρ' fs es) .nil (λv _ r=>.cons (v.ext x) r) h
theorem KVs.length{fs:List (List Nat×V)}{es:List (Str×G9)}(h:KVs T E ρ fs es):fs.length=es.length:=
 KVs.rec (motive:=λfs es _=>fs.length=es.length) rfl (λ_ _ r=>congrArg (·+ 1) r) h
theorem OAt.mono{a d:Gx}{o:O}(y:OAt T E ρ a d o)(x:Ext E ρ E' ρ')(k:∀b∈zZ o (a,d),∀ob,(b,ob)∈E->(b,ob)∈E'):OAt T E' ρ' a d o:=by
 induction o using O.casesOn with
 |list vs=>exact GY (λus=>GY λn h=>⟨k a (.head _) _ h.1,h.2.1.ext x,h.2.2⟩) y
 |inst c fs=>exact GY (λC=>GY λes=>GY λn h=>⟨h.1,k a (.head _) _ h.2.1,k d (.tail _ (.head _)) _ h.2.2.1,h.2.2.2.1.ext x,h.2.2.2.2⟩) y
 |exc c=>exact GY (λC=>GY λob=>GY λt h=>⟨h.1,k a (.head _) _ h.2.1,h.2.2⟩) y
 |dict es=>exact GY (λds=>GY λn h=>⟨k a (.head _) _ h.1,h.2.1,h.2.2.1.ext x,h.2.2.2⟩) y
theorem OAt.keys{a d:Gx}{o:O}(y:OAt T E ρ a d o):∀b∈zZ o (a,d),∃ob,(b,ob)∈E:=by
 induction o using O.casesOn with
 |list vs=>exact λb hb=>y.elim λus h=>h.elim λn h=>GQ.mp hb▸⟨_,h.1⟩
 |inst c fs=>exact λb hb=>y.elim λC h=>h.elim λes h=>h.elim λn h=>(Gp.mp hb).elim (λe=>e▸⟨_,h.2.1⟩) (λhb=>GQ.mp hb▸⟨_,h.2.2.1⟩)
 |exc c=>exact λb hb=>y.elim λC h=>h.elim λob h=>h.elim λt h=>GQ.mp hb▸⟨_,h.2.1⟩
 |dict es=>exact λb hb=>y.elim λds h=>h.elim λn h=>GQ.mp hb▸⟨_,h.1⟩
theorem jS{o:O}{p:Gx×Gx}{b:Gx}(hb:b∈zZ o p):∀{H:List O} {ρ:Rn} {i:Nat},H[i]?=G3 o->ρ[i]?=G3 p->b∈foot H ρ:=by
 intro H
 induction H with
 |nil=>exact λh=>nn h
 |cons x H ih=>
  intro ρ i h1 h2;rcases ρ with _|⟨y,ρ⟩
  ·exact nn h2
  ·rcases i with _|i
   ·exact Gg _ (Gm h1▸Gm h2▸hb)
   ·exact Gd _ (ih h1 h2)
theorem jR{b:Gx}{Gl:Prop}:∀{H:List O} {ρ:Rn},b∈foot H ρ->(∀(i:Nat) (o:O) (p:Gx×Gx),H[i]?=G3 o->ρ[i]?=G3 p->b∈zZ o p->Gl)->Gl:=by
 intro H
 induction H with
 |nil=>exact λh _=>absurd h D1
 |cons x H ih=>
  intro ρ h k;rcases ρ with _|⟨y,ρ⟩
  ·exact absurd h D1
  ·exact(GL.mp h).elim (λh=>k 0 x y rfl rfl h) (λh=>ih h λi=>k (i+1))
theorem foot_ne{o o':O}{p p':Gx×Gx}{b:Gx}(hb:b∈zZ o p)(hb':b∈zZ o' p'):∀{H:List O} {ρ:Rn} {i j:Nat},(foot H ρ).Nodup->H[i]?=G3 o->ρ[i]?=G3 p->H[j]?=G3 o'->ρ[j]?=G3 p'->i=j:=by
 intro H
 induction H with
 |nil=>exact λ_ h=>nn h
 |cons x H ih=>
  intro ρ i j nd h1 h2 h3 h4;rcases ρ with _|⟨y,ρ⟩
  ·exact nn h2
  ·have nd:=GG.mp nd;rcases i with _|i
   ·rcases j with _|j
    ·rfl
    ·exact absurd rfl (nd.2.2 b (Gm h1▸Gm h2▸hb) b (jS (H:=H) (ρ:=ρ) (i:=j) hb' h3 h4))
   ·rcases j with _|j
    ·exact absurd rfl (nd.2.2 b (Gm h3▸Gm h4▸hb') b (jS (H:=H) (ρ:=ρ) (i:=i) hb h1 h2))
    ·exact congrArg (·+ 1) (ih nd.2.1 h1 h2 h3 h4)
theorem u5{o:O}{p:Gx×Gx}:∀{H:List O} {ρ:Rn},ρ.length=H.length->foot (H++[o]) (ρ++[p])=foot H ρ++zZ o p:=by
 intro H
 induction H with
 |nil=>intro ρ h;rw[List.length_eq_zero_iff.mp h];exact D5 _
 |cons x H ih=>
  intro ρ h;rcases ρ with _|⟨y,ρ⟩
  ·exact absurd h (Nat.zero_ne_add_one _)
  ·exact(congrArg (zZ x y++·) (ih (Nat.succ.inj h))).trans (Gw ..).symm
theorem foot_set{o o':O}(e:∀p,zZ o' p=zZ o p):∀{H:List O} {ρ:Rn} {i:Nat},H[i]?=G3 o->foot (H.set i o') ρ=foot H ρ:=by
 intro H
 induction H with
 |nil=>exact λh=>nn h
 |cons x H ih=>
  intro ρ i h;rcases i with _|i
  ·rcases ρ with _|⟨y,ρ⟩
   ·rfl
   ·exact congrArg (·++foot H ρ) (Gm h▸e y)
  ·rcases ρ with _|⟨y,ρ⟩
   ·rfl
   ·exact congrArg (zZ x y++·) (ih h)
theorem Rep.key(R:Rep T wy L m G H ρ E h):∀b∈foot H ρ,∃ob,(b,ob)∈E:=by intro b hb;refine jR hb ?_;intro i o p h1 h2 h3;exact(R.enc i o p.1 p.2 h1 h2).keys b h3
theorem TbOk.ext{tb:Obj}(x:∀p∈E,Z0 p.2=G6->p∈E')(h:TbOk T E tb):TbOk T E' tb:=
 h.imp λ_ h=>⟨h.1,h.2.imp id (GY λ_=>GY λ_=>GY λ_=>GY λ_ h=>⟨h.1,x _ h.2.1 (Zi h.2.2.1),h.2.2⟩)⟩
theorem Rep.grow(R:Rep T wy L m G H ρ E h){new:Lg}{tb:Obj}(hb:TbOk T E tb)(F':Fr wy L h' m')(N':FW wy L h' (new++(E++(T.tab,tb)::G)))
  (hn:(new.map (·.1)).Nodup) (hf:∀p∈new,∀q∈E++(T.tab,Dz #[])::G,p.1≠q.1):Rep T wy L m' G H ρ (new++E) h'/\Ext E ρ (new++E) ρ:=by
 have x:Ext E ρ (new++E) ρ:=⟨λ_ _ e=>e,λp hp _=>Gd _ hp⟩;refine⟨⟨F',⟨tb,hb.ext x.fix,by rw[Gw];exact N'⟩,?_,R.len,λi o a d h1 h2=>(R.enc i o a d h1 h2).mono x λ_ _ _ hm=>Gd _ hm,R.ft⟩,x⟩;rw[Gw,GB];refine GG.mpr ⟨hn,R.nd,?_⟩;rintro a ha b hb rfl;refine za (Df.mp ha) λp hp rq2=>?_;subst rq2;refine za (Df.mp hb) λq hq e=>?_;exact hf p hp q hq e.symm
theorem Rep.alloc(R:Rep T wy L m G H ρ E h){o:O}{a d:Gx}(ho:OAt T E ρ a d o)(h1:∀b∈zZ o (a,d),b∉foot H ρ)(h2:(zZ o (a,d)).Nodup) :
  Rep T wy L m G (H++[o]) (ρ++[(a,d)]) E h/\Ext E ρ E (ρ++[(a,d)]):=by
 have x:Ext E ρ E (ρ++[(a,d)]):=⟨λi p e=>by
  rw[List.getElem?_append_left (List.getElem?_eq_some_iff.mp e).1];exact e,λp hp _=>hp⟩
 refine⟨⟨R.F,R.N,R.nd,by simp[R.len],λi o' a' d' e1 e2=>?_,?_⟩,x⟩
 ·by_cases hi:i < H.length
  ·rw[List.getElem?_append_left hi] at e1;rw[List.getElem?_append_left (by rw[R.len];exact hi)] at e2;exact(R.enc i o' a' d' e1 e2).mono x λ_ _ _ hm=>hm
  ·have hl:i=H.length:=by have:=(List.getElem?_eq_some_iff.mp e1).1;simp only[Gr,DZ] at this;exact om5 hi this
   subst hl;rw[List.getElem?_append_right (GI _)] at e1;rw[List.getElem?_append_right (by rw[R.len];exact GI _),R.len] at e2;simp only[Nat.sub_self,List.getElem?_cons_zero,Option.some.injEq,Prod.mk.injEq] at e1 e2;refine zh (e2) ?_;clear e2;intro rq0 rq1;subst rq0;subst rq1;subst e1;exact ho.mono x λ_ _ _ hm=>hm
 ·rw[u5 R.len];exact GG.mpr ⟨R.ft,h2,λa ha b hb e=>h1 b hb (e▸ha)⟩
theorem Kv{uQ uR:Lg}{x:Gx}{ob ob':Obj}{p:Gx×Obj}(h:p∈uQ++(x,ob)::uR)(ne:p.1≠x):p∈uQ++(x,ob')::uR:=by
 rcases GL.mp h with h|h
 ·exact Gg _ h
 ·rcases Gp.mp h with rfl|h
  ·exact absurd rfl ne
  ·exact Gd _ (Go _ h)
theorem YG{l:Lg}(nd:(l.map (·.1)).Nodup){p q:Gx×Obj}(hp:p∈l)(hq:q∈l)(e:p.1=q.1):p=q:=by
 induction l with
 |nil=>cases hp
 |cons x l ih=>
  rw[GV,GJ] at nd;rcases Gp.mp hp with h1|h1<;>rcases Gp.mp hq with h2|h2
  ·rw[h1,h2]
  ·exact absurd (Df.mpr ⟨q,h2,by rw[←e,h1]⟩) nd.1
  ·exact absurd (Df.mpr ⟨p,h1,by rw[e,h2]⟩) nd.1
  ·exact ih nd.2 h1 h2
theorem Rep.split(R:Rep T wy L m G H ρ E h){x:Gx}{ob:Obj}(hm:(x,ob)∈E):∃uQ uR tb,E=uQ++(x,ob)::uR/\TbOk T E tb/\
  FW wy L h (uQ++(x,ob)::(uR++(T.tab,tb)::G))/\(∀p∈uQ,p.1≠x)/\(∀p∈uR++(T.tab,tb)::G,p.1≠x):=by
 refine za (R.N) λtb hb N=>?_;refine xe2c1 (List.append_of_mem hm) λuQ uR rq2=>?_;subst rq2;have nd:=R.nd;rw[Gw,GB] at nd;refine zP (GG.mp nd) λn1 n2 n3=>?_;refine⟨uQ,uR,tb,rfl,hb,by simpa using N,λp hp e=>n3 p.1 (D4 hp) x (by simp) e,λp hp e=>?_⟩;simp only[DU,GV,GJ] at n2;refine n2.1 ?_;rw[←e];have:(uR++(T.tab,tb)::G).map (·.1)=(uR++(T.tab,Dz #[])::G).map (·.1):=by simp
 rw[←this];exact D4 hp
theorem Rep.put(R:Rep T wy L m G H ρ E h){i:Nat}{o o':O}{a d x:Gx}{ob ob':Obj}{uQ uR:Lg}{tb:Obj}(h1:H[i]?=G3 o)(h2:ρ[i]?=G3 (a,d))(hx:x∈zZ o (a,d))(he:E=uQ++(x,ob)::uR)(hb:TbOk T E tb)
  (hf:Z0 ob=G7) (h3:∀p,zZ o' p=zZ o p) (F':Fr wy L h' m') (N':FW wy L h' (uQ++(x,ob')::(uR++(T.tab,tb)::G)))
  (ho:Ext E ρ (uQ++(x,ob')::uR) ρ->OAt T (uQ++(x,ob')::uR) ρ a d o'):Rep T wy L m' G (H.set i o') ρ (uQ++(x,ob')::uR) h'/\Ext E ρ (uQ++(x,ob')::uR) ρ:=by
 subst he;have nd:=R.nd;have nd1:((uQ++(x,ob)::uR).map (·.1)).Nodup:=by rw[GB] at nd;exact(GG.mp nd).1
 have hx':(x,ob)∈uQ++(x,ob)::uR:=by simp
 have xt:Ext (uQ++(x,ob)::uR) ρ (uQ++(x,ob')::uR) ρ:=⟨λ_ _ e=>e,λp hp q=>Kv hp λe=>by
  have:=YG nd1 hp hx' e;rw[this,hf] at q;cases q⟩
 refine⟨⟨F',⟨tb,hb.ext xt.fix,by simpa using N'⟩,?_,by simpa using R.len,λj oj aj dj e1 e2=>?_,?_⟩,xt⟩
 ·have:((uQ++(x,ob')::uR)++(T.tab,Dz #[])::G).map (·.1)=((uQ++(x,ob)::uR)++(T.tab,Dz #[])::G).map (·.1):=by simp
  rw[this];exact nd
 ·by_cases hij:i=j
  ·subst hij;rw[h2] at e2;cases e2;rw[List.getElem?_set] at e1;have hl:=(List.getElem?_eq_some_iff.mp h1).1;simp only[hl,if_true] at e1;cases e1;exact ho xt
  ·rw[List.getElem?_set_ne hij] at e1;refine(R.enc j oj aj dj e1 e2).mono xt λb hb' ob'' hm=>Kv hm λe=>?_;have e':b=x:=e;subst e';exact hij (foot_ne hx hb' R.ft h1 h2 e1 e2)
 ·rw[foot_set h3 h1];exact R.ft
end
theorem gd_iff{b:Bool}{p:Prop}:gd b p↔b=G6/\p:=by
 induction b using GN with
 |true=>exact⟨λh=>⟨rfl,h⟩,λh=>h.2⟩
 |false=>exact⟨λh=>h.elim,λh=>absurd h.1 G4⟩
theorem zq{α:Type}{o:Option α}{f:α->Prop}(h:ifS o f):∃a,o=G3 a/\f a:=by
 induction o using GD with
 |none=>exact h.elim
 |some a=>exact⟨a,rfl,h⟩
theorem Zp{α:Type}{o:Option α}{f:α->Prop}{a:α}(e:o=G3 a)(h:f a):ifS o f:=by subst e;exact h
theorem zy{v:V}{f:Int->Prop}(h:intP v f):∃i,v= .int i/\f i:=by rcases v<;>first|exact h.elim|exact⟨_,rfl,h⟩
theorem yw{v:V}{f:List Nat->Prop}(h:strP v f):∃i,v= .str i/\f i:=by rcases v<;>first|exact h.elim|exact⟨_,rfl,h⟩
theorem Xc{v:V}{f:List V->Prop}(h:tupP v f):∃i,v= .tup i/\f i:=by rcases v<;>first|exact h.elim|exact⟨_,rfl,h⟩
theorem fnP_iff{v:V}{f:Nat->Prop}(h:fnP v f):∃i,v= .fn i/\f i:=by rcases v<;>first|exact h.elim|exact⟨_,rfl,h⟩
theorem Xi{v:V}{f:Nat->Prop}(h:objP v f):∃i,v= .obj i/\f i:=by rcases v<;>first|exact h.elim|exact⟨_,rfl,h⟩
theorem ZG{v:V}{p:Prop}(h:ym v p):v= .none/\p:=by rcases v<;>first|exact h.elim|exact⟨rfl,h⟩
theorem yE{i:Int}{f:Nat->Prop}(h:natP i f):∃n:Nat,i= .ofNat n/\f n:=by rcases i<;>first|exact h.elim|exact⟨_,rfl,h⟩
theorem jZ{v:V}{H:Hp}{f:Nat->Nat->List (Nat×V)->Prop}(h:atI v H f):∃i c fs,v= .obj i/\H[i]?=G3 (.inst c fs)/\f i c fs:=by
 refine za (Xi h) ?_;clear h;intro i rq1 h;subst rq1;refine za (zq h) ?_;clear h;intro o e h;rcases o<;>first|exact h.elim|exact⟨_,_,_,rfl,e,h⟩
theorem yn{v:V}{H:Hp}{f:Nat->List V->Prop}(h:atL v H f):∃i vs,v= .obj i/\H[i]?=G3 (.list vs)/\f i vs:=by
 refine za (Xi h) ?_;clear h;intro i rq1 h;subst rq1;refine za (zq h) ?_;clear h;intro o e h;rcases o<;>first|exact h.elim|exact⟨_,_,rfl,e,h⟩
theorem XF{v:V}{H:Hp}{f:Nat->List (List Nat×V)->Prop}(h:atD v H f):∃i vs,v= .obj i/\H[i]?=G3 (.dict vs)/\f i vs:=by
 refine za (Xi h) ?_;clear h;intro i rq1 h;subst rq1;refine za (zq h) ?_;clear h;intro o e h;rcases o<;>first|exact h.elim|exact⟨_,_,rfl,e,h⟩
theorem arg0_iff{as:List V}{p:Prop}(h:arg0 as p):as=[]/\p:=by rcases as<;>first|exact h.elim|exact⟨rfl,h⟩
theorem zY{as:List V}{f:V->Prop}(h:arg1 as f):∃a,as=[a]/\f a:=by
 rcases as with _|⟨a,_|⟨b,r⟩⟩<;>first|exact h.elim|exact⟨_,rfl,h⟩
theorem Yq{as:List V}{f:V->V->Prop}(h:arg2 as f):∃a b,as=[a,b]/\f a b:=by
 rcases as with _|⟨a,_|⟨b,_|⟨c,r⟩⟩⟩<;>first|exact h.elim|exact⟨_,_,rfl,h⟩
theorem YE{α:Type}{v:V}{f:Int->Option α}{r:α}(h:oI v f=G3 r):∃i,v= .int i/\f i=G3 r:=by rcases v<;>first|exact nn h|exact⟨_,rfl,h⟩
theorem oS_iff{α:Type}{v:V}{f:List Nat->Option α}{r:α}(h:oS v f=G3 r):∃i,v= .str i/\f i=G3 r:=by rcases v<;>first|exact nn h|exact⟨_,rfl,h⟩
theorem oT_iff{α:Type}{v:V}{f:List V->Option α}{r:α}(h:oT v f=G3 r):∃i,v= .tup i/\f i=G3 r:=by rcases v<;>first|exact nn h|exact⟨_,rfl,h⟩
set_option tactic.hygienic true in
theorem oL_iff{α:Type}{v:V}{H:Hp}{f:List V->Option α}{r:α}(h:oL v H f=G3 r):∃i vs,v= .obj i/\H[i]?=G3 (.list vs)/\f vs=G3 r:=by
 rcases v<;>first|exact nn h|skip
 rename_i i;have h:(match H[i]? with|some (.list vs)=>f vs|_=>Gb)=G3 r:=h
 induction e:H[i]? using GD with
 |none=>rw[e] at h;exact nn h
 |some o=>rw[e] at h;rcases o<;>first|exact nn h|exact⟨i,_,rfl,e,h⟩
theorem locO_iff{L:Lc}{k:Nat}{v:V}(h:locO L k=G3 v):L[k]?=G3 v/\v≠.bad:=by
 have h:(match L[k]? with|some v=>(match v with|.bad=>Gb|v=>G3 v)|none=>Gb)=G3 v:=h
 induction e:L[k]? using GD with
 |none=>rw[e] at h;exact nn h
 |some u=>rw[e] at h;rcases u<;>first|exact nn h|(cases Gm h;exact⟨rfl,λq=>V.noConfusion q⟩)
inductive AddI (a b:V) (H:Hp) (Q:V->Hp->Prop):Prop
 |int (x y:Int):a= .int x->b= .int y->Q (.int (x+y)) H->AddI a b H Q
 |str (x y:List Nat):a= .str x->b= .str y->Gj (x.length+y.length) 1000=G6->Q (.str (x++y)) H->AddI a b H Q
 |lst (i:Nat) (x:List V) (j:Nat) (y:List V):a= .obj i->H[i]?=G3 (.list x)->b= .obj j->H[j]?=G3 (.list y)->Gj (x.length+y.length) 1000=G6->Q (.obj H.length) (H++[O.list (x++y)])->AddI a b H Q
theorem addP_iff{a b:V}{H:Hp}{Q:V->Hp->Prop}(h:addP a b H Q):AddI a b H Q:=by
 induction a using V.casesOn with
 |int x=>refine za (zy h) ?_;intro y e h;exact .int x y rfl e h
 |str x=>refine za (yw h) λy e h=>?_;refine zh (gd_iff.mp h) λh1 h=>?_;exact .str x y rfl e h1 h
 |obj i=>refine zF (yn h) λi' x e e1 h=>?_;refine zF (yn h) λj y e3 e2 h=>?_;refine zh (gd_iff.mp h) λh1 h=>?_;exact .lst i' x j y e e1 e3 e2 h1 h
 |_=>exact h.elim
inductive IdxI (a b:V) (H:Hp) (Q:V->Prop):Prop
 |tup (vs:List V) (i:Int) (v:V):a= .tup vs->b= .int i->Gj vs.length 1000=G6->atV vs i=G3 v->Q v->IdxI a b H Q
 |str (x:List Nat) (i:Nat) (c:Nat):a= .str x->b= .int (.ofNat i)->Gj x.length 1000=G6->x[i]?=G3 c->Q (.str [c])->IdxI a b H Q
 |lst (j:Nat) (vs:List V) (i:Int) (v:V):a= .obj j->b= .int i->H[j]?=G3 (.list vs)->atV vs i=G3 v->Q v->IdxI a b H Q
 |dic (j:Nat) (es:List (List Nat×V)) (k:List Nat) (v:V):a= .obj j->b= .str k->H[j]?=G3 (.dict es)->getD k es=G3 v->Q v->IdxI a b H Q
theorem idx_rest{a b:V}{H:Hp}{Q:V->Prop}(h:(match kd b with|2=>intP b λi=>atL a H λ_ vs=>ifS (atV vs i) Q|_=>strP b λs=>atD a H λ_ es=>ifS (getD s es) Q)):IdxI a b H Q:=by
 induction b using V.casesOn with
 |int i=>refine zF (yn (f:=λ_ vs=>ifS (atV vs i) Q) h) λj vs e e1 h=>?_;refine za (zq h) λv e2 h=>?_;exact .lst j vs i v e rfl e1 e2 h
 |str k=>refine zF (XF (f:=λ_ es=>ifS (getD k es) Q) h) λj es e e1 h=>?_;refine za (zq h) λv e2 h=>?_;exact .dic j es k v e rfl e1 e2 h
 |_=>exact h.elim
theorem idx_iff{a b:V}{H:Hp}{Q:V->Prop}(h:idx a b H Q):IdxI a b H Q:=by
 induction a using V.casesOn with
 |tup vs=>refine za (zy (f:=λi=>gd (Gj vs.length 1000) (ifS (atV vs i) Q)) h) λi e0 h=>?_;refine zh (gd_iff.mp h) λh1 h=>?_;refine za (zq h) λv e h=>?_;exact .tup vs i v rfl e0 h1 e h
 |str x=>refine za (zy (f:=λi=>natP i λi=>gd (Gj x.length 1000) (ifS x[i]? λc=>Q (.str [c]))) h) λi e0 h=>?_;refine za (yE h) λi e1 h=>?_;subst e1;refine zh (gd_iff.mp h) λh1 h=>?_;refine za (zq h) λc e h=>?_;exact .str x i c rfl e0 h1 e h
 |_=>exact idx_rest h
inductive SlcI (sc:List Int) (a lo hi:V) (H:Hp) (Q:V->Hp->Prop):Prop
 |str (x:List Nat) (l m:Nat):a= .str x->lo= .int (.ofNat l)->hi= .int (.ofNat m)->(Gj l m && Gj x.length 1000)=G6->Q (.str (cut l m x)) H->SlcI sc a lo hi H Q
 |lst (j:Nat) (vs:List V) (m:Int):a= .obj j->lo= .none->hi= .int m->H[j]?=G3 (.list vs)->Q (.obj H.length) (H++[O.list (vs.take (Yi vs.length m))])->SlcI sc a lo hi H Q
 |scr (m:Nat):a= .scr->lo= .none->hi= .int (.ofNat m)->Gj m 1000=G6->Q (.obj H.length) (H++[O.list ((sc.take m).map .int)])->SlcI sc a lo hi H Q
theorem kY{sc:List Int}{a lo hi:V}{H:Hp}{Q:V->Hp->Prop}(h:slice sc a lo hi H Q):SlcI sc a lo hi H Q:=by
 induction a using V.casesOn with
 |str x=>refine za (zy (f:=λl=>natP l λl=>intP hi λh=>natP h λh=>gd (Gj l h && Gj x.length 1000) (Q (.str (cut l h x)) H)) h) λl e0 h=>?_;refine za (yE h) λl q h=>?_;subst q;refine za (zy h) λm e1 h=>?_;refine za (yE h) λm q h=>?_;subst q;refine zh (gd_iff.mp h) λh1 h=>?_;exact .str x l m rfl e0 e1 h1 h
 |obj j=>refine zF (yn (v:=.obj j) (f:=λ_ vs=>ym lo (intP hi λh=>Q (.obj H.length) (H++[O.list (vs.take (Yi vs.length h))]))) h) λj vs e e1 h=>?_;refine zh (ZG h) λe0 h=>?_;refine za (zy h) λm e2 h=>?_;exact .lst j vs m e e0 e2 e1 h
 |scr=>refine zh (ZG (p:=intP hi λh=>natP h λh=>gd (Gj h 1000) (Q (.obj H.length) (H++[O.list ((sc.take h).map .int)]))) h) λe0 h=>?_;refine za (zy h) λm e1 h=>?_;refine za (yE h) λm q h=>?_;subst q;refine zh (gd_iff.mp h) λh1 h=>?_;exact .scr m rfl e0 e1 h1 h
 |_=>exact h.elim
section
variable {T:Tp} {E:Lg} {ρ:Rn} {u:G9}
theorem VR.ofInt{i:Int}(h:VR T E ρ (.int i) u):∃t,u= .int i t:=by cases h;exact⟨_,rfl⟩
theorem VR.ofStr{x:List Nat}(h:VR T E ρ (.str x) u):∃t,u= .str (strL x) t:=by cases h;exact⟨_,rfl⟩
theorem VR.ofObj{i:Nat}(h:VR T E ρ (.obj i) u):∃a d,u= .ref a/\ρ[i]?=G3 (a,d):=by cases h with|obj h=>exact⟨_,_,rfl,h⟩
theorem VR.ofTup{vs:List V}(h:VR T E ρ (.tup vs) u):∃us a,u= .ref a/\TupAt T.K E a us/\VRs T E ρ vs us:=by cases h with|tup h r=>exact⟨_,_,rfl,h,r⟩
theorem VR.ofFn{k:Nat}(h:VR T E ρ (.fn k) u):∃a,u= .ref a/\LamAt T E k a:=by cases h with|fn h=>exact⟨_,rfl,h⟩
theorem VR.ofNone(h:VR T E ρ .none u):u= .none:=by cases h;rfl
theorem VR.ofBool{b:Bool}(h:VR T E ρ (.bool b) u):u= .bool b:=by cases h;rfl
theorem VR.ofScr(h:VR T E ρ .scr u):u= .ref T.scr:=by cases h;rfl
theorem VRs.of0{us:List G9}(h:VRs T E ρ [] us):us=[]:=by cases h;rfl
theorem VRs.ofCons{v:V}{vs:List V}{us:List G9}(h:VRs T E ρ (v::vs) us):∃x r,us=x::r/\VR T E ρ v x/\VRs T E ρ vs r:=by cases h with|cons h r=>exact⟨_,_,rfl,h,r⟩
theorem VRs.of1{a:V}{us:List G9}(h:VRs T E ρ [a] us):∃x,us=[x]/\VR T E ρ a x:=by refine zF h.ofCons λx r e p q=>?_;exact⟨x,by rw[e,q.of0],p⟩
theorem VRs.of2{a b:V}{us:List G9}(h:VRs T E ρ [a,b] us):∃x y,us=[x,y]/\VR T E ρ a x/\VR T E ρ b y:=by refine zF h.ofCons λx r e p q=>?_;refine za q.of1 λy e' q=>?_;exact⟨x,y,by rw[e,e'],p,q⟩
end
abbrev QV:=V->Hp->Prop
abbrev QX:=Nat->Hp->Prop
def X0:QX:=λ_ _=>False
def Dt(F:QV->QX->Prop):Prop:=∀Q,F Q X0->∃v H,Q v H/\∀Q' X,Q' v H->F Q' X
theorem zD{v:V}{H:Hp}:Dt λQ _=>Q v H:=λ_ h=>⟨v,H,h,λ_ _ h=>h⟩
theorem dtNo:Dt λ_ _=>False:=λ_ h=>h.elim
theorem zM{F:QV->QX->Prop}{G:V->Hp->QV->QX->Prop}(f:Dt F)(g:∀v H,Dt (G v H)):Dt λQ X=>F (λv H=>G v H Q X) X:=λQ h=>
 zf (f _ h) λv H h r=>zf (g v H Q h) λu H' q r'=>⟨u,H',q,λQ' X q'=>r _ X (r' Q' X q')⟩
theorem ul{F:QV->QX->Prop}{G:V->Hp->QV->QX->Prop}(f:Dt F)(g:∀v H,Dt (G v H)):Dt λQ X=>F (λv H=>G v H Q X) X0:=λQ h=>
 zf (f _ h) λv H h r=>zf (g v H Q h) λu H' q r'=>⟨u,H',q,λQ' X q'=>r _ X0 (r' Q' X q')⟩
theorem dtGd{b:Bool}{F:QV->QX->Prop}(f:b=G6->Dt F):Dt λQ X=>gd b (F Q X):=by
 rcases b with _|_
 ·exact dtNo
 ·exact f rfl
theorem dtIf{α:Type}{o:Option α}{F:α->QV->QX->Prop}(f:∀a,o=G3 a->Dt (F a)):Dt λQ X=>ifS o λa=>F a Q X:=by
 rcases o with _|a
 ·exact dtNo
 ·exact f a rfl
theorem uk{b:Bool}{F G:QV->QX->Prop}(f:Dt F)(g:Dt G):Dt λQ X=>ite2 b (F Q X) (G Q X):=by
 rcases b with _|_
 ·exact g
 ·exact f
theorem yL{v:V}{F:Int->QV->QX->Prop}(f:∀a,Dt (F a)):Dt λQ X=>intP v λa=>F a Q X:=by rcases v<;>first|exact f _|exact dtNo
theorem jg{v:V}{F:List Nat->QV->QX->Prop}(f:∀a,Dt (F a)):Dt λQ X=>strP v λa=>F a Q X:=by rcases v<;>first|exact f _|exact dtNo
theorem Xv{v:V}{F:List V->QV->QX->Prop}(f:∀a,Dt (F a)):Dt λQ X=>tupP v λa=>F a Q X:=by rcases v<;>first|exact f _|exact dtNo
theorem dtFn{v:V}{F:Nat->QV->QX->Prop}(f:∀a,Dt (F a)):Dt λQ X=>fnP v λa=>F a Q X:=by rcases v<;>first|exact f _|exact dtNo
theorem dtObj{v:V}{F:Nat->QV->QX->Prop}(f:∀a,Dt (F a)):Dt λQ X=>objP v λa=>F a Q X:=by rcases v<;>first|exact f _|exact dtNo
theorem uh{v:V}{F:QV->QX->Prop}(f:Dt F):Dt λQ X=>ym v (F Q X):=by rcases v<;>first|exact f|exact dtNo
theorem dtScr{v:V}{F:QV->QX->Prop}(f:Dt F):Dt λQ X=>scrP v (F Q X):=by rcases v<;>first|exact f|exact dtNo
theorem jh{i:Int}{F:Nat->QV->QX->Prop}(f:∀a,Dt (F a)):Dt λQ X=>natP i λa=>F a Q X:=by rcases i<;>first|exact f _|exact dtNo
theorem dtI{v:V}{H:Hp}{F:Nat->Nat->List (Nat×V)->QV->QX->Prop}(f:∀i c fs,Dt (F i c fs)):Dt λQ X=>atI v H λi c fs=>F i c fs Q X:=
 dtObj λ_=>dtIf λo _=>by rcases o<;>first|exact f _ _ _|exact dtNo
theorem dtL{v:V}{H:Hp}{F:Nat->List V->QV->QX->Prop}(f:∀i vs,Dt (F i vs)):Dt λQ X=>atL v H λi vs=>F i vs Q X:=
 dtObj λ_=>dtIf λo _=>by rcases o<;>first|exact f _ _|exact dtNo
theorem dtD{v:V}{H:Hp}{F:Nat->List (List Nat×V)->QV->QX->Prop}(f:∀i vs,Dt (F i vs)):Dt λQ X=>atD v H λi vs=>F i vs Q X:=
 dtObj λ_=>dtIf λo _=>by rcases o<;>first|exact f _ _|exact dtNo
theorem dt0{as:List V}{F:QV->QX->Prop}(f:Dt F):Dt λQ X=>arg0 as (F Q X):=by rcases as with _|⟨a,r⟩<;>first|exact f|exact dtNo
theorem dt1{as:List V}{F:V->QV->QX->Prop}(f:∀a,Dt (F a)):Dt λQ X=>arg1 as λa=>F a Q X:=by rcases as with _|⟨a,_|⟨b,r⟩⟩<;>first|exact f _|exact dtNo
theorem dt2{as:List V}{F:V->V->QV->QX->Prop}(f:∀a b,Dt (F a b)):Dt λQ X=>arg2 as λa b=>F a b Q X:=by rcases as with _|⟨a,_|⟨b,_|⟨c,r⟩⟩⟩<;>first|exact f _ _|exact dtNo
section
variable {H:Hp}
theorem addP_dt{a b:V}:Dt λQ _=>addP a b H Q:=by
 have rest:Dt λQ _=>atL a H λ_ x=>atL b H λ_ y=>gd (Gj (x.length+y.length) 1000) (Q (.obj H.length) (H++[O.list (x++y)])):=dtL λ_ _=>dtL λ_ _=>dtGd λ_=>zD;rcases a with _|_|x|x|_|_|_|_|_|_<;>try exact rest
 ·exact yL (v:=b) (F:=λy Q _=>Q (.int (x+y)) H) λ_=>zD
 ·exact jg (v:=b) (F:=λy Q _=>gd (Gj (x.length+y.length) 1000) (Q (.str (x++y)) H)) λ_=>dtGd λ_=>zD
theorem binop_dt{o:Op}{a b:V}:Dt λQ _=>binop o a b H Q:=by
 rcases o
 ·exact addP_dt
 ·exact yL λ_=>yL λ_=>zD
 ·exact yL λ_=>yL λ_=>dtGd λ_=>zD
 ·exact yL λ_=>yL λ_=>dtGd λ_=>zD
 ·exact yL λ_=>yL λ_=>dtGd λ_=>zD
theorem idx_dt{a b:V}:Dt λQ _=>idx a b H λw=>Q w H:=by
 have rest:Dt λQ _=>(match kd b with|2=>intP b λi=>atL a H λ_ vs=>ifS (atV vs i) λw=>Q w H|_=>strP b λs=>atD a H λ_ es=>ifS (getD s es) λw=>Q w H):=by
  rcases b with _|_|i|s|_|_|_|_|_|_<;>try exact dtNo
  ·exact dtL (v:=a) (H:=H) (F:=λ_ vs Q _=>ifS (atV vs i) λw=>Q w H) λ_ _=>dtIf λ_ _=>zD
  ·exact dtD (v:=a) (H:=H) (F:=λ_ vs Q _=>ifS (getD s vs) λw=>Q w H) λ_ _=>dtIf λ_ _=>zD
 rcases a with _|_|_|x|_|vs|_|_|_|_<;>try exact rest
 ·exact yL (v:=b) (F:=λi Q _=>natP i λi=>gd (Gj x.length 1000) (ifS x[i]? λc=>Q (.str [c]) H)) λ_=>jh λ_=>dtGd λ_=>dtIf λ_ _=>zD
 ·exact yL (v:=b) (F:=λi Q _=>gd (Gj vs.length 1000) (ifS (atV vs i) λw=>Q w H)) λ_=>dtGd λ_=>dtIf λ_ _=>zD
theorem J7{sc:List Int}{a lo hi:V}:Dt λQ _=>slice sc a lo hi H Q:=by
 have rest:Dt λQ _=>scrP a (ym lo (intP hi λh=>natP h λh=>gd (Gj h 1000) (Q (.obj H.length) (H++[O.list ((sc.take h).map .int)])))):=
  dtScr (uh (yL λ_=>jh λ_=>dtGd λ_=>zD))
 rcases a with _|_|_|s|i|_|_|_|_|_<;>try exact rest
 ·exact yL (v:=lo) (F:=λl Q _=>natP l λl=>intP hi λh=>natP h λh=>gd (Gj l h && Gj s.length 1000) (Q (.str (cut l h s)) H)) λ_=>jh λ_=>yL λ_=>jh λ_=>dtGd λ_=>zD
 ·exact dtL (v:=.obj i) (H:=H) (F:=λ_ vs Q _=>ym lo (intP hi λh=>Q (.obj H.length) (H++[O.list (vs.take (Yi vs.length h))]))) λ_ _=>uh (yL λ_=>zD)
theorem uI{b:Bf}{as:List V}:Dt λQ _=>bfun b as H Q:=by
 rcases b
 ·refine dt1 λa=>?_;have rest:Dt λQ _=>atL a H λ_ vs=>Q (.int vs.length) H:=dtL λ_ _=>zD;rcases a with _|_|_|s|_|_|_|_|_|_<;>first|exact rest|exact dtGd λ_=>zD
 ·refine dt1 λa=>?_;rcases a with _|_|_|s|_|_|_|_|_|_<;>first|exact zD|exact dtNo|exact dtIf (o:=digits s) (F:=λn Q _=>gd (Gj 1 s.length && Gj s.length 4) (Q (.int n) H)) λ_ _=>dtGd λ_=>zD
 ·exact dt1 λ_=>yL λ_=>dtGd λ_=>zD
 ·exact dt1 λ_=>dtL λ_ _=>dtIf λ_ _=>zD
 ·exact dt1 λ_=>Xv λ_=>zD
 ·exact dt2 λ_ _=>yL λ_=>yL λ_=>zD
 ·exact dt1 λ_=>yL λ_=>jh λ_=>dtGd λ_=>zD
 ·refine dt1 λ_=>jg λs=>?_;rcases s with _|⟨c,_|⟨d,r⟩⟩<;>first|exact dtNo|exact zD
 ·exact dt1 λ_=>dtD λ_ _=>zD
 ·exact dt1 λ_=>yL λ_=>jh λ_=>dtGd λ_=>zD
theorem JG{b:Bm}{a:V}{as:List V}:Dt λQ _=>jY b a as H Q:=by
 rcases b
 ·exact dtL λ_ _=>dt1 λ_=>dtGd λ_=>zD
 ·exact dtL λ_ _=>dt1 λ_=>dtL λ_ _=>dtGd λ_=>zD
 ·refine dtL λi vs=>dt0 ?_;rcases vs.reverse<;>first|exact dtNo|exact zD
 ·exact dtL λ_ _=>dt2 λ_ _=>yL λ_=>jh λ_=>dtGd λ_=>zD
 ·refine jg λs=>dt1 λ_=>jg λx=>?_;show Dt λQ _=>(match x with|[32]=>gd (splitCs.any (eqS s)) (Q (.obj H.length) (H++[O.list ((yF s).map .str)]))|_=>False)
  split
  ·exact dtGd λ_=>zD
  ·exact dtNo
 ·refine jg λs=>dt2 λ_ _=>jg λx=>?_;rcases x with _|⟨c,_|⟨d,r⟩⟩<;>try exact dtNo
  exact yL λ_=>jh λ_=>zD
 ·exact jg λ_=>dt1 λ_=>dtL λ_ _=>dtIf λ_ _=>dtGd λ_=>zD
 ·exact dtD λ_ _=>dt2 λ_ _=>jg λ_=>zD
end
def OrcD(C:Orc):Prop:=∀f as H,Dt (C f as H)
def DtE(f:QX->Lc->Hp->QV->Prop):Prop:=∀L H,Dt λQ X=>f X L H Q
def DtG{α:Type}(F:(α->Hp->Prop)->QX->Prop):Prop:=∀Q,F Q X0->∃v H,Q v H/\∀Q' X,Q' v H->F Q' X
theorem dgBind{α:Type}{F:(α->Hp->Prop)->QX->Prop}{G:α->Hp->QV->QX->Prop}(f:DtG F)(g:∀v H,Dt (G v H)):Dt λQ X=>F (λv H=>G v H Q X) X:=λQ h=>
 Gf (f _ h) λv h=>za h λH h r=>zf (g v H Q h) λu H' q r'=>⟨u,H',q,λQ' X q'=>r _ X (r' Q' X q')⟩
theorem dgGd{α:Type}{b:Bool}{F:(α->Hp->Prop)->QX->Prop}(f:DtG F):DtG λQ X=>gd b (F Q X):=by
 rcases b with _|_
 ·exact λ_ h=>h.elim
 ·exact f
theorem jW{α β:Type}{F:(α->Hp->Prop)->QX->Prop}{G:α->Hp->(β->Hp->Prop)->QX->Prop}(f:DtG F)(g:∀v H,DtG (G v H)):DtG λQ X=>F (λv H=>G v H Q X) X:=λQ h=>
 Gf (f _ h) λv h=>za h λH h r=>Gf (g v H Q h) λu h=>za h λH' q r'=>⟨u,H',q,λQ' X q'=>r _ X (r' Q' X q')⟩
theorem dgIte{α:Type}{b:Bool}{F G:(α->Hp->Prop)->QX->Prop}(f:DtG F)(g:DtG G):DtG λQ X=>ite2 b (F Q X) (G Q X):=by
 rcases b with _|_
 ·exact g
 ·exact f
theorem dgIf{α β:Type}{o:Option β}{F:β->(α->Hp->Prop)->QX->Prop}(f:∀a,DtG (F a)):DtG λQ X=>ifS o λa=>F a Q X:=by
 rcases o with _|a
 ·exact λ_ h=>h.elim
 ·exact f a
theorem dgRet{α:Type}{v:α}{H:Hp}:DtG λQ _=>Q v H:=λ_ h=>⟨v,H,h,λ_ _ h=>h⟩
theorem Xy{elt:Lc->Hp->QV->Prop}{cond:Lc->Hp->(Bool->Hp->Prop)->Prop}(he:∀L H,Dt λQ _=>elt L H Q)(hc:∀L H,DtG λQ _=>cond L H Q){n:Nat}{cap:Lc}{it:It} :
  ∀(vs acc:List V) (H:Hp),DtG λQ _=>YT elt cond n cap it vs acc H Q
 |[],_,_=>dgRet
 |v::r,acc,H=>dgGd (jW (G:=λb H₁ Q _=>ite2 b (elt (zJ (Gi n 1) v++cap) H₁ λu H₂=>gd (it.stands H₂) (YT elt cond n cap it r (u::acc) H₂ Q)) (gd (it.stands H₁) (YT elt cond n cap it r acc H₁ Q))) (hc _ _) λb H₁=>
   dgIte (jW (F:=λQ _=>elt (zJ (Gi n 1) v++cap) H₁ Q) (he _ _) λu H₂=>dgGd (Xy he hc r _ _)) (dgGd (Xy he hc r _ _)))
theorem Za{P:Prg}{C:Orc}(M:OrcD C)(e:E):DtE (ev P C e):=by
 induction e with
 |bad=>exact λ_ _=>dtNo
 |c z0=>exact λ_ _=>zD
 |l z0=>exact λ_ _=>dtIf λ_ _=>zD
 |g z0 z1=>exact λ_ _=>zD
 |a e z1 i_e=>exact λL H=>zM (i_e L H) λ_ _=>dtI λ_ _ _=>dtGd λ_=>dtIf λ_ _=>zD
 |bin z0 a b i_a i_b=>exact λL H=>zM (i_a L H) λ_ _=>zM (i_b L _) λ_ _=>binop_dt
 |cmp z0 a b i_a i_b=>exact λL H=>zM (i_a L H) λ_ _=>zM (i_b L _) λ_ _=>dtIf λ_ _=>zD
 |cmp2 z0 z1 a b c i_a i_b i_c=>exact λL H=>zM (i_a L H) λ_ _=>zM (i_b L _) λ_ _=>dtIf λ_ _=>uk (zM (i_c L _) λ_ _=>dtIf λ_ _=>zD) zD
 |not a i_a=>exact λL H=>zM (i_a L H) λ_ _=>dtIf λ_ _=>zD
 |and a b i_a i_b=>exact λL H=>zM (i_a L H) λ_ _=>dtIf λ_ _=>uk (i_b L _) zD
 |or a b i_a i_b=>exact λL H=>zM (i_a L H) λ_ _=>dtIf λ_ _=>uk zD (i_b L _)
 |ifx c a b i_c i_a i_b=>exact λL H=>zM (i_c L H) λ_ _=>dtIf λ_ _=>uk (i_a L _) (i_b L _)
 |call z0 as i_as=>exact λL H=>zM (i_as L H) λ_ _=>Xv λ_=>M _ _ _
 |bf z0 as i_as=>exact λL H=>zM (i_as L H) λ_ _=>Xv λ_=>uI
 |meth a z1 as i_a i_as=>exact λL H=>zM (i_a L H) λ_ _=>dtI λ_ _ _=>dtIf λ_ _=>zM (i_as L _) λ_ _=>Xv λ_=>M _ _ _
 |bm z0 a as i_a i_as=>exact λL H=>zM (i_a L H) λ_ _=>dtGd λ_=>zM (i_as L _) λ_ _=>Xv λ_=>JG
 |callv f as i_f i_as=>exact λL H=>zM (i_f L H) λ_ _=>dtFn λ_=>zM (i_as L _) λ_ _=>Xv λ_=>M _ _ _
 |idx a b i_a i_b=>exact λL H=>zM (i_a L H) λ_ _=>zM (i_b L _) λ_ _=>idx_dt
 |slice a l h i_a i_l i_h=>exact λL H=>zM (i_a L H) λ_ _=>zM (i_l L _) λ_ _=>zM (i_h L _) λ_ _=>J7
 |rev a i_a=>exact λL H=>zM (i_a L H) λ_ _=>dtL λ_ _=>zD
 |tup es i_es=>exact i_es
 |lst es i_es=>exact λL H=>zM (i_es L H) λ_ _=>Xv λ_=>dtGd λ_=>zD
 |dct es i_es=>exact λL H=>ul (i_es L H) λ_ _=>Xv λ_=>dtGd λ_=>zD
 |comp elt i cond n caps i_elt i_i i_cond=>
  exact λL H=>zM (i_i L H) λ_ _=>dtIf λit _=>
   dgBind (F:=λQ _=>YT (ev P C elt X0) (λl H q=>ev P C cond X0 l H λv H'=>ifS (yD v H') λb=>q b H') n (caps.map λk=>(L[k]?).getD .bad) it it.items [] _ Q)
    (Xy (λl H Q h=>zf (i_elt l H Q h) λv H' q r=>⟨v,H',q,λQ' _=>r Q' X0⟩) (λl H=>jW (F:=λQ _=>ev P C cond X0 l H Q) (λQ h=>zf (i_cond l H Q h) λv H' q r=>⟨v,H',q,λQ' _=>r Q' X0⟩) λ_ _=>dgIf λ_=>dgRet) _ _ _)
    λ_ _=>dtGd λ_=>zD
 |lam z0=>exact λ_ _=>zD
 |nil=>exact λ_ _=>zD
 |cons a b i_a i_b=>exact λL H=>zM (i_a L H) λ_ _=>zM (i_b L _) λ_ _=>Xv λ_=>zD
def Ds(F:KS->QX->Prop):Prop:=∀Q,F Q X0->∃fl L' H',Q fl L' H'/\∀(Q':KS) X,Q' fl L' H'->F Q' X
theorem Z4{f:Fl}{L:Lc}{H:Hp}:Ds λQ _=>Q f L H:=λ_ h=>⟨f,L,H,h,λ_ _ h=>h⟩
theorem dsNo:Ds λ_ _=>False:=λ_ h=>h.elim
theorem dsE{F:QV->QX->Prop}{G:V->Hp->KS->QX->Prop}(f:Dt F)(g:∀v H,Ds (G v H)):Ds λQ X=>F (λv H=>G v H Q X) X:=λQ h=>
 zf (f _ h) λv H h r=>zA (g v H Q h) λu L' H' q r'=>⟨u,L',H',q,λQ' X q'=>r _ X (r' Q' X q')⟩
theorem um{F:KS->QX->Prop}{G:Fl->Lc->Hp->KS->QX->Prop}(f:Ds F)(g:∀f L H,Ds (G f L H)):Ds λQ X=>F (λf L H=>G f L H Q X) X:=λQ h=>
 zA (f _ h) λv L H h r=>zA (g v L H Q h) λu L' H' q r'=>⟨u,L',H',q,λQ' X q'=>r _ X (r' Q' X q')⟩
theorem dsGd{b:Bool}{F:KS->QX->Prop}(f:Ds F):Ds λQ X=>gd b (F Q X):=by
 rcases b with _|_
 ·exact dsNo
 ·exact f
theorem dsIf{α:Type}{o:Option α}{F:α->KS->QX->Prop}(f:∀a,Ds (F a)):Ds λQ X=>ifS o λa=>F a Q X:=by
 rcases o with _|a
 ·exact dsNo
 ·exact f a
theorem dsIte{b:Bool}{F G:KS->QX->Prop}(f:Ds F)(g:Ds G):Ds λQ X=>ite2 b (F Q X) (G Q X):=by
 rcases b with _|_
 ·exact g
 ·exact f
theorem dsFl{f:Fl}{F G:KS->QX->Prop}{R:V->KS->QX->Prop}(n:Ds F)(b:Ds G)(r:∀v,Ds (R v)):Ds λQ X=>flP f (F Q X) (G Q X) λv=>R v Q X:=by
 rcases f with _|_|v
 ·exact n
 ·exact b
 ·exact r v
theorem dsNone{v:V}{F:KS->QX->Prop}(f:Ds F):Ds λQ X=>ym v (F Q X):=by rcases v<;>first|exact f|exact dsNo
theorem dsObj{v:V}{F:Nat->KS->QX->Prop}(f:∀a,Ds (F a)):Ds λQ X=>objP v λa=>F a Q X:=by rcases v<;>first|exact f _|exact dsNo
theorem dsI{v:V}{H:Hp}{F:Nat->Nat->List (Nat×V)->KS->QX->Prop}(f:∀i c fs,Ds (F i c fs)):Ds λQ X=>atI v H λi c fs=>F i c fs Q X:=
 dsObj λ_=>dsIf λo=>by rcases o<;>first|exact f _ _ _|exact dsNo
theorem dsL{v:V}{H:Hp}{F:Nat->List V->KS->QX->Prop}(f:∀i vs,Ds (F i vs)):Ds λQ X=>atL v H λi vs=>F i vs Q X:=
 dsObj λ_=>dsIf λo=>by rcases o<;>first|exact f _ _|exact dsNo
theorem dsD{v:V}{H:Hp}{F:Nat->List (List Nat×V)->KS->QX->Prop}(f:∀i vs,Ds (F i vs)):Ds λQ X=>atD v H λi vs=>F i vs Q X:=
 dsObj λ_=>dsIf λo=>by rcases o<;>first|exact f _ _|exact dsNo
theorem dsNat{i:Int}{F:Nat->KS->QX->Prop}(f:∀a,Ds (F a)):Ds λQ X=>natP i λa=>F a Q X:=by rcases i<;>first|exact f _|exact dsNo
theorem kJ{t:QX->Lc->Hp->(Bool->Hp->Prop)->Prop}{b:QX->Lc->Hp->KS->Prop}(ht:∀L H,DtG λQ X=>t X L H Q)(hb:∀L H,Ds λQ X=>b X L H Q):∀n L H,Ds λQ X=>Yu (t X) (b X) n L H Q:=by
 intro n
 induction n with
 |zero=>intro y1 y2;exact dsNo
 |succ n ih=>intro L H;exact λQ h=>Gf (ht L H _ h) λc h=>za h λH₁ h r=>zA (dsIte (b:=c) (um (hb L H₁) λf Uh H₂=>dsFl (f:=f) (ih Uh H₂) Z4 λv=>Z4) Z4 Q h) λu L' H' q r'=>⟨u,L',H',q,λQ' X q'=>r _ X (r' Q' X q')⟩
theorem KZ{b:QX->Lc->Hp->KS->Prop}(hb:∀L H,Ds λQ X=>b X L H Q){ks:List Nat}{one:Bool}{it:It}:∀vs L H,Ds λQ X=>forL (b X) ks one it vs L H Q:=by
 intro vs
 induction vs with
 |nil=>intro y1 y2;exact Z4
 |cons z0 r ih=>intro y1 H;exact dsIf λL₁=>um (hb L₁ H) λ_ Uh H₂=>dsFl (dsGd (ih Uh H₂)) Z4 λ_=>Z4
set_option tactic.hygienic true in
theorem u8{P:Prg}{f:Nat}{vs:List V}{H:Hp}:¬Jv P f vs H X0:=by
 show ¬(match P.fn f with
  |some fn=>fltB fn.body λk e=>gd (P.exc k) (ifS (Zl fn vs) λL=>ev P C0 e (λ_ _=>False) L H λv H'=>strP v λ_=>X0 k H')
  |none=>gd (P.exc f && Yy vs) (X0 f H))
 rcases P.fn f with _|fn
 ·exact λh=>(gd_iff.mp h).2
 ·show ¬fltB fn.body λk e=>gd (P.exc k) (ifS (Zl fn vs) λL=>ev P C0 e X0 L H λv H'=>strP v λ_=>X0 k H');rcases fn.body<;>try exact id
  rename_i k e;refine λh=>?_;refine za (zq (gd_iff.mp h).2) λL _ h=>?_;refine zf (Za (C:=C0) (λ_ _ _=>dtNo) e L H _ h) λv H' h _=>?_;exact(za (yw h) λ_ _ h=>h)
def ExD(P:Prg)(C:Orc)(w:Nat)(s:S):Prop:=∀(L:Lc) (H:Hp),Ds λQ X=>ex P C X w s L H Q
theorem ex_dt{P:Prg}{C:Orc}(M:OrcD C)(w:Nat)(s:S):ExD P C w s:=by
 induction s with
 |bad=>exact λ_ _=>dsNo
 |nop=>exact λ_ _=>Z4
 |seq a b i_a i_b=>exact λL H=>um (i_a L H) λ_ _ _=>dsFl (i_b _ _) Z4 λ_=>Z4
 |ret e=>exact λL H=>dsE (Za M e L H) λ_ _=>Z4
 |ex e=>exact λL H=>dsE (Za M e L H) λ_ _=>dsNone Z4
 |set z0 e=>exact λL H=>dsE (Za M e L H) λ_ _=>Z4
 |setA a z1 e=>exact λL H=>dsE (Za M e L H) λ_ _=>dsE (Za M a L _) λ_ _=>dsI λ_ _ _=>dsGd Z4
 |setI a i e=>
  exact λL H=>dsE (Za M e L H) λ_ _=>dsE (Za M a L _) λu _=>dsE (Za M i L _) λk U5=>by
   rcases k with _|_|n|s|_|_|_|_|_|_<;>try exact dsNo
   ·exact dsNat (i:=n) (F:=λn Q _=>atL u U5 λj vs=>gd (D0 n vs.length) (Q .next L (U5.set j (.list (vs.set n _))))) λ_=>dsL λ_ _=>dsGd Z4
   ·exact dsD (v:=u) (H:=U5) (F:=λj es Q _=>gd (D0 es.length 1000) (Q .next L (U5.set j (.dict (setD s _ es))))) λ_ _=>dsGd Z4
 |unp z0 e=>exact λL H=>dsE (Za M e L H) λ_ _=>dsIf λ_=>dsIf λ_=>Z4
 |unp2 z0 z1 a b=>exact λL H=>dsE (Za M a L H) λ_ _=>dsE (Za M b L _) λ_ _=>Z4
 |ifs c a b i_a i_b=>exact λL H=>dsE (Za M c L H) λ_ _=>dsIf λ_=>dsIte (i_a L _) (i_b L _)
 |whl c b i_b=>exact kJ (λL H Q h=>zf (Za M c L H _ h) λv H₁ h r=>Gf (zq h) λt h=>⟨t,H₁,h.2,λQ' X q=>r _ X (Zp h.1 q)⟩) (i_b) w
 |for_ z0 e b i_b=>exact λL H=>dsE (Za M e L H) λ_ _=>dsIf λ_=>KZ (i_b) _ _ _
 |forT z0 e b i_b=>exact λL H=>dsE (Za M e L H) λ_ _=>dsIf λ_=>KZ (i_b) _ _ _
 |brk=>exact λ_ _=>Z4
 |raise f e=>exact λL H=>dsE (Za M e L H) λ_ _ Q h=>(za (Xc h) λ_ _ h=>u8 h).elim
 |fault k e=>exact λ_ _=>dsNo
 |tryc g k=>exact λ_ _=>dsNo
theorem Yo{P:Prg}{w:Nat}{C:Orc}(M:OrcD C)(fn:Fn):OrcD (yM P w C fn):=λf as H=>dtIf λL _=>λQ h=>
 zA (ex_dt M w fn.body L H _ h) λfl L' H' h r=>by
  rcases fl with _|_|v
  ·exact⟨.none,H',h,λQ' X q=>r _ X q⟩
  ·exact h.elim
  ·exact⟨v,H',h,λQ' X q=>r _ X q⟩
theorem ZR(P:Prg)(w:Nat):∀n,OrcD (zb P w n)
 |0=>λ_ _ _=>dtNo
 |n+1=>λf as H=>by
  show Dt λQ X=>(match P.fn f with
   |some fn=>ite2 (P.frm f)
     (gd (as.all Yg) (yM P w (zb P w n) fn f as [] (λv H'=>Q (shV H.length v) (H++H'.map (shO H.length))) X0))
     (yM P w (zb P w n) fn f as H Q X)
   |none=>(match P.cls f with
    |some i=>zb P w n i (.obj H.length::as) (H++[.inst f []]) (λv H₁=>ym v (Q (.obj H.length) H₁)) X0
    |none=>False))
  rcases P.fn f with _|fn
  ·rcases P.cls f with _|i
   ·exact dtNo
   ·exact ul (G:=λv H₁ Q _=>ym v (Q (.obj H.length) H₁)) (ZR P w n i _ _) λv H₁=>uh zD
  ·refine uk (dtGd λ_ Q h=>?_) (Yo (ZR P w n) fn f as H);refine zf (Yo (ZR P w n) fn f as [] _ h) λv H' h r=>⟨_,_,h,λQ' X q=>r _ _ q⟩
def isS(x:Str)(s:List Nat):Bool:=eqS x.cps.toList s
def zL(x y:Str):Bool:=eqS x.cps.toList y.cps.toList
noncomputable def Zo(k j:DY):Bool:=match k,j with
 |.local,.local=>G6|.cell,.cell=>G6|.free,.free=>G6|.globalImplicit,.globalImplicit=>G6|.globalExplicit,.globalExplicit=>G6
 |_,_=>G7
def zu(sc:GW)(x:Str)(k:DY):Bool:=match sc.names.find? (λp=>zL p.1 x) with|some p=>Zo p.2 k|none=>G7
structure Nm where
 glob:Nat->Option Str
 attr:Nat->Str
 meth:Nat->Str
 lamK:Nat
 lamP:Pos
 lamX:Str
 lamN:Str
noncomputable def bfName:Bf->Str
 |.len=>"len"|.int=>"int"|.str=>"str"|.sum=>"sum"|.tuple=>"tuple"|.max=>"max"|.chr=>"chr"|.ord=>"ord"|.list=>"list"|.range=>"range"
noncomputable def JH:Bm->Str
 |.append=>"append"|.extend=>"extend"|.pop=>"pop"|.insert=>"insert"|.split=>"split"|.find=>"find"|.join=>"join"|.get=>"get"
noncomputable def opIs:Op->Operator->Bool
 |.add,.Add=>G6|.sub,.Sub=>G6|.mul,.Mult=>G6|.fdiv,.FloorDiv=>G6|.mod,.Mod=>G6
 |_,_=>G7
noncomputable def coIs:Co->CmpOp->Bool
 |.eq,.Eq=>G6|.ne,.NotEq=>G6|.lt,.Lt=>G6|.le,.LtE=>G6|.gt,.Gt=>G6|.ge,.GtE=>G6|.is,.Is=>G6|.isnot,.IsNot=>G6|.isin,.In=>G6|.notin,.NotIn=>G6
 |_,_=>G7
def Kz:V->Const->Bool
 |.none,.none=>G6
 |.bool a,.bool b=>match a,b with|true,G6=>G6|false,G7=>G6|_,_=>G7
 |.int i,.int j=>decide (i=j)
 |.str s,.str x=>isS x s
 |_,_=>G7
def KT:V->Option (Option G9)->Bool
 |.int i,G3 (G3 (.int j _))=>decide (i=j)
 |.str s,G3 (G3 (.str x _))=>isS x s
 |_,_=>G7
noncomputable def yZ(x:G8):Bool:=!Gi x.ctorIdx 7
noncomputable def zT(x:G8):Bool:=!Gi x.ctorIdx 22
noncomputable def posEq(p q:Pos):Bool:=Gi p.line q.line && Gi p.col q.col
noncomputable def jc:ScopeKind->Bool
 |.function=>G6
 |_=>G7
theorem yW{k:ScopeKind}(h:jc k=G6):k= .function:=by rcases k<;>first|rfl|exact absurd h G4
noncomputable def Y9:List Str->Bool
 |[]=>G6
 |x::r=>r.all (λy=>!zL x y) && Y9 r
def Xx(sc csc:GW)(tg cap:List Str):Bool:=
 jc csc.kind &&
 (csc.names.all λp=>!Zo p.2 .cell && (!Zo p.2 .local ||zu csc p.1 .local) && (!Zo p.2 .free ||zu sc p.1 .cell)) &&
 (tg.all λx=>zu csc x .local) && (cap.all λx=>zu csc x .free) && (tg.all λx=>cap.all λy=>!zL x y) && Y9 tg
noncomputable def pick(tb:List Str)(ks:List Nat):List Str:=ks.map λk=>(tb[k]?).getD ⟨#[]⟩
noncomputable def ZE(x:G8):Bool:=!Gi x.ctorIdx 26
noncomputable def oB{α:Type}(o:Option α)(f:α->Bool):Bool:=match o with|some t=>f t|none=>G7
noncomputable def oN{α:Type}(o:Option α)(b:Bool)(f:α->Bool):Bool:=match o with|some t=>f t|none=>b
theorem ya{α:Type}{o:Option α}{f:α->Bool}(h:oB o f=G6):∃t,o=G3 t/\f t=G6:=by
 induction o using GD with
 |none=>exact absurd h G4
 |some t=>exact⟨t,rfl,h⟩
theorem an2{a b:Bool}(h:(a && b)=G6):a=G6/\b=G6:=GC.mp h
theorem an3{a b c:Bool}(h:(a && b && c)=G6):a=G6/\b=G6/\c=G6:=⟨(an2 (an2 h).1).1,(an2 (an2 h).1).2,(an2 h).2⟩
theorem an4{a b c d:Bool}(h:(a && b && c && d)=G6):a=G6/\b=G6/\c=G6/\d=G6:=⟨(an3 (an2 h).1).1,(an3 (an2 h).1).2.1,(an3 (an2 h).1).2.2,(an2 h).2⟩
theorem an5{a b c d e:Bool}(h:(a && b && c && d && e)=G6):a=G6/\b=G6/\c=G6/\d=G6/\e=G6:=⟨(an4 (an2 h).1).1,(an4 (an2 h).1).2.1,(an4 (an2 h).1).2.2.1,(an4 (an2 h).1).2.2.2,(an2 h).2⟩
theorem an6{a b c d e f:Bool}(h:(a && b && c && d && e && f)=G6):a=G6/\b=G6/\c=G6/\d=G6/\e=G6/\f=G6:=
 have q:=an5 (an2 h).1;⟨q.1,q.2.1,q.2.2.1,q.2.2.2.1,q.2.2.2.2,(an2 h).2⟩
theorem an7{a b c d e f g:Bool}(h:(a && b && c && d && e && f && g)=G6):a=G6/\b=G6/\c=G6/\d=G6/\e=G6/\f=G6/\g=G6:=
 have q:=an6 (an2 h).1;⟨q.1,q.2.1,q.2.2.1,q.2.2.2.1,q.2.2.2.2.1,q.2.2.2.2.2,(an2 h).2⟩
noncomputable def one?{α:Type}:List α->Option α
 |[x]=>G3 x
 |_=>Gb
noncomputable def two?{α:Type}:List α->Option (α×α)
 |[x,y]=>G3 (x,y)
 |_=>Gb
noncomputable def ht?{α:Type}:List α->Option (α×List α)
 |x::r=>G3 (x,r)
 |[]=>Gb
noncomputable def none?{α:Type}:List α->Bool
 |[]=>G6
 |_::_=>G7
theorem one_of{α:Type}{l:List α}{x:α}(h:one? l=G3 x):l=[x]:=by
 rcases l with _|⟨a,_|⟨b,r⟩⟩
 ·exact nn h
 ·exact congrArg (λz=>[z]) (Gm h)
 ·exact nn h
theorem two_of{α:Type}{l:List α}{x y:α}(h:two? l=G3 (x,y)):l=[x,y]:=by
 rcases l with _|⟨a,_|⟨b,_|⟨c,r⟩⟩⟩
 ·exact nn h
 ·exact nn h
 ·cases h;rfl
 ·exact nn h
theorem ht_of{α:Type}{l r:List α}{x:α}(h:ht? l=G3 (x,r)):l=x::r:=by
 rcases l with _|⟨a,l⟩
 ·exact nn h
 ·cases h;rfl
theorem zB{α:Type}{l:List α}(h:none? l=G6):l=[]:=by
 induction l using D8 with
 |nil=>rfl
 |cons _ _=>exact absurd h G4
noncomputable def vwE{α:Type}(x:G8)(k:Nat)(g:x.ctorIdx=k->Option α):Option α:=if e:x.ctorIdx=k then g e else Gb
theorem zH{α:Type}{x:G8}{k:Nat}{g:x.ctorIdx=k->Option α}{f:α->Bool}(h:oB (vwE x k g) f=G6):x.ctorIdx=k:=
 M8 λn=>absurd h ((congrArg (oB · f) (dif_neg n:vwE x k g=Gb)).symm▸G4)
def ZC(x:G8):Option Const:=vwE x 19 λe=>Mf x e λc _ _=>G3 c
def Zj(x:G8):Option (Str×Pos):=vwE x 23 λe=>MB x e λx p=>G3 (x,p)
def Xb(x:G8):Option (G8×Str×Pos):=vwE x 20 λe=>M9 x e λx n p=>G3 (x,n,p)
def vBin(x:G8):Option (G8×Operator×G8):=vwE x 2 λe=>Mu x e λx o y _=>G3 (x,o,y)
def vUn(x:G8):Option (UnaryOp×G8):=vwE x 3 λe=>Mk x e λo x _=>G3 (o,x)
def vBool(x:G8):Option (BoolOp×List G8×Pos):=vwE x 0 λe=>Mo x e λo xs p=>G3 (o,xs,p)
def vIfx(x:G8):Option (G8×G8×G8):=vwE x 5 λe=>Mv x e λx y z _=>G3 (x,y,z)
def vCmp(x:G8):Option (G8×List CmpOp×List G8):=vwE x 15 λe=>Ml x e λx o y _=>G3 (x,o,y)
def YY(x:G8):Option (G8×List G8×Pos):=vwE x 16 λe=>IK x e λg xs ks p=>cond (none? ks) (G3 (g,xs,p)) Gb
def YH(x:G8):Bool:=!oB (YY x) λt=>Gi t.1.ctorIdx 23 && none? t.2.1
def vSub(x:G8):Option (G8×G8):=vwE x 21 λe=>Ma x e λx y _=>G3 (x,y)
def J3(x:G8):Option (Option G8×Option G8×Option G8):=vwE x 26 λe=>Mw x e λx y z _=>G3 (x,y,z)
def vTup(x:G8):Option (List G8):=vwE x 25 λe=>Mx x e λxs _ _=>G3 xs
def vList(x:G8):Option (List G8):=vwE x 24 λe=>IL x e λxs _=>G3 xs
def vDict(x:G8):Option (List (Option G8)×List G8):=vwE x 6 λe=>MC x e λks xs _=>G3 (ks,xs)
def vLam(x:G8):Option (Fg×G8×GW×Pos):=vwE x 4 λe=>Mp x e λa b s p=>G3 (a,b,s,p)
def vComp(x:G8):Option (G8×List I1×GW×Pos):=vwE x 8 λe=>Mg x e λx g s p=>G3 (x,g,s,p)
noncomputable def ye:List G8->Option (List Str)
 |[]=>G3 []
 |e::r=>(Zj e).bind λn=>(ye r).map (n.1::·)
def ZV(e:G8):Option (List Str):=match Zj e with
 |some n=>G3 [n.1]
 |none=>(vTup e).bind λxs=>match xs with|_::_::_=>ye xs|[_]=>Gb|[]=>Gb
theorem KQ{x:G8}{f:Const->Bool}(h:oB (ZC x) f=G6):∃c k p,x= .Constant c k p/\f c=G6:=Mf (motive_1:=λx=>oB (ZC x) f=G6->∃c k p,x= .Constant c k p/\f c=G6) x (zH h) (λa0 a1 a2 h=>⟨a0,a1,a2,rfl,h⟩) h
theorem Yf{x:G8}{f:(Str×Pos)->Bool}(h:oB (Zj x) f=G6):∃y p,x= .Name y p/\f (y,p)=G6:=MB (motive_1:=λx=>oB (Zj x) f=G6->∃y p,x= .Name y p/\f (y,p)=G6) x (zH h) (λa0 a1 h=>⟨a0,a1,rfl,h⟩) h
theorem jO{x:G8}{f:(G8×Str×Pos)->Bool}(h:oB (Xb x) f=G6):∃o n p,x= .Attribute o n p/\f (o,n,p)=G6:=M9 (motive_1:=λx=>oB (Xb x) f=G6->∃o n p,x= .Attribute o n p/\f (o,n,p)=G6) x (zH h) (λa0 a1 a2 h=>⟨a0,a1,a2,rfl,h⟩) h
theorem iBin{x:G8}{f:(G8×Operator×G8)->Bool}(h:oB (vBin x) f=G6):∃y o z p,x= .BinOp y o z p/\f (y,o,z)=G6:=Mu (motive_1:=λx=>oB (vBin x) f=G6->∃y o z p,x= .BinOp y o z p/\f (y,o,z)=G6) x (zH h) (λa0 a1 a2 a3 h=>⟨a0,a1,a2,a3,rfl,h⟩) h
theorem iUn{x:G8}{f:(UnaryOp×G8)->Bool}(h:oB (vUn x) f=G6):∃o y p,x= .UnaryOp o y p/\f (o,y)=G6:=Mk (motive_1:=λx=>oB (vUn x) f=G6->∃o y p,x= .UnaryOp o y p/\f (o,y)=G6) x (zH h) (λa0 a1 a2 h=>⟨a0,a1,a2,rfl,h⟩) h
theorem iBool{x:G8}{f:(BoolOp×List G8×Pos)->Bool}(h:oB (vBool x) f=G6):∃o ys p,x= .BoolOp o ys p/\f (o,ys,p)=G6:=Mo (motive_1:=λx=>oB (vBool x) f=G6->∃o ys p,x= .BoolOp o ys p/\f (o,ys,p)=G6) x (zH h) (λa0 a1 a2 h=>⟨a0,a1,a2,rfl,h⟩) h
theorem iIfx{x:G8}{f:(G8×G8×G8)->Bool}(h:oB (vIfx x) f=G6):∃a b c p,x= .IfExp a b c p/\f (a,b,c)=G6:=Mv (motive_1:=λx=>oB (vIfx x) f=G6->∃a b c p,x= .IfExp a b c p/\f (a,b,c)=G6) x (zH h) (λa0 a1 a2 a3 h=>⟨a0,a1,a2,a3,rfl,h⟩) h
theorem iCmp{x:G8}{f:(G8×List CmpOp×List G8)->Bool}(h:oB (vCmp x) f=G6):∃a o ys p,x= .Compare a o ys p/\f (a,o,ys)=G6:=Ml (motive_1:=λx=>oB (vCmp x) f=G6->∃a o ys p,x= .Compare a o ys p/\f (a,o,ys)=G6) x (zH h) (λa0 a1 a2 a3 h=>⟨a0,a1,a2,a3,rfl,h⟩) h
theorem k9{x:G8}{f:(G8×List G8×Pos)->Bool}(h:oB (YY x) f=G6):∃g xs p,x= .Call g xs [] p/\f (g,xs,p)=G6:=
 IK (motive_1:=λx=>oB (YY x) f=G6->∃g xs p,x= .Call g xs [] p/\f (g,xs,p)=G6) x (zH h)
  (λg xs ks p=>List.rec (motive:=λks=>oB (YY (.Call g xs ks p)) f=G6->∃g' xs' p',PySem.Expr.Call g xs ks p= .Call g' xs' [] p'/\f (g',xs',p')=G6) (λh=>⟨g,xs,p,rfl,h⟩) (λ_ _ _ h=>absurd h G4) ks) h
theorem iSub{x:G8}{f:(G8×G8)->Bool}(h:oB (vSub x) f=G6):∃a b p,x= .Subscript a b p/\f (a,b)=G6:=Ma (motive_1:=λx=>oB (vSub x) f=G6->∃a b p,x= .Subscript a b p/\f (a,b)=G6) x (zH h) (λa0 a1 a2 h=>⟨a0,a1,a2,rfl,h⟩) h
theorem iSlice{x:G8}{f:(Option G8×Option G8×Option G8)->Bool}(h:oB (J3 x) f=G6):∃a b c p,x= .Slice a b c p/\f (a,b,c)=G6:=Mw (motive_1:=λx=>oB (J3 x) f=G6->∃a b c p,x= .Slice a b c p/\f (a,b,c)=G6) x (zH h) (λa0 a1 a2 a3 h=>⟨a0,a1,a2,a3,rfl,h⟩) h
theorem iTup{x:G8}{f:List G8->Bool}(h:oB (vTup x) f=G6):∃xs k p,x= .Tuple xs k p/\f xs=G6:=Mx (motive_1:=λx=>oB (vTup x) f=G6->∃xs k p,x= .Tuple xs k p/\f xs=G6) x (zH h) (λa0 a1 a2 h=>⟨a0,a1,a2,rfl,h⟩) h
theorem iList{x:G8}{f:List G8->Bool}(h:oB (vList x) f=G6):∃xs p,x= .List xs p/\f xs=G6:=IL (motive_1:=λx=>oB (vList x) f=G6->∃xs p,x= .List xs p/\f xs=G6) x (zH h) (λa0 a1 h=>⟨a0,a1,rfl,h⟩) h
theorem iDict{x:G8}{f:(List (Option G8)×List G8)->Bool}(h:oB (vDict x) f=G6):∃ks xs p,x= .Dict ks xs p/\f (ks,xs)=G6:=MC (motive_1:=λx=>oB (vDict x) f=G6->∃ks xs p,x= .Dict ks xs p/\f (ks,xs)=G6) x (zH h) (λa0 a1 a2 h=>⟨a0,a1,a2,rfl,h⟩) h
theorem iLam{x:G8}{f:(Fg×G8×GW×Pos)->Bool}(h:oB (vLam x) f=G6):∃a b s p,x= .Lambda a b s p/\f (a,b,s,p)=G6:=Mp (motive_1:=λx=>oB (vLam x) f=G6->∃a b s p,x= .Lambda a b s p/\f (a,b,s,p)=G6) x (zH h) (λa0 a1 a2 a3 h=>⟨a0,a1,a2,a3,rfl,h⟩) h
theorem iComp{x:G8}{f:(G8×List I1×GW×Pos)->Bool}(h:oB (vComp x) f=G6):∃y g s p,x= .ListComp y g s p/\f (y,g,s,p)=G6:=Mg (motive_1:=λx=>oB (vComp x) f=G6->∃y g s p,x= .ListComp y g s p/\f (y,g,s,p)=G6) x (zH h) (λa0 a1 a2 a3 h=>⟨a0,a1,a2,a3,rfl,h⟩) h
theorem iOne{α:Type}{l:List α}{f:α->Bool}(h:oB (one? l) f=G6):∃x,l=[x]/\f x=G6:=by refine za (ya h) ?_;clear h;intro x e h;exact⟨x,one_of e,h⟩
theorem iTwo{α:Type}{l:List α}{f:α×α->Bool}(h:oB (two? l) f=G6):∃x y,l=[x,y]/\f (x,y)=G6:=by obtain⟨⟨x,y⟩,e,h⟩:=ya h;exact⟨x,y,two_of e,h⟩
theorem iHt{α:Type}{l:List α}{f:α×List α->Bool}(h:oB (ht? l) f=G6):∃x r,l=x::r/\f (x,r)=G6:=by obtain⟨⟨x,y⟩,e,h⟩:=ya h;exact⟨x,y,ht_of e,h⟩
def KG(ps:Fg):Option Arg:=match none? ps.posonlyargs && ps.vararg.isNone && none? ps.kwonlyargs && none? ps.kw_defaults && ps.kwarg.isNone && none? ps.defaults with
 |true=>one? ps.args
 |false=>Gb
theorem ZH{α:Type}{o:Option α}(h:o.isNone=G6):o=Gb:=by
 induction o using GD with
 |none=>rfl
 |some _=>exact absurd h G4
theorem KE{ps:Fg}{a:Arg}(h:KG ps=G3 a):ps=⟨[],[a],Gb,[],[],Gb,[]⟩:=by
 obtain⟨b1,b2,b3,b4,b5,b6,b7⟩:=ps;have h:(match none? b1 && b3.isNone && none? b4 && none? b5 && b6.isNone && none? b7 with|true=>one? b2|false=>Gb)=G3 a:=h
 induction e:none? b1 && b3.isNone && none? b4 && none? b5 && b6.isNone && none? b7 using GN with
 |false=>rw[e] at h;exact nn h
 |true=>rw[e] at h;refine Yr (an6 e) ?_;clear e;intro e1 e2 e3 e4 e5 e6;rw[zB e1,ZH e2,zB e3,zB e4,ZH e5,zB e6,one_of h]
theorem iLamArg{ps:Fg}{f:Arg->Bool}(h:oB (KG ps) f=G6):∃a,ps=⟨[],[a],Gb,[],[],Gb,[]⟩/\f a=G6:=by refine za (ya h) ?_;clear h;intro a e h;exact⟨a,KE e,h⟩
theorem an8{a b c d e f g i:Bool}(h:(a && b && c && d && e && f && g && i)=G6):a=G6/\b=G6/\c=G6/\d=G6/\e=G6/\f=G6/\g=G6/\i=G6:=
 have q:=an7 (an2 h).1;⟨q.1,q.2.1,q.2.2.1,q.2.2.2.1,q.2.2.2.2.1,q.2.2.2.2.2.1,q.2.2.2.2.2.2,(an2 h).2⟩
def lamOk(N:Nm)(ps:Fg)(b:G8)(sc:GW)(p:Pos):Bool:=
 oB (KG ps) (λa=>zL a.arg N.lamX) &&
 oB (Xb b) (λt=>oB (Zj t.1) λn=>zL n.1 N.lamX && zL t.2.1 N.lamN) &&
 zu sc N.lamX .local && (sc.names.all λp=>Zo p.2 .local ||Zo p.2 .globalImplicit) && jc sc.kind && !sc.isCoroutine && !sc.isGenerator && posEq p N.lamP
noncomputable def isNot:UnaryOp->Bool
 |.Not=>G6
 |_=>G7
noncomputable def k8:UnaryOp->Bool
 |.USub=>G6
 |_=>G7
noncomputable def isAnd:BoolOp->Bool
 |.And=>G6
 |.Or=>G7
noncomputable def intOf:Const->Option Int
 |.int i=>G3 i
 |_=>Gb
noncomputable def ivOf:V->Option Int
 |.int i=>G3 i
 |_=>Gb
def jX(v:V)(x:G8):Bool:=match ZC x with
 |some c=>Kz v c
 |none=>oB (vUn x) λt=>k8 t.1 && oB (ZC t.2) λc=>oB (intOf c) λj=>oB (ivOf v) λi=>decide (i=-j)
noncomputable def restB(op:BoolOp)(xs:List G8)(p:Pos):Option G8:=match xs with
 |[]=>Gb
 |[y]=>G3 y
 |xs=>G3 (.BoolOp op xs p)
noncomputable def Y2:E->Bool
 |.c .none=>G6
 |_=>G7
noncomputable def jL:E->Bool
 |.c (.bool G6)=>G6
 |_=>G7
def negOne(x:G8):Bool:=oB (vUn x) λt=>k8 t.1 && oB (ZC t.2) λc=>oB (intOf c) λj=>decide (j=1)
section
variable (N:Nm) (K:DN)
mutual
noncomputable def chkE(lm:Bool)(sc:GW)(tb:List Str):E->G8->Bool
 |.bad,_=>G6
 |.c v,x=>jX v x
 |.l k,x=>oB (Zj x) λt=>oB tb[k]? (λy=>zL t.1 y) && !zL t.1 "__debug__"
 |.g _ v,x=>oB (Zj x) λt=>zu sc t.1 .globalImplicit && KT v (nsIn K Dy t.1) && !zL t.1 "__debug__"
 |.a e f,x=>oB (Xb x) λt=>zL (N.attr f) t.2.1 && YH t.1 && chkE lm sc tb e t.1
 |.bin o a b,x=>oB (vBin x) λt=>opIs o t.2.1 && chkE lm sc tb a t.1 && chkE lm sc tb b t.2.2
 |.cmp o a b,x=>oB (vCmp x) λt=>oB (one? t.2.1) λop=>oB (one? t.2.2) λy=>coIs o op && yZ y && chkE lm sc tb a t.1 && chkE lm sc tb b y
 |.cmp2 o p a b c,x=>oB (vCmp x) λt=>oB (two? t.2.1) λop=>oB (two? t.2.2) λy=>coIs o op.1 && coIs p op.2 && yZ y.2 && chkE lm sc tb a t.1 && chkE lm sc tb b y.1 && chkE lm sc tb c y.2
 |.not a,x=>oB (vUn x) λt=>isNot t.1 && chkE lm sc tb a t.2
 |.and a b,x=>oB (vBool x) λt=>isAnd t.1 && oB (ht? t.2.1) λu=>chkE lm sc tb a u.1 && oB (restB .And u.2 t.2.2) (chkE lm sc tb b)
 |.or a b,x=>oB (vBool x) λt=>!isAnd t.1 && oB (ht? t.2.1) λu=>chkE lm sc tb a u.1 && oB (restB .Or u.2 t.2.2) (chkE lm sc tb b)
 |.ifx c a b,x=>oB (vIfx x) λt=>chkE lm sc tb c t.1 && chkE lm sc tb a t.2.1 && chkE lm sc tb b t.2.2
 |.call f as,x=>oB (YY x) λt=>oB (Zj t.1) λn=>oB (N.glob f) (λy=>zL y n.1) && zu sc n.1 .globalImplicit && !zL n.1 "__debug__" && chkL lm sc tb as t.2.1
 |.bf b as,x=>oB (YY x) λt=>oB (Zj t.1) λn=>zL (bfName b) n.1 && zu sc n.1 .globalImplicit && (match nsIn K Dy n.1 with|some Gb=>G6|_=>G7) && chkL lm sc tb as t.2.1
 |.meth a m as,x=>oB (YY x) λt=>oB (Xb t.1) λq=>zL (N.meth m) q.2.1 && YH q.1 && Gi q.2.2.endLine t.2.2.line && D0 t.2.1.length 29 && chkE lm sc tb a q.1 && chkL lm sc tb as t.2.1
 |.bm b a as,x=>oB (YY x) λt=>oB (Xb t.1) λq=>zL (JH b) q.2.1 && YH q.1 && Gi q.2.2.endLine t.2.2.line && D0 t.2.1.length 29 && chkE lm sc tb a q.1 && chkL lm sc tb as t.2.1
 |.callv f as,x=>oB (YY x) λt=>oB (Zj t.1) λn=>chkE lm sc tb f t.1 && chkL lm sc tb as t.2.1
 |.idx a b,x=>oB (vSub x) λt=>ZE t.2 && chkE lm sc tb a t.1 && chkE lm sc tb b t.2
 |.slice a lo hi,x=>oB (vSub x) λt=>oB (J3 t.2) λq=>q.2.2.isNone && chkE lm sc tb a t.1 && oN q.1 (Y2 lo) (chkE lm sc tb lo) && oN q.2.1 (Y2 hi) (chkE lm sc tb hi)
 |.rev a,x=>oB (vSub x) λt=>oB (J3 t.2) λq=>q.1.isNone && q.2.1.isNone && oB q.2.2 negOne && chkE lm sc tb a t.1
 |.tup es,x=>oB (vTup x) λxs=>Gj xs.length 100 && chkL lm sc tb es xs
 |.lst es,x=>oB (vList x) λxs=>chkL lm sc tb es xs
 |.dct es,x=>oB (vDict x) λt=>Gj t.1.length 15 && chkD lm sc tb es t.1 t.2
 |.lam k,x=>oB (vLam x) λt=>lm && Gi k N.lamK && lamOk N t.1 t.2.1 t.2.2.1 t.2.2.2
 |.comp elt iter cond n caps,x=>oB (vComp x) λt=>oB (one? t.2.1) λg=>decide (g.is_async=0) && oB (ZV g.target) λts=>
   Gi ts.length n && Xx sc t.2.2.1 ts (pick tb caps) && yZ g.iter && chkE lm sc tb iter g.iter && chkE G7 t.2.2.1 (ts++pick tb caps) elt t.1 &&
    (match g.ifs with|[]=>jL cond|ct::r=>none? r && chkE G7 t.2.2.1 (ts++pick tb caps) cond ct)
 |.nil,_=>G7
 |.cons _ _,_=>G7
noncomputable def chkL(lm:Bool)(sc:GW)(tb:List Str):E->List G8->Bool
 |.nil,xs=>none? xs
 |.cons a b,xs=>oB (ht? xs) λu=>zT u.1 && chkE lm sc tb a u.1 && chkL lm sc tb b u.2
 |_,_=>G7
noncomputable def chkD(lm:Bool)(sc:GW)(tb:List Str):E->List (Option G8)->List G8->Bool
 |.nil,ks,xs=>none? ks && none? xs
 |.cons a (.cons b r),ks,vs=>oB (ht? ks) λk=>oB k.1 λk1=>oB (ht? vs) λv=>chkE lm sc tb a k1 && chkE lm sc tb b v.1 && chkD lm sc tb r k.2 v.2
 |_,_,_=>G7
end
end
structure Cx where
 A:Dh
 fe:Env
 wy:Do
 L:Gx
 m:Str->Option G9
 G:Lg
 nm:Str->Option G9
abbrev Cx.Rep(c:Cx)(T:Tp):=Mn.Rep T c.wy c.L c.m c.G
def Cx.Look(c:Cx)(x:Str)(u:G9):Prop:=∀{prog:Di} {w:Fb} {A:Dh} {s:Gh} {Q:G9->Gh->Prop} {Er:G9->Gh->Prop} {pos:Pos},
 Fr c.wy c.L s.heap c.m->FW c.wy c.L s.heap c.G->Q u s->GA (Gy prog w) A (Ft (.Name x pos) c.fe) Q Er s
structure Cx.Ok (c:Cx) (T:Tp) (d:Nat):Prop where
 B:∃uM base outer env,Below uM base outer c.wy/\c.A.frames=G3 (env::outer)/\env.frame=G3 c.L/\env.scope.kind= .function
 kd:c.fe.scope.kind= .function
 gl:c.fe.globals=Dy
 bi:c.fe.builtins=I9
 X:T.K.In c.wy
 top:∃p loose mean mg mb,Top p loose mean mg mb c.wy
 tab:CodeHd c.wy T.tabC T.tab
 hh:c.A.handled=Gb
 dep:c.A.depth+4*d+8<=1000
 un:c.A.units+16*d+200<=9900
 le:d<=20
 tp:d=20->∃uM cn cs a ccd,Below uM c.wy [] c.wy/\c.A.frames=G3 [envOf cn cs c.L a ccd]/\cs.kind= .function
 scr:∃vs,c.wy.IsList T.scr vs.toArray/\IntsAre vs T.ns/\T.ns.length<=1048576
 look:∀x u,c.nm x=G3 u->(x==("__debug__":Str))=G7->c.Look x u
 cel:∀x,c.fe.kindOf x=G3 .cell->∃a,c.fe.cells.lookup x=G3 a/\∀u,c.nm x=G3 u->∃o,(a,o)∈c.G/\o.data= .cell (G3 u)
def LOk(T:Tp)(tb:List Str)(c:Cx)(E:Lg)(ρ:Rn)(L:Lc):Prop:=∀(k:Nat) (v:V),L[k]?=G3 v->v≠.bad->∃x u,tb[k]?=G3 x/\c.nm x=G3 u/\VR T E ρ v u
theorem LOk.ext{T:Tp}{tb:List Str}{c:Cx}{E E':Lg}{ρ ρ':Rn}{L:Lc}(x:Ext E ρ E' ρ')(h:LOk T tb c E ρ L):LOk T tb c E' ρ' L:=λk v e n=>by refine zF (h k v e n) λy u h1 h2 h3=>?_;exact⟨y,u,h1,h2,h3.ext x⟩
abbrev RxT:=Cx->Nat->Hp->Rn->Lg->Do->G9->Prop
inductive XPost (RX:RxT) (c:Cx) (s:Gh) (ρ:Rn) (E:Lg) (X:Nat->Hp->Prop) (e:G9) (s':Gh):Prop
 |mk (h':Do) (tk k:Nat) (H':Hp) (ρ':Rn) (E':Lg):s'={s with heap:=h',toks:=tk}->Ext E ρ E' ρ'->X k H'->RX c k H' ρ' E' h' e->XPost RX c s ρ E X e s'
theorem XPost.up{RX:RxT}{c:Cx}{s:Gh}{ρ:Rn}{E:Lg}{X:Nat->Hp->Prop}{h₁:Do}{tk₁:Nat}{ρ₁:Rn}{uQ:Lg}(x:Ext E ρ uQ ρ₁){e:G9}{s':Gh}:XPost RX c {s with heap:=h₁,toks:=tk₁} ρ₁ uQ X e s'->XPost RX c s ρ E X e s'
 |⟨h',tk,k,H',ρ',E',e,x',q,r⟩=>⟨h',tk,k,H',ρ',E',e,x.trans x',q,r⟩
theorem XPost.no{RX:RxT}{c:Cx}{s:Gh}{ρ:Rn}{E:Lg}{e:G9}{s':Gh}:¬XPost RX c s ρ E (λ_ _=>False) e s':=λ⟨_,_,_,_,_,_,_,_,q,_⟩=>q
inductive Post (T:Tp) (c:Cx) (s:Gh) (ρ:Rn) (E:Lg) (Q:V->Hp->Prop) (u:G9) (s':Gh):Prop
 |mk (h':Do) (tk:Nat) (v:V) (H':Hp) (ρ':Rn) (E':Lg):s'={s with heap:=h',toks:=tk}->c.Rep T H' ρ' E' h'->Ext E ρ E' ρ'->VR T E' ρ' v u->Q v H'->Post T c s ρ E Q u s'
section
variable {T:Tp} {c:Cx} {s:Gh} {ρ:Rn} {E:Lg} {H:Hp} {Q:V->Hp->Prop} {Er:G9->Gh->Prop} {prog:Di} {w:Fb}
theorem Post.here{u:G9}{v:V}{tk:Nat}(R:c.Rep T H ρ E s.heap)(hv:VR T E ρ v u)(q:Q v H):Post T c s ρ E Q u {s with toks:=tk}:=
 ⟨s.heap,tk,v,H,ρ,E,rfl,R,Ext.refl _ _,hv,q⟩
theorem Post.at{u:G9}{v:V}(R:c.Rep T H ρ E s.heap)(hv:VR T E ρ v u)(q:Q v H):Post T c s ρ E Q u s:=
 ⟨s.heap,s.toks,v,H,ρ,E,rfl,R,Ext.refl _ _,hv,q⟩
theorem Post.up{h₁:Do}{tk₁:Nat}{ρ₁:Rn}{uQ:Lg}(x:Ext E ρ uQ ρ₁){u:G9}{s':Gh}:Post T c {s with heap:=h₁,toks:=tk₁} ρ₁ uQ Q u s'->Post T c s ρ E Q u s'
 |⟨h',tk,v,H',ρ',E',e,R,x',hv,q⟩=>⟨h',tk,v,H',ρ',E',e,R,x.trans x',hv,q⟩
set_option tactic.hygienic true in
theorem eqS_iff:∀{a b:List Nat},eqS a b=G6↔a=b:=by
 intro a
 induction a with
 |nil=>
  intro xx;rcases xx with _|⟨_,_⟩
  ·exact by simp[eqS]
  ·exact by simp[eqS]
 |cons a as ih=>
  intro xx;rcases xx with _|⟨b,bs⟩
  ·exact by simp[eqS]
  ·unfold eqS
   split
   ·rename_i h;rw[ih,GE h];simp
   ·rename_i h;have:=DP h;simp[this]
theorem eqStr_iff{x y:Str}:zL x y=G6↔x=y:=by
 unfold zL;rw[eqS_iff];constructor
 ·intro h;cases x;cases y;simp only[Str.mk.injEq];exact Array.toList_inj.mp h
 ·rintro rfl;rfl
theorem isS_iff{x:Str}{s:List Nat}:isS x s=G6↔x=strL s:=by
 unfold isS strL;rw[eqS_iff];constructor
 ·intro h;cases x;simp only[Str.mk.injEq];rw[←h]
 ·rintro rfl;rfl
theorem zI(s:List Nat):(strL s).length=s.length:=by simp[strL,I6]
theorem Zs(a b:List Nat):strL a++strL b=strL (a++b):=by show Str.append _ _=_;simp[Str.append,strL]
theorem J6{a b:List Nat}:strL a=strL b↔a=b:=by unfold strL;simp
theorem ku{x:Int}(h:x.natAbs < 1000000000):¬decide (Builtin.Int.intBits x > shortFactorBits)=G6:=by
 have h1:-(2 ^ 64) < x:=by exact om6 h
 have h2:x < 2 ^ 64:=by exact om9 h
 have:=intBits_le_64 h1 h2;rw[decide_eq_true_eq];exact Fj.mpr this
theorem mul_ok{x y:Int}(h:x.natAbs < 1000000000):IntMulOk x y:=by unfold IntMulOk;rw[Dc,Dc];exact λz=>ku h z.1.1
theorem div_ok{x y:Int}(h:y.natAbs < 1000000000):IN x y=G7:=by
 unfold IN;refine Bool.and_eq_false_iff.mpr (.inl (decide_eq_false ?_));simp only
 split
 ·exact om7
 ·have:y.natAbs.log2 < 64:=by
   by_cases z:y.natAbs=0
   ·rw[z];decide
   ·exact(Nat.log2_lt z).mpr (om8 h)
  exact om10 this
end
section
variable {T:Tp} {c:Cx} {s:Gh} {ρ:Rn} {E:Lg} {H:Hp} {Q:V->Hp->Prop} {Er:G9->Gh->Prop} {prog:Di} {w:Fb} {d:Nat}
variable {wy h h':Do} {L:Gx} {m m':Str->Option G9} {G:Lg}
theorem tab_ne{tb:Obj}{x:Gx}(hf:∀p∈E++(T.tab,tb)::G,p.1 < x):∀q∈E++(T.tab,Dz #[])::G,q.1 < x:=by
 intro q hq;rcases GL.mp hq with hq|hq
 ·exact hf q (Gg _ hq)
 ·rcases Gp.mp hq with rfl|hq
  ·exact hf (T.tab,tb) (Gd _ (Gn ..))
  ·exact hf q (Gd _ (Go _ hq))
theorem Rep.one(R:Rep T wy L m G H ρ E h){tb:Obj}(hb:TbOk T E tb){x:Gx}{o:Obj}(F':Fr wy L h' m')(N':FW wy L h' ((x,o)::(E++(T.tab,tb)::G)))(hf:∀p∈E++(T.tab,tb)::G,p.1 < x) :
  Rep T wy L m' G H ρ ((x,o)::E) h'/\Ext E ρ ((x,o)::E) ρ:=
 R.grow (new:=[(x,o)]) hb F' N' (by simp) (λp hp q hq=>by
  have:p=(x,o):=by simpa using hp
  subst this;exact DQ (tab_ne hf q hq))
theorem Rep.keyLt(R:Rep T wy L m G H ρ E h){x:Gx}(hf:∀p∈E,p.1 < x):∀b∈foot H ρ,b < x:=λb hb=>by refine zj (R.key b hb) λob hm=>?_;exact hf _ hm
theorem Rep.newL(R:Rep T wy L m G H ρ E h){tb:Obj}(hb:TbOk T E tb){x:Gx}{vs:List V}{us:List G9}{n:Nat}(hv:VRs T E ρ vs us)(hl:vs.length<=lim)(F':Fr wy L h' m')
  (N':FW wy L h' ((x,Fq us.toArray n)::(E++(T.tab,tb)::G))) (hf:∀p∈E++(T.tab,tb)::G,p.1 < x) :
  Rep T wy L m' G (H++[.list vs]) (ρ++[(x,x)]) ((x,Fq us.toArray n)::E) h'/\Ext E ρ ((x,Fq us.toArray n)::E) (ρ++[(x,x)])/\(ρ++[(x,x)])[H.length]?=G3 (x,x):=by
 refine zh (R.one hb F' N' hf) λR1 x1=>?_;have:=R.keyLt (λp hp=>hf p (Gg _ hp));refine zh (R1.alloc (o:=.list vs) (a:=x) (d:=x) ⟨us,n,Gn ..,hv.ext x1,hl⟩ (by intro b hb;simp[zZ] at hb;subst hb;exact λhm=>DH _ (this _ hm)) (by simp[zZ])) λR2 x2=>?_;exact⟨R2,x1.trans x2,by rw[←R.len];simp⟩
theorem Rep.newI(R:Rep T wy L m G H ρ E h){tb:Obj}(hb:TbOk T E tb){x dx:Gx}{k:Nat}{C:Gx}(hC:T.cls k=G3 C)(F':Fr wy L h' m')
  (N':FW wy L h' ((x,instObj C dx)::(dx,IR [] 0)::(E++(T.tab,tb)::G))) (hf:∀p∈E++(T.tab,tb)::G,p.1 < dx) (hx:dx < x) :
  Rep T wy L m' G (H++[.inst k []]) (ρ++[(x,dx)]) ((x,instObj C dx)::(dx,IR [] 0)::E) h'/\Ext E ρ ((x,instObj C dx)::(dx,IR [] 0)::E) (ρ++[(x,dx)])/\(ρ++[(x,dx)])[H.length]?=G3 (x,dx):=by
 have hx':dx < x:=hx;obtain⟨R1,x1⟩:=R.grow (new:=[(x,instObj C dx),(dx,IR [] 0)]) hb F' N' (by simp;exact DQ hx') (λp hp q hq=>by
  have:=tab_ne hf q hq;simp only[Gp,D1,or_false] at hp;rcases hp with rfl|rfl
  ·exact DQ (M0 this hx')
  ·exact DQ this)
 have:=R.keyLt (λp hp=>hf p (Gg _ hp));obtain⟨R2,x2⟩:=R1.alloc (o:=.inst k []) (a:=x) (d:=dx) ⟨C,[],0,hC,Gn ..,Go _ (Gn ..),.nil,DD _,by simp⟩
  (by
   intro b hb hm;simp only[zZ,Gp,D1,or_false] at hb;have:=this b hm;rcases hb with rfl|rfl
   ·exact DH _ (M0 this hx')
   ·exact DH _ this)
  (by simp[zZ];exact DQ hx')
 exact⟨R2,x1.trans x2,by rw[←R.len];simp⟩
theorem yI{news:Lg}(N:FW wy L h news):∀p∈news,p.1 < h.objs.size:=λp hp=>Fk (N p hp).1
theorem Rep.objAt(R:Rep T wy L m G H ρ E h){i:Nat}{o:O}{a d:Gx}(h1:H[i]?=G3 o)(h2:ρ[i]?=G3 (a,d)):OAt T E ρ a d o:=R.enc i o a d h1 h2
theorem Rep.inNews(R:Rep T wy L m G H ρ E h){p:Gx×Obj}(hp:p∈E):h.get? p.1=G3 p.2:=by refine za (R.N) λtb _ N=>?_;exact(N p (Gg _ hp)).1
theorem Rep.isList(R:Rep T wy L m G H ρ E h){i:Nat}{vs:List V}{a d:Gx}(h1:H[i]?=G3 (.list vs))(h2:ρ[i]?=G3 (a,d)) :
  ∃us n,(a,Fq us.toArray n)∈E/\h.IsList a us.toArray/\VRs T E ρ vs us/\vs.length<=lim:=by
 refine zF (R.objAt h1 h2) λus n hm hv hl=>?_;exact⟨us,n,hm,⟨_,R.inNews hm,rfl,n,rfl⟩,hv,hl⟩
theorem Rep.isTup(R:Rep T wy L m G H ρ E h)(X:T.K.In wy){a:Gx}{us:List G9}(ht:TupAt T.K E a us):IsTup h a us.toArray:=by
 rcases ht with⟨n,hm⟩|⟨dd,n,sl,hl⟩
 ·exact⟨_,R.inNews hm,rfl,n,rfl⟩
 ·exact tupK (X.keeps R.F.keep) hl
theorem natB{a b:Nat}:Gj a b=G6↔a<=b:=by rw[Nat.ble_eq]
noncomputable def opOf:Op->Operator
 |.add=>.Add|.sub=>.Sub|.mul=>.Mult|.fdiv=>.FloorDiv|.mod=>.Mod
theorem opIs_of{o:Op}{op:Operator}(h:opIs o op=G6):op=opOf o:=by rcases o<;>rcases op<;>first|rfl|exact absurd h G4
theorem binop_ok{o:Op}{op:Operator}(hop:opIs o op=G6){x y:V}{a b:G9}(C:c.Ok T d)(R:c.Rep T H ρ E s.heap)(hx:VR T E ρ x a)(hy:VR T E ρ y b)(h:binop o x y H Q) :
  GA (Gy prog w) c.A (binaryOp op a b) (Post T c s ρ E Q) Er s:=by
 obtain rfl:=opIs_of hop;clear hop
 induction o using Op.casesOn with
 |add=>
  replace h:=addP_iff h;rcases h with⟨p,q,rfl,rfl,h⟩|⟨p,q,rfl,rfl,h1,h⟩|⟨i,xs,j,ys,rfl,e1,rfl,e2,h1,h⟩
  ·refine zj (hx.ofInt) λt rq1=>?_;subst rq1;refine zj (hy.ofInt) λt' rq1=>?_;subst rq1;exact add_int (Post.here R (.int _ _) h)
  ·refine zj (hx.ofStr) λt rq1=>?_;subst rq1;refine zj (hy.ofStr) λt' rq1=>?_;subst rq1;have:=natB.mp h1;refine add_str (λt' tk=>?_) (by rw[zI,zI,D7];exact ot1 this);rw[Zs];exact Post.here R (.str _ _) h
  ·refine zf (hx.ofObj) λa da rq2 hi=>?_;subst rq2;refine zf (hy.ofObj) λb db rq2 hj=>?_;subst rq2;have hle:=natB.mp h1;refine yz (R.isList e1 hi) λus n hm hl hv hn=>?_;refine yz (R.isList e2 hj) λus' n' hm' hl' hv' hn'=>?_;refine za (R.N) λtb hb N=>?_;refine add_arrays R.F N hl hl' (λh' F' N'=>?_) (by rw[GH,GH,←hv.length,←hv'.length,D7];exact ot1 hle);rw[DL,DL] at N';refine zP (R.newL hb (hv.append hv') (by rw[Gr];exact hle) F' N' (yI N)) λR' x' hr=>?_;exact⟨h',s.toks,_,_,_,_,rfl,R',x',.obj hr,h⟩
 |sub=>refine za (zy h) ?_;clear h;intro p rq1 h;subst rq1;refine za (zy h) ?_;clear h;intro q rq1 h;subst rq1;refine zj (hx.ofInt) λt rq1=>?_;subst rq1;refine zj (hy.ofInt) λt' rq1=>?_;subst rq1;exact sub_int (Post.here R (.int _ _) h)
 |mul=>refine za (zy h) ?_;clear h;intro p rq1 h;subst rq1;refine za (zy h) ?_;clear h;intro q rq1 h;subst rq1;refine zj (hx.ofInt) λt rq1=>?_;subst rq1;refine zj (hy.ofInt) λt' rq1=>?_;subst rq1;refine zh (gd_iff.mp h) λh1 h2=>?_;exact mul_int (Post.here R (.int _ _) h2) (mul_ok (of_decide_eq_true h1).1)
 |fdiv=>refine za (zy h) ?_;clear h;intro p rq1 h;subst rq1;refine za (zy h) ?_;clear h;intro q rq1 h;subst rq1;refine zj (hx.ofInt) λt rq1=>?_;subst rq1;refine zj (hy.ofInt) λt' rq1=>?_;subst rq1;refine zh (gd_iff.mp h) λh1 h2=>?_;have:=of_decide_eq_true h1;exact floordiv_int (om45 this) (Post.here R (.int _ _) h2) (.inl (div_ok (om46 this)))
 |mod=>refine za (zy h) ?_;clear h;intro p rq1 h;subst rq1;refine za (zy h) ?_;clear h;intro q rq1 h;subst rq1;refine zj (hx.ofInt) λt rq1=>?_;subst rq1;refine zj (hy.ofInt) λt' rq1=>?_;subst rq1;refine zh (gd_iff.mp h) λh1 h2=>?_;have:=of_decide_eq_true h1;exact mod_int' (om47 this) (Post.here R (.int _ _) h2)
end
section
variable {T:Tp} {c:Cx} {s:Gh} {ρ:Rn} {E:Lg} {H:Hp} {Q:V->Hp->Prop} {Er:G9->Gh->Prop} {prog:Di} {w:Fb} {d:Nat} {A:Dh}
theorem eqI_eq(a b:Int):eqI a b=(a==b):=by
 unfold eqI
 by_cases h:a=b<;>simp[h]
theorem ud(a b:List Nat):eqS a b=((⟨a.toArray⟩:Str)==(⟨b.toArray⟩:Str)):=by
 by_cases h:a=b
 ·subst h;rw[eqS_iff.mpr rfl];simp
 ·have h1:eqS a b=G7:=by
   induction q:eqS a b using GN with
   |false=>rfl
   |true=>exact absurd (eqS_iff.mp q) h
  rw[h1];simp[h]
inductive EqC:V->V->Bool->Prop
 |nn:EqC .none .none G6
 |ni (i:Int):EqC .none (.int i) G7
 |ns (x:List Nat):EqC .none (.str x) G7
 |bb (a b:Bool):EqC (.bool a) (.bool b) (a==b)
 |iN (i:Int):EqC (.int i) .none G7
 |ii (a b:Int):EqC (.int a) (.int b) (eqI a b)
 |sN (x:List Nat):EqC (.str x) .none G7
 |ss (a b:List Nat):EqC (.str a) (.str b) (eqS a b)
theorem eqF_c{x y:V}{r:Bool}(e:eqF x y=G3 r):EqC x y r:=by
 rcases x<;>rcases y<;>first|exact nn e|(cases Gm e;constructor)
theorem eqF_at{x y:V}{a b:G9}{r:Bool}(hx:VR T E ρ x a)(hy:VR T E ρ y b)(e:eqF x y=G3 r):EqAt A s a b r:=by
 cases eqF_c e with
 |nn=>rw[hx.ofNone,hy.ofNone];exact EqAt.same _
 |ni i=>obtain⟨t,rfl⟩:=hy.ofInt;rw[hx.ofNone];exact EqAt.none_int _ _
 |ns i=>obtain⟨t,rfl⟩:=hy.ofStr;rw[hx.ofNone];exact EqAt.none_str _ _
 |bb a b=>rw[hx.ofBool,hy.ofBool];exact EqAt.bool_bool _ _
 |iN i=>obtain⟨t,rfl⟩:=hx.ofInt;rw[hy.ofNone];exact EqAt.int_none _ _
 |ii a b=>obtain⟨t,rfl⟩:=hx.ofInt;obtain⟨t',rfl⟩:=hy.ofInt;rw[eqI_eq];exact EqAt.int_int _ _ _ _
 |sN i=>obtain⟨t,rfl⟩:=hx.ofStr;rw[hy.ofNone];exact EqAt.str_none _ _
 |ss a b=>obtain⟨t,rfl⟩:=hx.ofStr;obtain⟨t',rfl⟩:=hy.ofStr;rw[ud];exact EqAt.str_str _ _ _ _
theorem eqF_rc{x y:V}{a b:G9}{r:Bool}(hx:VR T E ρ x a)(hy:VR T E ρ y b)(e:eqF x y=G3 r):RcAt A s a b r/\RcNeAt A s a b (!r):=by
 cases eqF_c e with
 |nn=>rw[hx.ofNone,hy.ofNone];exact⟨RcAt.none_none,RcNeAt.none_none⟩
 |ni i=>obtain⟨t,rfl⟩:=hy.ofInt;rw[hx.ofNone];exact⟨RcAt.none_int _ _,RcNeAt.none_int _ _⟩
 |ns i=>obtain⟨t,rfl⟩:=hy.ofStr;rw[hx.ofNone];exact⟨RcAt.none_str _ _,RcNeAt.none_str _ _⟩
 |bb a b=>rw[hx.ofBool,hy.ofBool];exact⟨RcAt.bool_bool _ _,RcNeAt.bool_bool _ _⟩
 |iN i=>obtain⟨t,rfl⟩:=hx.ofInt;rw[hy.ofNone];exact⟨RcAt.int_none _ _,RcNeAt.int_none _ _⟩
 |ii a b=>obtain⟨t,rfl⟩:=hx.ofInt;obtain⟨t',rfl⟩:=hy.ofInt;rw[eqI_eq];exact⟨RcAt.int_int _ _ _ _,RcNeAt.int_int _ _ _ _⟩
 |sN i=>obtain⟨t,rfl⟩:=hx.ofStr;rw[hy.ofNone];exact⟨RcAt.str_none _ _,RcNeAt.str_none _ _⟩
 |ss a b=>obtain⟨t,rfl⟩:=hx.ofStr;obtain⟨t',rfl⟩:=hy.ofStr;rw[ud];exact⟨RcAt.str_str _ _ _ _,RcNeAt.str_str _ _ _ _⟩
theorem YQ{x y:V}{xs ys:List V}{r:Bool}(e:eqFs (x::xs) (y::ys)=G3 r):∃p q,eqF x y=G3 p/\eqFs xs ys=G3 q/\(p && q)=r:=by
 have e:(match eqF x y,eqFs xs ys with|some p,G3 q=>G3 (p && q)|_,_=>Gb)=G3 r:=e
 induction h1:eqF x y using GD with
 |none=>rw[h1] at e;exact nn e
 |some p=>
  rw[h1] at e
  induction h2:eqFs xs ys using GD with
  |none=>rw[h2] at e;exact nn e
  |some q=>rw[h2] at e;exact⟨p,q,rfl,rfl,Gm e⟩
theorem eqFs_len:∀{xs ys:List V} {r:Bool},eqFs xs ys=G3 r->xs.length=ys.length:=by
 intro xs
 induction xs with
 |nil=>
  intro xx y2 e;rcases xx with _|⟨_,_⟩
  ·exact rfl
  ·exact nn e
 |cons x xs ih=>
  intro xx r e;rcases xx with _|⟨y,ys⟩
  ·exact nn e
  ·refine zF (YQ e) λp q _ h2 _=>?_;exact congrArg (·+ 1) (ih h2)
def eqJ(xs ys:List V)(j:Nat):Bool:=match xs[j]?,ys[j]? with|some x,G3 y=>(eqF x y).getD G7|_,_=>G7
theorem YZ(n:Nat)(f:Nat->Bool):(F8 (n+1)).all f=(f 0 && (F8 n).all λj=>f (j+1)):=by rw[List.range_succ_eq_map,Mh,List.all_map];rfl
theorem Jx:∀{xs ys:List V} {r:Bool},eqFs xs ys=G3 r->(F8 xs.length).all (eqJ xs ys)=r:=by
 intro xs
 induction xs with
 |nil=>
  intro xx y2 e;rcases xx with _|⟨_,_⟩
  ·exact Gm e
  ·exact nn e
 |cons x xs ih=>
  intro xx r e;rcases xx with _|⟨y,ys⟩
  ·exact nn e
  ·refine zF (YQ e) λp q h1 h2 rq4=>?_;subst rq4;rw[GO,YZ];have z0:eqJ (x::xs) (y::ys) 0=p:=by show(eqF x y).getD G7=p;rw[h1];rfl
   have z1:(λj=>eqJ (x::xs) (y::ys) (j+1))=eqJ xs ys:=by funext j;unfold eqJ;rw[List.getElem?_cons_succ,List.getElem?_cons_succ]
   rw[z1,ih h2,z0]
theorem uf:∀{xs ys:List V} {us ws:List G9} {r:Bool},VRs T E ρ xs us->VRs T E ρ ys ws->eqFs xs ys=G3 r->∀(j:Nat) (h1:j < us.length) (h2:j < ws.length),EqAt A s us[j] ws[j] (eqJ xs ys j):=by
 intro xs
 induction xs with
 |nil=>intro ys us ws r hx _ _ j h1;rw[hx.of0] at h1;exact absurd h1 (Nat.not_lt_zero j)
 |cons x xs ih=>
  intro ys us ws r hx hy e j h1 h2;refine zF (hx.ofCons) λu us rq2 a as=>?_;subst rq2
  induction ys using D8 with
  |nil=>exact nn e
  |cons y ys=>
   refine zF (hy.ofCons) λw ws rq2 b bs=>?_;subst rq2;refine zF (YQ e) λp q e1 e2 _=>?_
   induction j using Nat.casesOn with
   |zero=>
    have z:eqJ (x::xs) (y::ys) 0=p:=by show(eqF x y).getD G7=p;rw[e1];rfl
    rw[z];exact eqF_at a b e1
   |succ j=>exact ih as bs e2 j (Ik h1) (Ik h2)
theorem natE{a b:Nat}:Gi a b=G6↔a=b:=by rw[Nat.beq_eq]
theorem natEf{a b:Nat}:Gi a b=G7↔a≠b:=⟨DP,λh=>by
 induction q:Gi a b using GN with
 |false=>rfl
 |true=>exact absurd (natE.mp q) h⟩
theorem Y1{h:Do}{a:Gx}{us:Array G9}(x:IsTup h a us):h.IsTuple a us:=x
theorem iseq_iff{x y:V}{H:Hp}{r:Bool}(e:iseq x y H=G3 r):(∃i xs j ys,x= .obj i/\H[i]?=G3 (.list xs)/\y= .obj j/\H[j]?=G3 (.list ys)/\((xs.length=ys.length/\eqFs xs ys=G3 r)∨(xs.length≠ys.length/\r=G7)))∨
  (∃xs ys,x= .tup xs/\y= .tup ys/\eqFs xs ys=G3 r)∨eqF x y=G3 r:=by
 induction x using V.casesOn with
 |obj i=>
  replace e:oL (.obj i) H (λx=>oL y H λy=>(match Gi x.length y.length with|true=>eqFs x y|false=>G3 G7))=G3 r:=e;refine zF (oL_iff e) ?_;clear e;intro i' xs e0 e1 e;refine zF (oL_iff e) ?_;clear e;intro j ys rq2 e2 e;subst rq2;refine .inl ⟨i',xs,j,ys,e0,e1,rfl,e2,?_⟩
  induction q:Gi xs.length ys.length using GN with
  |true=>rw[q] at e;exact .inl ⟨natE.mp q,e⟩
  |false=>rw[q] at e;exact .inr ⟨natEf.mp q,(Gm e).symm⟩
 |tup xs=>replace e:oT (.tup xs) (λx=>oT y λy=>eqFs x y)=G3 r:=e;refine za (oT_iff e) ?_;clear e;intro xs' e0 e;refine za (oT_iff e) ?_;clear e;intro ys rq1 e;subst rq1;exact .inr (.inl ⟨xs',ys,e0,rfl,e⟩)
 |_=>exact .inr (.inr e)
theorem KM{x y:V}{a b:G9}{r:Bool}(C:c.Ok T d)(R:c.Rep T H ρ E s.heap)(hu:A.units < cLine)(hx:VR T E ρ x a)(hy:VR T E ρ y b)(e:iseq x y H=G3 r):RcAt A s a b r/\RcNeAt A s a b (!r):=by
 replace e:=iseq_iff e;rcases e with⟨i,xs,j,ys,rfl,e1,rfl,e2,e⟩|⟨xs,ys,rfl,rfl,e⟩|e
 ·refine zf (hx.ofObj) λa d rq2 hi=>?_;subst rq2;refine zf (hy.ofObj) λb d' rq2 hj=>?_;subst rq2;refine yz (R.isList e1 hi) λus n hm hl hv hn=>?_;refine yz (R.isList e2 hj) λus' n' hm' hl' hv' hn'=>?_;rcases e with⟨hlen,e⟩|⟨hlen,rfl⟩
  ·have hsz:us.toArray.size=us'.toArray.size:=by rw[GH,GH,←hv.length,←hv'.length,hlen]
   have hall:(F8 us.toArray.size).all (eqJ xs ys)=r:=by rw[GH,←hv.length];exact Jx e
   have key:∀{A:Dh} (j:Nat) (h1:j < us.toArray.size) (h2:j < us'.toArray.size),EqAt A s us.toArray[j] us'.toArray[j] (eqJ xs ys j):=λ{A} j h1 h2=>uf hv hv' e j h1 h2;have p1:=RcAt.lists (A:=A) (s:=s) (e:=eqJ xs ys) hl hl' hsz hu key;have p2:=RcNeAt.lists (A:=A) (s:=s) (e:=eqJ xs ys) hl hl' hsz hu key;rw[hall] at p1 p2;exact⟨p1,p2⟩
  ·have hsz:(us.toArray.size != us'.toArray.size)=G6:=by rw[GH,GH,←hv.length,←hv'.length];exact bne_iff_ne.mpr hlen
   exact⟨RcAt.lists_lengths hl hl' hsz hu,RcNeAt.lists_lengths hl hl' hsz hu⟩
 ·refine zF (hx.ofTup) λus a rq2 ht hv=>?_;subst rq2;refine zF (hy.ofTup) λus' b rq2 ht' hv'=>?_;subst rq2;have hl:=R.isTup C.X ht;have hl':=R.isTup C.X ht';have hlen:=eqFs_len e;have hsz:us.toArray.size=us'.toArray.size:=by rw[GH,GH,←hv.length,←hv'.length,hlen]
  have hall:((F8 (min us.toArray.size us'.toArray.size)).all (eqJ xs ys) && us.toArray.size==us'.toArray.size)=r:=by rw[←hsz,Nat.min_self,GH,←hv.length,Jx e,beq_self_eq_true,Bool.and_true]
  have key:∀{A:Dh} (j:Nat) (h1:j < us.toArray.size) (h2:j < us'.toArray.size),EqAt A s us.toArray[j] us'.toArray[j] (eqJ xs ys j):=λ{A} j h1 h2=>uf hv hv' e j h1 h2;have p1:=RcAt.tuples (A:=A) (s:=s) (e:=eqJ xs ys) hl hl' hu key;have p2:=RcNeAt.tuples (A:=A) (s:=s) (e:=eqJ xs ys) hl hl' hu key;rw[hall] at p1 p2;exact⟨p1,p2⟩
 ·exact eqF_rc hx hy e
theorem XQ(a b:Str):(a==b)=(b==a):=
 Bool.eq_iff_iff.mpr ⟨λh=>beq_iff_eq.mpr (beq_iff_eq.mp h).symm,λh=>beq_iff_eq.mpr (beq_iff_eq.mp h).symm⟩
theorem Js{x:List Nat}:∀{vs:List V} {us:List G9} {r:Bool},VRs T E ρ vs us->inVs x vs=G3 r->
  (us.toArray.any λu=>u.isStr (strL x))=r/\(∀y,y∈us->∃(l:List Nat) (t:Tok),y= .str (strL l) t):=by
 intro vs
 induction vs with
 |nil=>intro us r h e;rw[h.of0];exact⟨List.any_toArray.trans (show G7=r from Gm e),λ_ h=>nomatch h⟩
 |cons v vs ih=>
  intro us r h e;refine zF (h.ofCons) λu us rq2 hv hs=>?_;subst rq2;have hy:∃y,v= .str y:=by rcases v<;>first|exact nn e|exact⟨_,rfl⟩
  refine zj (hy) ?_;clear hy;intro y rq1;subst rq1;refine zj (hv.ofStr) λt rq1=>?_;subst rq1;refine za (GK.mp e) λq hq rq2=>?_;subst rq2;refine zh (ih hs hq) λh1 h2=>?_;refine⟨?_,λz hz=>?_⟩
  ·have h3:(Value.str (strL y) t).isStr (strL x)=eqS x y:=by rw[ud,XQ];rfl
   rw[List.any_toArray] at h1 ⊢;rw[IF,h1,h3]
  ·rcases Gp.mp hz with rfl|hz
   ·exact⟨y,t,rfl⟩
   ·exact h2 z hz
theorem inS_dec(c:Nat):∀l:List Nat,inS c l=decide (c∈l):=by
 intro l
 induction l with
 |nil=>exact(decide_eq_false D1).symm
 |cons x r ih=>
  show(match Gi x c with|true=>G6|false=>inS c r)=_;rcases h:Gi x c with _|_
  ·refine ih.trans (Bool.eq_iff_iff.mpr ?_);rw[decide_eq_true_eq,decide_eq_true_eq,Gp];exact⟨.inr,λq=>q.resolve_left (Mc (DP h))⟩
  ·exact(decide_eq_true (Gp.mpr (.inl (GE h).symm))).symm
theorem Xr{es:List (List Nat×V)}{kvs:List (Str×G9)}(k:List Nat)(h:KVs T E ρ es kvs):(getD k es=Gb/\valueAt kvs (strL k)=Gb)∨∃v u,getD k es=G3 v/\valueAt kvs (strL k)=G3 u/\VR T E ρ v u:=by
 induction h with
 |nil=>exact .inl ⟨rfl,rfl⟩
 |@cons x v u fs es hv hs ih=>
  unfold getD
  induction q:eqS x k using GN with
  |true=>obtain rfl:=eqS_iff.mp q;refine .inr ⟨v,u,rfl,?_,hv⟩;simp[valueAt]
  |false=>
   have hne:¬strL x=strL k:=by rw[J6];intro e;rw[eqS_iff.mpr e] at q;cases q
   have:valueAt ((strL x,u)::es) (strL k)=valueAt es (strL k):=by simp[valueAt,hne]
   rw[this];exact ih
theorem j9{v:V}{u:G9}{r:Bool}(h:VR T E ρ v u)(e:ja v=G3 r):plainIs u .none=G6/\(u==.none)=r:=by
 rcases h<;>exact⟨rfl,Gm e⟩
theorem ltS_iff:∀{a b:List Nat},ltS a b=G6↔a < b:=by
 intro a
 induction a with
 |nil=>
  intro xx;rcases xx with _|⟨y,ys⟩
  ·exact⟨λh=>absurd h G4,λh=>absurd h (List.lt_irrefl _)⟩
  ·exact⟨λ_=>List.nil_lt_cons y ys,λ_=>rfl⟩
 |cons a as ih=>
  intro xx;rcases xx with _|⟨b,bs⟩
  ·exact⟨λh=>absurd h G4,λh=>absurd h (List.not_lt_nil _)⟩
  ·rw[List.cons_lt_cons_iff];show(match D0 a b with|true=>G6|false=>match Gi a b with|true=>ltS as bs|false=>G7)=G6↔_;rcases h:D0 a b with _|_
   ·have h1:¬a < b:=λq=>absurd ((FE.mpr q).symm.trans h) (λe=>G4 e.symm);rcases h':Gi a b with _|_
    ·exact⟨λh=>absurd h G4,λh=>h.elim (λq=>absurd q h1) λq=>absurd q.1 (DP h')⟩
    ·exact⟨λh=>.inr ⟨GE h',ih.mp h⟩,λh=>h.elim (λq=>absurd q h1) λq=>ih.mpr q.2⟩
   ·exact⟨λ_=>.inl (FE.mp h),λ_=>rfl⟩
inductive InC (H:Hp) (x:List Nat) (q:Bool):V->Prop
 |str (c:Nat) (y:List Nat):x=[c]->inS c y=q->InC H x q (.str y)
 |tup (vs:List V):inVs x vs=G3 q->InC H x q (.tup vs)
 |lst (i:Nat) (vs:List V):H[i]?=G3 (.list vs)->inVs x vs=G3 q->InC H x q (.obj i)
 |dct (i:Nat) (es:List (List Nat×V)):H[i]?=G3 (.dict es)->(getD x es).isSome=q->InC H x q (.obj i)
theorem isin_iff{a b:V}{q:Bool}(e:isin a b H=G3 q):∃x,a= .str x/\InC H x q b:=by
 refine za (oS_iff e) ?_;clear e;intro x rq1 e;subst rq1;refine⟨x,rfl,?_⟩
 induction b using V.casesOn with
 |str y=>rcases x with _|⟨c,_|⟨c2,r⟩⟩<;>first|exact nn e|exact .str c y rfl (Gm e)
 |obj i=>
  have e:(match H[i]? with|some (.list vs)=>inVs x vs|some (.dict es)=>G3 (getD x es).isSome|_=>Gb)=G3 q:=e
  induction h:H[i]? using GD with
  |none=>rw[h] at e;exact nn e
  |some o=>
   rw[h] at e;rcases o<;>first|exact nn e|exact .lst i _ h e|exact .dct i _ h (Gm e)
 |tup vs=>exact .tup _ e
 |_=>exact nn e
theorem KL{x y:V}{a b:G9}{q:Bool}(C:c.Ok T d)(R:c.Rep T H ρ E s.heap)(hx:VR T E ρ x a)(hy:VR T E ρ y b)(e:isin x y H=G3 q){P:G9->Gh->Prop} :
  ((∀tk,P (.bool q) {s with toks:=tk})->GA (Gy T.prog T.w) A (Ig .In a b) P Er s)/\((∀tk,P (.bool (!q)) {s with toks:=tk})->GA (Gy T.prog T.w) A (Ig .NotIn a b) P Er s):=by
 refine za (isin_iff e) λx rq1 ic=>?_;subst rq1;clear e;refine zj (hx.ofStr) λt rq1=>?_;subst rq1;have he:∀{us:List G9},(∀y,y∈us->∃(l:List Nat) (t:Tok),y= .str (strL l) t)->∀z,z∈us.toArray->∀t,EqAt A.in1 s z (.str (strL x) t) (z.isStr (strL x)):=by intro us h2 z hz t;refine xe2c1 (h2 z (List.mem_toArray.mp hz)) λl t' rq2=>?_;subst rq2;exact EqAt.str_str _ _ _ _
 cases ic with
 |str cc y' hx e=>
  subst hx;refine zj (hy.ofStr) λt' rq1=>?_;subst rq1;have key:(!(Builtin.Str.occurrences (strL y') (strL [cc]) 0 (I6 (strL y')) 1).isEmpty)=q:=by rw[←e];exact(StrLaws.found_one ..).trans (inS_dec ..).symm
  refine⟨λh=>in_str ?_,λh=>notIn_str ?_⟩
  ·have:=h s.toks;rw[←key] at this;exact this
  ·have:=h s.toks;rw[←key] at this;exact this
 |tup vs e=>
  refine zF (hy.ofTup) λus aa rq2 ht hv=>?_;subst rq2;have ht':=R.isTup C.X ht;refine zh (Js hv e) λh1 h2=>?_;refine⟨λh=>in_tupleAt (λu=>u.isStr (strL x)) ht' (λz hz=>he h2 z hz _) ?_,λh=>notIn_tupleAt (λu=>u.isStr (strL x)) ht' (λz hz=>he h2 z hz _) ?_⟩<;>rw[h1]<;>exact h s.toks
 |lst i vs e1 e=>
  refine zf (hy.ofObj) λaa dd rq2 hi=>?_;subst rq2;refine yz (R.isList e1 hi) λus n hm hl hv hn=>?_;refine zh (Js hv e) λh1 h2=>?_;refine⟨λh=>in_listAt (λu=>u.isStr (strL x)) hl (λz hz=>he h2 z hz _) ?_,λh=>notIn_listAt (λu=>u.isStr (strL x)) hl (λz hz=>he h2 z hz _) ?_⟩<;>rw[h1]<;>exact h s.toks
 |dct i es e1 e=>
  refine zf (hy.ofObj) λaa dd rq2 hi=>?_;subst rq2;refine Ye (R.objAt e1 hi) λo kvs hm hd hv hn hs=>?_;have hD:=(Heap.dictOf_iff.mpr ⟨o,R.inNews hm,hd.of⟩:s.heap.DictOf (strKind T.prog T.w) aa kvs);have key:(valueAt kvs (strL x)).isSome=q:=by
   rw[←e];rcases Xr x hv with⟨p1,p2⟩|⟨v,u,p1,p2,_⟩
   ·rw[p1,p2];rfl
   ·rw[p1,p2];rfl
  refine⟨λh=>wpAny_in_of (ID T.prog T.w _ _) hs hD.mapOf ?_,λh=>wpAny_notIn_of (ID T.prog T.w _ _) hs hD.mapOf ?_⟩
  ·show P (.bool (valueAt kvs (strL x)).isSome) _;rw[key];exact h _
  ·show P (.bool (!(valueAt kvs (strL x)).isSome)) _;rw[key];exact h _
noncomputable def coOf:Co->CmpOp
 |.eq=>.Eq|.ne=>.NotEq|.lt=>.Lt|.le=>.LtE|.gt=>.Gt|.ge=>.GtE|.is=>.Is|.isnot=>.IsNot|.isin=>.In|.notin=>.NotIn
theorem coIs_of{o:Co}{op:CmpOp}(h:coIs o op=G6):op=coOf o:=by rcases o<;>rcases op<;>first|rfl|exact absurd h G4
theorem Jd{v:V}(h:jG v=G6):v= .none:=by rcases v<;>first|rfl|exact absurd h G4
theorem leO_iff{a b:V}{q:Bool}(e:leO a b=G3 q):(∃x y,a= .int x/\b= .int y/\decide (x<=y)=q)∨∃x y,a= .str x/\b= .str y/\(!ltS y x)=q:=by
 induction a using V.casesOn with
 |int x=>obtain⟨y,rfl,e⟩:=YE (f:=λy=>G3 (decide (x<=y))) e;exact .inl ⟨_,y,rfl,rfl,Gm e⟩
 |str x=>obtain⟨y,rfl,e⟩:=oS_iff (f:=λy=>G3 (!ltS y x)) e;exact .inr ⟨_,y,rfl,rfl,Gm e⟩
 |_=>exact nn e
theorem yQ{o:Co}{op:CmpOp}(hop:coIs o op=G6){x y:V}{a b:G9}{q:Bool}(C:c.Ok T d)(R:c.Rep T H ρ E s.heap)(hu:A.units+1 < cLine)(hx:VR T E ρ x a)(hy:VR T E ρ y b)(e:yg o x y H=G3 q)
  {P:G9->Gh->Prop} (h:∀tk,P (.bool q) {s with toks:=tk}):GA (Gy T.prog T.w) A (Ig op a b) P Er s:=by
 have hu1:A.units < cLine:=Nat.lt_of_succ_lt hu;obtain rfl:=coIs_of hop;clear hop
 induction o using Co.casesOn with
 |eq=>exact cmp_ofEq ((KM C R hu1 hx hy e).1 _ _ _ _ (h s.toks))
 |ne=>refine za (GK.mp e) λr hr rq2=>?_;subst rq2;exact cmp_ofNotEq ((KM C R hu1 hx hy hr).2 _ _ _ _ (h s.toks))
 |lt=>refine za (YE e) ?_;clear e;intro i rq1 e;subst rq1;refine za (YE e) ?_;clear e;intro j rq1 e;subst rq1;obtain rfl:=Gm e;refine zj (hx.ofInt) λt rq1=>?_;subst rq1;refine zj (hy.ofInt) λt' rq1=>?_;subst rq1;exact PyProof.Rows.lt_int (h s.toks)
 |le=>
  replace e:=leO_iff e;rcases e with⟨i,j,rfl,rfl,rfl⟩|⟨i,j,rfl,rfl,rfl⟩
  ·refine zj (hx.ofInt) λt rq1=>?_;subst rq1;refine zj (hy.ofInt) λt' rq1=>?_;subst rq1;exact PyProof.Rows.le_int (h s.toks)
  ·refine zj (hx.ofStr) λt rq1=>?_;subst rq1;refine zj (hy.ofStr) λt' rq1=>?_;subst rq1;refine PySem.P.le_str ?_;have:(decide (j < i):Bool)=ltS j i:=by rw[Bool.eq_iff_iff,decide_eq_true_eq,ltS_iff]
   have z:=h s.toks;rw[←this] at z;exact z
 |gt=>refine za (YE e) ?_;clear e;intro i rq1 e;subst rq1;refine za (YE e) ?_;clear e;intro j rq1 e;subst rq1;obtain rfl:=Gm e;refine zj (hx.ofInt) λt rq1=>?_;subst rq1;refine zj (hy.ofInt) λt' rq1=>?_;subst rq1;exact PyProof.Rows.gt_int (h s.toks)
 |ge=>refine za (YE e) ?_;clear e;intro i rq1 e;subst rq1;refine za (YE e) ?_;clear e;intro j rq1 e;subst rq1;obtain rfl:=Gm e;refine zj (hx.ofInt) λt rq1=>?_;subst rq1;refine zj (hy.ofInt) λt' rq1=>?_;subst rq1;exact PyProof.Rows.ge_int (h s.toks)
 |is=>
  have e:(match jG y with|true=>ja x|false=>Gb)=G3 q:=e
  induction hn:jG y using GN with
  |false=>rw[hn] at e;exact nn e
  |true=>rw[hn] at e;rw[Jd hn] at hy;rw[hy.ofNone];refine zh (j9 hx e) λh1 h2=>?_;exact wpAny_is_plain h1 (by rw[h2];exact h s.toks)
 |isnot=>
  have e:(match jG y with|true=>(ja x).map (!·)|false=>Gb)=G3 q:=e
  induction hn:jG y using GN with
  |false=>rw[hn] at e;exact nn e
  |true=>rw[hn] at e;rw[Jd hn] at hy;rw[hy.ofNone];refine za (GK.mp e) λr hr rq2=>?_;subst rq2;refine zh (j9 hx hr) λh1 h2=>?_;exact wpAny_isNot_plain h1 (by rw[h2];exact h s.toks)
 |isin=>exact(KL C R hx hy e).1 h
 |notin=>refine za (GK.mp e) λr hr rq2=>?_;subst rq2;exact(KL C R hx hy hr).2 h
theorem kR{v:V}{b:Bool}(e:yD v H=G3 b):v= .bool b∨(v= .none/\b=G7)∨∃i vs,v= .obj i/\H[i]?=G3 (.list vs)/\(match vs with|[]=>G7|_=>G6)=b:=by
 induction v using V.casesOn with
 |none=>exact .inr (.inl ⟨rfl,(Gm e).symm⟩)
 |bool x=>exact .inl (congrArg V.bool (Gm e))
 |obj i=>
  have e:(match H[i]? with|some (.list vs)=>G3 (match vs with|[]=>G7|_=>G6)|_=>Gb)=G3 b:=e
  induction h:H[i]? using GD with
  |none=>rw[h] at e;exact nn e
  |some o=>
   rw[h] at e;rcases o<;>first|exact nn e|exact .inr (.inr ⟨i,_,rfl,h,Gm e⟩)
 |_=>exact nn e
theorem Ze{v:V}{u:G9}{b:Bool}{K:Bool->Gh->Prop}(R:c.Rep T H ρ E s.heap)(hv:VR T E ρ v u)(e:yD v H=G3 b)(h:∀tk,K b {s with toks:=tk}):GA (Gy prog w) A (truthy u) K Er s:=by
 replace e:=kR e;rcases e with rfl|⟨rfl,rfl⟩|⟨i,vs,rfl,e1,rfl⟩
 ·rw[hv.ofBool];exact DJ (h s.toks)
 ·rw[hv.ofNone];exact truthy_none (h s.toks)
 ·refine zf (hv.ofObj) λa dd rq2 hi=>?_;subst rq2;refine yz (R.isList e1 hi) λus n hm hl hv hn=>?_;refine wpAny_truthy_list hl (by have:=hv.length;simp only[lim] at hn;rw[GH];exact om17 hn this) ?_;cases hv
  ·exact h _
  ·exact h _
theorem XY{j:Int}{n k:Nat}(h:j=(k:Int))(l:k < n):(if (decide (0<=j) && decide (j < (n:Int)))=G6 then G3 j.toNat else Gb)=G3 k:=by subst h;exact if_pos (GC.mpr ⟨decide_eq_true (D2 k),decide_eq_true (F0.mpr l)⟩)
theorem X1{k n:Nat}(h:k < n):seqIndex? (.ofNat k) n=G3 k:=XY (if_neg (FD.mpr (D2 k))) h
theorem JQ{k n:Nat}(h:k < n):seqIndex? (.negSucc k) n=G3 (n - (k+1)):=
 XY ((if_pos (IU k)).trans ((Int.add_comm _ _).trans (Int.ofNat_sub h).symm)) (Nat.sub_lt (GT (DD k) h) (Nat.succ_pos k))
set_option tactic.hygienic true in
theorem atV_ok{vs:List V}{us:List G9}{i:Int}{v:V}(hv:VRs T E ρ vs us)(hl:vs.length<=lim)(e:atV vs i=G3 v):∃j u,seqIndex? i us.length=G3 j/\us[j]?=G3 u/\VR T E ρ v u/\-(2 ^ 63)<=i/\i < 2 ^ 63:=by
 unfold atV at e;have hle:=hv.length;simp only[lim] at hl
 split at e
 ·rename_i k;have hk:=(List.getElem?_eq_some_iff.mp e).1;refine za (hv.at e) λu hu hr=>?_;refine⟨k,u,X1 (om12 hle hk),hu,hr,?_,?_⟩
  ·have:(0:Int)<=GX k:=Int.ofNat_nonneg k;exact om14 this
  ·have:(GX k)=(k:Int):=rfl;exact om15 hl hk this
 ·rename_i k
  split at e
  ·rename_i hb;have hk:k < vs.length:=by simpa [FE] using hb
   refine za (hv.at e) λu hu hr=>?_;have h2:(Mb k)=-((k:Int)+1):=by exact om11
   refine⟨us.length - (k+1),u,JQ (om12 hle hk),by rw[←hle];exact hu,hr,zneg (Ga (DO hk) hl),by exact om16⟩
  ·cases e
theorem Z6{e:G8}(h:ZE e=G6)(o i:G9):subscripted e G7 o i=operate [o,i] (getItem o i):=by
 rcases e<;>first|rfl|exact absurd h G4
theorem idx_ok{va sl:G8}(hsl:ZE sl=G6){x y:V}{a b:G9}{K:V->Prop}(C:c.Ok T d)(R:c.Rep T H ρ E s.heap)(hx:VR T E ρ x a)(hy:VR T E ρ y b)(e:idx x y H K){P:G9->Gh->Prop}
  (h:∀u v tk,VR T E ρ v u->K v->P u {s with toks:=tk}):GA (Gy T.prog T.w) A (subscriptTail va sl a b) P Er s:=by
 replace e:=idx_iff e;rcases e with⟨vs,i,v,rfl,rfl,e1,hat,e⟩|⟨x,i,cc,rfl,rfl,e1,hc,e⟩|⟨j,vs,i,v,rfl,rfl,e1,hat,e⟩|⟨j,es,x,v,rfl,rfl,e1,hg,e⟩
 ·refine zF (hx.ofTup) λus aa rq2 ht hv=>?_;subst rq2;refine zj (hy.ofInt) λt rq1=>?_;subst rq1;refine Ye (atV_ok hv (natB.mp e1) hat) λj u hj hu hr h1 h2=>?_;exact item_tupleT (R.isTup C.X ht) h1 h2 hj hu (h u v s.toks hr e) (Z6 hsl _ _)
 ·refine zj (hx.ofStr) λt rq1=>?_;subst rq1;refine zj (hy.ofInt) λt' rq1=>?_;subst rq1;have hl:x.length<=1000:=natB.mp e1;have hi:i < x.length:=(List.getElem?_eq_some_iff.mp hc).1;have hz:(GX i)=(i:Int):=rfl;refine tail_any (typeIs_str _ _ _) slot_str_getitem.lookup (PyProof.Rows.getItem_str (c:=cc) ?_ ?_ ?_) (Z6 hsl _ _)
  ·rw[F4];exact⟨decide_eq_false (om34 hz),decide_eq_false (om35 hl hi hz)⟩
  ·rw[zI,X1 hi];show x.toArray[i]?=G3 cc;exact List.getElem?_toArray.trans hc
  ·exact h _ _ _ (.str [cc] _) e
 ·refine zf (hx.ofObj) λaa dd rq2 hj=>?_;subst rq2;refine zj (hy.ofInt) λt rq1=>?_;subst rq1;refine yz (R.isList e1 hj) λus n hm hl hv hn=>?_;refine Ye (atV_ok hv hn hat) λk u hk hu hr h1 h2=>?_
  by_cases h0:i < 0
  ·exact kde_neg hl h0 h1 hk hu (h u v s.toks hr e) (Z6 hsl _ _)
  ·have hk':us[i.toNat]?=G3 u:=by
    unfold seqIndex? at hk;simp only[h0,if_false] at hk
    split at hk
    ·cases hk;exact hu
    ·cases hk
   exact tail_any hl.typeIs slot_list_getitem.lookup (wpAny_getItem_list hl (FD.mp h0) h2 (List.getElem?_toArray.trans hk') (h u v s.toks hr e)) (Z6 hsl _ _)
 ·refine zf (hx.ofObj) λaa dd rq2 hj=>?_;subst rq2;refine zj (hy.ofStr) λt rq1=>?_;subst rq1;refine Ye (R.objAt e1 hj) λo kvs hm hd hv hn hs=>?_;have hD:=(Heap.dictOf_iff.mpr ⟨o,R.inNews hm,hd.of⟩:s.heap.DictOf (strKind T.prog T.w) aa kvs);rcases Xr x hv with⟨p1,p2⟩|⟨v',u,p1,p2,hr⟩
  ·rw[p1] at hg;cases hg
  ·rw[p1] at hg;cases hg;exact tail_any hD.typeIs slot_dict_getitem.lookup (wpAny_getItem_of (ID T.prog T.w _ _) hD.mapOf p2 (h u _ _ hr e)) (Z6 hsl _ _)
theorem Xd{α:Type}(l:List α)(k:Nat):l.take (min k l.length)=l.take k:=by
 by_cases h:k<=l.length
 ·rw[I3 h]
 ·rw[IA (om13 h),List.take_of_length_le (GI _),List.take_of_length_le (om13 h)]
theorem j2{us:List G9}(k:Int):kms_pick us Gb (G3 k)=us.take (Yi us.length k):=by
 unfold kms_pick kms_lo kms_hi Yi;cases k with
 |ofNat i=>have:¬(GX i < 0):=FD.mpr (D2 i);simp only[this,if_false,M3,Nat.sub_zero];exact Xd us i
 |negSucc i=>
  have:Mb i < 0:=IU i;simp only[this,if_true,M3,Nat.sub_zero]
  congr 1
theorem clampN(i n:Nat):max (0:Int) (min (i:Int) (n:Int))=((min i n:Nat):Int):=by
 rw[Iy (Int.le_min.mpr ⟨D2 i,D2 n⟩)];rcases Nat.le_total i n with h|h
 ·rw[I3 h,Int.min_eq_left (DA.mpr h)]
 ·rw[IA h,Int.min_eq_right (DA.mpr h)]
theorem sliceN(i j n:Nat):DR (G3 (i:Int)) (G3 (j:Int)) 1 n=DR (G3 ((min i n:Nat):Int)) (G3 ((min j n:Nat):Int)) 1 n:=by have nn:∀k:Nat,¬((k:Int) < 0):=λk=>FD.mpr (D2 k);unfold DR;have h1:(1:Int) > 0:=Int.zero_lt_one;simp only[nn,if_false,h1,if_true,clampN,Nat.min_assoc,Nat.min_self]
theorem cut_min{x:List Nat}{i j:Nat}:(x.drop (min i x.length)).take (min j x.length - min i x.length)=cut i j x:=by
 show _=(x.take j).drop i;rw[List.drop_take]
 by_cases h:i<=x.length
 ·rw[I3 h,←Nat.sub_min_sub_right,←DV];exact Xd _ _
 ·have h:=DO (Nat.not_le.mp h);rw[IA h,Fp (GI _),Fp h,Me,Me]
theorem cutS{x:List Nat}{i j:Nat}(h:i<=j):Txt.slice ⟨x.toArray⟩ (G3 (.ofNat i)) (G3 (.ofNat j))=strL (cut i j x):=by
 have e2:Txt.slice ⟨x.toArray⟩ (G3 (.ofNat i)) (G3 (.ofNat j))=Txt.slice ⟨x.toArray⟩ (G3 ((min i x.length:Nat):Int)) (G3 ((min j x.length:Nat):Int)):=by unfold Txt.slice;rw[show(I6 ⟨x.toArray⟩)=x.length from zI x,show DR (G3 (.ofNat i)) (G3 (.ofNat j)) 1 x.length=_ from sliceN i j x.length]
 have le1:min i x.length<=min j x.length:=Nat.le_min.mpr ⟨Ga (Nat.min_le_left _ _) h,Nat.min_le_right _ _⟩;have e3:=slice_closes (x:=⟨x.toArray⟩) (i:=((min i x.length:Nat):Int)) (j:=((min j x.length:Nat):Int)) ⟨D2 _,DA.mpr le1,DA.mpr (Nat.min_le_right _ _)⟩;rw[e2,beq_iff_eq.mp e3];rw[←cut_min,Int.toNat_natCast,Int.toNat_sub];rfl
theorem IntsAre.vrs:∀{vs:List G9} {ns:List Int},IntsAre vs ns->VRs T E ρ (ns.map .int) vs:=by
 intro vs
 induction vs with
 |nil=>
  intro xx h;rcases xx with _|⟨_,_⟩
  ·exact .nil
  ·exact by cases h
 |cons v vs ih=>
  intro xx h;rcases xx with _|⟨n,ns⟩
  ·exact by cases h
  ·refine zf (IntsAre.cons_inv h) λt vs' e h'=>?_;cases e;exact .cons (.int _ _) (ih h')
theorem slice_ok{va:G8}{lo up:Option G8}{p:Pos}{x:V}{a:G9}{K:V->Hp->Prop}{y z:V}{l u:G9}(C:c.Ok T d)(R:c.Rep T H ρ E s.heap)(hx:VR T E ρ x a)(hy:VR T E ρ y l)(hz:VR T E ρ z u)(e:slice T.ns x y z H K) :
  GA (Gy prog w) A (subscriptTail va (.Slice lo up Gb p) a (.ref s.heap.objs.size)) (Post T c s ρ E K) Er {s with heap:=s.heap.push {cls:=.type "slice",data:=.fields #[l,u,.none]}}:=by
 refine za (R.N) λtb hb N=>?_;replace e:=kY e;rcases e with⟨x,i,j,rfl,rfl,rfl,e1,e⟩|⟨i,vs,h,rfl,rfl,rfl,e1,e⟩|⟨k,rfl,rfl,rfl,e1,e⟩
 ·refine zj (hx.ofStr) λt rq1=>?_;subst rq1;refine zj (hy.ofInt) λt1 rq1=>?_;subst rq1;refine zj (hz.ofInt) λt2 rq1=>?_;subst rq1;refine zh (GC.mp e1) ?_;clear e1;intro e1 e2;have h1:=natB.mp e1;have h2:=natB.mp e2;have h3:(I6 (strL x))<=Ir:=by rw[D7,zI];exact ot1 h2
  obtain⟨T',id',q1,q2,q3⟩:=SBH.sliceItem_ss (prog:=prog) (w:=w) (A:=A) (E:=Er) (x:=strL x) (t:=t) (i:=.ofNat i) (j:=.ofNat j) (ui:=t1) (uj:=t2) (s:=s) (Q:=Post T c s ρ E K) keptFrN ⟨R.F,N⟩ (λh' t' k hh=>by
   refine zh (hh) ?_;clear hh;intro F' N';rw[show Txt.slice (strL x) (G3 (.ofNat i)) (G3 (.ofNat j))=strL (cut i j x) from cutS h1];exact⟨h',k,_,H,ρ,E,rfl,⟨F',⟨tb,hb,N'⟩,R.nd,R.len,R.enc,R.ft⟩,Ext.refl _ _,.str _ _,e⟩) h3
  exact tail_any q2 q1 q3 rfl
 ·refine zf (hx.ofObj) λaa dd rq2 hi=>?_;subst rq2;rw[hy.ofNone];refine zj (hz.ofInt) λt rq1=>?_;subst rq1
  ·refine yz (R.isList e1 hi) λus n hm hl hv hn=>?_;have hsz:us.toArray.size<=Ir:=by rw[D7,GH,←hv.length];simp only[lim] at hn;exact om39 hn
   have hl':=hl.push ({cls:=.type "slice",data:=.fields #[.none,.int h t,.none]}:Obj);refine tail_any (M4 (s:={s with heap:=s.heap.push {cls:=.type "slice",data:=.fields #[.none,.int h t,.none]}}) hl') IW
    (FY hl' (M5 ..) .none (.int _ _) .none (by simp) ?_ hsz) rfl
   have N1:=News.push (R.F.push {cls:=.type "slice",data:=.fields #[.none,.int h t,.none]}) (N.grown λ_ _ e=>Heap.get?_push_of_some _ e) {cls:=.type "list",data:=.seq (slicePick us.toArray Gb (G3 h) Gb)};have hp:slicePick us.toArray Gb (G3 h) Gb=(us.take (Yi us.length h)).toArray:=by rw[kms_pick_eq,DL,j2]
   rw[hp] at N1 ⊢;refine zP (R.newL (n:=0) hb (hv.take (Yi us.length h)) (by simp only[lim,FP] at hn ⊢;exact om40 hn) ((R.F.push _).push _) N1 (λp hp=>Dk (yI N p hp) (by rw[Il];exact F5 _))) λR' x' hr=>?_;rw[hv.length] at e;exact⟨_,s.toks,_,_,_,_,rfl,R',x',.obj hr,e⟩
 ·rw[hx.ofScr,hy.ofNone];refine zj (hz.ofInt) λt rq1=>?_;subst rq1;have hk:=natB.mp e1;refine yK (C.scr) λus hl0 hi hns=>?_;have hl:s.heap.IsList T.scr us.toArray:=hl0.at λo e=>R.F.keep _ o e;have hsz:us.toArray.size<=Ir:=by rw[D7,GH,hi.length];exact om42 hns
  have hl':=hl.push ({cls:=.type "slice",data:=.fields #[.none,.int (.ofNat k) t,.none]}:Obj);refine tail_any (M4 (s:={s with heap:=s.heap.push {cls:=.type "slice",data:=.fields #[.none,.int (.ofNat k) t,.none]}}) hl') IW
   (FY hl' (M5 ..) .none (.int _ _) .none (by simp) ?_ hsz) rfl
  have N1:=News.push (R.F.push {cls:=.type "slice",data:=.fields #[.none,.int (.ofNat k) t,.none]}) (N.grown λ_ _ e=>Heap.get?_push_of_some _ e) {cls:=.type "list",data:=.seq (slicePick us.toArray Gb (G3 (.ofNat k)) Gb)};have hp:slicePick us.toArray Gb (G3 (.ofNat k)) Gb=(us.take k).toArray:=by rw[kms_pick_eq,DL,j2];rfl
  rw[hp] at N1 ⊢;refine zP (R.newL (n:=0) hb (IntsAre.vrs (hi.take k)) (by rw[Gs,FP];exact Ga (Nat.min_le_left ..) hk) ((R.F.push _).push _) N1 (λp hp=>Dk (yI N p hp) (by rw[Il];exact F5 _))) λR' x' hr=>?_;exact⟨_,s.toks,_,_,_,_,rfl,R',x',.obj hr,e⟩
theorem rev_ok{va st:G8}{p:Pos}{i:Nat}{a aa:Gx}{K:V->Hp->Prop}{vs:List V}{tk:Tok}(R:c.Rep T H ρ E s.heap)(hi:ρ[i]?=G3 (a,aa))(e1:H[i]?=G3 (.list vs))(e:K (.obj H.length) (H++[.list vs.reverse])) :
  GA (Gy prog w) A (subscriptTail va (.Slice Gb Gb (G3 st) p) (.ref a) (.ref s.heap.objs.size)) (Post T c s ρ E K) Er {s with heap:=s.heap.push {cls:=.type "slice",data:=.fields #[.none,.none,.int (-1) tk]}}:=by
 refine za (R.N) λtb hb N=>?_;refine yz (R.isList e1 hi) λus n hm hl hv hn=>?_;have hsz:us.toArray.size<=Ir:=by rw[D7,GH,←hv.length];simp only[lim] at hn;exact om39 hn
 have hl':=hl.push ({cls:=.type "slice",data:=.fields #[.none,.none,.int (-1) tk]}:Obj);refine tail_any (M4 (s:={s with heap:=s.heap.push {cls:=.type "slice",data:=.fields #[.none,.none,.int (-1) tk]}}) hl') IW
  (FY hl' (M5 ..) .none .none (.int (-1) _) (by decide) ?_ hsz) (ops:=[.ref a,.ref s.heap.objs.size]) rfl
 have N1:=News.push (R.F.push {cls:=.type "slice",data:=.fields #[.none,.none,.int (-1) tk]}) (N.grown λ_ _ e=>Heap.get?_push_of_some _ e) {cls:=.type "list",data:=.seq (slicePick us.toArray Gb Gb (G3 (-1)))};rw[krv_pick,DL] at N1 ⊢;refine zP (R.newL (n:=0) hb hv.reverse (by simpa using hn) ((R.F.push _).push _) N1 (λp hp=>Dk (yI N p hp) (by rw[Il];exact F5 _))) λR' x' hr=>?_;exact⟨_,s.toks,_,_,_,_,rfl,R',x',.obj hr,e⟩
noncomputable def bfVal:Bf->G9
 |.len=>.builtin "len"|.int=>.type "int"|.str=>.type "str"|.sum=>.builtin "sum"|.tuple=>.type "tuple"|.max=>.builtin "max"|.chr=>.builtin "chr"|.ord=>.builtin "ord"|.list=>.type "list"|.range=>.type "range"
theorem bfBoot(b:Bf):bootBuiltins (bfName b)=G3 (bfVal b):=by
 rcases b<;>kernel_rfl
theorem Rep.same(R:c.Rep T H ρ E s.heap){h':Do}(F':Fr c.wy c.L h' c.m){tb:Obj}(hb:TbOk T E tb)(N':FW c.wy c.L h' (E++(T.tab,tb)::c.G)):c.Rep T H ρ E h':=⟨F',⟨tb,hb,N'⟩,R.nd,R.len,R.enc,R.ft⟩
theorem jV:∀(s:List Nat) (a n:Nat),s.foldl (λa c=>match a with|none=>Gb|some n=>match Gj 48 c && Gj c 57 with|true=>G3 (n*10+(c - 48))|false=>Gb) (G3 a)=G3 n->(∀c∈s,48<=c/\c<=57)/\s.foldl (λacc c=>acc*10+(c - 48)) a=n:=by
 intro s
 induction s with
 |nil=>
  intro a n h;exact by simp at h;simp[h]
 |cons x r ih=>
  intro a n h;rw[Fs] at h
  induction q:Gj 48 x && Gj x 57 using GN with
  |false=>
   exfalso;simp only[q] at h;have:∀(r:List Nat),r.foldl (λa c=>match a with|none=>Gb|some n=>match Gj 48 c && Gj c 57 with|true=>G3 (n*10+(c - 48))|false=>Gb) (Gb:Option Nat)=Gb:=by
    intro r;induction r with
    |nil=>rfl
    |cons y r ih=>rw[Fs];exact ih
   rw[this] at h;cases h
  |true=>
   simp only[q] at h;refine zh (ih _ n h) λh1 h2=>?_;rw[Dc] at q;refine⟨λc hc=>?_,by rw[Fs];exact h2⟩;rcases Gp.mp hc with rfl|hc
   ·exact⟨natB.mp q.1,natB.mp q.2⟩
   ·exact h1 c hc
theorem jU{s:List Nat}{n:Nat}(h:digits s=G3 n)(h1:1<=s.length)(h2:s.length<=4):PySem.intText? (⟨s.toArray⟩:Str)=G3 (n:Int):=by refine zh (jV s 0 n h) λa b=>?_;have:=intText_digits (x:=⟨s.toArray⟩) (by show ∀c∈s.toArray.toList,_;simpa using a) (by intro e;simp at e;subst e;simp at h1) (by simp[I6];exact om19 h2);rw[this];simp only[PySem.NumText.digitsVal];rw[b]
set_option tactic.hygienic true in
theorem sumI_ok{vs:List V}{us:List G9}(h:VRs T E ρ vs us):∀{n:Int},sumI vs=G3 n->∃ns,IntsAre us ns/\ns.sum=n:=by
 refine h.ind (Pr:=λvs us=>∀{n:Int},sumI vs=G3 n->∃ns,IntsAre us ns/\ns.sum=n) (λe=>⟨[],.nil,Gm e⟩) ?_;intro v u vs us h _ ih n e;rcases h<;>try exact nn e
 rename_i i t;refine za (GK.mp e) λm hm rq2=>?_;subst rq2;refine za (ih hm) λns h1 h2=>?_;exact⟨i::ns,.cons i t h1,congrArg (i+ ·) h2⟩
theorem JY{i:Int}(h:i.natAbs < 1000000000):i.natAbs.log2 < 1920:=by
 by_cases z:i.natAbs=0
 ·rw[z];decide
 ·have:i.natAbs.log2 < 64:=(Nat.log2_lt z).mpr (om8 h);exact om18 this
theorem strOf_eq(i:Int):(⟨(Yw i).toArray⟩:Str)=G0 (toString i):=by unfold Yw;generalize G0 (toString i)=x;cases x;simp
theorem lenP_iff{a:V}{H:Hp}{Q:V->Hp->Prop}(h:lenP a H Q):(∃x,a= .str x/\Gj x.length 1000=G6/\Q (.int x.length) H)∨∃i vs,a= .obj i/\H[i]?=G3 (.list vs)/\Q (.int vs.length) H:=by
 induction a using V.casesOn with
 |str x=>refine zh (gd_iff.mp (show gd (Gj x.length 1000) (Q (.int x.length) H) from h)) ?_;clear h;intro h1 h;exact .inl ⟨x,rfl,h1,h⟩
 |obj i=>obtain⟨i,vs,e,e1,h⟩:=yn (v:=.obj i) (f:=λ_ vs=>Q (.int vs.length) H) h;exact .inr ⟨i,vs,e,e1,h⟩
 |_=>exact h.elim
theorem KP{a:V}{H:Hp}{Q:V->Hp->Prop}(h:intFP a H Q):(∃x,a= .int x/\Q (.int x) H)∨∃x n,a= .str x/\digits x=G3 n/\(Gj 1 x.length && Gj x.length 4)=G6/\Q (.int n) H:=by
 induction a using V.casesOn with
 |int x=>exact .inl ⟨x,rfl,h⟩
 |str x=>obtain⟨n,e,h⟩:=zq (f:=λ(n:Nat)=>gd (Gj 1 x.length && Gj x.length 4) (Q (.int n) H)) h;replace h:=gd_iff.mp h;obtain⟨h1,h⟩:=h;exact .inr ⟨x,n,rfl,e,h1,h⟩
 |_=>exact h.elim
theorem keysS_of{es:List (List Nat×V)}{kvs:List (Str×G9)}(h:KVs T E ρ es kvs):∀{C:List G9->Prop},(∀vs,VRs T E ρ (es.map λe=>.str e.1) vs->C vs)->KdlKeysS kvs C:=by
 induction h with
 |nil=>exact λhC=>hC [] .nil
 |cons _ _ ih=>exact λhC t=>ih λvs hv=>hC _ (.cons (.str _ t) hv)
theorem bfun_ok{b:Bf}{vs:List V}{us:List G9}(C:c.Ok T d)(R:c.Rep T H ρ E s.heap)(hv:VRs T E ρ vs us)(e:bfun b vs H Q):GA (Gy T.prog T.w) c.A (call (bfVal b) us) (Post T c s ρ E Q) Er s:=by
 refine za (R.N) λtb hb N=>?_
 induction b using Bf.casesOn with
 |len=>
  refine za (zY e) ?_;clear e;intro a rq1 e;subst rq1;refine za (hv.of1) λu rq1 h=>?_;subst rq1;replace e:=lenP_iff e;rcases e with⟨x,rfl,e1,e⟩|⟨i,vs,rfl,e1,e⟩
  ·refine zj (h.ofStr) λt rq1=>?_;subst rq1;refine PyProof.Rows.len_str (by rw[zI];exact Int.not_le.mpr (z63 (natB.mp e1))) ?_;rw[zI];exact Post.here R (.int _ _) e
  ·refine zf (h.ofObj) λaa dd rq2 hi=>?_;subst rq2;refine yz (R.isList e1 hi) λus n hm hl hv hn=>?_;have z:us.toArray.size=vs.length:=by rw[GH,hv.length]
   refine PyProof.Rows.len_list hl (by rw[z];simp only[lim] at hn;exact om20 hn) ?_;rw[z];exact Post.here R (.int _ _) e
 |int=>
  refine za (zY e) ?_;clear e;intro a rq1 e;subst rq1;refine za (hv.of1) λu rq1 h=>?_;subst rq1;replace e:=KP e;rcases e with⟨x,rfl,e⟩|⟨x,n,rfl,hn,e1,e⟩
  ·refine zj (h.ofInt) λt rq1=>?_;subst rq1;exact call_int_int (Post.at R (.int _ _) e)
  ·refine zj (h.ofStr) λt rq1=>?_;subst rq1;refine zh (GC.mp e1) λh1 h2=>?_;have h1:=natB.mp h1;have h2:=natB.mp h2;exact KIN.call_text (x:=strL x) (jU hn h1 h2) (by rw[zI];exact Ga h2 (G5 rfl)) (Post.here R (.int _ _) e)
 |str=>refine za (zY e) ?_;clear e;intro a rq1 e;subst rq1;refine za (hv.of1) λu rq1 h=>?_;subst rq1;refine za (zy e) ?_;clear e;intro i rq1 e;subst rq1;refine zj (h.ofInt) λt rq1=>?_;subst rq1;refine zh (gd_iff.mp e) ?_;clear e;intro e1 e;rw[FE] at e1;refine PySem.P.str_of_int (JY e1) ?_;rw[←strOf_eq];exact Post.here R (.str _ _) e
 |sum=>refine za (zY e) ?_;clear e;intro a rq1 e;subst rq1;refine za (hv.of1) λu rq1 h=>?_;subst rq1;refine zF (yn e) ?_;clear e;intro i vs rq2 e1 e;subst rq2;refine za (zq e) ?_;clear e;intro k hk e;refine zf (h.ofObj) λaa dd rq2 hi=>?_;subst rq2;refine yz (R.isList e1 hi) λus n hm hl hv hn=>?_;refine za (sumI_ok hv hk) λns h1 rq2=>?_;subst rq2;exact sumK C.hh R.F N hl h1 λh' tk t' F' N'=>⟨h',tk,_,H,ρ,E,rfl,R.same F' hb N',Ext.refl _ _,.int _ _,e⟩
 |tuple=>refine za (zY e) ?_;clear e;intro a rq1 e;subst rq1;refine za (hv.of1) λu rq1 h=>?_;subst rq1;refine za (Xc e) ?_;clear e;intro vs rq1 e;subst rq1;refine zF (h.ofTup) λus aa rq2 ht hvs=>?_;subst rq2;exact call_tuple_tup (R.isTup C.X ht) (Post.at R (.tup ht hvs) e)
 |max=>
  refine zf (Yq e) ?_;clear e;intro a b rq2 e;subst rq2;refine zF (hv.of2) λu u' rq2 h h'=>?_;subst rq2;refine za (zy e) ?_;clear e;intro a rq1 e;subst rq1;refine za (zy e) ?_;clear e;intro b rq1 e;subst rq1;refine zj (h.ofInt) λt rq1=>?_;subst rq1;refine zj (h'.ofInt) λu rq1=>?_;subst rq1;refine max_two_N C.hh R.F N λh' tk F' N'=>⟨h',tk,.int (max a b),H,ρ,E,rfl,R.same F' hb N',Ext.refl _ _,?_,e⟩;have:max a b=if b > a then b else a:=by
   rcases Int.lt_or_le a b with h|h
   ·rw[if_pos h,Iy (Int.le_of_lt h)]
   ·rw[if_neg (FD.mpr h),Int.max_eq_left h]
  rw[this];exact .int _ _
 |chr=>refine za (zY e) ?_;clear e;intro a rq1 e;subst rq1;refine za (hv.of1) λu rq1 h=>?_;subst rq1;refine za (zy e) ?_;clear e;intro i rq1 e;subst rq1;refine za (yE e) ?_;clear e;intro i rq1 e;subst rq1;refine zj (h.ofInt) λt rq1=>?_;subst rq1;refine zh (gd_iff.mp e) ?_;clear e;intro e1 e;rw[FE] at e1;refine PySem.P.chr_of_int (by rw[F4];exact⟨decide_eq_false (by simp),decide_eq_false (by have:(GX i)=(i:Int):=rfl;exact om21 e1 this)⟩) ?_;exact Post.here R (.str [i] _) e
 |ord=>
  refine za (zY e) ?_;clear e;intro a rq1 e;subst rq1;refine za (hv.of1) λu rq1 h=>?_;subst rq1;refine za (yw e) ?_;clear e;intro x rq1 e;subst rq1;refine zj (h.ofStr) λt rq1=>?_;subst rq1;rcases x with _|⟨cc,_|⟨c2,r⟩⟩
  ·exact e.elim
  ·exact PySem.P.ord_of_char (Post.here R (.int _ _) e)
  ·exact e.elim
 |range=>refine za (zY e) ?_;clear e;intro a rq1 e;subst rq1;refine za (hv.of1) λu rq1 h=>?_;subst rq1;refine za (zy e) ?_;clear e;intro n rq1 e;subst rq1;refine za (yE e) ?_;clear e;intro n rq1 e;subst rq1;refine zj (h.ofInt) λt rq1=>?_;subst rq1;refine zh (gd_iff.mp e) ?_;clear e;intro e1 e;have h1:=natB.mp e1;refine call_range_1 ?_;refine zh (R.one (x:=s.heap.objs.size) (o:={cls:=.type "range",data:=.fields #[.int 0 s.toks,.int (.ofNat n) t,.int 1 (s.toks+1)]}) hb (R.F.push _) (News.push R.F N _) (yI N)) λR' x'=>?_;exact⟨_,_,.rng n,H,ρ,_,rfl,R',x',.rng ⟨_,_,_,Gn ..⟩,e⟩
 |list=>refine za (zY e) ?_;clear e;intro a rq1 e;subst rq1;refine za (hv.of1) λu rq1 h=>?_;subst rq1;refine zF (XF e) ?_;clear e;intro i es rq2 e1 e;subst rq2;refine zf (h.ofObj) λaa dd rq2 hi=>?_;subst rq2;refine Ye (R.objAt e1 hi) λo kvs hm hd hvs hlim hs=>?_;refine kdl_list_keysS C.hh R.F N (Gg _ hm) hd.of hs (by rw[←hvs.length];exact Ga hlim (by decide)) λB c h' tk=>keysS_of hvs λus hu F' N' l1=>?_;refine zP (R.newL hb hu (by rw[Gs];exact hlim) F' N' l1) λR' x' hr=>?_;exact⟨h',tk,_,_,_,_,rfl,R',x',.obj hr,e⟩
theorem updOf{D:Gx}{o o':Obj}:∀{pre post:Lg},(∀p∈pre,p.1≠D)->(∀p∈post,p.1≠D)->Upd D o o' (pre++(D,o)::post) (pre++(D,o')::post):=by
 intro pre
 induction pre with
 |nil=>intro y1 y2 h;exact .head h
 |cons p pre ih=>intro y1 h1 h;exact .tail (h1 p (Gn ..)) (ih (λq hq=>h1 q (Go _ hq)) h)
theorem Rep.lst(R:c.Rep T H ρ E s.heap){i:Nat}{vs:List V}{a d:Gx}(e1:H[i]?=G3 (.list vs))(hi:ρ[i]?=G3 (a,d)):∃us n tb,TbOk T E tb/\FW c.wy c.L s.heap (E++(T.tab,tb)::c.G)/\
  (a,Fq us.toArray n)∈E/\s.heap.IsList a us.toArray/\VRs T E ρ vs us/\vs.length<=lim/\
  ∀vs' us' n',VRs T E ρ vs' us'->vs'.length<=lim->∃E',Upd a (Fq us.toArray n) (Fq us'.toArray n') (E++(T.tab,tb)::c.G) (E'++(T.tab,tb)::c.G)/\
   ∀h',Fr c.wy c.L h' c.m->FW c.wy c.L h' (E'++(T.tab,tb)::c.G)->c.Rep T (H.set i (.list vs')) ρ E' h'/\Ext E ρ E' ρ:=by
 refine yz (R.isList e1 hi) λus n hm hl hv hn=>?_;refine XM (R.split hm) λuQ uR tb he hb N n1 n2=>?_;refine⟨us,n,tb,hb,by rw[he];simpa using N,hm,hl,hv,hn,λvs' us' n' hv' hn'=>⟨uQ++(a,Fq us'.toArray n')::uR,?_,λh' F' N'=>?_⟩⟩
 ·rw[he];simp only[Gw,DU];exact updOf n1 n2
 ·refine R.put (o:=.list vs) (o':=.list vs') (x:=a) e1 hi (by simp[zZ]) he hb rfl (λ_=>rfl) F' (by simpa using N') λx=>⟨us',n',by simp,hv'.ext x,hn'⟩
set_option tactic.hygienic true in
theorem strs_ok{vs:List V}{us:List G9}(h:VRs T E ρ vs us):∀{ws:List (List Nat)},Mn.strsL vs=G3 ws->StrsAre us (ws.map strL):=by
 refine h.ind (Pr:=λvs us=>∀{ws:List (List Nat)},Mn.strsL vs=G3 ws->StrsAre us (ws.map strL)) (λe=>Gm e▸.nil) ?_;intro v u vs us h _ ih ws e;rcases h<;>try exact nn e
 rename_i x t;refine za (GK.mp e) λm hm rq2=>?_;subst rq2;exact .cons _ _ (ih hm)
theorem Jk(sep:List Nat):∀ws:List (List Nat),Str.join (strL sep) (ws.map strL)=strL (joinS sep ws)
 |[]=>rfl
 |[x]=>rfl
 |x::y::r=>by have ih:=Jk sep (y::r);simp only[GV] at ih ⊢;show strL x++strL sep++Str.join (strL sep) (strL y::r.map strL)=_;rw[ih,Zs,Zs];rfl
set_option tactic.hygienic true in
theorem ka(c:Nat):∀(l:List Nat) (i:Nat),(ke c l i=Gb/\c∉l)∨∃k,ke c l i=G3 (i+k)/\l[k]?=G3 c/\∀j,j < k->l[j]?≠G3 c:=by
 intro l
 induction l with
 |nil=>intro i;exact .inl ⟨rfl,by simp⟩
 |cons x r ih=>
  intro i;unfold ke
  split
  ·rename_i h;have:=natE.mp h;subst this;exact .inr ⟨0,rfl,rfl,λj hj=>absurd hj (Nat.not_lt_zero _)⟩
  ·rename_i h;have hne:=natEf.mp h;rcases ih (i+1) with⟨h1,h2⟩|⟨k,h1,h2,h3⟩
   ·exact .inl ⟨h1,by simp[Mc hne,h2]⟩
   ·refine .inr ⟨k+1,by rw[h1];congr 1;exact om22,by simpa using h2,λj hj=>?_⟩
    induction j using Nat.casesOn with
    |zero=>simpa using hne
    |succ j=>simpa using h3 j (om24 hj)
theorem find_eq(x:List Nat)(c i:Nat):Txt.find3 ⟨x.toArray⟩ ⟨#[c]⟩ (.ofNat i)=(match ke c (x.drop i) i with|some j=>(j:Int)|none=>-1):=by
 have hl:(I6 ⟨x.toArray⟩)=x.length:=by simp[I6]
 have gd':∀v,v < x.length->(x.toArray.getD v 0=c↔x[v]?=G3 c):=λv hv=>by simp[Array.getD,hv,List.getElem?_eq_getElem hv]
 have hf:fromIndex x.length (GX i)=i:=by unfold fromIndex;have:¬(GX i < 0):=FD.mpr (D2 i);rw[if_neg this];have:(GX i)=(i:Int):=rfl;exact om23 this
 have hd:∀j,(x.drop i)[j]?=x[i+j]?:=λj=>List.getElem?_drop;rcases ka c (x.drop i) i with⟨g1,g2⟩|⟨k',g1,g2,g3⟩
 ·rw[g1];rcases StrLaws.find3_spec ⟨x.toArray⟩ c (.ofNat i) with⟨h1,h2⟩|⟨k,h1,h2,h3,h4,h5⟩<;>rw[hl] at *<;>rw[hf] at *<;>rw[h1]
  exfalso;have hk:=(gd' k h3).mp h4;refine g2 (List.mem_iff_getElem?.mpr ⟨k - i,?_⟩);rw[hd,show i+(k - i)=k by exact om25 h2];exact hk
 ·rw[g1];rw[hd] at g2;have hlt:i+k' < x.length:=(List.getElem?_eq_some_iff.mp g2).1;have hc:=(gd' _ hlt).mpr g2;rcases StrLaws.find3_spec ⟨x.toArray⟩ c (.ofNat i) with⟨h1,h2⟩|⟨k,h1,h2,h3,h4,h5⟩<;>rw[hl] at *<;>rw[hf] at *
  ·exact absurd hc (h2 (i+k') (om28) hlt)
  ·rw[h1];have hk:=(gd' k h3).mp h4;have a1:¬i+k' < k:=λq=>h5 (i+k') (om28) q hc;have a2:¬k < i+k':=λq=>by refine g3 (k - i) (om30 h2 q) ?_;rw[hd,show i+(k - i)=k by exact om25 h2];exact hk
   have:k=i+k':=by exact om32 a1 a2
   simp[this]
def bmSplit:List (List Nat)->Bool:=λl=>l.all λs=>decide (Txt.split (strL s) ⟨#[32]⟩=(yF s).map strL)
theorem JP:∀s∈splitCs,Txt.split (strL s) ⟨#[32]⟩=(yF s).map strL:=by
 have:bmSplit splitCs=G6:=by decide+kernel
 exact λs hs=>of_decide_eq_true (Gz.mp this s hs)
noncomputable def bmId:Bm->String
 |.append=>"list.append"|.extend=>"list.extend"|.pop=>"list.pop"|.insert=>"list.insert"|.split=>"str.split"|.find=>"str.find"|.join=>"str.join"|.get=>"dict.get"
theorem jM{u:V}(h:isSB u=G6):∃x,u= .str x:=by rcases u<;>first|exact absurd h G4|exact⟨_,rfl⟩
set_option tactic.hygienic true in
theorem isLB_of{u:V}{H:Hp}(h:isLB u H=G6):∃i vs,u= .obj i/\H[i]?=G3 (.list vs):=by
 rcases u<;>first|exact absurd h G4|skip
 rename_i i;have h:(match H[i]? with|some (.list _)=>G6|_=>G7)=G6:=h
 induction e:H[i]? using GD with
 |none=>rw[e] at h;exact absurd h G4
 |some o=>rw[e] at h;rcases o<;>first|exact absurd h G4|exact⟨i,_,rfl,e⟩
set_option tactic.hygienic true in
theorem isDB_of{u:V}{H:Hp}(h:isDB u H=G6):∃i es,u= .obj i/\H[i]?=G3 (.dict es):=by
 rcases u<;>first|exact absurd h G4|skip
 rename_i i;have h:(match H[i]? with|some (.dict _)=>G6|_=>G7)=G6:=h
 induction e:H[i]? using GD with
 |none=>rw[e] at h;exact absurd h G4
 |some o=>rw[e] at h;rcases o<;>first|exact absurd h G4|exact⟨i,_,rfl,e⟩
theorem bmGet_ok{b:Bm}{u:V}{v:G9}{pl:Sem Bool}{K:G9×List G9->Gh->Prop}(R:c.Rep T H ρ E s.heap)(hv:VR T E ρ u v)(e:jn b u H=G6)(h:K (.builtin (bmId b),[v]) s) :
  GA (Gy T.prog T.w) A (IE v (JH b) pl) K Er s:=by
 refine za (R.N) λtb hb N=>?_;have hl:∀{id:String} (_:isLB u H=G6),(∀{us n a},(a,Fq (List.toArray us) n)∈E->v= .ref a->GA (Gy T.prog T.w) A (IE v (JH b) pl) K Er s)->GA (Gy T.prog T.w) A (IE v (JH b) pl) K Er s:=λ{_} e k=>by refine zf (isLB_of e) λi vs rq2 e1=>?_;subst rq2;refine zf (hv.ofObj) λa dd rq2 hi=>?_;subst rq2;refine zf (R.isList e1 hi) λus n hm _=>?_;exact k hm rfl
 induction b using Bm.casesOn with
 |split=>obtain⟨x,rfl⟩:=jM e;obtain⟨t,rfl⟩:=hv.ofStr;exact GM.split h
 |find=>obtain⟨x,rfl⟩:=jM e;obtain⟨t,rfl⟩:=hv.ofStr;exact GM.find h
 |join=>obtain⟨x,rfl⟩:=jM e;obtain⟨t,rfl⟩:=hv.ofStr;exact GM.join h
 |get=>refine zf (isDB_of e) λi es rq2 e1=>?_;subst rq2;refine zf (hv.ofObj) λa dd rq2 hi=>?_;subst rq2;refine Ye (R.objAt e1 hi) λo kvs hm hd hv hn hs=>?_;exact kdg_method (knd:=strKind T.prog T.w) N (Gg _ hm) hd.of h
 |append=>exact hl (id:="") e λhm q=>by subst q;exact kl_method N (Gg _ hm) PySem.F.slot_list_append PySem.F.type_list_append h
 |extend=>exact hl (id:="") e λhm q=>by subst q;exact kl_method N (Gg _ hm) PySem.F.slot_list_extend PySem.F.type_list_extend h
 |pop=>exact hl (id:="") e λhm q=>by subst q;exact kl_method N (Gg _ hm) PySem.F.slot_list_pop PySem.F.type_list_pop h
 |insert=>exact hl (id:="") e λhm q=>by subst q;exact kl_method N (Gg _ hm) PySem.F.slot_list_insert PySem.F.type_list_insert h
theorem last_of{α:Type}{l:List α}{x:α}{r:List α}(h:l.reverse=x::r):l=r.reverse++[x]:=by have:=congrArg List.reverse h;simpa using this
theorem jJ(p:List G9)(y:G9):kl_last (p++[y])=G3 (p,y):=by
 induction p with
 |nil=>rfl
 |cons x p ih=>rw[DU,kl_last,ih]
theorem spP_iff{y:List Nat}{p:Prop}(h:(match y with|[32]=>p|_=>False)):y=[32]/\p:=by
 split at h
 ·exact⟨rfl,h⟩
 ·exact h.elim
theorem bmeth_ok{b:Bm}{u:V}{v:G9}{vs:List V}{us:List G9}(C:c.Ok T d)(R:c.Rep T H ρ E s.heap)(hu:VR T E ρ u v)(hv:VRs T E ρ vs us)(e:jY b u vs H Q):GA (Gy T.prog T.w) c.A (call (.builtin (bmId b)) (v::us)) (Post T c s ρ E Q) Er s:=by
 refine za (R.N) λtb hb N=>?_
 induction b using Bm.casesOn with
 |find=>
  refine za (yw e) ?_;clear e;intro x rq1 e;subst rq1;refine zf (Yq e) ?_;clear e;intro a1 a2 rq2 e;subst rq2;refine za (yw e) ?_;clear e;intro y rq1 e;subst rq1;refine zj (hu.ofStr) λt rq1=>?_;subst rq1;refine zF (hv.of2) λu1 u2 rq2 h1 h2=>?_;subst rq2;refine zj (h1.ofStr) λt1 rq1=>?_;subst rq1;rcases y with _|⟨cc,_|⟨c2,r⟩⟩
  ·exact e.elim
  ·refine za (zy e) ?_;clear e;intro i rq1 e;subst rq1;refine za (yE e) ?_;clear e;intro i rq1 e;subst rq1;refine zj (h2.ofInt) λt2 rq1=>?_;subst rq1;refine SC.find3 ?_;rw[show Txt.find3 (strL x) (strL [cc]) (.ofNat i)=_ from find_eq x cc i];exact Post.here R (.int _ _) e
  ·exact e.elim
 |split=>
  refine za (yw e) ?_;clear e;intro x rq1 e;subst rq1;refine za (zY e) ?_;clear e;intro a1 rq1 e;subst rq1;refine za (yw e) ?_;clear e;intro y rq1 e;subst rq1;refine zj (hu.ofStr) λt rq1=>?_;subst rq1;refine za (hv.of1) λu1 rq1 h1=>?_;subst rq1;refine zj (h1.ofStr) λt1 rq1=>?_;subst rq1;refine zh (spP_iff e) ?_;clear e;intro rq0 e;subst rq0;refine zh (gd_iff.mp e) ?_;clear e;intro e1 e;refine za (Iz.mp e1) λcs hc hq=>?_;obtain rfl:=eqS_iff.mp hq;have hz:=JP _ hc;have hlen:∀s∈splitCs,s.length<=40/\(yF s).length<=40:=by decide
  refine KSpl.split1 R.F N rfl (λD l h' k e1 hs F' N' hlt=>?_) (by rw[D7,zI];have:=(hlen _ hc).1;exact om26 this);have e1':l.map (·.1)=(yF x).map strL:=e1.trans hz;have hvr:VRs T E ρ ((yF x).map .str) (strValues l):=by
   clear hs N' e1;generalize yF x=ws at e1'
   induction l generalizing ws with
   |nil=>cases ws with|nil=>exact .nil|cons _ _=>simp at e1'
   |cons p l ih=>
    induction ws using D8 with
    |nil=>simp at e1'
    |cons y ws=>simp only[GV,List.cons.injEq] at e1';refine .cons ?_ (ih ws e1'.2);obtain⟨pa,pb⟩:=p;refine zh (e1') ?_;clear e1';intro q1 _;dsimp only at q1;subst q1;exact .str _ _
  refine zP (R.newL (n:=0) hb hvr (by rw[Gs];simp only[lim];have:=(hlen _ hc).2;exact om27 this) F' N' hlt) λR' x' hr=>?_;exact⟨h',k,_,_,_,_,rfl,R',x',.obj hr,e⟩
 |join=>
  refine za (yw e) ?_;clear e;intro x rq1 e;subst rq1;refine za (zY e) ?_;clear e;intro a1 rq1 e;subst rq1;refine zF (yn e) ?_;clear e;intro i ws rq2 e1 e;subst rq2;refine za (zq e) ?_;clear e;intro xs hx e;refine zh (gd_iff.mp e) ?_;clear e;intro e2 e;refine zj (hu.ofStr) λt rq1=>?_;subst rq1;refine za (hv.of1) λu1 rq1 h1=>?_;subst rq1;refine zf (h1.ofObj) λa dd rq2 hi=>?_;subst rq2;refine yz (R.isList e1 hi) λus n hm hl hv hn=>?_;have hs:=strs_ok hv hx;have h2:=natB.mp e2;refine join_list hl (ys:=xs.map strL) (by simpa using hs) ?_ λt' k=>?_
  ·rw[Mq,show(I6 ∘ strL)=List.length from funext λa=>zI a,Gs,zI];have h2':(xs.map List.length).sum+xs.length*x.length<=1000:=h2;exact om29 h2'
  ·have hj:Txt.join (strL x) (xs.map strL)=strL (joinS x xs):=by unfold Txt.join;rw[StrLaws.glued_eq_join];exact Jk x xs
   rw[hj];exact Post.here R (.str _ _) e
 |append=>
  refine zF (yn e) ?_;clear e;intro i xs rq2 e1 e;subst rq2;refine za (zY e) ?_;clear e;intro a1 rq1 e;subst rq1;refine zh (gd_iff.mp e) ?_;clear e;intro e2 e;refine zf (hu.ofObj) λa dd rq2 hi=>?_;subst rq2;refine za (hv.of1) λu1 rq1 h1=>?_;subst rq1;refine jt (R.lst e1 hi) λus0 n tb hb N hm hl hv0 hn up=>?_;have hsz:us0.toArray.size=xs.length:=by rw[GH,hv0.length]
  rw[FE] at e2;refine za (up _ _ (n+1) (hv0.append (.cons h1 .nil)) (by simp only[lim,Gr,DZ];exact om31 e2)) λE' U k=>?_;refine append_K R.F N (by rw[List.push_toArray];exact U) (λh' F' N'=>?_) (by rw[hsz,D7];exact om33 e2);refine zh (k h' F' N') λR' x'=>?_;exact⟨h',s.toks,_,_,_,_,rfl,R',x',.none,e⟩
 |extend=>
  refine zF (yn e) ?_;clear e;intro i xs rq2 e1 e;subst rq2;refine za (zY e) ?_;clear e;intro a1 rq1 e;subst rq1;refine zF (yn e) ?_;clear e;intro j ys rq2 e2 e;subst rq2;refine zh (gd_iff.mp e) ?_;clear e;intro e3 e;refine zf (hu.ofObj) λa dd rq2 hi=>?_;subst rq2;refine za (hv.of1) λu1 rq1 h1=>?_;subst rq1;refine zf (h1.ofObj) λb db rq2 hj=>?_;subst rq2;refine jt (R.lst e1 hi) λus0 n tb hb N hm hl hv0 hn up=>?_;have hsz:us0.toArray.size=xs.length:=by rw[GH,hv0.length]
  have h3:=natB.mp e3;refine yz (R.isList e2 hj) λws n2 hm2 hl2 hv2 hn2=>?_;have hsz2:ws.toArray.size=ys.length:=by rw[GH,hv2.length]
  have hd:¬(!us0.toArray.isEmpty && Mi (us0.toArray.size+ws.toArray.size))=G6:=by rw[Dc];rintro⟨_,q⟩;rw[hsz,hsz2] at q;simp only[Mi,decide_eq_true_eq] at q;exact absurd q (DT (ot1 h3))
  by_cases hne:ws=[]
  ·subst hne;have hy:ys=[]:=by cases hv2;rfl
   subst hy;rw[D5] at e;refine za (up _ _ n hv0 hn) λE' U k=>?_;refine kxn_extend R.F N (Gg _ hm2) rfl U hd (by simp at hsz ⊢;rw[hsz,D7];exact ot3 h3) (by rw[hsz,hsz2,D7];exact GU (ot1 h3)) λh' F' N'=>?_;refine zh (k h' F' N') λR' x'=>?_;exact⟨h',s.toks,_,_,_,_,rfl,R',x',.none,e⟩
  ·refine za (up _ _ (n+1) (hv0.append hv2) (by rw[Gr];exact h3)) λE' U k=>?_;refine kl_extend R.F N (Gg _ hm2) (l:=us0++ws) (by simp) (by simpa using hne) U hd (by simp at hsz ⊢;rw[hsz,D7];exact ot3 h3) (by rw[hsz,hsz2,D7];exact GU (ot1 h3)) λh' F' N'=>?_;refine zh (k h' F' N') λR' x'=>?_;exact⟨h',s.toks,_,_,_,_,rfl,R',x',.none,e⟩
 |pop=>
  refine zF (yn e) ?_;clear e;intro i xs rq2 e1 e;subst rq2;refine zh (arg0_iff e) ?_;clear e;intro rq0 e;subst rq0;refine zf (hu.ofObj) λa dd rq2 hi=>?_;subst rq2;rw[hv.of0];refine jt (R.lst e1 hi) λus0 n tb hb N hm hl hv0 hn up=>?_;have hsz:us0.toArray.size=xs.length:=by rw[GH,hv0.length]
  replace e:(match xs.reverse with|v::r=>Q v (H.set i (.list r.reverse))|[]=>False):=e
  induction hr:xs.reverse using D8 with
  |nil=>rw[hr] at e;exact e.elim
  |cons y r=>
   rw[hr] at e;replace e:Q y (H.set i (.list r.reverse)):=e;have hl':=last_of hr;subst hl';obtain⟨p,z,rfl,hp,hz⟩:∃p z,us0=p++[z]/\VRs T E ρ r.reverse p/\VR T E ρ y z:=by have h1:=hv0.take r.reverse.length;have h2:=hv0.drop r.reverse.length;rw[List.take_left] at h1;rw[List.drop_left] at h2;refine za (h2.of1) ?_;clear h2;intro z hq h2;exact⟨_,z,by rw[←hq];exact(Fw _ _).symm,h1,h2⟩
   refine za (up _ _ (n+1) hp (by simp only[Gr,lim] at hn ⊢;exact om36 hn)) λE' U k=>?_;refine kl_pop R.F N (p:=p) (y:=z) (by simpa using jJ p z) U (by simp only[lim] at hn;simp at hsz ⊢;rw[D7];simp at hn;exact om37 hsz hn) λh' F' N'=>?_;refine zh (k h' F' N') λR' x'=>?_;exact⟨h',s.toks,_,_,_,_,rfl,R',x',hz.ext x',e⟩
 |insert=>
  refine zF (yn e) ?_;clear e;intro i xs rq2 e1 e;subst rq2;refine zf (Yq e) ?_;clear e;intro a1 y0 rq2 e;subst rq2;refine za (zy e) ?_;clear e;intro k0 rq1 e;subst rq1;refine za (yE e) ?_;clear e;intro k0 rq1 e;subst rq1;refine zh (gd_iff.mp e) ?_;clear e;intro e2 e;refine zf (hu.ofObj) λa dd rq2 hi=>?_;subst rq2;refine zF (hv.of2) λu1 u2 rq2 h1 h2=>?_;subst rq2;refine zj (h1.ofInt) λt1 rq1=>?_;subst rq1;refine jt (R.lst e1 hi) λus0 n tb hb N hm hl hv0 hn up=>?_;have hsz:us0.toArray.size=xs.length:=by rw[GH,hv0.length]
  rw[Dc,FE] at e2;refine zh (e2) ?_;clear e2;intro e2 e3;have h3:=natB.mp e3;have hlen:xs.length=us0.length:=hv0.length;refine za (up _ _ (n+1) ((hv0.take k0).append (.cons h2 (hv0.drop k0))) (by simp only[lim,Gr,GO,FP,DV];exact om38 e2)) λE' U k=>?_;refine kl_insert R.F N (by unfold Builtin.List.listFitsIndex;simp;exact z63 h3) (l:=us0.take k0++_::us0.drop k0) ?_ U (by simp at hsz ⊢;rw[hsz,D7];exact om33 e2) λh' F' N'=>?_
  ·have:¬(GX k0 < 0):=FD.mpr (D2 k0);unfold kl_ins;simp only[this,if_false,DL];show us0.take (min k0 us0.length)++_::us0.drop (min k0 us0.length)=_;rw[Xd]
   congr 2
   by_cases hk:k0<=us0.length
   ·rw[I3 hk]
   ·rw[IA (om13 hk),Fp (GI _),Fp (om13 hk)]
  ·refine zh (k h' F' N') λR' x'=>?_;exact⟨h',s.toks,_,_,_,_,rfl,R',x',.none,e⟩
 |get=>
  refine zF (XF e) ?_;clear e;intro i es rq2 e1 e;subst rq2;refine zf (Yq e) ?_;clear e;intro a1 y0 rq2 e;subst rq2;refine za (yw e) ?_;clear e;intro k0 rq1 e;subst rq1;refine zf (hu.ofObj) λa dd rq2 hi=>?_;subst rq2;refine zF (hv.of2) λu1 u2 rq2 h1 h2=>?_;subst rq2;refine zj (h1.ofStr) λt1 rq1=>?_;subst rq1;refine Ye (R.objAt e1 hi) λo kvs hm hd hv hn hs=>?_;rcases Xr k0 hv with⟨p1,p2⟩|⟨v',u,p1,p2,hr⟩
  ·rw[p1] at e;exact kdg_get2 (knd:=strKind T.prog T.w) N (Gg _ hm) hd.of hs (ID T.prog T.w _ _) _ p2 (Post.here R h2 e)
  ·rw[p1] at e;exact kdg_get2 (knd:=strKind T.prog T.w) N (Gg _ hm) hd.of hs (ID T.prog T.w _ _) _ p2 (Post.here R hr e)
end
section
variable {T:Tp} {P:Prg} {Nn:Nm} {c:Cx} {s:Gh} {ρ:Rn} {E:Lg} {H:Hp} {Q:V->Hp->Prop} {Er:G9->Gh->Prop} {prog:Di} {w:Fb} {d:Nat} {A:Dh}
noncomputable def attOk(K:DN)(C:Gx)(name:Str):Bool:=
 plainGet K C name && hasDictIn K C && (match I8 K (.ref C) name with|some attr=>noGet K attr|none=>G7) &&
 (I8 K (.ref C) "__setattr__"==G3 (G3 (.builtin "object.__setattr__"))) && plainOver K C && (takerIn K C name==G3 Gb)
noncomputable def mthOk(K:DN)(C:Gx)(name:Str)(a:Gx):Bool:=
 plainGet K C name && (I8 K (.ref C) name==G3 (G3 (.ref a))) && isFn K (.ref a) && keepIn K (.ref a)
noncomputable def KU(K:DN)(name:Str)(a:Gx):Bool:=(nsIn K Dy name==G3 (G3 (.ref a))) && keepIn K (.ref a)
structure TpOk (T:Tp) (P:Prg) (N:Nm):Prop where
 scr:P.scr=T.ns
 prm:T.P=T.w.params
 nat:N.attr=T.attr
 ata:P.att=T.att
 lmK:N.lamK=T.lamK
 lmP:posEq N.lamP T.lamP=G6
 lmX:N.lamX=T.lamX
 lmN:N.lamN=T.lamN
 inj:∀f g,T.attr f=T.attr g->f=g
 att:∀k f C,T.att k f=G6->T.cls k=G3 C->attOk T.K C (T.attr f)=G6
 mth:∀k m g C,P.meth k m=G3 g->T.cls k=G3 C->∃a,T.fn g=G3 a/\mthOk T.K C (N.meth m) a=G6
 apart:∀k m g f,P.meth k m=G3 g->T.att k f=G6->T.attr f≠N.meth m
 glo:∀f x,N.glob f=G3 x->∃a,(T.fn f=G3 a∨T.cls f=G3 a)/\KU T.K x a=G6
theorem KX{fs:List (Nat×V)}{es:List FV}(inj:∀f g,T.attr f=T.attr g->f=g)(h:FRs T E ρ T.attr fs es)(f:Nat) :
  (getF f fs=Gb/\getL (T.attr f) es=G3 Gb)∨∃v u,getF f fs=G3 v/\getL (T.attr f) es=G3 (G3 u)/\VR T E ρ v u:=by
 induction h with
 |nil=>exact .inl ⟨rfl,rfl⟩
 |@cons k v e fs es hk hv _ ih=>
  obtain⟨hh,t,hkey⟩:=hk;unfold getF
  by_cases q:k=f
  ·subst q;rw[natE.mpr rfl];refine .inr ⟨v,e.val,rfl,?_,hv⟩;unfold getL;rw[List.find?_cons_of_pos];rw[hkey];simp[Md]
  ·have hb:Gi k f=G7:=natEf.mpr q;rw[hb];have hs:e.key.isStr (T.attr f)=G7:=by rw[hkey];simp only[Md];exact beq_false_of_ne λz=>q (inj _ _ z)
   have hg:getL (T.attr f) (e::es)=getL (T.attr f) es:=by
    unfold getL;rw[List.find?_cons_of_neg (by rw[hs];decide)];have:(e::es).any (·.refKey)=es.any (·.refKey):=by
     rw[IF];have:e.refKey=G7:=by unfold DictEntry.refKey;rw[hkey]
     rw[this];rfl
    rw[this]
   rw[hg];exact ih
theorem frs_miss{fs:List (Nat×V)}{es:List FV}{name:Str}(h:FRs T E ρ T.attr fs es)(hn:∀p∈fs,T.attr p.1≠name):getL name es=G3 Gb:=by
 induction h with
 |nil=>rfl
 |@cons k v e fs es hk hv _ ih=>
  obtain⟨hh,t,hkey⟩:=hk;have hs:e.key.isStr name=G7:=by rw[hkey];simp only[Md];exact beq_false_of_ne (hn (k,v) (Gn ..))
  unfold getL;rw[List.find?_cons_of_neg (by rw[hs];decide)];have:(e::es).any (·.refKey)=es.any (·.refKey):=by
   rw[IF];have:e.refKey=G7:=by unfold DictEntry.refKey;rw[hkey]
   rw[this];rfl
  rw[this];exact ih λp hp=>hn p (Go _ hp)
theorem KW{fs:List (Nat×V)}{es:List FV}(inj:∀f g,T.attr f=T.attr g->f=g)(h:FRs T E ρ T.attr fs es)(f:Nat){v:V}{u:G9}{t:Tok}(hv:VR T E ρ v u) :
  FRs T E ρ T.attr (setF f v fs) (putL (T.attr f) (PyData.keyHash T.P (T.attr f)) (.str (T.attr f) t) u es):=by
 induction h with
 |nil=>exact .cons ⟨rfl,t,rfl⟩ hv .nil
 |@cons k v' e fs es hk hv' r ih=>
  obtain⟨hh,t',hkey⟩:=hk;unfold setF putL
  by_cases q:k=f
  ·subst q;rw[natE.mpr rfl,if_pos (by rw[hkey];simp[Md])];exact .cons ⟨hh,t',hkey⟩ hv r
  ·rw[natEf.mpr q,if_neg (by rw[hkey];simp only[Md];exact λz=>q (inj _ _ (beq_iff_eq.mp z)))];exact .cons ⟨hh,t',hkey⟩ hv' ih
theorem J8(f:Nat)(v:V):∀fs:List (Nat×V),(setF f v fs).length<=fs.length+1:=by
 intro fs
 induction fs with
 |nil=>
  exact by simp[setF]
 |cons hdp r ih=>
  obtain⟨k,u⟩:=hdp;unfold setF
  split
  ·simp
  ·simp only[GO];have:=ih;exact om41 this
theorem setF_att{f:Nat}{v:V}{p:Nat->Bool}(hf:p f=G6):∀fs:List (Nat×V),(∀q∈fs,p q.1=G6)->∀q∈setF f v fs,p q.1=G6:=by
 intro fs
 induction fs with
 |nil=>
  intro y1 q hq;exact by simp[setF] at hq;subst hq;exact hf
 |cons hdp r ih=>
  intro h q hq;obtain⟨k,u⟩:=hdp;unfold setF at hq
  split at hq
  ·rcases Gp.mp hq with rfl|hq
   ·exact h (k,u) (Gn ..)
   ·exact h q (Go _ hq)
  ·rcases Gp.mp hq with rfl|hq
   ·exact h (k,u) (Gn ..)
   ·exact ih (λq hq=>h q (Go _ hq)) q hq
theorem kK{v:V}{u:G9}(h:VR T E ρ v u):handedIn u=G6:=by rcases h<;>rfl
theorem Rep.instAt(R:c.Rep T H ρ E s.heap){i k:Nat}{fs:List (Nat×V)}{a dx:Gx}(e1:H[i]?=G3 (.inst k fs))(hi:ρ[i]?=G3 (a,dx)) :
  ∃C es n,T.cls k=G3 C/\InstAt s.heap a (instObj C dx) C (G3 (IR es n))/\(a,instObj C dx)∈E/\(dx,IR es n)∈E/\FRs T E ρ T.attr fs es/\fs.length<=100/\∀p∈fs,T.att k p.1=G6:=by
 refine xe3c6 (R.objAt e1 hi) λC es n h1 h2 h3 h4 h5 h6=>?_;refine za (R.N) λtb hb N=>?_;exact⟨C,es,n,h1,InstAt.of_news N (Gg _ h2) (Gg _ h3),h2,h3,h4,h5,h6⟩
set_option tactic.hygienic true in
theorem getA_ok(K:TpOk T P Nn)(C:c.Ok T d)(R:c.Rep T H ρ E s.heap){i k f:Nat}{fs:List (Nat×V)}{a dx:Gx}{v:V}{expr:Bool}{S:G9->Gh->Prop}(e1:H[i]?=G3 (.inst k fs))(hi:ρ[i]?=G3 (a,dx))(ha:P.att k f=G6)(hg:getF f fs=G3 v)
  (h:∀u tk,VR T E ρ v u->S u {s with toks:=tk}):GA (Gy prog w) A (getAttr (.ref a) (T.attr f) expr) S Er s:=by
 refine jt (R.instAt e1 hi) λCc es n hC I m1 m2 hf hl hat=>?_;rw[K.ata] at ha;have z:=K.att k f Cc ha hC;unfold attOk at z;simp only[Dc] at z;obtain⟨⟨⟨⟨⟨z1,z2⟩,z3⟩,z4⟩,z5⟩,z6⟩:=z
 split at z3
 ·rename_i attr hat;rcases KX K.inj hf f with⟨q1,q2⟩|⟨v',u,q1,q2,q3⟩
  ·rw[q1] at hg;cases hg
  ·rw[q1] at hg;cases hg;exact get_own R.F C.X I z1 z2 hat z3 q2 (kK q3) (h u _ q3)
 ·cases z3
theorem setA_ok(K:TpOk T P Nn)(C:c.Ok T d)(R:c.Rep T H ρ E s.heap){i k f:Nat}{fs:List (Nat×V)}{a dx:Gx}{v:V}{u:G9}{S:Unit->Gh->Prop}(e1:H[i]?=G3 (.inst k fs))(hi:ρ[i]?=G3 (a,dx))(ha:P.att k f=G6)(hl:fs.length < 100)(hv:VR T E ρ v u)
  (h:∀h' tk E',c.Rep T (H.set i (.inst k (setF f v fs))) ρ E' h'->Ext E ρ E' ρ->S () {s with heap:=h',toks:=tk}):GA (Gy T.prog T.w) A (setAttr (.ref a) (T.attr f) u) S Er s:=by
 refine jt (R.instAt e1 hi) λCc es n hC I m1 m2 hf _ hat=>?_;rw[K.ata] at ha;have z:=K.att k f Cc ha hC;unfold attOk at z;simp only[Dc] at z;obtain⟨⟨⟨⟨⟨z1,z2⟩,z3⟩,z4⟩,z5⟩,z6⟩:=z;refine XM (R.split m2) λuQ uR tb he hb N n1 n2=>?_;have hgl:(getL (T.attr f) es).isSome=G6:=by
  rcases KX K.inj hf f with⟨_,q2⟩|⟨_,_,_,q2,_⟩<;>rw[q2]<;>rfl
 have hne:a≠dx:=by
  have:=R.ft;have hmem:=λb hb=>jS (b:=b) hb e1 hi;intro q;subst q;have nd1:((E).map (·.1)).Nodup:=by have:=R.nd;rw[GB] at this;exact(GG.mp this).1
  have:=YG nd1 m1 m2 rfl;cases this
 refine set_dict R.F C.X N I rfl (beq_iff_eq.mp z4) z5 (beq_iff_eq.mp z6) z2 hgl rfl (updOf n1 n2) ?_ λh' F' N'=>?_
 ·have:=(KW (t:=s.toks+1) K.inj hf f hv).length;rw[K.prm] at this;rw[←this];have:=J8 f v fs;exact om43 hl this
 ·have hmem:(a,instObj Cc dx)∈uQ++uR:=by
   rw[he] at m1;rcases GL.mp m1 with q|q
   ·exact Gg _ q
   ·rcases Gp.mp q with q|q
    ·cases q
    ·exact Gd _ q
  obtain⟨R',x'⟩:=R.put (o:=.inst k fs) (o':=.inst k (setF f v fs)) (x:=dx) e1 hi (by simp[zZ]) he hb rfl (λ_=>rfl) F' N' λx=>by
   refine⟨Cc,_,_,hC,?_,Gd _ (Gn ..),?_,?_,?_⟩
   ·rcases GL.mp hmem with q|q
    ·exact Gg _ q
    ·exact Gd _ (Go _ q)
   ·have:=KW (t:=s.toks+1) K.inj (hf.ext x) f (hv.ext x);rw[K.prm] at this;exact this
   ·have:=J8 f v fs;exact om44 hl this
   ·exact setF_att ha fs hat
  exact h _ _ _ R' x'
theorem getM_ok(K:TpOk T P Nn)(C:c.Ok T d)(R:c.Rep T H ρ E s.heap){i k mm g:Nat}{fs:List (Nat×V)}{a dx:Gx}{pl:Sem Bool}{S:G9×List G9->Gh->Prop}(e1:H[i]?=G3 (.inst k fs))(hi:ρ[i]?=G3 (a,dx))(hm:P.meth k mm=G3 g)
  (h:∀ga,T.fn g=G3 ga->keepIn T.K (.ref ga)=G6->S (.ref ga,[.ref a]) s):GA (Gy prog w) A (IE (.ref a) (Nn.meth mm) pl) S Er s:=by
 refine jt (R.instAt e1 hi) λCc es n hC I m1 m2 hf hl hat=>?_;refine za (K.mth k mm g Cc hm hC) λga z1 z2=>?_;unfold mthOk at z2;simp only[Dc] at z2;obtain⟨⟨⟨y1,y2⟩,y3⟩,y4⟩:=z2;exact method_inst R.F C.X I y1 (beq_iff_eq.mp y2) y3 (frs_miss hf λp hp=>K.apart k mm g p.1 hm (hat p hp)) (h ga z1 y4)
end
structure ScOk (T:Tp) (lm:Bool) (sc:GW) (c:Cx):Prop where
 glob:∀x,zu sc x .globalImplicit=G6->c.fe.kindOf x=G3 .globalImplicit
 cell:∀x,zu sc x .cell=G6->c.fe.kindOf x=G3 .cell
 lam:lm=G6->∃cn cs a cl,c.fe=envX cn cs c.L a (.ref T.tabC) cl/\(cn++".<locals>."++"<lambda>":Str)=T.lamQ
def CalAt(T:Tp)(E:Lg)(f:Nat)(fv:G9):Prop:=(∃a,T.fn f=G3 a/\fv= .ref a)∨(∃a,T.cls f=G3 a/\fv= .ref a)∨(∃a,LamAt T E f a/\fv= .ref a)
theorem CalAt.ext{T:Tp}{E E':Lg}{ρ ρ':Rn}(x:Ext E ρ E' ρ'){f:Nat}{fv:G9}(h:CalAt T E f fv):CalAt T E' f fv:=
 h.imp id (Or.imp id (GY λ_ h=>⟨h.1.ext x.fix,h.2⟩))
def js(RX:RxT)(T:Tp)(O:Orc)(d:Nat):Prop:=∀(c:Cx) (f:Nat) (as:List V) (H:Hp) (Q:V->Hp->Prop) (X:Nat->Hp->Prop) (ρ:Rn) (E:Lg) (s:Gh) (us:List G9) (fv:G9) (Er:G9->Gh->Prop),
 c.Ok T d->O f as H Q X->c.Rep T H ρ E s.heap->VRs T E ρ as us->CalAt T E f fv->(∀e s',XPost RX c s ρ E X e s'->Er e s')->GA (Gy T.prog T.w) c.A (call fv us) (Post T c s ρ E Q) Er s
inductive PostB (T:Tp) (c:Cx) (s:Gh) (ρ:Rn) (E:Lg) (Q:Bool->Hp->Prop) (b:Bool) (s':Gh):Prop
 |mk (h':Do) (tk:Nat) (H':Hp) (ρ':Rn) (E':Lg):s'={s with heap:=h',toks:=tk}->c.Rep T H' ρ' E' h'->Ext E ρ E' ρ'->Q b H'->PostB T c s ρ E Q b s'
inductive PostL (T:Tp) (c:Cx) (s:Gh) (ρ:Rn) (E:Lg) (n:Nat) (Q:V->Hp->Prop) (us:List G9) (s':Gh):Prop
 |mk (h':Do) (tk:Nat) (vs:List V) (H':Hp) (ρ':Rn) (E':Lg):s'={s with heap:=h',toks:=tk}->c.Rep T H' ρ' E' h'->Ext E ρ E' ρ'->VRs T E' ρ' vs us->us.length=n->Q (.tup vs) H'->PostL T c s ρ E n Q us s'
inductive PRs (T:Tp) (E:Lg) (ρ:Rn):List V->List (G9×G9)->Prop
 |nil:PRs T E ρ [] []
 |cons {k v:V} {a b:G9} {r:List V} {ps:List (G9×G9)}:VR T E ρ k a->VR T E ρ v b->PRs T E ρ r ps->PRs T E ρ (k::v::r) ((a,b)::ps)
inductive PostD (T:Tp) (c:Cx) (s:Gh) (ρ:Rn) (E:Lg) (n:Nat) (Q:V->Hp->Prop) (us:List (G9×G9)) (s':Gh):Prop
 |mk (h':Do) (tk:Nat) (vs:List V) (H':Hp) (ρ':Rn) (E':Lg):s'={s with heap:=h',toks:=tk}->c.Rep T H' ρ' E' h'->Ext E ρ E' ρ'->PRs T E' ρ' vs us->us.length=n->Q (.tup vs) H'->PostD T c s ρ E n Q us s'
section
variable (RX:RxT) (T:Tp) (P:Prg) (N:Nm) (O:Orc) (d:Nat)
def EvOk(e:Mn.E):Prop:=∀{x:G8} {c:Cx} {lm:Bool} {sc:GW} {tb:List Str} {X:Nat->Hp->Prop} {L:Lc} {H:Hp} {Q:V->Hp->Prop} {ρ:Rn} {E:Lg} {s:Gh} {Er:G9->Gh->Prop},
 chkE N T.K lm sc tb e x=G6->c.Ok T d->ScOk T lm sc c->ev P O e X L H Q->c.Rep T H ρ E s.heap->LOk T tb c E ρ L->(∀e s',XPost RX c s ρ E X e s'->Er e s')->GA (Gy T.prog T.w) c.A (Ft x c.fe) (Post T c s ρ E Q) Er s
def tq(Q:Bool->Hp->Prop)(u:V)(H:Hp):Prop:=ifS (yD u H) λb=>Q b H
def TrOk(e:Mn.E):Prop:=∀{x:G8} {c:Cx} {lm:Bool} {sc:GW} {tb:List Str} {X:Nat->Hp->Prop} {L:Lc} {H:Hp} {Q:Bool->Hp->Prop} {ρ:Rn} {E:Lg} {s:Gh} {Er:G9->Gh->Prop},
 chkE N T.K lm sc tb e x=G6->c.Ok T d->ScOk T lm sc c->ev P O e X L H (tq Q)->c.Rep T H ρ E s.heap->LOk T tb c E ρ L->(∀e s',XPost RX c s ρ E X e s'->Er e s')->GA (Gy T.prog T.w) c.A (isTrue x c.fe (Ft x c.fe)) (PostB T c s ρ E Q) Er s
def LsOk(e:Mn.E):Prop:=∀{xs:List G8} {pos:Pos} {c:Cx} {lm:Bool} {sc:GW} {tb:List Str} {X:Nat->Hp->Prop} {L:Lc} {H:Hp} {Q:V->Hp->Prop} {ρ:Rn} {E:Lg} {s:Gh} {Er:G9->Gh->Prop},
 chkL N T.K lm sc tb e xs=G6->c.Ok T d->ScOk T lm sc c->ev P O e X L H Q->c.Rep T H ρ E s.heap->LOk T tb c E ρ L->(∀e s',XPost RX c s ρ E X e s'->Er e s')->GA (Gy T.prog T.w) c.A (spliced (IS pos (F6 xs c.fe))) (PostL T c s ρ E xs.length Q) Er s
def DcOk(e:Mn.E):Prop:=∀{ks:List (Option G8)} {xs:List G8} {pos:Pos} {c:Cx} {lm:Bool} {sc:GW} {tb:List Str} {X:Nat->Hp->Prop} {L:Lc} {H:Hp} {Q:V->Hp->Prop} {ρ:Rn} {E:Lg} {s:Gh} {Er:G9->Gh->Prop},
 chkD N T.K lm sc tb e ks xs=G6->c.Ok T d->ScOk T lm sc c->ev P O e X L H Q->c.Rep T H ρ E s.heap->LOk T tb c E ρ L->(∀e s',XPost RX c s ρ E X e s'->Er e s')->GA (Gy T.prog T.w) c.A (evalPairs (pairTrees ks xs c.fe pos)) (PostD T c s ρ E ks.length Q) Er s
end
section
variable {RX:RxT} {T:Tp} {P:Prg} {N:Nm} {O:Orc} {d:Nat}
variable {c:Cx} {s:Gh} {ρ:Rn} {E:Lg} {H:Hp} {Q:V->Hp->Prop} {X:Nat->Hp->Prop} {Er:G9->Gh->Prop}
theorem j4{l:List (Str×DY)}{x:Str}:l.lookup x=(l.find? λp=>zL p.1 x).map (·.2):=by
 induction l with
 |nil=>rfl
 |cons p l ih=>
  rw[GS,List.find?_cons]
  by_cases h:x=p.1
  ·subst h;simp[eqStr_iff.mpr rfl]
  ·have h1:(x==p.1)=G7:=beq_false_of_ne h;have h2:zL p.1 x=G7:=by
    induction q:zL p.1 x using GN with
    |false=>rfl
    |true=>exact absurd (eqStr_iff.mp q).symm h
   rw[h1,h2];exact ih
theorem X4{k j:DY}(h:Zo k j=G6):k=j:=by rcases k<;>rcases j<;>first|rfl|cases h
set_option tactic.hygienic true in
theorem zk{sc:GW}{x:Str}{k:DY}(h:zu sc x k=G6):sc.names.lookup x=G3 k:=by
 unfold zu at h;rw[j4]
 split at h
 ·rename_i p e;rw[e];exact congrArg G3 (X4 h)
 ·cases h
theorem YR{x:Str}(h:(!zL x "__debug__")=G6):(x==("__debug__":Str))=G7:=by refine beq_false_of_ne λq=>?_;rw[q,eqStr_iff.mpr rfl] at h;cases h
theorem Zd{c:Cx}(C:c.Ok T d)(F:Fr c.wy c.L s.heap c.m){x:Str}{v:G9}{pos:Pos}{S:G9->Gh->Prop}{prog:Di}{w:Fb}{A:Dh}(hx:c.fe.kindOf x=G3 .globalImplicit)(hn:nsIn T.K Dy x=G3 (G3 v))(hd:(x==("__debug__":Str))=G7)
  (h:S v s):GA (Gy prog w) A (Ft (.Name x pos) c.fe) S Er s:=by
 refine YX (C.top) λp loose mean mg mb top=>?_;exact IM C.kd hx (loadGlobal_global (env:=c.fe) (by rw[C.gl];exact top.g.keeps F.keep) (mg_of C.X top.g hn) h) hd
theorem kB{c:Cx}(C:c.Ok T d)(F:Fr c.wy c.L s.heap c.m){x:Str}{v:G9}{pos:Pos}{S:G9->Gh->Prop}{prog:Di}{w:Fb}{A:Dh}(hx:c.fe.kindOf x=G3 .globalImplicit)(hn:nsIn T.K Dy x=G3 Gb)(hb:bootBuiltins x=G3 v)(hne:x≠"__name__")(hd:(x==("__debug__":Str))=G7)
  (h:S v s):GA (Gy prog w) A (Ft (.Name x pos) c.fe) S Er s:=by
 refine YX (C.top) λp loose mean mg mb top=>?_;exact IM C.kd hx (loadGlobal_builtin (env:=c.fe) (by rw[C.gl];exact top.g.keeps F.keep) (mg_none_of C.X top.g hn) (by rw[C.bi];exact top.b.keeps F.keep) ((top.builtins x hne).trans hb) h) hd
set_option tactic.hygienic true in
theorem Ya{x:G8}{n:Str}{env:Env}(h:YH x=G6):attributeBase x n env (Ft x env)=Ft x env:=by
 rcases x<;>try rfl
 rename_i g xs ks p;rcases g<;>try rfl
 rcases xs with _|⟨_,_⟩
 ·rcases ks with _|⟨_,_⟩
  ·exact absurd h G4
  ·rfl
 ·rfl
theorem Z7{x:G8}{xs:List G8}{env:Env}(h:zT x=G6):F6 (x::xs) env=(G7,Ft x env)::F6 xs env:=by
 rcases x<;>first|rfl|exact absurd h G4
theorem Yd{pos:Pos}{env:Env}: ∀{xs:List G8},(xs.all zT)=G6->(IS pos (F6 xs env)).any (·.1)=G7/\(IS pos (F6 xs env)).all (λx=>!x.1)=G6:=by
 intro xs
 induction xs with
 |nil=>intro y0;exact⟨rfl,rfl⟩
 |cons x xs ih=>
  intro h;rw[Mh,Dc] at h;refine zh (ih h.2) λh1 h2=>?_;rw[Z7 h.1];refine⟨?_,?_⟩
  ·show(G7 ||(IS pos (F6 xs env)).any (·.1))=G7;rw[h1];rfl
  ·show(G6 && (IS pos (F6 xs env)).all (λx=>!x.1))=G6;rw[h2];rfl
theorem yt{K:DN}{lm:Bool}{sc:GW}{tb:List Str}{e:Mn.E}:∀{xs:List G8},chkL N K lm sc tb e xs=G6->xs.all zT=G6:=by
 induction e with
 |nil=>intro xs h;rw[zB h];rfl
 |cons a b _ ih=>intro xs h;refine zf (iHt h) ?_;clear h;intro x r rq2 h;subst rq2;refine zP (an3 h) λh1 _ h3=>?_;have h1:zT x=G6:=h1;rw[Mh,h1,ih h3];rfl
 |_=>intro xs h;exact absurd h G4
theorem xrUp{h₁:Do}{tk₁:Nat}{ρ₁:Rn}{uQ:Lg}(XR:∀e s',XPost RX c s ρ E X e s'->Er e s')(x:Ext E ρ uQ ρ₁):∀e s',XPost RX c {s with heap:=h₁,toks:=tk₁} ρ₁ uQ X e s'->Er e s':=λe s' q=>XR e s' (q.up x)
theorem PostB.up{Q:Bool->Hp->Prop}{h₁:Do}{tk₁:Nat}{ρ₁:Rn}{uQ:Lg}(x:Ext E ρ uQ ρ₁){u:Bool}{s':Gh}:PostB T c {s with heap:=h₁,toks:=tk₁} ρ₁ uQ Q u s'->PostB T c s ρ E Q u s'
 |⟨h',tk,H',ρ',E',e,R,x',q⟩=>⟨h',tk,H',ρ',E',e,R,x.trans x',q⟩
theorem tr_of_ev{S:Sem G9}{Q:Bool->Hp->Prop}{A:Dh}(h:GA (Gy T.prog T.w) c.A S (Post T c s ρ E (tq Q)) Er s) :
  GA (Gy T.prog T.w) c.A S (λv wV=>GA (Gy T.prog T.w) A (truthy v) (PostB T c s ρ E Q) Er wV) Er s:=by
 refine Gu h (λu s' p=>?_) λ_ _ e=>e;obtain⟨h',tk,v,H',ρ',E',rfl,R,x,hv,q⟩:=p;refine za (zq q) ?_;clear q;intro b hb q;exact Ze (s:={s with heap:=h',toks:=tk}) R hv hb λtk'=>⟨h',tk',H',ρ',E',rfl,R,x,q⟩
noncomputable def pN(k:Nat):Bool:=Gi k 0 ||Gi k 5 ||Gi k 15
def j1(x:G8):Bool:=!pN x.ctorIdx && !oB (vUn x) λt=>isNot t.1
theorem zS{x:G8}{k:Nat}(h:x.ctorIdx=k)(q:(pN k ||Gi k 3)=G7):j1 x=G6:=by subst h;refine GC.mpr ⟨congrArg not (F4.mp q).1,congrArg not (congrArg (λo=>oB o λ(t:UnaryOp×G8)=>isNot t.1) (dif_neg (DP (F4.mp q).2):vUn x=Gb))⟩
set_option tactic.hygienic true in
theorem Kl{x:G8}{env:Env}{whole:Sem G9}(h:j1 x=G6):isTrue x env whole=(do let v ←whole;IG x.pos;FC [v] (truthy v)):=by
 rcases x<;>first|rfl|exact absurd h G4|skip
 rename_i op a b;rcases op<;>first|rfl|exact absurd h G4
theorem J5{e:Mn.E}(h:EvOk RX T P N O d e)(hp:∀{lm sc tb x},chkE N T.K lm sc tb e x=G6->j1 x=G6):TrOk RX T P N O d e:=by intro x c lm sc tb X L H Q ρ E s Er hc C S he R Lk XR;exact isTrue_plain (tr_of_ev (h hc C S he R Lk XR)) (Kl (hp hc))
theorem ev_bad:EvOk RX T P N O d .bad:=by intro x c lm sc tb X L H Q ρ E s Er hc C S he R Lk XR;exact Du he
theorem tr_bad:TrOk RX T P N O d .bad:=by intro x c lm sc tb X L H Q ρ E s Er hc C S he R Lk XR;exact Du he
set_option tactic.hygienic true in
theorem lit_ok{v:V}{cst:Const}{k:Nat}{p:Pos}(h:Kz v cst=G6)(R:c.Rep T H ρ E s.heap)(he:Q v H):GA (Gy T.prog T.w) c.A (Ft (.Constant cst k p) c.fe) (Post T c s ρ E Q) Er s:=by
 rcases v<;>rcases cst<;>first|exact absurd h G4|skip
 ·exact Gv (Post.at R .none he)
 ·rename_i a b;rcases a<;>rcases b<;>first|exact absurd h G4|exact Gv (Post.at R (.bool _) he)
 ·obtain rfl:=of_decide_eq_true h;exact wpAny_mkInt (Post.here R (.int _ _) he)
 ·obtain rfl:=isS_iff.mp h;exact wpAny_mkText (Post.here R (.str _ _) he)
theorem Jr{c:Const}{i:Int}(h:intOf c=G3 i):c= .int i:=by rcases c<;>first|exact nn h|(cases h;rfl)
theorem ivOf_of{v:V}{i:Int}(h:ivOf v=G3 i):v= .int i:=by rcases v<;>first|exact nn h|(cases h;rfl)
theorem Jo{o:UnaryOp}(h:k8 o=G6):o= .USub:=by rcases o<;>first|rfl|exact absurd h G4
theorem cst_of{v:V}{x:G8}(h:jX v x=G6):(∃c k p,x= .Constant c k p/\Kz v c=G6)∨∃j k p q,x= .UnaryOp .USub (.Constant (.int j) k p) q/\v= .int (-j):=by
 have key:∀y,ZC y=Gb->jX v y=G6->oB (vUn y) (λt=>k8 t.1 && oB (ZC t.2) λc=>oB (intOf c) λj=>oB (ivOf v) λi=>decide (i=-j))=G6:=λy e h=>by unfold jX at h;rw[e] at h;exact h
 induction e:ZC x using GD with
 |some c=>
  have e':oB (ZC x) (λz=>Kz v z)=G6:=by unfold jX at h;rw[e] at h ⊢;exact h
  refine zA (KQ e') λc k p rq3 h'=>?_;subst rq3;exact .inl ⟨c,k,p,rfl,h'⟩
 |none=>refine zA (iUn (key x e h)) ?_;clear h;intro o y q rq3 h;subst rq3;refine zh (an2 h) ?_;clear h;intro h0 h;refine zA (KQ h) ?_;clear h;intro c k p e2 h;have e2:y= .Constant c k p:=e2;refine za (ya h) ?_;clear h;intro j e3 h;refine za (ya h) ?_;clear h;intro i e4 h;have h0:k8 o=G6:=h0;rw[e2,Jr e3,ivOf_of e4,Jo h0];exact .inr ⟨j,k,p,q,rfl,congrArg V.int (of_decide_eq_true h)⟩
theorem ev_c(v:V):EvOk RX T P N O d (.c v):=by
 intro x c lm sc tb X L H Q ρ E s Er hc C S he R Lk XR;rcases cst_of hc with⟨cst,k,p,rfl,h⟩|⟨j,k,p,q,rfl,rfl⟩
 ·exact lit_ok h R he
 ·exact UnaryOp_ (wpAny_mkInt (PyProof.Rows.neg_int (Post.here R (.int _ _) he)))
theorem Rep.newsG(R:c.Rep T H ρ E s.heap):FW c.wy c.L s.heap c.G:=by refine za (R.N) λtb hb Nw=>?_;exact λp hp=>Nw p (Gd _ (Go _ hp))
theorem ev_l(k:Nat):EvOk RX T P N O d (.l k):=by intro x c lm sc tb X L H Q ρ E s Er hc C S he R Lk XR;refine zf (Yf hc) ?_;clear hc;intro x pos rq2 hc;subst rq2;refine zh (an2 hc) ?_;clear hc;intro hc hd;refine za (ya hc) ?_;clear hc;intro y hy hc;obtain rfl:x=y:=eqStr_iff.mp hc;refine za (zq he) ?_;clear he;intro v hv he;refine zh (locO_iff hv) ?_;clear hv;intro hv hne;refine zF (Lk k v hv hne) λz u h1 h2 h3=>?_;rw[hy] at h1;cases h1;exact C.look _ u h2 (YR hd) R.F R.newsG (Post.at R h3 he)
theorem gval_int{i:Int}{o:Option (Option G9)}(h:KT (.int i) o=G6):∃t,o=G3 (G3 (.int i t)):=by
 rcases o with _|_|u
 ·exact absurd h G4
 ·exact absurd h G4
 ·rcases u<;>first|exact absurd h G4|skip
  rw[of_decide_eq_true h];exact⟨_,rfl⟩
theorem gval_str{x:List Nat}{o:Option (Option G9)}(h:KT (.str x) o=G6):∃t,o=G3 (G3 (.str (strL x) t)):=by
 rcases o with _|_|u
 ·exact absurd h G4
 ·exact absurd h G4
 ·rcases u<;>first|exact absurd h G4|skip
  rw[isS_iff.mp h];exact⟨_,rfl⟩
theorem Post.go{t:Sem G9}{S:G9->Gh->Prop}{A:Dh}(h:GA (Gy T.prog T.w) A t (Post T c s ρ E Q) Er s)
  (k:∀u v h' tk H' ρ' E',c.Rep T H' ρ' E' h'->Ext E ρ E' ρ'->VR T E' ρ' v u->Q v H'->S u {s with heap:=h',toks:=tk}):GA (Gy T.prog T.w) A t S Er s:=
 Gu h (λu s' p=>by obtain⟨h',tk,v,H',ρ',E',rfl,R,x,hv,q⟩:=p;exact k u v h' tk H' ρ' E' R x hv q) λ_ _ e=>e
theorem ev_g(K:TpOk T P N)(n:Nat)(v:V):EvOk RX T P N O d (.g n v):=by
 intro x c lm sc tb X L H Q ρ E s Er hc C S he R Lk XR;refine zf (Yf hc) ?_;clear hc;intro x pos rq2 hc;subst rq2;refine zP (an3 hc) ?_;clear hc;intro h1 h2 h3;rcases v<;>first|exact absurd h2 G4|skip
 ·refine zj (gval_int h2) λt hn=>?_;exact Zd C R.F (S.glob _ h1) hn (YR h3) (Post.at R (.int _ _) he)
 ·refine zj (gval_str h2) λt hn=>?_;exact Zd C R.F (S.glob _ h1) hn (YR h3) (Post.at R (.str _ _) he)
theorem ev_a(K:TpOk T P N){e:Mn.E}(f:Nat)(ih:EvOk RX T P N O d e):EvOk RX T P N O d (.a e f):=by intro x c lm sc tb X L H Q ρ E s Er hc C S he R Lk XR;refine zA (jO hc) ?_;clear hc;intro x n pos rq3 hc;subst rq3;refine zP (an3 hc) ?_;clear hc;intro h1 h2 h3;obtain rfl:=eqStr_iff.mp h1;refine Attribute_any_ (Post.go (ih h3 C S he R Lk XR) λu v h' tk H' ρ' E' R' x' hv q=>?_) (by rw[arm_eval_Attribute,Ya h2]);refine Z3 (jZ q) ?_;clear q;intro i k fs rq3 e1 q;subst rq3;refine zh (gd_iff.mp q) ?_;clear q;intro ha q;refine za (zq q) ?_;clear q;intro w hw q;refine zf (hv.ofObj) λa dd rq2 hi=>?_;subst rq2;rw[K.nat];exact getA_ok (s:={s with heap:=h',toks:=tk}) K C R' e1 hi ha hw λu tk' hu=>Post.up x' (Post.here (s:={s with heap:=h',toks:=tk}) R' hu q)
theorem ev_bin(o:Op){a b:Mn.E}(ia:EvOk RX T P N O d a)(ib:EvOk RX T P N O d b):EvOk RX T P N O d (.bin o a b):=by intro x c lm sc tb X L H Q ρ E s Er hc C S he R Lk XR;refine Z2 (iBin hc) ?_;clear hc;intro y op z pos rq4 hc;subst rq4;refine zP (an3 hc) ?_;clear hc;intro h1 h2 h3;refine wpAny_BinOp (Post.go (ia h2 C S he R Lk XR) λu v h' tk H' ρ' E' R' x' hv q=>?_);refine Post.go (ib (s:={s with heap:=h',toks:=tk}) h3 C S q R' (Lk.ext x') (xrUp XR x')) λu2 v2 h2 tk2 H2 ρ2 E2 R2 x2 hv2 q2=>?_;exact Gu (binop_ok (s:={s with heap:=h2,toks:=tk2}) h1 C R2 (hv.ext x2) hv2 q2) (λ_ _ p=>(p.up x2).up x') λ_ _ e=>e
theorem Xl{op:CmpOp}{y:G8}(h:yZ y=G6):behindInMarks op y=G7:=by
 rcases y<;>first|rfl|exact absurd h G4
theorem yO(C:c.Ok T d):c.A.units+1 < cLine:=by have:=C.un;have h:cLine=9900:=rfl;exact om48 this h
theorem ev_cmp(o:Co){a b:Mn.E}(ia:EvOk RX T P N O d a)(ib:EvOk RX T P N O d b):EvOk RX T P N O d (.cmp o a b):=by
 intro x c lm sc tb X L H Q ρ E s Er hc C S he R Lk XR;refine Z2 (iCmp hc) ?_;clear hc;intro x ops ys pos rq4 hc;subst rq4;refine za (iOne hc) ?_;clear hc;intro op e1 hc;obtain rfl:ops=[op]:=e1;refine za (iOne hc) ?_;clear hc;intro y e1 hc;obtain rfl:ys=[y]:=e1;refine ZB (an4 hc) ?_;clear hc;intro h1 h0 h2 h3;show GA _ _ (do compareChain pos (←Ft x c.fe) [op] [markedBehindIn op y (Ft y c.fe)]) _ _ _;rw[markedBehindIn_of_false (Xl h0)];refine Ge (Post.go (ia h2 C S he R Lk XR) λu v h' tk H' ρ' E' R' x' hv q=>?_);show GA _ _ (do let rv ←FC [u] (Ft y c.fe);IG pos;operate [u,rv] (Ig op u rv)) _ _ _;refine Ge (GR (Post.go (ib (s:={s with heap:=h',toks:=tk}) h3 C S q R' (Lk.ext x') (xrUp XR x')) λu2 v2 h2 tk2 H2 ρ2 E2 R2 x2 hv2 q2=>?_));refine Ge (Dl (wpAny_operate' ?_));refine za (zq q2) ?_;clear q2;intro r hr q2
 ·exact yQ (s:={s with heap:=h2,toks:=tk2}) h1 C R2 (yO C) (hv.ext x2) hv2 hr λtk3=>Post.up x' (Post.up x2 (Post.here (s:={s with heap:=h2,toks:=tk2}) R2 (.bool _) q2))
theorem tr_cmp(o:Co){a b:Mn.E}(ia:EvOk RX T P N O d a)(ib:EvOk RX T P N O d b):TrOk RX T P N O d (.cmp o a b):=by
 intro x c lm sc tb X L H Q ρ E s Er hc C S he R Lk XR;refine Z2 (iCmp hc) ?_;clear hc;intro x ops ys pos rq4 hc;subst rq4;refine za (iOne hc) ?_;clear hc;intro op e1 hc;obtain rfl:ops=[op]:=e1;refine za (iOne hc) ?_;clear hc;intro y e1 hc;obtain rfl:ys=[y]:=e1;refine ZB (an4 hc) ?_;clear hc;intro h1 h0 h2 h3;show GA _ _ (do testChain pos (←Ft x c.fe) [op] [markedBehindIn op y (Ft y c.fe)]) _ _ _;rw[markedBehindIn_of_false (Xl h0)];refine Ge (Post.go (ia h2 C S he R Lk XR) λu v h' tk H' ρ' E' R' x' hv q=>?_);show GA _ _ (do let rv ←FC [u] (Ft y c.fe);IG pos;let cv ←operate [u,rv] (Ig op u rv);FC [cv] (truthy cv)) _ _ _;refine Ge (GR (Post.go (ib (s:={s with heap:=h',toks:=tk}) h3 C S q R' (Lk.ext x') (xrUp XR x')) λu2 v2 h2 tk2 H2 ρ2 E2 R2 x2 hv2 q2=>?_));refine Ge (Dl (Ge (wpAny_operate' ?_)));refine za (zq q2) ?_;clear q2;intro r hr q2
 ·exact yQ (s:={s with heap:=h2,toks:=tk2}) h1 C R2 (yO C) (hv.ext x2) hv2 hr λtk3=>GR (DJ (PostB.up x' (PostB.up x2 ⟨h2,tk3,H2,ρ2,E2,rfl,R2,Ext.refl _ _,q2⟩)))
theorem ev_cmp2(o p:Co){a b e:Mn.E}(ia:EvOk RX T P N O d a)(ib:EvOk RX T P N O d b)(ie:EvOk RX T P N O d e):EvOk RX T P N O d (.cmp2 o p a b e):=by
 intro x c lm sc tb X L H Q ρ E s Er hc C S he R Lk XR;refine Z2 (iCmp hc) ?_;clear hc;intro x ops ys pos rq4 hc;subst rq4;refine zf (iTwo hc) ?_;clear hc;intro op pp e1 hc;obtain rfl:ops=[op,pp]:=e1;refine zf (iTwo hc) ?_;clear hc;intro y z e1 hc;obtain rfl:ys=[y,z]:=e1;refine Yr (an6 hc) ?_;clear hc;intro h1 h1' h0 h2 h3 h4;refine Compare_chain (rs:=[]) ?_ (by show behindInMarks pp z=G7;exact Xl h0);refine Post.go (ia h2 C S he R Lk XR) λu v h' tk H' ρ' E' R' x' hv q=>?_;show GA _ _ (do let rv ←FC [u] (Ft y c.fe);IG pos;let cv ←FC [u,rv] (Ig op u rv);release [u,rv] [cv];if ←FC [cv,rv] (truthy cv) then compareChain pos rv [pp] [Ft z c.fe] else pure cv) _ _ _;refine Ge (GR (Post.go (ib (s:={s with heap:=h',toks:=tk}) h3 C S q R' (Lk.ext x') (xrUp XR x')) λu2 v2 h2 tk2 H2 ρ2 E2 R2 x2 hv2 q2=>?_));refine Ge (Dl (Ge (GR ?_)));refine za (zq q2) ?_;clear q2;intro tt hr q2;cases tt with
 |true=>
  refine yQ (s:={s with heap:=h2,toks:=tk2}) h1 C R2 (yO C) (hv.ext x2) hv2 hr λtk3=>Ge (wpAny_release (Ge (GR (DJ ?_))));show GA _ _ (do let rv ←FC [u2] (Ft z c.fe);IG pos;operate [u2,rv] (Ig pp u2 rv)) _ _ _;refine Ge (GR (Post.go (ie (s:={s with heap:=h2,toks:=tk3}) h4 C S q2 R2 ((Lk.ext x').ext x2) (xrUp (xrUp XR x') x2)) λu3 v3 h3 tk3 H3 ρ3 E3 R3 x3 hv3 q3=>?_));refine Ge (Dl (wpAny_operate' ?_));refine za (zq q3) ?_;clear q3;intro r hr q3
  ·exact yQ (s:={s with heap:=h3,toks:=tk3}) h1' C R3 (yO C) (hv2.ext x3) hv3 hr λtk4=>Post.up x' (Post.up x2 (Post.up x3 (Post.here (s:={s with heap:=h3,toks:=tk3}) R3 (.bool _) q3)))
 |false=>refine yQ (s:={s with heap:=h2,toks:=tk2}) h1 C R2 (yO C) (hv.ext x2) hv2 hr λtk3=>Ge (wpAny_release (Ge (GR (DJ ?_))));exact Gv (Post.up x' (Post.up x2 (Post.here (s:={s with heap:=h2,toks:=tk2}) R2 (.bool _) q2)))
theorem tr_cmp2(o p:Co){a b e:Mn.E}(ia:EvOk RX T P N O d a)(ib:EvOk RX T P N O d b)(ie:EvOk RX T P N O d e):TrOk RX T P N O d (.cmp2 o p a b e):=by
 intro x c lm sc tb X L H Q ρ E s Er hc C S he R Lk XR;refine Z2 (iCmp hc) ?_;clear hc;intro x ops ys pos rq4 hc;subst rq4;refine zf (iTwo hc) ?_;clear hc;intro op pp e1 hc;obtain rfl:ops=[op,pp]:=e1;refine zf (iTwo hc) ?_;clear hc;intro y z e1 hc;obtain rfl:ys=[y,z]:=e1;refine Yr (an6 hc) ?_;clear hc;intro h1 h1' h0 h2 h3 h4;refine isTrue_chain (rs:=[]) ?_ (by show behindInMarks pp z=G7;exact Xl h0);refine Post.go (ia h2 C S he R Lk XR) λu v h' tk H' ρ' E' R' x' hv q=>?_;show GA _ _ (do let rv ←FC [u] (Ft y c.fe);IG pos;let cv ←FC [u,rv] (Ig op u rv);release [u,rv] [cv];if ←FC [cv,rv] (truthy cv) then testChain pos rv [pp] [Ft z c.fe] else pure G7) _ _ _;refine Ge (GR (Post.go (ib (s:={s with heap:=h',toks:=tk}) h3 C S q R' (Lk.ext x') (xrUp XR x')) λu2 v2 h2 tk2 H2 ρ2 E2 R2 x2 hv2 q2=>?_));refine Ge (Dl (Ge (GR ?_)));refine za (zq q2) ?_;clear q2;intro tt hr q2;cases tt with
 |true=>
  refine yQ (s:={s with heap:=h2,toks:=tk2}) h1 C R2 (yO C) (hv.ext x2) hv2 hr λtk3=>Ge (wpAny_release (Ge (GR (DJ ?_))));show GA _ _ (do let rv ←FC [u2] (Ft z c.fe);IG pos;let cv ←operate [u2,rv] (Ig pp u2 rv);FC [cv] (truthy cv)) _ _ _;refine Ge (GR (Post.go (ie (s:={s with heap:=h2,toks:=tk3}) h4 C S q2 R2 ((Lk.ext x').ext x2) (xrUp (xrUp XR x') x2)) λu3 v3 h3 tk3 H3 ρ3 E3 R3 x3 hv3 q3=>?_));refine Ge (Dl (Ge (wpAny_operate' ?_)));refine za (zq q3) ?_;clear q3;intro r hr q3
  ·exact yQ (s:={s with heap:=h3,toks:=tk3}) h1' C R3 (yO C) (hv2.ext x3) hv3 hr λtk4=>GR (DJ (PostB.up x' (PostB.up x2 (PostB.up x3 ⟨h3,tk4,H3,ρ3,E3,rfl,R3,Ext.refl _ _,q3⟩))))
 |false=>refine yQ (s:={s with heap:=h2,toks:=tk2}) h1 C R2 (yO C) (hv.ext x2) hv2 hr λtk3=>Ge (wpAny_release (Ge (GR (DJ ?_))));exact Gv (PostB.up x' (PostB.up x2 ⟨h2,tk3,H2,ρ2,E2,rfl,R2,Ext.refl _ _,q2⟩))
end
theorem Kw{α:Type}{E G:List α}{t p:α}(ex:List α)(h:p∈E++t::G):p∈E++t::(ex++G):=
 ((Fx E).append ((List.sublist_append_right ex G).cons_cons t)).subset h
theorem nd_ch{E A B:Lg}(h:A.map (·.1)=B.map (·.1))(nd:((E++A).map (·.1)).Nodup):((E++B).map (·.1)).Nodup:=by rw[GB] at nd ⊢;rw[←h];exact nd
theorem nd_ne{E G:Lg}{t t' x p:Gx×Obj}(nd:((E++t::x::G).map (·.1)).Nodup)(ht:t'.1=t.1)(hp:p∈E++t'::G):p.1≠x.1:=by have e:E++t::x::G=(E++[t])++x::G:=(Gw E [t] (x::G)).symm;rw[e] at nd;refine λq=>(GJ.mp ((DF.map λp:Gx×Obj=>p.1).nodup_iff.mp nd)).1 ?_;have:=D4 (f:=(·.1)) hp;rw[Gw,GB,GB];rw[GB,GV,ht,show p.1=x.1 from q] at this;exact this
theorem nd_at{E G:Lg}{t t':Gx×Obj}{x:Gx}{ob ob':Obj}{p:Gx×Obj}(nd:((E++t::(x,ob)::G).map (·.1)).Nodup)(ht:t'.1=t.1)(hp:p∈E++t'::(x,ob')::G):p=(x,ob')∨p.1≠x/\p∈E++t'::(x,ob)::G:=by have e:∀{y:Gx×Obj},p∈E++t'::y::G->p=y∨p∈E++t'::G:=λh=>(GL.mp h).elim (λh=>.inr (Gg _ h)) λh=>(Gp.mp h).elim (λh=>.inr (Gd _ (h▸.head _))) λh=>(Gp.mp h).imp id λh=>Gd _ (.tail _ h);exact(e hp).imp id λh=>⟨nd_ne nd ht h,Kw [_] h⟩
section
variable {T:Tp} {wy h h':Do} {L:Gx} {m m':Str->Option G9} {G:Lg} {H:List O} {ρ ρ':Rn} {E E':Lg}
theorem Rep.moreG(R:Rep T wy L m G H ρ E h){ex:Lg}(k:∀b o,h.get? b=G3 o->h'.get? b=G3 o)(F':Fr wy L h' m)(hx:∀p∈ex,h'.get? p.1=G3 p.2/\h.objs.size<=p.1)(hn:(ex.map (·.1)).Nodup):Rep T wy L m (ex++G) H ρ E h':=by
 refine za (R.N) λtb hb Nw=>?_;have hlt:∀p∈E++(T.tab,Dz #[])::G,p.1 < h.objs.size:=by
  intro p hp;rcases GL.mp hp with hp|hp
  ·exact yI Nw p (Gg _ hp)
  ·rcases Gp.mp hp with rfl|hp
   ·exact yI Nw (T.tab,tb) (Gd _ (Gn ..))
   ·exact yI Nw p (Gd _ (Go _ hp))
 have hL:L < h.objs.size:=R.F.ns.lt;refine⟨F',⟨tb,hb,λp hp=>?_⟩,?_,R.len,R.enc,R.ft⟩
 ·have old:p∈E++(T.tab,tb)::G∨p∈ex:=by
   simp only[GL,Gp] at hp ⊢;rcases hp with q|q|q|q<;>simp[q]
  rcases old with q|q
  ·exact⟨k _ _ (Nw p q).1,(Nw p q).2⟩
  ·refine⟨(hx p q).1,DQ (Dk hL (hx p q).2),?_⟩;exact Heap.get?_none_of_le (Ga R.F.above (Ga (DO hL) (hx p q).2))
 ·have nd:=R.nd;simp only[GB,GV] at nd ⊢;refine zP (GG.mp nd) λn1 n2 n3=>?_;rw[GJ] at n2;have lex:∀a∈ex.map (·.1),h.objs.size<=a:=λa ha=>by refine za (Df.mp ha) λp hp rq2=>?_;subst rq2;exact(hx p hp).2
  have lG:∀a∈G.map (·.1),a < h.objs.size:=λa ha=>by refine za (Df.mp ha) λp hp rq2=>?_;subst rq2;exact hlt p (Gd _ (Go _ hp))
  have lE:∀a∈E.map (·.1),a < h.objs.size:=λa ha=>by refine za (Df.mp ha) λp hp rq2=>?_;subst rq2;exact hlt p (Gg _ hp)
  have lt:T.tab < h.objs.size:=hlt (T.tab,Dz #[]) (Gd _ (Gn ..));have ndG:(ex.map (·.1)++G.map (·.1)).Nodup:=GG.mpr ⟨hn,n2.2,λa ha b hb e=>absurd (lG b hb) (Fj.mpr (e▸lex a ha))⟩;refine GG.mpr ⟨n1,GJ.mpr ⟨λq=>?_,ndG⟩,λa ha b hb e=>?_⟩
  ·rcases GL.mp q with q|q
   ·exact absurd lt (Fj.mpr (lex _ q))
   ·exact n2.1 q
  ·rcases Gp.mp hb with q|q
   ·exact n3 a ha b (q▸Gn ..) e
   ·rcases GL.mp q with q|q
    ·exact absurd (lE a ha) (Fj.mpr (e▸lex b q))
    ·exact n3 a ha b (Go _ q) e
theorem Rep.lessG{ex:Lg}(R:Rep T wy L m (ex++G) H ρ E h):Rep T wy L m G H ρ E h:=by refine za (R.N) λtb hb Nw=>?_;exact⟨R.F,⟨tb,hb,λp hp=>Nw p (Kw ex hp)⟩,DX (IB _ ((Fx _).append ((List.sublist_append_right _ _).cons_cons _))) R.nd,R.len,R.enc,R.ft⟩
theorem Rep.takeG{x:Gx}{ob ob':Obj}(R:Rep T wy L m ((x,ob)::G) H ρ E h){tb:Obj}(hb:TbOk T E tb)(F':Fr wy L h' m')(N':FW wy L h' (E++(T.tab,tb)::(x,ob')::G)){o:O}
  (ho:OAt T ((x,ob')::E) ρ x x o) (hf:zZ o (x,x)=[x]):Rep T wy L m' G (H++[o]) (ρ++[(x,x)]) ((x,ob')::E) h'/\Ext E ρ ((x,ob')::E) (ρ++[(x,x)])/\(ρ++[(x,x)])[H.length]?=G3 (x,x):=by
 have xt:Ext E ρ ((x,ob')::E) ρ:=⟨λ_ _ e=>e,λp hp _=>Go _ hp⟩;have nd:=R.nd;simp only[GB,GV] at nd;refine zP (GG.mp nd) λn1 n2 n3=>?_;rw[GJ,GJ] at n2;have R1:Rep T wy L m' G H ρ ((x,ob')::E) h':=by
  refine⟨F',⟨tb,hb.ext λp hp _=>Go _ hp,λp hp=>N' p ?_⟩,?_,R.len,λi o' a d h1 h2=>(R.enc i o' a d h1 h2).mono xt λ_ _ _ hm=>Go _ hm,R.ft⟩
  ·simp only[GL,Gp,DU] at hp ⊢;rcases hp with q|q|q|q<;>simp[q]
  ·simp only[DU,GV,GB,GJ];refine⟨λq=>?_,GG.mpr ⟨n1,GJ.mpr ⟨λq=>n2.1 (Go _ q),n2.2.2⟩,λa ha b hb e=>?_⟩⟩
   ·rcases GL.mp q with q|q
    ·exact n3 x q x (Go _ (Gn ..)) rfl
    ·rcases Gp.mp q with q|q
     ·exact n2.1 (q▸Gn ..)
     ·exact n2.2.1 q
   ·rcases Gp.mp hb with q|q
    ·exact n3 a ha b (q▸Gn ..) e
    ·exact n3 a ha b (Go _ (Go _ q)) e
 obtain⟨R2,x2⟩:=R1.alloc (o:=o) (a:=x) (d:=x) ho (by
  intro b hb' hm;rw[hf,GQ] at hb';subst hb';refine zj (R.key _ hm) λq hq=>?_;exact n3 b (D4 hq) b (Go _ (Gn ..)) rfl) (by rw[hf];simp)
 exact⟨R2,xt.trans x2,by rw[←R.len];simp⟩
end
section
variable {RX:RxT} {T:Tp} {P:Prg} {N:Nm} {O:Orc} {d:Nat}
variable {c:Cx} {s:Gh} {ρ:Rn} {E:Lg} {H:Hp} {Q:V->Hp->Prop} {X:Nat->Hp->Prop} {Er:G9->Gh->Prop}
theorem PostB.go{Q:Bool->Hp->Prop}{t:Sem Bool}{α:Type}{S:Bool->Gh->Prop}{A:Dh}(h:GA (Gy T.prog T.w) A t (PostB T c s ρ E Q) Er s)
  (k:∀b h' tk H' ρ' E',c.Rep T H' ρ' E' h'->Ext E ρ E' ρ'->Q b H'->S b {s with heap:=h',toks:=tk}):GA (Gy T.prog T.w) A t S Er s:=
 Gu h (λu s' p=>by obtain⟨h',tk,H',ρ',E',rfl,R,x,q⟩:=p;exact k u h' tk H' ρ' E' R x q) λ_ _ e=>e
theorem ev_eq{e:Mn.E}{L:Lc}{Q Q':V->Hp->Prop}(he:ev P O e X L H Q)(h:∀u H,Q u H=Q' u H):ev P O e X L H Q':=by have:Q=Q':=funext λu=>funext λH=>h u H;subst this;exact he
theorem Jn{o:UnaryOp}(h:isNot o=G6):o= .Not:=by rcases o<;>first|rfl|exact absurd h G4
theorem Jq{o:BoolOp}(h:isAnd o=G6):o= .And:=by rcases o<;>first|rfl|exact absurd h G4
theorem KN{o:BoolOp}(h:(!isAnd o)=G6):o= .Or:=by rcases o<;>first|rfl|exact absurd h G4
theorem ev_not{a:Mn.E}(ia:EvOk RX T P N O d a):EvOk RX T P N O d (.not a):=by intro x c lm sc tb X L H Q ρ E s Er hc C S he R Lk XR;refine zA (iUn hc) ?_;clear hc;intro op x pos rq3 hc;subst rq3;refine zh (an2 hc) ?_;clear hc;intro h0 hc;obtain rfl:=Jn h0;refine UnaryOp_ (Post.go (ia hc C S he R Lk XR) λu v h' tk H' ρ' E' R' x' hv q=>not_of ?_);refine za (zq q) ?_;clear q;intro b hb q;exact Ze (s:={s with heap:=h',toks:=tk}) R' hv hb λtk'=>Post.up x' (Post.here (s:={s with heap:=h',toks:=tk}) R' (.bool _) q)
theorem tr_not{a:Mn.E}(ia:TrOk RX T P N O d a):TrOk RX T P N O d (.not a):=by intro x c lm sc tb X L H Q ρ E s Er hc C S he R Lk XR;refine zA (iUn hc) ?_;clear hc;intro op x pos rq3 hc;subst rq3;refine zh (an2 hc) ?_;clear hc;intro h0 hc;obtain rfl:=Jn h0;replace he:ev P O a X L H (tq λb H₁=>Q (!b) H₁):=he;exact isTrue_not (Gu (ia hc C S he R Lk XR) (λb s' p=>by obtain⟨h',tk,H',ρ',E',e,R',x',q⟩:=p;exact⟨h',tk,H',ρ',E',e,R',x',q⟩) λ_ _ e=>e)
theorem ev_ifx{b a e:Mn.E}(ib:TrOk RX T P N O d b)(ia:EvOk RX T P N O d a)(ie:EvOk RX T P N O d e):EvOk RX T P N O d (.ifx b a e):=by
 intro x c lm sc tb X L H Q ρ E s Er hc C S he R Lk XR;refine Z2 (iIfx hc) ?_;clear hc;intro y0 y1 y2 pos rq4 hc;subst rq4;refine zP (an3 hc) ?_;clear hc;intro h1 h2 h3;replace he:ev P O b X L H (tq λb H₁=>ite2 b (ev P O a X L H₁ Q) (ev P O e X L H₁ Q)):=he;refine IfExp_ (PostB.go (α:=Unit) (ib h1 C S he R Lk XR) λb h' tk H' ρ' E' R' x' q=>?_)
 induction b using GN with
 |true=>exact Gu (ia (s:={s with heap:=h',toks:=tk}) h2 C S q R' (Lk.ext x') (xrUp XR x')) (λ_ _ p=>p.up x') λ_ _ e=>e
 |false=>exact Gu (ie (s:={s with heap:=h',toks:=tk}) h3 C S q R' (Lk.ext x') (xrUp XR x')) (λ_ _ p=>p.up x') λ_ _ e=>e
theorem tr_ifx{b a e:Mn.E}(ib:TrOk RX T P N O d b)(ia:TrOk RX T P N O d a)(ie:TrOk RX T P N O d e):TrOk RX T P N O d (.ifx b a e):=by
 intro x c lm sc tb X L H Q ρ E s Er hc C S he R Lk XR;refine Z2 (iIfx hc) ?_;clear hc;intro y0 y1 y2 pos rq4 hc;subst rq4;refine zP (an3 hc) ?_;clear hc;intro h1 h2 h3;replace he:ev P O b X L H (tq λb H₁=>ite2 b (ev P O a X L H₁ (tq Q)) (ev P O e X L H₁ (tq Q))):=he;refine isTrue_IfExp (PostB.go (α:=Unit) (ib h1 C S he R Lk XR) λb h' tk H' ρ' E' R' x' q=>?_)
 induction b using GN with
 |true=>exact Gu (ia (s:={s with heap:=h',toks:=tk}) h2 C S q R' (Lk.ext x') (xrUp XR x')) (λ_ _ p=>p.up x') λ_ _ e=>e
 |false=>exact Gu (ie (s:={s with heap:=h',toks:=tk}) h3 C S q R' (Lk.ext x') (xrUp XR x')) (λ_ _ p=>p.up x') λ_ _ e=>e
theorem ev_and{a b:Mn.E}(ia:EvOk RX T P N O d a)(ib:EvOk RX T P N O d b):EvOk RX T P N O d (.and a b):=by
 intro x c lm sc tb X L H Q ρ E s Er hc C S he R Lk XR;refine zA (iBool hc) ?_;clear hc;intro op xs pos rq3 hc;subst rq3;refine zh (an2 hc) ?_;clear hc;intro h0 hc;obtain rfl:=Jq h0;refine zf (iHt hc) ?_;clear hc;intro x xs' e1 hc;obtain rfl:xs=x::xs':=e1;refine zh (an2 hc) ?_;clear hc;intro h1 h2;revert h2;generalize hxs:xs'=xs;intro h2;rcases xs with _|⟨y,ys⟩
 ·exact absurd h2 G4
 refine BoolOp_and (Post.go (ia h1 C S he R Lk XR) λu v h' tk H' ρ' E' R' x' hv q=>?_);have hb:∀{X' H' ρ' E' Q'} {s':Gh},ev P O b X' L H' Q'->c.Rep T H' ρ' E' s'.heap->LOk T tb c E' ρ' L->(∀e s'',XPost RX c s' ρ' E' X' e s''->Er e s'')->GA (Gy T.prog T.w) c.A (Ft (.BoolOp .And (y::ys) pos) c.fe) (Post T c s' ρ' E' Q') Er s':=by
  intro X' H' ρ' E' Q' s' he' R' Lk' XR';rcases ys with _|⟨z,ys⟩
  ·exact BoolOp_one (ib h2 C S he' R' Lk' XR')
  ·exact ib h2 C S he' R' Lk' XR'
 refine za (zq q) ?_;clear q;intro tt ht q;cases tt with
 |true=>
  exact Ze (s:={s with heap:=h',toks:=tk}) R' hv ht λtk'=>by rw[if_pos rfl];exact Gu (hb (s':={s with heap:=h',toks:=tk'}) q R' (Lk.ext x') (xrUp XR x')) (λ_ _ p=>p.up x') λ_ _ e=>e
 |false=>
  exact Ze (s:={s with heap:=h',toks:=tk}) R' hv ht λtk'=>by rw[if_neg G4];exact Post.up x' (Post.here (s:={s with heap:=h',toks:=tk}) R' hv q)
theorem ev_or{a b:Mn.E}(ia:EvOk RX T P N O d a)(ib:EvOk RX T P N O d b):EvOk RX T P N O d (.or a b):=by
 intro x c lm sc tb X L H Q ρ E s Er hc C S he R Lk XR;refine zA (iBool hc) ?_;clear hc;intro op xs pos rq3 hc;subst rq3;refine zh (an2 hc) ?_;clear hc;intro h0 hc;obtain rfl:=KN h0;refine zf (iHt hc) ?_;clear hc;intro x xs' e1 hc;obtain rfl:xs=x::xs':=e1;refine zh (an2 hc) ?_;clear hc;intro h1 h2;revert h2;generalize hxs:xs'=xs;intro h2;rcases xs with _|⟨y,ys⟩
 ·exact absurd h2 G4
 refine BoolOp_or (Post.go (ia h1 C S he R Lk XR) λu v h' tk H' ρ' E' R' x' hv q=>?_);have hb:∀{X' H' ρ' E' Q'} {s':Gh},ev P O b X' L H' Q'->c.Rep T H' ρ' E' s'.heap->LOk T tb c E' ρ' L->(∀e s'',XPost RX c s' ρ' E' X' e s''->Er e s'')->GA (Gy T.prog T.w) c.A (Ft (.BoolOp .Or (y::ys) pos) c.fe) (Post T c s' ρ' E' Q') Er s':=by
  intro X' H' ρ' E' Q' s' he' R' Lk' XR';rcases ys with _|⟨z,ys⟩
  ·exact BoolOp_one (ib h2 C S he' R' Lk' XR')
  ·exact ib h2 C S he' R' Lk' XR'
 refine za (zq q) ?_;clear q;intro tt ht q;cases tt with
 |false=>
  exact Ze (s:={s with heap:=h',toks:=tk}) R' hv ht λtk'=>by rw[if_neg G4];exact Gu (hb (s':={s with heap:=h',toks:=tk'}) q R' (Lk.ext x') (xrUp XR x')) (λ_ _ p=>p.up x') λ_ _ e=>e
 |true=>
  exact Ze (s:={s with heap:=h',toks:=tk}) R' hv ht λtk'=>by rw[if_pos rfl];exact Post.up x' (Post.here (s:={s with heap:=h',toks:=tk}) R' hv q)
theorem tr_and{a b:Mn.E}(ia:TrOk RX T P N O d a)(ib:TrOk RX T P N O d b):TrOk RX T P N O d (.and a b):=by
 intro x c lm sc tb X L H Q ρ E s Er hc C S he R Lk XR;refine zA (iBool hc) ?_;clear hc;intro op xs pos rq3 hc;subst rq3;refine zh (an2 hc) ?_;clear hc;intro h0 hc;obtain rfl:=Jq h0;refine zf (iHt hc) ?_;clear hc;intro x xs' e1 hc;obtain rfl:xs=x::xs':=e1;refine zh (an2 hc) ?_;clear hc;intro h1 h2;revert h2;generalize hxs:xs'=xs;intro h2;replace he:ev P O a X L H λu H₁=>ifS (yD u H₁) λt=>ite2 t (ev P O b X L H₁ (tq Q)) (tq Q u H₁):=he;replace he:ev P O a X L H (tq λt H₁=>ite2 t (ev P O b X L H₁ (tq Q)) (Q G7 H₁)):=ev_eq he λu H₁=>by
  unfold tq
  induction ht:yD u H₁ using GD with
  |none=>rfl
  |some t=>rcases t<;>first|rfl|(dsimp only [ifS,ite2];try rw[ht])
 rcases xs with _|⟨y,ys⟩
 ·exact absurd h2 G4
 refine isTrue_and (PostB.go (α:=Unit) (ia h1 C S he R Lk XR) λt h' tk H' ρ' E' R' x' q=>?_)
 induction t using GN with
 |false=>rw[if_neg G4];exact PostB.up x' ⟨h',tk,H',ρ',E',rfl,R',Ext.refl _ _,q⟩
 |true=>
  rw[if_pos rfl];rcases ys with _|⟨z,ys⟩
  ·refine isTrue_and (PostB.go (α:=Unit) (ib (s:={s with heap:=h',toks:=tk}) h2 C S q R' (Lk.ext x') (xrUp XR x')) λt h'' tk' H'' ρ'' E'' R'' x'' q'=>?_)
   induction t using GN with
   |true=>rw[if_pos rfl];exact isTrue_and_nil (PostB.up x' (PostB.up x'' ⟨h'',tk',H'',ρ'',E'',rfl,R'',Ext.refl _ _,q'⟩))
   |false=>rw[if_neg G4];exact PostB.up x' (PostB.up x'' ⟨h'',tk',H'',ρ'',E'',rfl,R'',Ext.refl _ _,q'⟩)
  ·exact Gu (ib (s:={s with heap:=h',toks:=tk}) h2 C S q R' (Lk.ext x') (xrUp XR x')) (λ_ _ p=>PostB.up x' p) λ_ _ e=>e
theorem tr_or{a b:Mn.E}(ia:TrOk RX T P N O d a)(ib:TrOk RX T P N O d b):TrOk RX T P N O d (.or a b):=by
 intro x c lm sc tb X L H Q ρ E s Er hc C S he R Lk XR;refine zA (iBool hc) ?_;clear hc;intro op xs pos rq3 hc;subst rq3;refine zh (an2 hc) ?_;clear hc;intro h0 hc;obtain rfl:=KN h0;refine zf (iHt hc) ?_;clear hc;intro x xs' e1 hc;obtain rfl:xs=x::xs':=e1;refine zh (an2 hc) ?_;clear hc;intro h1 h2;revert h2;generalize hxs:xs'=xs;intro h2;replace he:ev P O a X L H λu H₁=>ifS (yD u H₁) λt=>ite2 t (tq Q u H₁) (ev P O b X L H₁ (tq Q)):=he;replace he:ev P O a X L H (tq λt H₁=>ite2 t (Q G6 H₁) (ev P O b X L H₁ (tq Q))):=ev_eq he λu H₁=>by
  unfold tq
  induction ht:yD u H₁ using GD with
  |none=>rfl
  |some t=>rcases t<;>(dsimp only [ifS,ite2];try rw[ht])
 rcases xs with _|⟨y,ys⟩
 ·exact absurd h2 G4
 refine isTrue_or (PostB.go (α:=Unit) (ia h1 C S he R Lk XR) λt h' tk H' ρ' E' R' x' q=>?_)
 induction t using GN with
 |true=>rw[if_pos rfl];exact PostB.up x' ⟨h',tk,H',ρ',E',rfl,R',Ext.refl _ _,q⟩
 |false=>
  rw[if_neg G4];rcases ys with _|⟨z,ys⟩
  ·refine isTrue_or (PostB.go (α:=Unit) (ib (s:={s with heap:=h',toks:=tk}) h2 C S q R' (Lk.ext x') (xrUp XR x')) λt h'' tk' H'' ρ'' E'' R'' x'' q'=>?_)
   induction t using GN with
   |false=>rw[if_neg G4];exact isTrue_or_nil (PostB.up x' (PostB.up x'' ⟨h'',tk',H'',ρ'',E'',rfl,R'',Ext.refl _ _,q'⟩))
   |true=>rw[if_pos rfl];exact PostB.up x' (PostB.up x'' ⟨h'',tk',H'',ρ'',E'',rfl,R'',Ext.refl _ _,q'⟩)
  ·exact Gu (ib (s:={s with heap:=h',toks:=tk}) h2 C S q R' (Lk.ext x') (xrUp XR x')) (λ_ _ p=>PostB.up x' p) λ_ _ e=>e
theorem ls_nil:LsOk RX T P N O d .nil:=by intro xs pos c lm sc tb X L H Q ρ E s Er hc C S he R Lk XR;obtain rfl:=zB hc;exact args_nil ⟨s.heap,s.toks,[],H,ρ,E,rfl,R,Ext.refl _ _,.nil,rfl,he⟩
theorem ls_cons{a b:Mn.E}(ia:EvOk RX T P N O d a)(ib:LsOk RX T P N O d b):LsOk RX T P N O d (.cons a b):=by intro xs pos c lm sc tb X L H Q ρ E s Er hc C S he R Lk XR;refine zf (iHt hc) ?_;clear hc;intro x xs' e1 hc;obtain rfl:xs=x::xs':=e1;refine zP (an3 hc) ?_;clear hc;intro h0 h1 h2;refine args_cons (Post.go (ia h1 C S he R Lk XR) λu v h' tk H' ρ' E' R' x' hv q=>?_) (Z7 h0);refine Gu (ib (s:={s with heap:=h',toks:=tk}) h2 C S q R' (Lk.ext x') (xrUp XR x')) (λus s' p=>?_) λ_ _ e=>e;obtain⟨h'',tk',vs,H'',ρ'',E'',rfl,R'',x'',hvs,hl,q'⟩:=p;exact⟨h'',tk',v::vs,H'',ρ'',E'',rfl,R'',x'.trans x'',.cons (hv.ext x'') hvs,by simp[hl],q'⟩
theorem ev_tup{a:Mn.E}(ia:LsOk RX T P N O d a):EvOk RX T P N O d (.tup a):=by intro x c lm sc tb X L H Q ρ E s Er hc C S he R Lk XR;refine zA (iTup hc) ?_;clear hc;intro xs kk pos rq3 hc;subst rq3;refine zh (an2 hc) ?_;clear hc;intro h1 h2;have h1:=natB.mp h1;refine Tuple_ (Gu (ia h2 C S he R Lk XR) (λus s' p=>?_) λ_ _ e=>e);obtain⟨h',tk,vs,H',ρ',E',rfl,R',x',hvs,hl,q⟩:=p;refine za (R'.N) λtb' hb Nw=>?_;refine newTuple_N (s:={s with heap:=h',toks:=tk}) R'.F Nw (λh'' F' N'=>?_) (by rw[hl,D7];exact ot4 h1);refine zh (R'.one hb F' N' (yI Nw)) λR'' x''=>?_;exact Post.up x' ⟨h'',tk,_,_,_,_,rfl,R'',x'',.tup (.inl ⟨0,Gn ..⟩) (hvs.ext x''),q⟩
theorem ev_lst{a:Mn.E}(ia:LsOk RX T P N O d a):EvOk RX T P N O d (.lst a):=by intro x c lm sc tb X L H Q ρ E s Er hc C S he R Lk XR;refine zf (iList hc) ?_;clear hc;intro xs pos rq2 hc;subst rq2;refine List_ (Gu (ia hc C S he R Lk XR) (λus s' p=>?_) λ_ _ e=>e);obtain⟨h',tk,vs,H',ρ',E',rfl,R',x',hvs,hl,q⟩:=p;refine zh (gd_iff.mp q) ?_;clear q;intro e1 q;have h1:=natB.mp e1;refine za (R'.N) λtb' hb Nw=>?_;refine newList_N (s:={s with heap:=h',toks:=tk}) R'.F Nw (λh'' F' N'=>?_) (by rw[←hvs.length,D7];exact ot1 h1);refine zP (R'.newL (n:=0) hb hvs h1 F' N' (yI Nw)) λR'' x'' hr=>?_;exact Post.up x' ⟨h'',tk,_,_,_,_,rfl,R'',x'',.obj hr,q⟩
theorem ev_idx{a b:Mn.E}(ia:EvOk RX T P N O d a)(ib:EvOk RX T P N O d b):EvOk RX T P N O d (.idx a b):=by intro x c lm sc tb X L H Q ρ E s Er hc C S he R Lk XR;refine zA (iSub hc) ?_;clear hc;intro y z pos rq3 hc;subst rq3;refine zP (an3 hc) ?_;clear hc;intro h0 h1 h2;refine Subscript_ (Post.go (ia h1 C S he R Lk XR) λu v h' tk H' ρ' E' R' x' hv q=>?_);refine Post.go (ib (s:={s with heap:=h',toks:=tk}) h2 C S q R' (Lk.ext x') (xrUp XR x')) λu2 v2 h2 tk2 H2 ρ2 E2 R2 x2 hv2 q2=>?_;exact idx_ok (s:={s with heap:=h2,toks:=tk2}) h0 C R2 (hv.ext x2) hv2 q2 λw v' tk3 hw q3=>Post.up x' (Post.up x2 (Post.here (s:={s with heap:=h2,toks:=tk2}) R2 hw q3))
set_option tactic.hygienic true in
theorem k7{e:Mn.E}(h:Y2 e=G6):e= .c .none:=by
 rcases e<;>first|exact absurd h G4|skip
 rename_i v;rcases v<;>first|rfl|exact absurd h G4
theorem Zm{l:Option G8}{lo:Mn.E}{lm:Bool}{sc:GW}{tb:List Str}{L:Lc}
  (hc:oN l (Y2 lo) (chkE N T.K lm sc tb lo)=G6) (ia:EvOk RX T P N O d lo) (C:c.Ok T d) (S:ScOk T lm sc c) (he:ev P O lo X L H Q) (R:c.Rep T H ρ E s.heap) (Lk:LOk T tb c E ρ L)
  (XR:∀e s',XPost RX c s ρ E X e s'->Er e s'):GA (Gy T.prog T.w) c.A (valueOrNone (evalOpt l c.fe)) (Post T c s ρ E Q) Er s:=by
 induction l using GD with
 |none=>obtain rfl:=k7 hc;exact Gv (Post.at R .none he)
 |some y=>exact ia hc C S he R Lk XR
theorem YN{α:Type}{o:Option α}(h:o.isNone=G6):o=Gb:=by
 induction o using GD with
 |none=>rfl
 |some _=>exact absurd h G4
theorem Ks{x:G8}(h:negOne x=G6):∃k p q,x= .UnaryOp .USub (.Constant (.int 1) k p) q:=by refine zA (iUn h) ?_;clear h;intro o y q rq3 h;subst rq3;refine zh (an2 h) ?_;clear h;intro h0 h;refine zA (KQ h) ?_;clear h;intro c k p e2 h;refine za (ya h) ?_;clear h;intro j e3 h;have e2:y= .Constant c k p:=e2;have h0:k8 o=G6:=h0;rw[e2,Jr e3,Jo h0,of_decide_eq_true h];exact⟨k,p,q,rfl⟩
theorem ev_slice{a lo hi:Mn.E}(ia:EvOk RX T P N O d a)(il:EvOk RX T P N O d lo)(ih:EvOk RX T P N O d hi)(K:TpOk T P N):EvOk RX T P N O d (.slice a lo hi):=by intro x c lm sc tb X L H Q ρ E s Er hc C S he R Lk XR;refine zA (iSub hc) ?_;clear hc;intro x y pos rq3 hc;subst rq3;refine Z2 (iSlice hc) ?_;clear hc;intro l u st p e1 hc;obtain rfl:y= .Slice l u st p:=e1;refine ZB (an4 hc) ?_;clear hc;intro h0 h1 h2 h3;obtain rfl:=YN h0;refine Subscript_ (Post.go (ia h1 C S he R Lk XR) λo v h' tk H' ρ' E' R' x' hv q=>?_);rw[arm_eval_Slice];refine Ge (Post.go (Zm (s:={s with heap:=h',toks:=tk}) h2 il C S q R' (Lk.ext x') (xrUp XR x')) λo2 v2 h2 tk2 H2 ρ2 E2 R2 x2 hv2 q2=>?_);refine Ge (GR (Post.go (Zm (s:={s with heap:=h2,toks:=tk2}) h3 ih C S q2 R2 ((Lk.ext x').ext x2) (xrUp (xrUp XR x') x2)) λo3 v3 h3 tk3 H3 ρ3 E3 R3 x3 hv3 q3=>?_));refine Ge (GR (Gv ?_));refine Iq ?_ (by show(3:Nat)<=_;decide);rw[K.scr] at q3;exact Gu (slice_ok (s:={s with heap:=h3,toks:=tk3}) C R3 ((hv.ext x2).ext x3) (hv2.ext x3) hv3 q3) (λ_ _ p=>Post.up x' (Post.up x2 (Post.up x3 p))) λ_ _ e=>e
theorem ev_rev{a:Mn.E}(ia:EvOk RX T P N O d a):EvOk RX T P N O d (.rev a):=by intro x c lm sc tb X L H Q ρ E s Er hc C S he R Lk XR;refine zA (iSub hc) ?_;clear hc;intro x y pos rq3 hc;subst rq3;refine Z2 (iSlice hc) ?_;clear hc;intro l u st p e1 hc;obtain rfl:y= .Slice l u st p:=e1;refine ZB (an4 hc) ?_;clear hc;intro h0 h1 h2 h3;obtain rfl:l=Gb:=YN h0;obtain rfl:u=Gb:=YN h1;refine za (ya h2) ?_;clear h2;intro z e2 h2;obtain rfl:st=G3 z:=e2;refine ju (Ks h2) ?_;clear h2;intro kk kp kq rq3;subst rq3;refine Subscript_ (Post.go (ia h3 C S he R Lk XR) λo v h' tk H' ρ' E' R' x' hv q=>?_);refine zF (yn q) ?_;clear q;intro i vs rq2 e1 q;subst rq2;refine zf (hv.ofObj) λaa dd rq2 hi=>?_;subst rq2;rw[arm_eval_Slice];refine Ge (Gv (Ge (GR (Gv (Ge (GR ?_))))));show GA _ _ (Ft _ c.fe) _ _ _;refine UnaryOp_ (wpAny_mkInt (PyProof.Rows.neg_int ?_));refine Iq ?_ (by show(3:Nat)<=_;decide);exact Gu (rev_ok (s:={s with heap:=h',toks:=tk+1+1}) R' hi e1 q) (λ_ _ p=>Post.up x' p) λ_ _ e=>e
theorem je{M:IY}{A:Dh}{env:Env}{fv:G9}{xs:List G8}{pos:Pos}{S:Args->Gh->Prop}(hx:xs.all zT=G6)
  (h:GA M A (spliced (IS pos (F6 xs env))) (λvs wV=>S ⟨vs,[]⟩ wV) Er s):GA M A (evalArgs fv G6 (IS pos (F6 xs env)) []) S Er s:=by
 rcases xs with _|⟨x,xs⟩
 ·show GA M A (evalArgs fv G6 [] []) S Er s;unfold evalArgs;show GA M A (spliced [] >>= _) S Er s;refine Ge (Gu h (λvs s' h'=>?_) λ_ _ x=>x);refine GR ?_;exact Ge (Gv (Ge (Gv (Gv h'))))
 ·rw[Mh,Dc] at hx;rw[Z7 hx.1] at h ⊢;exact evalArgs_plain h
theorem yX{M:IY}{A:Dh}{env:Env}{fv:G9}{first:List G9}{xs:List G8}{pos:Pos}{S:G9->Gh->Prop}{Pr:Do->Prop}(hx:xs.all zT=G6)
  (hk:∀h,Pr h->∃k,(k=Mr∨k=M6∨k=Im)/\I0 M h (keeperOf fv) k)
  (h:GA M A (spliced (IS pos (F6 xs env))) (λvs wV=>Pr wV.heap/\GA M A (call fv (first++vs)) S Er wV) Er s):GA M A (callWith pos fv first (IS pos (F6 xs env)) []) S Er s:=
 callWith_of (by rw[(Yd hx).1];rfl) hk (je hx h)
theorem Zx{M:IY}{h:Do}{fv:G9}{k:Keeper}(e:keeperOf fv=pure k):I0 M h (keeperOf fv) k:=Looks.of_pure e
theorem keep_bf(b:Bf):keeperOf (bfVal b)=pure .machine:=by rcases b<;>rfl
theorem YW{b:Mn.E}{f:Nat}{us0:List V}{first:List G9}{fv:G9}{lm:Bool}{sc:GW}{tb:List Str}{L:Lc}{xs:List G8}{pos:Pos}{Pr:Do->Prop}(hO:js RX T O d)(ib:LsOk RX T P N O d b)
  (hc:chkL N T.K lm sc tb b xs=G6) (C:c.Ok T d) (S:ScOk T lm sc c) (he:ev P O b X L H (λv H₁=>tupP v λvs=>O f (us0++vs) H₁ Q X)) (R:c.Rep T H ρ E s.heap) (Lk:LOk T tb c E ρ L)
  (XR:∀e s',XPost RX c s ρ E X e s'->Er e s') (hf:VRs T E ρ us0 first) (hcal:CalAt T E f fv)
  (hk:∀h,Pr h->∃k,(k=Mr∨k=M6∨k=Im)/\I0 (Gy T.prog T.w) h (keeperOf fv) k) (hP:∀h' ρ' E',Ext E ρ E' ρ'->(∃H',c.Rep T H' ρ' E' h')->Pr h') :
  GA (Gy T.prog T.w) c.A (callWith pos fv first (IS pos (F6 xs c.fe)) []) (Post T c s ρ E Q) Er s:=by
 refine yX (yt hc) hk (Gu (ib hc C S he R Lk XR) (λus s' p=>?_) λ_ _ e=>e);obtain⟨h',tk,vs,H',ρ',E',rfl,R',x',hvs,hl,q⟩:=p;refine⟨hP _ _ _ x' ⟨H',R'⟩,?_⟩;exact Gu (hO c f (us0++vs) H' Q X ρ' E' {s with heap:=h',toks:=tk} (first++us) fv Er C q R' ((VRs.ext x' hf).append hvs) (hcal.ext x') (xrUp XR x')) (λ_ _ p=>Post.up x' p) λ_ _ e=>e
theorem Ym(C:c.Ok T d){a:Gx}(hk:keepIn T.K (.ref a)=G6):∀h,T.K.In h->∃k,(k=Mr∨k=M6∨k=Im)/\I0 (Gy T.prog T.w) h (keeperOf (.ref a)) k:=λh X=>keeps_K hk h X
inductive NCall (T:Tp) (N:Nm) (lm:Bool) (sc:GW) (tb:List Str) (f:Nat) (as:Mn.E):G8->Prop
 |mk (z py ys pos a) (ha:T.fn f=G3 a∨T.cls f=G3 a) (g:KU T.K z a=G6) (h2:zu sc z .globalImplicit=G6) (h3:(!zL z "__debug__")=G6) (h4:chkL N T.K lm sc tb as ys=G6):NCall T N lm sc tb f as (.Call (.Name z py) ys [] pos)
theorem Xm(K:TpOk T P N){x:G8}{lm:Bool}{sc:GW}{tb:List Str}{f:Nat}{as:Mn.E}(hc:chkE N T.K lm sc tb (.call f as) x=G6):NCall T N lm sc tb f as x:=by refine zA (k9 hc) ?_;clear hc;intro fx xs pos rq3 hc;subst rq3;refine zf (Yf hc) ?_;clear hc;intro y py e1 hc;obtain rfl:fx= .Name y py:=e1;refine ZB (an4 hc) ?_;clear hc;intro h1 h2 h3 h4;refine za (ya h1) ?_;clear h1;intro z hz h1;obtain rfl:=eqStr_iff.mp h1;refine za (K.glo f z hz) λa ha hg=>?_;exact⟨z,py,xs,pos,a,ha,hg,h2,h3,h4⟩
theorem ev_call(K:TpOk T P N)(hO:js RX T O d)(f:Nat){b:Mn.E}(ib:LsOk RX T P N O d b):EvOk RX T P N O d (.call f b):=by
 intro x c lm sc tb X L H Q ρ E s Er hc C S he R Lk XR;rcases Xm K hc with⟨z,py,xs,pos,a,ha,hg,h2,h3,h4⟩;refine Call_ (Zd C R.F (S.glob _ h2) (beq_iff_eq.mp (an2 hg).1) (YR h3) ?_);refine YW (Pr:=λh=>T.K.In h) (us0:=[]) (first:=[]) (f:=f) hO ib h4 C S he R Lk XR .nil ?_ (Ym C (an2 hg).2) λh' ρ' E' _ ⟨H',R'⟩=>C.X.keeps R'.F.keep;rcases ha with ha|ha
 ·exact .inl ⟨a,ha,rfl⟩
 ·exact .inr (.inl ⟨a,ha,rfl⟩)
theorem X8{o:Option (Option G9)}(h:(match o with|some Gb=>G6|_=>G7)=G6):o=G3 Gb:=by
 induction o using GD with
 |none=>exact absurd h G4
 |some u=>induction u using GD with
  |none=>rfl
  |some _=>exact absurd h G4
theorem ev_bf(b:Bf){a:Mn.E}(ia:LsOk RX T P N O d a):EvOk RX T P N O d (.bf b a):=by
 intro x c lm sc tb X L H Q ρ E s Er hc C S he R Lk XR;refine zA (k9 hc) ?_;clear hc;intro fx xs pos rq3 hc;subst rq3;refine zf (Yf hc) ?_;clear hc;intro y py e1 hc;obtain rfl:fx= .Name y py:=e1;refine ZB (an4 hc) ?_;clear hc;intro h1 h2 h3 h4;obtain rfl:=eqStr_iff.mp h1;replace h3:=X8 h3;refine Call_ (kB C R.F (S.glob _ h2) h3 (bfBoot b) ?_ ?_ ?_)
 ·rcases b<;>decide
 ·rcases b<;>decide
 ·refine yX (Pr:=λ_=>True) (yt h4) (λh _=>⟨.machine,.inr (.inl rfl),Zx (keep_bf b)⟩) (Gu (ia h4 C S he R Lk XR) (λus s' p=>⟨trivial,?_⟩) λ_ _ e=>e);obtain⟨h',tk,vs,H',ρ',E',rfl,R',x',hvs,hl,q⟩:=p;exact Gu (bfun_ok (s:={s with heap:=h',toks:=tk}) C R' hvs q) (λ_ _ p=>Post.up x' p) λ_ _ e=>e
theorem jH{o:G8}{name:Str}{ap pos:Pos}{xs:List G8}{env:Env}(h1:YH o=G6)(h2:Gi ap.endLine pos.line=G6)(h3:xs.all zT=G6)(h4:D0 xs.length 29=G6) :
  Ft (.Call (.Attribute o name ap) xs [] pos) env=(do
   let ov ←Ft o env
   IG ap.atName
   let (f,first) ←FC [ov] (IE ov name (do return(←importBound o env).getD G6))
   callWith pos f first (IS pos (F6 xs env)) []):=by
 rw[arm_eval_Call,Ya h1];have hf:methodCallForm (xs.length+([]:List Keyword).length) (IS pos (F6 xs env)) (backToKw pos (keywordEach [] env))=G6:=by
  unfold methodCallForm;rw[(Yd h3).2];have:xs.length < 29:=by simpa [FE] using h4
  show(G6 && ((backToKw pos (keywordEach [] env)).all (·.1.isSome)) && decide (xs.length+0+(if (backToKw pos (keywordEach [] env)).isEmpty=G6 then 0 else 1) < 30))=G6;have e:backToKw pos (keywordEach [] env)=[]:=rfl;rw[e];simp;exact om49 this
 have hp:methodCallPos G6 o env ap pos=pure pos:=by
  unfold methodCallPos;have:(ap.endLine==pos.line)=G6:=by rw[natE.mp h2];simp
  simp[this]
 congr 1
 funext ov
 congr 1
 funext _
 unfold methodCall;rw[hf];show(do let (f,first) ←FC [ov] (IE ov name _);let callPos ←methodCallPos G6 o env ap pos;callWith callPos f first (IS pos (F6 xs env)) (backToKw pos (keywordEach [] env)))=_;rw[hp];rfl
theorem ev_meth(K:TpOk T P N)(hO:js RX T O d)(m:Nat){a b:Mn.E}(ia:EvOk RX T P N O d a)(ib:LsOk RX T P N O d b):EvOk RX T P N O d (.meth a m b):=by intro x c lm sc tb X L H Q ρ E s Er hc C S he R Lk XR;refine zA (k9 hc) ?_;clear hc;intro fx xs pos rq3 hc;subst rq3;refine zA (jO hc) ?_;clear hc;intro o n ap e1 hc;obtain rfl:fx= .Attribute o n ap:=e1;refine Yr (an6 hc) ?_;clear hc;intro h1 h2 h3 h4 h5 h6;obtain rfl:=eqStr_iff.mp h1;refine MethodCall_ (Post.go (ia h5 C S he R Lk XR) λu v h' tk H' ρ' E' R' x' hv q=>?_) (jH h2 h3 (yt h6) h4);refine Z3 (jZ q) ?_;clear q;intro i k fs rq3 e1 q;subst rq3;refine za (zq q) ?_;clear q;intro g hg q;refine zf (hv.ofObj) λaa dd rq2 hi=>?_;subst rq2;refine getM_ok (s:={s with heap:=h',toks:=tk}) K C R' e1 hi hg λga hga hkeep=>?_;exact Gu (YW (s:={s with heap:=h',toks:=tk}) (Pr:=λh=>T.K.In h) (us0:=[.obj i]) (f:=g) hO ib h6 C S q R' (Lk.ext x') (xrUp XR x') (.cons (.obj hi) .nil) (.inl ⟨ga,hga,rfl⟩) (Ym C hkeep) λh' ρ' E' _ ⟨H',R'⟩=>C.X.keeps R'.F.keep) (λ_ _ p=>Post.up x' p) λ_ _ e=>e
theorem ev_bm(b:Bm){a e:Mn.E}(ia:EvOk RX T P N O d a)(ib:LsOk RX T P N O d e):EvOk RX T P N O d (.bm b a e):=by intro x c lm sc tb X L H Q ρ E s Er hc C S he R Lk XR;refine zA (k9 hc) ?_;clear hc;intro fx xs pos rq3 hc;subst rq3;refine zA (jO hc) ?_;clear hc;intro o n ap e1 hc;obtain rfl:fx= .Attribute o n ap:=e1;refine Yr (an6 hc) ?_;clear hc;intro h1 h2 h3 h4 h5 h6;obtain rfl:=eqStr_iff.mp h1;refine MethodCall_ (Post.go (ia h5 C S he R Lk XR) λu v h' tk H' ρ' E' R' x' hv q=>?_) (jH h2 h3 (yt h6) h4);refine zh (gd_iff.mp q) ?_;clear q;intro q1 q;refine bmGet_ok (s:={s with heap:=h',toks:=tk}) R' hv q1 ?_;refine yX (Pr:=λ_=>True) (yt h6) (λh _=>⟨.machine,.inr (.inl rfl),Zx rfl⟩) (Gu (ib (s:={s with heap:=h',toks:=tk}) h6 C S q R' (Lk.ext x') (xrUp XR x')) (λus s' p=>⟨trivial,?_⟩) λ_ _ e=>e);obtain⟨h2',tk2,vs,H2,ρ2,E2,rfl,R2,x2,hvs,hl,q2⟩:=p;refine za (Xc q2) ?_;clear q2;intro ws e3 q2;obtain rfl:_=_:=V.noConfusion e3 λe=>e;exact Gu (bmeth_ok (s:={s with heap:=h2',toks:=tk2}) C R2 (hv.ext x2) hvs q2) (λ_ _ p=>Post.up x' (Post.up x2 p)) λ_ _ e=>e
theorem lam_keep{k:Nat}{a:Gx}(h:LamAt T E k a){M:IY}:∀h',(∃o fd,h'.get? a=G3 o/\o.data= .func fd)->∃k,(k=Mr∨k=M6∨k=Im)/\I0 M h' (keeperOf (.ref a)) k:=by rintro h' ⟨o,fd,ho,hd⟩;refine⟨.frame,.inl rfl,(Looks.ld (part:=Gb) ho).andThen ?_⟩;obtain⟨oc,od,odt,osl⟩:=o;dsimp only at hd;subst hd;exact .now
theorem ev_callv(hO:js RX T O d){a b:Mn.E}(ia:EvOk RX T P N O d a)(ib:LsOk RX T P N O d b):EvOk RX T P N O d (.callv a b):=by intro x c lm sc tb X L H Q ρ E s Er hc C S he R Lk XR;refine zA (k9 hc) ?_;clear hc;intro fx xs pos rq3 hc;subst rq3;refine zf (Yf hc) ?_;clear hc;intro y py e1 hc;obtain rfl:fx= .Name y py:=e1;refine zh (an2 hc) ?_;clear hc;intro h1 h2;refine Call_ (Post.go (ia h1 C S he R Lk XR) λu v h' tk H' ρ' E' R' x' hv q=>?_);refine za (fnP_iff q) ?_;clear q;intro k rq1 q;subst rq1;refine za (hv.ofFn) λa rq1 hl=>?_;subst rq1;refine Gu (YW (s:={s with heap:=h',toks:=tk}) (us0:=[]) (first:=[]) (f:=k) hO ib h2 C S q R' (Lk.ext x') (xrUp XR x') .nil (.inr (.inr ⟨_,hl,rfl⟩)) (lam_keep hl) λh'' ρ'' E'' x'' ⟨H'',R''⟩=>?_) (λ_ _ p=>Post.up x' p) λ_ _ e=>e;obtain⟨ar,p1,p2,csc,pm,c',ctv,oc,vs,t,_,hm,_⟩:=hl.ext x''.fix;exact⟨_,_,R''.inNews hm,rfl⟩
theorem updFOf{D:Gx}{o:Obj}:∀{pre post:Lg},(∀p∈pre,p.1≠D)->(∀p∈post,p.1≠D)->UpdF D o (pre++(D,o)::post) (λo'=>pre++(D,o')::post):=by
 intro pre
 induction pre with
 |nil=>intro y1 y2 h;exact .head h
 |cons p pre ih=>intro y1 h1 h;exact .tail (h1 p (Gn ..)) (ih (λq hq=>h1 q (Go _ hq)) h)
theorem Rep.tabApart(R:c.Rep T H ρ E s.heap):(∀p∈E,p.1≠T.tab)/\∀p∈c.G,p.1≠T.tab:=by have nd:=R.nd;simp only[GB,GV] at nd;refine zP (GG.mp nd) λn1 n2 n3=>?_;rw[GJ] at n2;exact⟨λp hp e=>n3 p.1 (D4 hp) T.tab (Gn ..) e,λp hp e=>n2.1 (e▸D4 hp)⟩
inductive LamE (T:Tp) (lm:Bool) (k:Nat):G8->Prop
 |mk (ar p1 p2 csc pos) (h1:lm=G6) (hkk:k=T.lamK) (y1:ar.arg=T.lamX) (hloc:csc.names.lookup T.lamX=G3 .local) (hkd:csc.kind= .function) (hk:∀x∈csc.names,x.2≠.cell/\x.2≠.free) (hco:csc.isCoroutine=G7) (hge:csc.isGenerator=G7)
   (hp:pos.line=T.lamP.line/\pos.col=T.lamP.col):LamE T lm k (.Lambda ⟨[],[ar],Gb,[],[],Gb,[]⟩ (.Attribute (.Name T.lamX p1) T.lamN p2) csc pos)
theorem chk_lam(K:TpOk T P N){lm:Bool}{sc:GW}{tb:List Str}{k:Nat}{x:G8}(hc:chkE N T.K lm sc tb (.lam k) x=G6):LamE T lm k x:=by
 refine Z2 (iLam hc) ?_;clear hc;intro ps b csc pos rq4 hc;subst rq4;refine zP (an3 hc) ?_;clear hc;intro h1 h2 h3;refine xe0c8 (an8 h3) ?_;clear h3;intro y1 y2 y3 y4 y5 y6 y7 y8;refine za (iLamArg y1) ?_;clear y1;intro ar rq1 y1;subst rq1;refine zA (jO y2) ?_;clear y2;intro bn nn p2 rq3 y2;subst rq3;refine zf (Yf y2) ?_;clear y2;intro xx p1 e2 y2;obtain rfl:bn= .Name xx p1:=e2;refine zh (an2 y2) ?_;clear y2;intro y2 y2';rw[eqStr_iff,K.lmX] at y1;obtain rfl:xx=T.lamX:=(eqStr_iff.mp y2).trans K.lmX;obtain rfl:nn=T.lamN:=(eqStr_iff.mp y2').trans K.lmN;rw[K.lmX] at y3;refine⟨ar,p1,p2,csc,pos,h1,by rw[←K.lmK];exact natE.mp h2,y1,zk y3,yW y5,λx hx=>?_,(Dd _).mp y6,(Dd _).mp y7,?_⟩
 ·have:=Gz.mp y4 x hx;rcases Dg.mp this with q|q<;>rw[X4 q]<;>exact⟨by decide,by decide⟩
 ·exact⟨(natE.mp (an2 y8).1).trans (natE.mp (an2 K.lmP).1),(natE.mp (an2 y8).2).trans (natE.mp (an2 K.lmP).2)⟩
theorem ev_lam(K:TpOk T P N)(k:Nat):EvOk RX T P N O d (.lam k):=by
 intro x c lm sc tb X L H Q ρ E s Er hc C S he R Lk XR;obtain⟨ar,p1,p2,csc,pos,h1,hkk,y1,hloc,hkd,hk,hco,hge,hpos⟩:=chk_lam K hc;refine Z2 (S.lam h1) λcn cs fa cl hfe hq=>?_;refine YX (C.top) λp loose mean mg mb top=>?_;refine za (R.N) λtb0 hb Nw=>?_;refine zh (R.tabApart) λa1 a2=>?_;have hqq:c.fe.qual++("<lambda>":Str)=T.lamQ:=by rw[hfe];exact hq
 refine kla_eval rfl ?_;rw[hqq,hfe];refine za (hb) ?_;clear hb;intro tps rq1 hps;subst rq1;rcases hps with rfl|⟨c',oc,vs,t,rfl,z1,z2,z3⟩
 ·refine kla_nest R.F Nw top C.tab rfl (updFOf a1 a2) trivial rfl (closureFor_none λx hx=>(hk x hx).2) λf c' oc vs t ctv h' tk F' N' d1 d2 l1 l2=>?_;have hlt:∀p∈E++(T.tab,Dz #[])::c.G,p.1 < c':=λp hp=>l1 p hp
  let new:Lg:=[(f,kla_obj "<lambda>" T.lamQ ⟨[],[ar],Gb,[],[],Gb,[]⟩ (.Attribute (.Name T.lamX p1) T.lamN p2) csc [] ((mg "__name__").getD .none) c' ctv),(c',oc)]
  have hfix:∀p∈E,Z0 p.2=G6->p∈new++E:=λp hp _=>Gd _ hp;have hlt':∀b∈(E++(T.tab,Dz #[])::c.G).map (·.1),b < c':=λb hb=>by refine za (Df.mp hb) λq hq e=>?_;exact e▸hlt q hq
  have R':c.Rep T H ρ (new++E) h':=
   ⟨F',⟨Dz (#[]++#[IP pos.line,IP pos.col,.ref c']),⟨_,rfl,.inr ⟨c',oc,vs,t,by rw[hpos.1,hpos.2];rfl,Gg _ (.tail _ (.head _)),d1,d2⟩⟩,N'⟩,
    GJ.mpr ⟨λm=>(Gp.mp m).elim (DQ l2) λm=>Nat.lt_asymm l2 (hlt' _ m),GJ.mpr ⟨λm=>DH _ (hlt' _ m),R.nd⟩⟩,R.len,
    λi o a dd e1 e2=>(R.enc i o a dd e1 e2).mono ⟨λ_ _ e=>e,hfix⟩ λ_ _ _ hm=>Gd _ hm,R.ft⟩
  exact⟨h',tk,.fn k,H,ρ,new++E,rfl,R',⟨λ_ _ e=>e,hfix⟩,.fn ⟨ar,p1,p2,csc,_,c',ctv,oc,vs,t,hkk,Gg _ (Gn ..),y1,hloc,λx hx=>(hk x hx).1,hkd,hco,hge,Gg _ (Go _ (Gn ..)),d1,d2⟩,he⟩
 ·refine kla_hit (c':=c') R.F Nw top C.tab rfl (Gd _ (Gn ..)) ?_ ?_ (closureFor_none λx hx=>(hk x hx).2) λf ctv h' tk F' N' l1=>?_
  ·exact trivial
  ·show codeAmong pos [IP T.lamP.line,IP T.lamP.col,.ref c']=_;simp[codeAmong,IP,hpos.1,hpos.2]
  ·refine zh (R.one (tb:=Dz #[IP T.lamP.line,IP T.lamP.col,.ref c']) ⟨_,rfl,.inr ⟨c',oc,vs,t,rfl,z1,z2,z3⟩⟩ F' N' l1) λR' x'=>?_;exact⟨h',tk,.fn k,H,ρ,_,rfl,R',x',.fn ⟨ar,p1,p2,csc,_,c',ctv,oc,vs,t,hkk,Gn ..,y1,hloc,λx hx=>(hk x hx).1,hkd,hco,hge,Go _ z1,z2,z3⟩,he⟩
noncomputable def Cx.add(c:Cx)(ex:Lg):Cx:={c with G:=ex++c.G}
theorem Cx.Ok.add(C:c.Ok T d)(ex:Lg):(c.add ex).Ok T d where
 B:=C.B
 kd:=C.kd
 gl:=C.gl
 bi:=C.bi
 X:=C.X
 top:=C.top
 tab:=C.tab
 le:=C.le
 tp:=C.tp
 hh:=C.hh
 dep:=C.dep
 un:=C.un
 scr:=C.scr
 look:=λx u h hd=>λF N q=>C.look x u h hd F (λp hp=>N p (Gd _ hp)) q
 cel:=λx h=>by
  refine za (C.cel x h) λa h1 h2=>?_;exact⟨a,h1,λu hu=>by
   refine za (h2 u hu) λo ho hd=>?_;exact⟨o,Gd _ ho,hd⟩⟩
theorem ScOk.add{lm:Bool}{sc:GW}(S:ScOk T lm sc c)(ex:Lg):ScOk T lm sc (c.add ex):=⟨S.glob,S.cell,S.lam⟩
theorem YL(k:List Nat)(v:V){es:List (List Nat×V)}{kvs:List (Str×G9)}{u:G9}(h:KVs T E ρ es kvs)(nd:(kvs.map (·.1)).Nodup)(hv:VR T E ρ v u):KVs T E ρ (setD k v es) (FJ kvs (strL k) u):=by
 induction h with
 |nil=>exact .cons hv .nil
 |@cons x v' u' fs es hx hs ih=>
  rw[GV,GJ] at nd;unfold setD
  induction q:eqS x k using GN with
  |true=>
   obtain rfl:=eqS_iff.mp q;have e:FJ ((strL x,u')::es) (strL x) u=(strL x,u)::es:=by
    unfold FJ;rw[IF];simp only[decide_true,Bool.true_or,if_true,GV]
    congr 1
    refine(List.map_congr_left λp hp=>?_).trans (List.map_id _);have:p.1≠strL x:=λe=>nd.1 (e▸D4 (f:=(·.1)) hp);rw[if_neg this];rfl
   rw[e];exact .cons hv hs
  |false=>
   have hne:¬strL x=strL k:=λe=>by rw[J6] at e;rw[e,eqS_iff.mpr rfl] at q;cases q
   have ih:=ih nd.2;have e:FJ ((strL x,u')::es) (strL k) u=(strL x,u')::FJ es (strL k) u:=by
    unfold FJ;rw[IF];simp only[hne,decide_false,Bool.false_or,GV,if_false]
    split<;>rfl
   rw[e];exact .cons hx ih
set_option tactic.hygienic true in
theorem XT{kvs:List (Str×G9)}{k:Str}{v:G9}(nd:(kvs.map (·.1)).Nodup):((FJ kvs k v).map (·.1)).Nodup:=by
 unfold FJ
 split
 ·have:(kvs.map λkv=>if kv.1=k then (kv.1,v) else kv).map (·.1)=kvs.map (·.1):=by
   rw[Mq];refine List.map_congr_left λp hp=>?_;simp only[Function.comp_apply]
   split<;>rfl
  rw[this];exact nd
 ·rename_i h;rw[GB];refine GG.mpr ⟨nd,by simp,λa ha b hb e=>h ?_⟩;simp only[GV,IZ,GQ] at hb;refine za (Df.mp ha) λp hp rq2=>?_;subst rq2;exact Iz.mpr ⟨p,hp,decide_eq_true (e.trans hb)⟩
theorem XS{k v:V}{r:List V}(h:ZX (k::v::r)=G6):∃x,k= .str x/\ZX r=G6:=by
 rcases k<;>first|exact absurd h G4|exact⟨_,rfl,h⟩
theorem ki{vs:List V}{us:List (G9×G9)}(h:PRs T E ρ vs us)(hk:ZX vs=G6):∃kvs:List (Str×G9),Carries (strKind T.prog T.w) us kvs/\kvs.length=us.length/\
  ∀acc accK,KVs T E ρ acc accK->(accK.map (·.1)).Nodup->KVs T E ρ (JU acc vs) (merged accK kvs):=by
 induction h with
 |nil=>exact⟨[],trivial,rfl,λacc accK h _=>h⟩
 |@cons k v a b r ps h1 h2 _ ih=>refine za (XS hk) ?_;clear hk;intro x rq1 hk;subst rq1;refine zj (h1.ofStr) λt rq1=>?_;subst rq1;refine yK (ih hk) λkvs c1 c2 c3=>?_;refine⟨(strL x,b)::kvs,⟨ID T.prog T.w _ _,rfl,c1⟩,congrArg (·+ 1) c2,λacc accK ha hn=>?_⟩;exact c3 _ _ (YL x v ha hn h2) (XT hn)
theorem dc_nil:DcOk RX T P N O d .nil:=by intro ks xs pos c lm sc tb X L H Q ρ E s Er hc C S he R Lk XR;replace hc:=an2 hc;obtain rfl:=zB hc.1;obtain rfl:=zB hc.2;exact evalPairs_nil ⟨s.heap,s.toks,[],H,ρ,E,rfl,R,Ext.refl _ _,.nil,rfl,he⟩
theorem jm{K:DN}{lm:Bool}{sc:GW}{tb:List Str}{a b e:Mn.E}{ks:List (Option G8)}{xs:List G8}(hc:chkD N K lm sc tb (.cons a (.cons b e)) ks xs=G6) :
  ∃k kr x xr,ks=G3 k::kr/\xs=x::xr/\chkE N K lm sc tb a k=G6/\chkE N K lm sc tb b x=G6/\chkD N K lm sc tb e kr xr=G6:=by
 refine zf (iHt hc) ?_;clear hc;intro k1 kr rq2 hc;subst rq2;refine za (ya hc) ?_;clear hc;intro k e1 hc;refine zf (iHt hc) ?_;clear hc;intro x xr rq2 hc;subst rq2;replace hc:=an3 hc;obtain rfl:k1=G3 k:=e1;exact⟨k,kr,x,xr,rfl,rfl,hc⟩
theorem dc_cons{a b e:Mn.E}(ia:EvOk RX T P N O d a)(ib:EvOk RX T P N O d b)(ie:DcOk RX T P N O d e):DcOk RX T P N O d (.cons a (.cons b e)):=by intro ks xs pos c lm sc tb X L H Q ρ E s Er hc C S he R Lk XR;refine XL (jm hc) λk kr x xr rq4 rq5 h1 h2 h3=>?_;subst rq4;subst rq5;refine evalPairs_cons (Post.go (ia h1 C S he R Lk XR) λu v h' tk H' ρ' E' R' x' hv q=>?_);refine Ge (Post.go (ib (s:={s with heap:=h',toks:=tk}) h2 C S q R' (Lk.ext x') (xrUp XR x')) λu2 v2 h2' tk2 H2 ρ2 E2 R2 x2 hv2 q2=>Ge (Dl (Gv ?_)));refine Gu (ie (s:={s with heap:=h2',toks:=tk2}) h3 C S (ev_eq q2 λ_ _=>rfl) R2 ((Lk.ext x').ext x2) (xrUp (xrUp XR x') x2)) (λus s' p=>?_) λ_ _ e=>e;obtain⟨h3',tk3,vs,H3,ρ3,E3,rfl,R3,x3,hvs,hl,q3⟩:=p;exact⟨h3',tk3,v::v2::vs,H3,ρ3,E3,rfl,R3,(x'.trans x2).trans x3,.cons ((hv.ext x2).ext x3) (hv2.ext x3) hvs,by simp[hl],q3⟩
set_option tactic.hygienic true in
theorem ZN{K:DN}{lm:Bool}{sc:GW}{tb:List Str}{ks:List (Option G8)}{xs:List G8}{e:Mn.E}(h:chkD N K lm sc tb e ks xs=G6):e= .nil∨∃a b r,e= .cons a (.cons b r):=by
 rcases e<;>first|exact .inl rfl|exact absurd h G4|skip
 rename_i a b;rcases b<;>first|exact absurd h G4|exact .inr ⟨_,_,_,rfl⟩
theorem kt{K:DN}{lm:Bool}{sc:GW}{tb:List Str}:∀{ks:List (Option G8)} {xs:List G8} {e:Mn.E},chkD N K lm sc tb e ks xs=G6->ks.all (·.isSome)=G6/\ks.length=xs.length:=by
 intro ks
 induction ks with
 |nil=>
  intro xs e h;rcases ZN h with rfl|⟨a,b,r,rfl⟩
  ·obtain rfl:=zB (an2 h).2;exact⟨rfl,rfl⟩
  ·exact absurd h G4
 |cons k0 ks ih=>
  intro xs e h;rcases ZN h with rfl|⟨a,b,r,rfl⟩
  ·exact absurd (an2 h).1 G4
  ·refine XL (jm h) λk kr x xr e1 rq5 h1 h2 h3=>?_;subst rq5;cases e1;refine zh (ih h3) λg1 g2=>?_;exact⟨g1,congrArg (·+ 1) g2⟩
theorem chkD_nil{K:DN}{lm:Bool}{sc:GW}{tb:List Str}{e:Mn.E}(h:chkD N K lm sc tb e [] []=G6):e= .nil:=by
 rcases ZN h with rfl|⟨a,b,r,rfl⟩
 ·rfl
 ·exact absurd h G4
theorem ev_dct{a:Mn.E}(ia:DcOk RX T P N O d a):EvOk RX T P N O d (.dct a):=by
 intro x c lm sc tb X L H Q ρ E s Er hc C S he R Lk XR;refine zA (iDict hc) ?_;clear hc;intro ks xs pos rq3 hc;subst rq3;have hc:=an2 hc;have h1:Gj ks.length 15=G6:=hc.1;have h3:chkD N T.K lm sc tb a ks xs=G6:=hc.2;clear hc;refine zh (kt h3) λg1 g2=>?_;refine YX (C.top) λp loose mean mg mb top=>?_;have hD:c.wy.get? s.heap.objs.size=Gb:=Heap.get?_none_of_le (Ga R.F.above (DO R.F.ns.lt));have R0:(c.add [(s.heap.objs.size,IR [] 0)]).Rep T H ρ E (s.heap.push {cls:=.type "dict",data:=.dict #[]}):=
  R.moreG (λ_ _ e=>Heap.get?_push_of_some _ e) (R.F.push _) (by intro p hp;simp only[GQ] at hp;subst hp;exact⟨Heap.get?_push_size _ rfl,GI _⟩) (by simp)
 by_cases h2:ks=[]
 ·subst h2;obtain rfl:xs=[]:=List.eq_nil_of_length_eq_zero g2.symm;obtain rfl:=chkD_nil h3;refine wpAny_Dict_empty ?_;refine za R0.N λtb0 hb Nw=>?_;refine zP (Rep.takeG R0 hb R0.F Nw (o:=.dict []) ⟨_,_,Gn ..,⟨_,⟨rfl,rfl,rfl⟩,rfl,(by intro e he;simp at he),.nil,M7⟩,.nil,DD _,R.F.notModules (modules_low top.nolimit)⟩ rfl) ?_;intro R3 x3 hr;exact⟨_,_,_,_,_,_,rfl,R3,x3,.obj hr,he⟩
 refine wpAny_Dict_any g1 g2 h2 (natB.mp h1) ?_;refine Gu (ia (c:=c.add [(s.heap.objs.size,IR [] 0)]) (s:={s with heap:=s.heap.push {cls:=.type "dict",data:=.dict #[]}}) (Er:=Er) h3 (C.add _) (S.add _) he R0 Lk (λe s' q=>absurd q XPost.no)) (λus s' p=>?_) λ_ _ e=>e;obtain⟨h',tk,vs,H',ρ',E',rfl,R',x',hvs,hl,q⟩:=p;refine zh (gd_iff.mp q) ?_;clear q;intro e1 q;refine yK (ki hvs e1) λkvs c1 c2 c3=>?_;refine za (R'.N) λtb0 hb Nw=>?_;have hmem:h'.get? s.heap.objs.size=G3 (IR [] 0):=(Nw (s.heap.objs.size,IR [] 0) (by simp[Cx.add])).1;have hd0:DictN T.prog T.w (IR [] 0) []:=⟨_,⟨rfl,rfl,rfl⟩,rfl,by intro e he;simp at he,.nil,by simp⟩;refine JO us kvs [] {s with heap:=h',toks:=tk} _ _ c1 hmem hd0 (by rw[D3,c2,hl,D7];exact Ga (Ii (GZ _)) (Ga (natB.mp h1) (G5 rfl))) λh2 o2 ho2 hdo hs2=>?_;have hkv:=c3 [] [] .nil (by simp);have hlen:(JU [] vs).length<=lim:=by rw[hkv.length];exact Ga (merged_length_le ([]:List (Str×G9)) kvs) (Ga (Ii ((GZ _).trans (c2.trans hl))) (Ga (natB.mp h1) (G5 rfl)))
 have hL:s.heap.objs.size≠c.L:=DQ R.F.ns.lt;have F2:Fr c.wy c.L h2 c.m:=R'.F.change hs2 hL hD;have N2:FW c.wy c.L h2 (E'++(T.tab,tb0)::(s.heap.objs.size,o2)::c.G):=by
  intro p hp;rcases nd_at (G:=c.G) (t':=(T.tab,tb0)) (ob:=IR [] 0) R'.nd rfl hp with rq|⟨hpx,hp'⟩
  ·subst rq;exact⟨ho2,hL,hD⟩
  ·exact⟨(hs2.2 p.1 hpx).trans (Nw p hp').1,(Nw p hp').2⟩
 refine zP (Rep.takeG (h':=h2) (m':=c.m) (ob':=o2) R' hb F2 N2 (o:=.dict (JU [] vs)) ⟨o2,_,Gn ..,hdo,hkv.ext ⟨λ_ _ e=>e,λp hp _=>Go _ hp⟩,hlen,R.F.notModules (modules_low top.nolimit)⟩ rfl) λR3 x3 hr=>?_;exact Post.up x' ⟨h2,_,_,_,_,_,rfl,R3,x3,.obj hr,q⟩
end
mutual
theorem uJ:∀{a b:V},beqV a b=G6->a=b
 |.none,b,h=>by rcases b<;>first|exact absurd h G4|rfl
 |.bool a,b,h=>by rcases b<;>first|exact absurd h G4|exact congrArg V.bool (of_decide_eq_true h)
 |.int a,b,h=>by rcases b<;>first|exact absurd h G4|exact congrArg V.int (of_decide_eq_true h)
 |.str a,b,h=>by rcases b<;>first|exact absurd h G4|exact congrArg V.str (eqS_iff.mp h)
 |.obj a,b,h=>by rcases b<;>first|exact absurd h G4|exact congrArg V.obj (natE.mp h)
 |.tup a,b,h=>by rcases b<;>first|exact absurd h G4|exact congrArg V.tup (XD h)
 |.fn a,b,h=>by rcases b<;>first|exact absurd h G4|exact congrArg V.fn (natE.mp h)
 |.rng _,_,h=>absurd h G4
 |.scr,_,h=>absurd h G4
 |.bad,_,h=>absurd h G4
theorem XD:∀{a b:List V},Yj a b=G6->a=b
 |[],b,h=>by
  rcases b with _|⟨b,bs⟩
  ·rfl
  ·exact absurd h G4
 |a::as,b,h=>by
  rcases b with _|⟨b,bs⟩
  ·exact absurd h G4
  ·rw[uJ (an2 h).1,XD (an2 h).2]
end
theorem eqKs_eq:∀{a b:List (List Nat×V)},eqKs a b=G6->a.map (·.1)=b.map (·.1):=by
 intro a
 induction a with
 |nil=>
  intro b h;rcases b with _|⟨b,bs⟩
  ·rfl
  ·exact absurd h G4
 |cons a as ih=>
  intro b h;rcases b with _|⟨b,bs⟩
  ·exact absurd h G4
  ·rw[GV,GV,eqS_iff.mp (an2 h).1,ih (an2 h).2]
def It.Sta:It->Hp->Prop
 |.vals _,_=>True
 |.lst i vs,H=>H[i]?=G3 (.list vs)
 |.keys i es,H=>∃fs,H[i]?=G3 (.dict fs)/\fs.map (·.1)=es.map (·.1)
theorem It.sta_of{it:It}{H:Hp}(h:it.stands H=G6):it.Sta H:=by
 rcases it with _|⟨i,vs⟩|⟨i,es⟩
 ·trivial
 ·have h:(match H[i]? with|some (.list us)=>Yj us vs|_=>G7)=G6:=h;rcases e:H[i]? with _|o
  ·rw[e] at h;exact absurd h G4
  ·rw[e] at h;rcases o with _|us|_|_
   ·exact absurd h G4
   ·rw[←XD h];exact e
   ·exact absurd h G4
   ·exact absurd h G4
 ·have h:(match H[i]? with|some (.dict fs)=>eqKs fs es|_=>G7)=G6:=h;rcases e:H[i]? with _|o
  ·rw[e] at h;exact absurd h G4
  ·rw[e] at h;rcases o with _|_|fs|_
   ·exact absurd h G4
   ·exact absurd h G4
   ·exact⟨fs,e,eqKs_eq h⟩
   ·exact absurd h G4
inductive ItO (T:Tp) (E:Lg) (ρ:Rn):It->Nat->Obj->Prop
 |tup {vs:List V} {us:List G9} {t:Gx} {j:Nat} {o:Obj}:TupAt T.K E t us->VRs T E ρ vs us->o.cls= .type "tuple_iterator"->o.data= .fields #[.ref t,.int j 0]->ItO T E ρ (.vals vs) j o
 |str {x:List Nat} {t:Tok} {j:Nat} {o:Obj}:o.cls= .type (Ie (strL x))->o.data= .fields #[.str (strL x) t,.int j 0]->ItO T E ρ (.vals (x.map λc=>.str [c])) j o
 |rng {n j:Nat}:j<=n->ItO T E ρ (.vals ((F8 n).map λ(i:Nat)=>V.int (i:Int))) j {cls:=.type "range_iterator",dict:=Gb,data:=.fields #[IP (j:Int),IP ((n:Int) - j),IP 1],slots:=#[]}
 |lst {i:Nat} {vs:List V} {a d:Gx} {j:Nat} {o:Obj}:ρ[i]?=G3 (a,d)->o.cls= .type "list_iterator"->o.data= .fields #[.ref a,.int j 0]->ItO T E ρ (.lst i vs) j o
 |keys {i:Nat} {es:List (List Nat×V)} {a d:Gx} {j:Nat} {o:Obj}:ρ[i]?=G3 (a,d)->o.cls= .type "dict_keyiterator"->o.data= .fields #[.ref a,.int j 0,.int es.length 0,.int es.length 0]->ItO T E ρ (.keys i es) j o
theorem ItO.ext{T:Tp}{E E':Lg}{ρ ρ':Rn}(x:Ext E ρ E' ρ'){it:It}{j:Nat}{o:Obj}(h:ItO T E ρ it j o):ItO T E' ρ' it j o:=
 ItO.rec (motive:=λit j o _=>ItO T E' ρ' it j o) (λh1 h2 h3 h4=>.tup (h1.ext x.fix) (h2.ext x) h3 h4) (λh1 h2=>.str h1 h2) (λh=>.rng h) (λh1 h2 h3=>.lst (x.pre _ _ h1) h2 h3) (λh1 h2 h3=>.keys (x.pre _ _ h1) h2 h3) h
section
variable {T:Tp} {wy h h':Do} {L:Gx} {m m':Str->Option G9} {G:Lg} {H:List O} {ρ ρ':Rn} {E E':Lg}
theorem Rep.setG{x:Gx}{ob ob':Obj}(R:Rep T wy L m ((x,ob)::G) H ρ E h)(sb:Fi x h h')(ho:h'.get? x=G3 ob'):Rep T wy L m ((x,ob')::G) H ρ E h':=by
 refine za (R.N) λtb hb Nw=>?_;have hx:=Nw (x,ob) (Gd _ (.tail _ (.head _)));refine⟨R.F.change sb hx.2.1 hx.2.2,⟨tb,hb,λp hp=>?_⟩,nd_ch (A:=(T.tab,Dz #[])::(x,ob)::G) rfl R.nd,R.len,R.enc,R.ft⟩;rcases nd_at (t':=(T.tab,tb)) R.nd rfl hp with rq|⟨hpx,hp'⟩
 ·subst rq;exact⟨ho,hx.2.1,hx.2.2⟩
 ·exact⟨(sb.2 p.1 hpx).trans (Nw p hp').1,(Nw p hp').2⟩
theorem Rep.dropG{x:Gx}{ob:Obj}(R:Rep T wy L m ((x,ob)::G) H ρ E h)(sb:Heap.ExtBut x h h'):Rep T wy L m G H ρ E h':=by refine za (R.N) λtb hb Nw=>?_;have hx:=Nw (x,ob) (Gd _ (.tail _ (.head _)));have R':=Rep.lessG (ex:=[(x,ob)]) R;have sz:Fr wy L h' m:=⟨R.F.ns.at λo e=>sb L o (Mc hx.2.1) e,λb o e=>sb b o (λq=>by rw[q,hx.2.2] at e;cases e) (R.F.keep b o e),R.F.above⟩;refine⟨sz,⟨tb,hb,λp hp=>?_⟩,R'.nd,R.len,R.enc,R.ft⟩;have hp':=Nw p (Kw [(x,ob)] hp);exact⟨sb p.1 p.2 (nd_ne (t':=(T.tab,tb)) R.nd rfl hp) hp'.1,hp'.2⟩
end
section
variable {T:Tp} {P:Prg} {N:Nm} {d:Nat}
variable {c:Cx} {s:Gh} {ρ:Rn} {E:Lg} {H:Hp} {Er:G9->Gh->Prop}
theorem kvs_key{es:List (List Nat×V)}{kvs:List (Str×G9)}(h:KVs T E ρ es kvs):kvs.map (·.1)=es.map λe=>strL e.1:=
 KVs.rec (motive:=λes kvs _=>kvs.map (·.1)=es.map λe=>strL e.1) rfl (λ{k _ _ _ _} _ _ r=>congrArg (strL k::·) r) h
theorem jC{n:Nat}(h:n<=1000):Builtin.Range.small 0 (n:Int) 1=G6/\Mm 0 (n:Int) 1=(n:Int):=by
 have h1:Mm 0 (n:Int) 1=(n:Int):=by rw[rangeSize_nat];exact om50
 exact⟨small_one (by decide) (by decide) (Int.le_trans (by decide:(-2 ^ 62:Int)<=0) (D2 n)) (om51 h),h1⟩
theorem it_if{b:Bool}{x it:It}(h:(match b with|true=>G3 x|false=>Gb)=G3 it):b=G6/\x=it:=by
 rcases b with _|_
 ·exact nn h
 ·exact⟨rfl,Gm h⟩
theorem it_obj{i:Nat}{H:Hp}{it:It}(h:yC (.obj i) H=G3 it):(∃vs,H[i]?=G3 (.list vs)/\.lst i vs=it)∨∃es,H[i]?=G3 (.dict es)/\.keys i es=it:=by
 replace h:(match H[i]? with|some (.list vs)=>G3 (It.lst i vs)|some (.dict es)=>G3 (.keys i es)|_=>Gb)=G3 it:=h;rcases e:H[i]? with _|o
 ·rw[e] at h;exact nn h
 ·rw[e] at h;rcases o with _|vs|es|_
  ·exact nn h
  ·exact .inl ⟨vs,rfl,Gm h⟩
  ·exact .inr ⟨es,rfl,Gm h⟩
  ·exact nn h
set_option tactic.hygienic true in
theorem j7{u:V}{v:G9}{it:It}{K:G9->Gh->Prop}(C:c.Ok T d)(R:c.Rep T H ρ E s.heap)(hv:VR T E ρ u v)(e:yC u H=G3 it)
  (h:∀o,(c.add [(s.heap.objs.size,o)]).Rep T H ρ E (s.heap.push o)->ItO T E ρ it 0 o->it.Sta H->it.items.length<=1000->K (.ref s.heap.objs.size) {s with heap:=s.heap.push o}) :
  GA (Gy T.prog T.w) c.A (pyIter v) K Er s:=by
 refine YX (C.top) λp loose mean mg mb top=>?_;have more:∀o:Obj,o.isFreed=G7->(c.add [(s.heap.objs.size,o)]).Rep T H ρ E (s.heap.push o):=λo ho=>
  R.moreG (λ_ _ e=>Heap.get?_push_of_some _ e) (R.F.push _) (by intro p hp;simp only[GQ] at hp;subst hp;exact⟨Heap.get?_push_size _ ho,GI _⟩) (by simp)
 rcases hv<;>try exact nn e
 case tup vs us a ht hvs=>
  refine zh (it_if e) λhl e=>?_;subst e;refine wpAny_pyIter_tuple (Y1 (R.isTup C.X ht)) (h _ (more _ rfl) (.tup ht hvs rfl rfl) trivial (natB.mp hl))
 case str x t=>
  refine zh (it_if e) λhl e=>?_;subst e;refine wpAny_pyIter_strU (h _ (more _ rfl) (.str rfl rfl) trivial ?_);show(x.map _).length<=_;rw[Gs];exact natB.mp hl
 case rng n a ha=>
  refine zh (it_if e) λhl e=>?_;subst e;refine ju (ha) ?_;clear ha;intro t1 t2 t3 hm;refine zh (jC (natB.mp hl)) λr1 r2=>?_;refine wpAny_pyIter_range (R.inNews hm) r1 ?_;rw[r2];refine h _ (more _ rfl) ?_ trivial ?_
  ·have:=ItO.rng (T:=T) (E:=E) (ρ:=ρ) (n:=n) (j:=0) (DD _);simpa using this
  ·show((F8 n).map _).length<=_;rw[Gs,List.length_range];exact natB.mp hl
 case obj i a dd hi=>
  rcases it_obj e with⟨vs,e1,rfl⟩|⟨es,e1,rfl⟩
  ·refine yz (R.isList e1 hi) λus n hm hl hvs hn=>?_;refine wpAny_pyIter_list hl (h _ (more _ rfl) (.lst hi rfl rfl) e1 hn)
  ·refine Ye (R.objAt e1 hi) λo kvs hm hd hvs hn hs=>?_;have hlen:es.length=kvs.length:=hvs.length;refine wpAny_pyIter_dict hs (hd.at (R.inNews hm)) ?_;rw[←hlen];refine h _ (more _ rfl) (.keys hi rfl rfl) ⟨es,e1,rfl⟩ ?_
   ·show(es.map _).length<=_;rw[Gs];exact hn
theorem vals_str{x:List Nat}{j:Nat}{v:V}(h:(x.map λc=>V.str [c])[j]?=G3 v):∃k,x[j]?=G3 k/\v= .str [k]:=by rw[List.getElem?_map] at h;refine za (GK.mp h) λk h1 rq2=>?_;subst rq2;exact⟨k,h1,rfl⟩
set_option tactic.hygienic true in
theorem j8{I:Gx}{o:Obj}{it:It}{j:Nat}{v:V}{G:Lg}{L:Gx}{m:Str->Option G9}{wy:Do}{A:Dh}{K:Option G9->Gh->Prop}(X:T.K.In wy)
  (R:Rep T wy L m ((I,o)::G) H ρ E s.heap) (hi:ItO T E ρ it j o) (st:it.Sta H) (e:it.items[j]?=G3 v)
  (h:∀h' tk o' u,Rep T wy L m ((I,o')::G) H ρ E h'->ItO T E ρ it (j+1) o'->VR T E ρ v u->K (G3 u) {s with heap:=h',toks:=tk}) :
  GA (Gy T.prog T.w) A (pyNext (.ref I)) K Er s:=by
 refine za (id R.N) λtb hb N=>?_;have hI:s.heap.get? I=G3 o:=(N (I,o) (by simp)).1;cases hi with
 |@tup vs us t _ _ h1 h2 h3 h4=>refine za (h2.at e) λu hu hr=>?_;refine wpAny_pyNext_tuple_item ⟨o,hI,h3,h4⟩ (Y1 (R.isTup X h1)) (x:=u) (by simpa using hu) λh' hit sb=>?_;refine yK (hit) ?_;clear hit;intro o' ho hc hd;exact h h' _ o' u (R.setG sb ho) (.tup h1 h2 hc hd) hr
 |@str x t _ _ h1 h2=>
  refine za (vals_str e) λk hk rq2=>?_;subst rq2;have hk':(strL x).cps[j]?=G3 k:=by simpa [strL] using hk
  unfold Ie at h1
  split at h1
  ·rename_i q;refine wpAny_pyNext_ascii_item ⟨o,hI,h1,h2⟩ hk' λh' hit sb=>?_;refine yK (hit) ?_;clear hit;intro o' ho hc hd;exact h h' _ o' _ (R.setG sb ho) (.str (by unfold Ie;rw[if_pos q];exact hc) hd) (.str [k] _)
  ·rename_i q;refine wpAny_pyNext_wide_item ⟨o,hI,h1,h2⟩ hk' λh' hit sb=>?_;refine yK (hit) ?_;clear hit;intro o' ho hc hd;exact h h' _ o' _ (R.setG sb ho) (.str (by unfold Ie;rw[if_neg q];exact hc) hd) (.str [k] _)
 |@rng n _ hj=>
  rw[It.items,List.getElem?_map] at e;refine za (GK.mp e) λk hk rq2=>?_;subst rq2;have hjn:j < n:=by have:=(List.getElem?_eq_some_iff.mp hk).1;simpa using this
  have hkj:k=j:=by obtain⟨q1,q2⟩:=List.getElem?_eq_some_iff.mp hk;simpa using q2.symm
  subst hkj;refine wpAny_pyNext_range_item (x:=(k:Int)) (left:=(n:Int) - k) (step:=1) hI (om53 hjn) λh' hit sb=>?_;refine h h' _ _ _ (R.setG sb hit) ?_ (.int _ _);have:=ItO.rng (T:=T) (E:=E) (ρ:=ρ) (n:=n) (j:=k+1) hjn;have e1:((k:Int)+1)=((k+1:Nat):Int):=by exact om54
  have e2:((n:Int) - k - 1)=(n:Int) - ((k+1:Nat):Int):=by exact om55
  rw[e1,e2];exact this
 |@lst i vs a dd _ _ h1 h2 h3=>refine yz (R.isList st h1) λus n hm hl hvs hn=>?_;refine za (hvs.at e) λu hu hr=>?_;refine wpAny_pyNext_list_item ⟨o,hI,h2,h3⟩ hl (x:=u) (by simpa using hu) λh' hit sb=>?_;refine yK (hit) ?_;clear hit;intro o' ho hc hd;exact h h' _ o' u (R.setG sb ho) (.lst h1 hc hd) hr
 |@keys i es a dd _ _ h1 h2 h3=>
  refine za (st) ?_;clear st;intro fs e1 e2;refine Ye (R.objAt e1 h1) λob kvs hm hdn hvs hn hs=>?_;have hlen:es.length=kvs.length:=by rw[←hvs.length];have:=congrArg List.length e2;simpa using this.symm
  have hkk:=kvs_key hvs;rw[It.items,List.getElem?_map] at e;refine za (GK.mp e) λp hp rq2=>?_;subst rq2;have:(kvs.map (·.1))[j]?=G3 (strL p.1):=by
   have e3:fs.map (λe=>strL e.1)=es.map λe=>strL e.1:=by have:=congrArg (List.map strL) e2;rw[Mq,Mq] at this;exact this
   rw[hkk,e3,List.getElem?_map,hp];rfl
  rw[List.getElem?_map] at this;obtain⟨⟨k,w⟩,hq,hq'⟩:=GK.mp this;have hq':k=strL p.1:=hq';subst hq';refine wpAny_pyNext_dict_item (knd:=strKind T.prog T.w) (kvs:=kvs) (ep:=kvs.length) ⟨o,hI,h2,by rw[←hlen];exact h3⟩ (hdn.at (R.inNews hm)) hq λkey h' hkey hit sb=>?_;refine zj (Value.isStrOf_shape hkey) λt rq1=>?_;subst rq1;refine yK (hit) ?_;clear hit;intro o' ho hc hd;exact h h' _ o' _ (R.setG sb ho) (.keys h1 hc (by rw[hlen];exact hd)) (.str p.1 t)
theorem Jl{I:Gx}{o:Obj}{it:It}{j:Nat}{G:Lg}{L:Gx}{m:Str->Option G9}{wy:Do}{A:Dh}{K:Option G9->Gh->Prop}(X:T.K.In wy)(hh:A.handled=Gb)
  (R:Rep T wy L m ((I,o)::G) H ρ E s.heap) (hi:ItO T E ρ it j o) (st:it.Sta H) (e:it.items[j]?=Gb)
  (h:∀h',Rep T wy L m G H ρ E h'->K Gb {s with heap:=h'}) :
  GA (Gy T.prog T.w) A (pyNext (.ref I)) K Er s:=by
 refine za (id R.N) λtb hb N=>?_;have hI:s.heap.get? I=G3 o:=(N (I,o) (by simp)).1;cases hi with
 |@tup vs us t _ _ h1 h2 h3 h4=>refine wpAny_pyNext_tuple_end hh ⟨o,hI,h3,h4⟩ (Y1 (R.isTup X h1)) ?_ λh' sb=>h h' (R.dropG sb);have:=List.getElem?_eq_none_iff.mp e;rw[It.items,h2.length] at this;simpa using this
 |@str x t _ _ h1 h2=>
  have hk':(strL x).cps[j]?=Gb:=by rw[It.items,List.getElem?_map,Option.map_eq_none_iff] at e;simpa [strL] using e
  unfold Ie at h1
  split at h1
  ·exact wpAny_pyNext_ascii_end hh ⟨o,hI,h1,h2⟩ hk' λh' sb=>h h' (R.dropG sb)
  ·exact wpAny_pyNext_wide_end hh ⟨o,hI,h1,h2⟩ hk' λh' sb=>h h' (R.dropG sb)
 |@rng n _ hj=>
  rw[It.items,List.getElem?_map,Option.map_eq_none_iff] at e;have hjn:n<=j:=by simpa using e
  exact wpAny_pyNext_range_end (x:=(j:Int)) (left:=(n:Int) - j) (step:=1) hh hI (om52 hjn) λh' sb=>h h' (R.dropG sb)
 |@lst i vs a dd _ _ h1 h2 h3=>refine yz (R.isList st h1) λus n hm hl hvs hn=>?_;refine wpAny_pyNext_list_end hh ⟨o,hI,h2,h3⟩ hl ?_ λh' sb=>h h' (R.dropG sb);have:=List.getElem?_eq_none_iff.mp e;rw[It.items,hvs.length] at this;simpa using this
 |@keys i es a dd _ _ h1 h2 h3=>
  refine za (st) ?_;clear st;intro fs e1 e2;refine Ye (R.objAt e1 h1) λob kvs hm hdn hvs hn hs=>?_;have hlen:es.length=kvs.length:=by rw[←hvs.length];have:=congrArg List.length e2;simpa using this.symm
  refine wpAny_pyNext_dict_end (knd:=strKind T.prog T.w) (kvs:=kvs) (ep:=kvs.length) hh ⟨o,hI,h2,by rw[←hlen];exact h3⟩ (hdn.at (R.inNews hm)) ?_ λh' sb=>h h' (R.dropG sb);have:=List.getElem?_eq_none_iff.mp e;rw[It.items,Gs,hlen] at this;exact List.getElem?_eq_none_iff.mpr this
end
theorem Y8{env:Env}:∀{names:List (Str×DY)} {x:Str},
  (names.map λ(n,k)=>if (k==F9 && env.scope.kind==.function && env.kindOf n==G3 .cell) then (n,Mj) else (n,k)).lookup x=
   (names.lookup x).map λk=>if (k==F9 && env.scope.kind==.function && env.kindOf x==G3 .cell) then Mj else k
 |[],x=>rfl
 |(n,k)::r,x=>by
  have ih:=@Y8 env r x;show DS x ((if (k==F9 && env.scope.kind==.function && env.kindOf n==G3 .cell)=G6 then (n,Mj) else (n,k))::_)=_
  induction hx:x==n using GN with
  |true=>
   have:x=n:=eq_of_beq hx;subst this
   by_cases hc:(k==F9 && env.scope.kind==.function && env.kindOf x==G3 .cell)=G6
   ·rw[if_pos hc];simp only[GS,hx,I4,if_pos hc]
   ·rw[if_neg hc];simp only[GS,hx,I4,if_neg hc]
  |false=>
   by_cases hc:(k==F9 && env.scope.kind==.function && env.kindOf n==G3 .cell)=G6
   ·rw[if_pos hc];simp only[GS,hx];exact ih
   ·rw[if_neg hc];simp only[GS,hx];exact ih
theorem ZM{csc:GW}{cl:List (Str×Gx)}{C:Gx}{env:Env}{x:Str}:(F7 csc cl C env).kindOf x=(csc.names.lookup x).map λk=>if (k==F9 && env.scope.kind==.function && env.kindOf x==G3 .cell) then Mj else k:=Y8
set_option tactic.hygienic true in
theorem Yh{csc:GW}{env:Env}(h:∀p∈csc.names,p.2= .free->∃a,env.cells.lookup p.1=G3 a) :
  ∃cl,closureFor csc env=pure cl/\(∀x a,cl.lookup x=G3 a->env.cells.lookup x=G3 a)/\∀p∈csc.names,p.2= .free->cl.lookup p.1=env.cells.lookup p.1:=by
 have key:∀(ns:List (Str×DY)) (acc:List (Str×Gx)),(∀p∈ns,p.2= .free->∃a,env.cells.lookup p.1=G3 a)->(∀x a,acc.lookup x=G3 a->env.cells.lookup x=G3 a)->
   ∃cl,(forIn ns acc λx r=>match x with|(name,kind)=>if (kind==F9)=G6 then do let a ←cellOf env name;pure (DK ((name,a)::r)) else pure (DK r):Sem (List (Str×Gx)))=pure cl/\
    (∀x a,cl.lookup x=G3 a->env.cells.lookup x=G3 a)/\(∀x a,acc.lookup x=G3 a->cl.lookup x=G3 a)/\∀p∈ns,p.2= .free->cl.lookup p.1=env.cells.lookup p.1:=by
  intro ns
  induction ns with
  |nil=>intro acc _ ha;exact⟨acc,rfl,ha,λ_ _ e=>e,λp hp=>nomatch hp⟩
  |cons p r ih=>
   intro acc hf ha;obtain⟨n,k⟩:=p;rw[List.forIn_cons]
   by_cases hk:k= .free
   ·subst hk;refine zj (hf (n,.free) (Gn ..) rfl) λa e=>?_;have e:env.cells.lookup n=G3 a:=e;have hacc:∀x b,((n,a)::acc).lookup x=G3 b->env.cells.lookup x=G3 b:=λx b q=>by
     rw[GS] at q
     split at q
     ·rename_i hx;cases q;rw[eq_of_beq hx];exact e
     ·exact ha x b q
    refine XO (ih ((n,a)::acc) (λp hp=>hf p (Go _ hp)) hacc) λcl h1 h2 h3 h4=>?_;refine⟨cl,?_,h2,λx b q=>?_,λp hp hpf=>?_⟩
    ·simp only[beq_self_eq_true,if_true,cellOf,e];exact h1
    ·by_cases hx:x=n
     ·subst hx;have:((x,a)::acc).lookup x=G3 a:=by simp[GS]
      rw[h3 x a this];rw[←e];exact ha x b q
     ·exact h3 x b (by rw[GS,beq_false_of_ne hx];exact q)
    ·rcases Gp.mp hp with rfl|hp
     ·have:((n,a)::acc).lookup n=G3 a:=by simp[GS]
      exact(h3 n a this).trans e.symm
     ·exact h4 p hp hpf
   ·refine XO (ih acc (λp hp=>hf p (Go _ hp)) ha) λcl h1 h2 h3 h4=>?_;refine⟨cl,?_,h2,h3,λp hp hpf=>?_⟩
    ·have hb:(k==F9)=G7:=by simpa using hk
     simp only[hb,I7,if_false];exact h1
    ·rcases Gp.mp hp with rfl|hp
     ·exact absurd hpf hk
     ·exact h4 p hp hpf
 refine XO (key csc.names [] h (λx a q=>by simp at q)) λcl h1 h2 h3 h4=>?_;refine⟨cl,?_,h2,h4⟩;simp only[closureFor]
 first|(rw[h1];rfl)|(simp only[h1];rfl)|exact(congrArg (· >>= pure) h1)
noncomputable def ko(c:Cx)(csc:GW)(cl:List (Str×Gx))(C:Gx)(G:Lg)(m':Str->Option G9):Cx:=
 {A:=c.A,fe:=F7 csc cl C c.fe,wy:=c.wy,L:=c.L,m:=c.m,G:=G,nm:=λx=>match csc.names.lookup x with|some .local=>m' x|some .free=>c.nm x|_=>Gb}
section
variable {RX:RxT} {T:Tp} {P:Prg} {N:Nm} {O:Orc} {d:Nat}
variable {c:Cx} {s:Gh} {ρ:Rn} {E:Lg} {H:Hp} {X:Nat->Hp->Prop} {Er:G9->Gh->Prop}
theorem yf:∀{l:List Str},Y9 l=G6->l.Nodup:=by
 intro l
 induction l with
 |nil=>intro y0;exact .nil
 |cons x r ih=>intro h;have h:=an2 h;refine GJ.mpr ⟨λhm=>?_,ih h.2⟩;have:=Gz.mp h.1 x hm;rw[eqStr_iff.mpr rfl] at this;cases this
structure CscOk (sc csc:GW):Prop where
 kd:csc.kind= .function
 cel:∀p∈csc.names,p.2≠.cell
 loc:∀p∈csc.names,p.2= .local->csc.names.lookup p.1=G3 .local
 fr:∀p∈csc.names,p.2= .free->zu sc p.1 .cell=G6
theorem compSc{sc csc:GW}{tg cap:List Str}(h:Xx sc csc tg cap=G6):CscOk sc csc/\(∀x∈tg,csc.names.lookup x=G3 .local)/\(∀x∈cap,csc.names.lookup x=G3 .free)/\(∀x∈tg,x∉cap)/\tg.Nodup:=by
 refine Yr (an6 h) ?_;clear h;intro h1 h2 h3 h4 h5 h6;have hk:∀p∈csc.names,p.2≠.cell/\(p.2= .local->csc.names.lookup p.1=G3 .local)/\(p.2= .free->zu sc p.1 .cell=G6):=λp hp=>by
  refine zP (an3 (Gz.mp h2 p hp)) λq1 q2 q3=>?_;refine⟨λe=>?_,λe=>?_,λe=>?_⟩
  ·rw[e] at q1;cases q1
  ·rw[e] at q2;exact zk (q2)
  ·rw[e] at q3;exact q3
 refine⟨⟨?_,λp hp=>(hk p hp).1,λp hp=>(hk p hp).2.1,λp hp=>(hk p hp).2.2⟩,λx hx=>zk (Gz.mp h3 x hx),λx hx=>zk (Gz.mp h4 x hx),λx hx hc=>?_,yf h6⟩
 ·exact yW h1
 ·have:=Gz.mp (Gz.mp h5 x hx) x hc;rw[eqStr_iff.mpr rfl] at this;cases this
set_option tactic.hygienic true in
theorem yh{names:List (Str×DY)}{x:Str}{k:DY}(h:names.lookup x=G3 k):(x,k)∈names:=by
 induction names with
 |nil=>simp at h
 |cons p r ih=>
  obtain⟨n,j⟩:=p;rw[GS] at h
  split at h
  ·rename_i hx;cases h;rw[eq_of_beq hx];exact Gn ..
  ·exact Go _ (ih h)
theorem YU{lm:Bool}{sc csc:GW}(C:c.Ok T d)(S:ScOk T lm sc c)(K:CscOk sc csc) :
  ∃cl,closureFor csc c.fe=pure cl/\∀x,csc.names.lookup x=G3 .free->c.fe.kindOf x=G3 .cell/\∃a,cl.lookup x=G3 a/\c.fe.cells.lookup x=G3 a:=by
 obtain⟨cl,h1,h2,h3⟩:=Yh (csc:=csc) (env:=c.fe) λp hp hf=>by refine za (C.cel p.1 (S.cell _ (K.fr p hp hf))) λa e _=>?_;exact⟨a,e⟩
 refine⟨cl,h1,λx hx=>?_⟩;have hm:=yh hx;have hc:=S.cell _ (K.fr _ hm rfl);refine za (C.cel x hc) λa e _=>?_;exact⟨hc,a,(h3 _ hm rfl).trans e,e⟩
set_option tactic.hygienic true in
theorem cmpOk{lm:Bool}{sc csc:GW}{cl:List (Str×Gx)}{Cc:Gx}{oC:Obj}{G ex:Lg}{m':Str->Option G9}(C:c.Ok T d)(K:CscOk sc csc)
  (hcl:∀x,csc.names.lookup x=G3 .free->c.fe.kindOf x=G3 .cell/\∃a,cl.lookup x=G3 a/\c.fe.cells.lookup x=G3 a)
  (hG:G=ex++c.G) (hC:(Cc,oC)∈ex) (ho:NsObj oC m'):(ko c csc cl Cc G m').Ok T d/\ScOk T G7 csc (ko c csc cl Cc G m'):=by
 have hfk:(F7 csc cl Cc c.fe).scope.kind= .function:=K.kd;refine⟨⟨C.B,hfk,C.gl,C.bi,C.X,C.top,C.tab,C.hh,C.dep,C.un,C.le,C.tp,C.scr,?_,?_⟩,⟨?_,?_,λh=>by cases h⟩⟩
 ·intro x u hu hd prog w A s Q Er pos F Nw q;have hu:(match csc.names.lookup x with|some .local=>m' x|some .free=>c.nm x|_=>Gb)=G3 u:=hu
  split at hu
  ·rename_i hx;have hkx:(F7 csc cl Cc c.fe).kindOf x=G3 .local:=by rw[ZM,hx];rfl
   refine wpAny_Name (FI (env:=F7 csc cl Cc c.fe) hfk hkx (ho.ns (Nw (Cc,oC) ?_).1) hu q) hd;show(Cc,oC)∈G;rw[hG];exact Gg _ hC
  ·rename_i hx;obtain⟨k1,a,k2,k3⟩:=hcl x hx;refine za (C.cel x k1) λa' e1 e2=>?_;rw[k3] at e1;cases e1;refine za (e2 u hu) λo e3 e4=>?_;have hkx:(F7 csc cl Cc c.fe).kindOf x=G3 .cell:=by rw[ZM,hx,I4,k1,C.kd];rfl
   refine wpAny_Name (wpAny_loadName_cell (env:=F7 csc cl Cc c.fe) hfk hkx k2 ⟨o,(Nw (a,o) ?_).1,e4⟩ q) hd;show(a,o)∈G;rw[hG];exact Gd _ e3
  ·cases hu
 ·intro x hx;have hx:(F7 csc cl Cc c.fe).kindOf x=G3 .cell:=hx;rw[ZM] at hx;refine za (GK.mp hx) λk hk hk2=>?_;have hkf:k= .free:=by
   split at hk2
   ·rename_i q;simp only[Dc,beq_iff_eq] at q;exact q.1.1
   ·subst hk2;exact absurd rfl (K.cel _ (yh hk))
  subst hkf;obtain⟨k1,a,k2,k3⟩:=hcl x hk;refine za (C.cel x k1) λa' e1 e2=>?_;rw[k3] at e1;cases e1;refine⟨a,k2,λu hu=>?_⟩;have hu:(match csc.names.lookup x with|some .local=>m' x|some .free=>c.nm x|_=>Gb)=G3 u:=hu;rw[hk] at hu;refine za (e2 u hu) λo e3 e4=>?_;refine⟨o,?_,e4⟩;show(a,o)∈G;rw[hG];exact Gd _ e3
 ·intro x hx;show(F7 csc cl Cc c.fe).kindOf x=_;rw[ZM,zk hx];rfl
 ·intro x hx;exact absurd rfl (K.cel _ (yh (zk hx)))
noncomputable def YV:List Str->List G9->(Str->Option G9)->Str->Option G9
 |x::xs,u::us,m=>YV xs us λz=>if z=x then G3 u else m z
 |_,_,m=>m
set_option tactic.hygienic true in
theorem yb{e:G8}{es:List G8}{ts:List Str}(h:ye (e::es)=G3 ts):∃x q ts',e= .Name x q/\ts=x::ts'/\ye es=G3 ts':=by
 rcases e<;>try exact nn h
 rename_i x q;refine za (GK.mp h) λts' h1 h2=>?_;exact⟨x,q,ts',rfl,h2.symm,h1⟩
theorem Zv{ts:List Str}(h:ye []=G3 ts):ts=[]:=by exact(Gm h).symm
theorem jq{env:Env}(hp:(env.scope.kind==.class ||(env.scope.kind==.module && env.locals != env.globals))=G7){prog:Di}{w:Fb}{A:Dh}{Q:Unit->Gh->Prop} :
  ∀{es:List G8} {ts:List Str} {us:List G9} {m:Str->Option G9} {s:Gh},ye es=G3 ts->us.length=ts.length->(∀x∈ts,env.kindOf x=G3 .local)->s.heap.Ns env.locals m->
   (∀h' tk,h'.Ns env.locals (YV ts us m)->Fi env.locals s.heap h'->Q () {s with heap:=h',toks:=tk})->
   GA (Gy prog w) A (II ((Ib es env).map (·.2)) us) Q Er s:=by
 intro es
 induction es with
 |nil=>
  intro ts us m s ht hl hk hn h;have:=Zv ht;subst this
  induction us using D8 with
  |nil=>exact assignInOrder_nil (h s.heap s.toks hn (.refl ..))
  |cons _ _=>simp at hl
 |cons e es ih=>
  intro ts us m s ht hl hk hn h;refine Z3 (yb ht) λx q ts' rq3 rq4 ht'=>?_;subst rq3;subst rq4
  induction us using D8 with
  |nil=>simp at hl
  |cons u us=>show GA _ _ (II (IT (.Name x q) env::(Ib es env).map (·.2)) (u::us)) _ _ _;refine Ia (FB (Iu (hk x (Gn ..)) hn (λh₁ wn wu=>?_) hp));exact ih (s:={s with heap:=h₁,toks:=_}) ht' (by simpa using hl) (λy hy=>hk y (Go _ hy)) wn λh' tk hn' hs'=>h h' tk hn' (wu.trans hs')
theorem Jz{env:Env}: ∀{es:List G8} {ts:List Str},ye es=G3 ts->(Ib es env).length=ts.length/\(Ib es env).findIdx? (·.1)=Gb:=by
 intro es
 induction es with
 |nil=>
  intro ts ht;exact by have:=Zv ht;subst this;exact⟨rfl,rfl⟩
 |cons e es ih=>intro ts ht;refine Z3 (yb ht) λx q ts' rq3 rq4 ht'=>?_;subst rq3;subst rq4;refine zh (ih ht') λh1 h2=>?_;have e1:Ib (.Name x q::es) env=(G7,IT (.Name x q) env)::Ib es env:=rfl;rw[e1];refine⟨by simp[h1],?_⟩;rw[List.findIdx?_cons,h2];rfl
end
section
variable {T:Tp} {wy h h':Do} {L:Gx} {m m':Str->Option G9} {G G':Lg} {H:List O} {ρ ρ':Rn} {E E':Lg}
theorem Rep.perm(R:Rep T wy L m G H ρ E h)(p:G.Perm G'):Rep T wy L m G' H ρ E h:=by
 refine za (R.N) λtb hb N=>?_;refine⟨R.F,⟨tb,hb,λq hq=>N q ?_⟩,?_,R.len,R.enc,R.ft⟩
 ·rcases GL.mp hq with hq|hq
  ·exact Gg _ hq
  ·rcases Gp.mp hq with hq|hq
   ·exact Gd _ (hq▸Gn ..)
   ·exact Gd _ (Go _ (p.mem_iff.mpr hq))
 ·have:((E++(T.tab,Dz #[])::G).map (·.1)).Perm ((E++(T.tab,Dz #[])::G').map (·.1)):=(((p.cons _).append_left _).map _);exact this.nodup_iff.mp R.nd
end
section
variable {prog:Di} {w:Fb} {A:Dh} {E:G9->Gh->Prop} {s:Gh}
theorem Jh{tg:G8}{I:Gx}{o:Obj}{v:G9}{vs:Array G9}{n:String}{Q:Unit->Gh->Prop}(ho:s.heap.get? I=G3 o)(hc:o.cls= .type n)(hd:o.data= .fields vs)
  (hn:(["enumerate","zip","dict_itemiterator","dict_reverseitemiterator","odict_iterator","itertools.zip_longest","itertools.pairwise"].contains n)=G7) (h:Q () s) :
  GA (Gy prog w) A (IQ tg (.ref I) v) Q E s:=by
 have key:GA (Gy prog w) A (do
   let (.ref r,.ref a):=((.ref I,v):G9×G9)|return
   let o ←load r
   match o.cls,o.data with
   |.type n,.fields vs=>
    if ["enumerate","zip","dict_itemiterator","dict_reverseitemiterator","odict_iterator","itertools.zip_longest","itertools.pairwise"].contains n && vs[0]?==G3 (IP a) then
     rule "for.unpacks-the-owned-tuple"
     updateField r 0 .none
   |_,_=>pure ()) Q E s:=by
  rcases v<;>first|exact Gv h|skip
  refine Ge (wpAny_load ho ?_);rw[hc,hd];simp only[hn,Bool.false_and,I7,if_false];exact Gv h
 rcases tg<;>first|exact key|exact Gv h
noncomputable def Xq(e:G8)(dp:Nat)(elt target iter:G8)(ifs:List G8)(it acc:G9)(env:Env):Sem Fin:=do
 IG iter.pos
 match ←pyNext it with
 |none=>pure (.done .next)
 |some v=>
  IQ target it v
  IT target env v
  let mut ok:=G6
  for c in ifs do
   if ok then ok ←isTrue c env (Ft c env)
  if ok then
   (do let _ ←call (.builtin "list.append") [acc,←Ft elt env])
  again (.compLoop e dp it acc env)
theorem Zk{el elt target iter:G8}{gens:List I1}{dp:Nat}{ifs:List G8}{scope:GW}{pos:Pos}{it acc:G9}{env:Env}{R:Result->Gh->Prop}(I:Nat->Gh->Prop)
  (turn:∀n s,I n s->GA (Gy prog w) A (pyNext it) (λr wV=>match r with
   |none=>R (.ok .next) wV
   |some v=>GA (Gy prog w) A (IQ target it v) (λ_ wU=>GA (Gy prog w) A (IT target env v) (λ_ wW=>
     GA (Gy prog w) A (forIn ifs G6 λc r=>if r=G6 then do let ok ←isTrue c env (Ft c env);pure (DK ok) else pure (DK r)) (λok wX=>
      if ok=G6 then GA (Gy prog w) A (Ft elt env) (λx wY=>
       GA (Gy prog w) A (call (.builtin "list.append") [acc,x]) (λ_ wZ=>∃m,m < n/\I m wZ) (M1 (Gy prog w) A env λe s'=>R (.error e) s') wY) (M1 (Gy prog w) A env λe s'=>R (.error e) s') wX
      else ∃m,m < n/\I m wX) (M1 (Gy prog w) A env λe s'=>R (.error e) s') wW)
     (M1 (Gy prog w) A env λe s'=>R (.error e) s') wU) (M1 (Gy prog w) A env λe s'=>R (.error e) s') wV) (M1 (Gy prog w) A env λe s'=>R (.error e) s') s)
  (ht:compTurn (.ListComp el gens scope pos) dp it acc env=Xq (.ListComp el gens scope pos) dp elt target iter ifs it acc env) (n:Nat) (h:I n s):DI (Gy prog w) A (.compLoop (.ListComp el gens scope pos) dp it acc env) R s:=by
 refine codeAny_loop rfl I (λn s hI=>?_) n h;show GA _ A ((compTurn (.ListComp el gens scope pos) dp it acc env).onRaise (λx=>do noteFrame x env;theTreesLotGoes x)) _ _ s;refine wpAny_noted ?_;rw[ht];unfold Xq;refine Ge (Dl (Ge (Gu (turn n s hI) (λr wV h₁=>?_) λ_ _ h'=>h')))
 induction r using GD with
 |none=>exact Gv h₁
 |some v=>
  refine Ge (Gu h₁ (λ_ wU wz=>?_) λ_ _ h'=>h');refine Ge (Gu wz (λ_ wW wA=>Ge (Gu wA (λok wX wB=>?_) λ_ _ h'=>h')) λ_ _ h'=>h')
  induction ok using GN with
  |false=>exact Gv ⟨rfl,wB⟩
  |true=>exact Ge (Ge (Gu wB (λx wY wC=>Ge (Gu wC (λ_ wZ wD=>Gv (Gv ⟨rfl,wD⟩)) λ_ _ h'=>h')) λ_ _ h'=>h'))
end
section
variable {T:Tp} {P:Prg} {N:Nm} {d:Nat}
variable {c:Cx} {s:Gh} {ρ:Rn} {E:Lg} {H:Hp} {Er:G9->Gh->Prop}
theorem ItO.shape{it:It}{j:Nat}{o:Obj}(h:ItO T E ρ it j o):∃n vs,o.cls= .type n/\o.data= .fields vs/\(["enumerate","zip","dict_itemiterator","dict_reverseitemiterator","odict_iterator","itertools.zip_longest","itertools.pairwise"].contains n)=G7:=by
 cases h with
 |tup _ _ h3 h4=>exact⟨_,_,h3,h4,by decide⟩
 |@str x _ _ _ h1 h2=>exact⟨_,_,h1,h2,by unfold Ie;split<;>decide⟩
 |rng _=>exact⟨_,_,rfl,rfl,by decide⟩
 |lst _ h2 h3=>exact⟨_,_,h2,h3,by decide⟩
 |keys _ h2 h3=>exact⟨_,_,h2,h3,by decide⟩
theorem jo:∀{ts:List Str} {us:List G9} {m:Str->Option G9} {x:Str},x∉ts->YV ts us m x=m x:=by
 intro ts
 induction ts with
 |nil=>
  intro us m x y4;exact by rcases us<;>rfl
 |cons t ts ih=>
  intro xx m x h;rcases xx with _|⟨u,us⟩
  ·exact rfl
  ·simp only[Gp,not_or] at h;exact(ih h.2).trans (if_neg h.1)
theorem bindM_at:∀{ts:List Str} {us:List G9} {m:Str->Option G9} {k:Nat} {x:Str} {u:G9},ts.Nodup->ts[k]?=G3 x->us[k]?=G3 u->YV ts us m x=G3 u:=by
 intro ts
 induction ts with
 |nil=>exact λ_ h=>nn h
 |cons t ts ih=>
  intro us m k x v nd h1 h2;rcases us with _|⟨u,us⟩
  ·exact nn h2
  ·rcases k with _|k
   ·obtain rfl:t=x:=Gm h1;obtain rfl:u=v:=Gm h2;exact(jo (GJ.mp nd).1).trans (if_pos rfl)
   ·exact ih (GJ.mp nd).2 h1 h2
set_option tactic.hygienic true in
theorem jv{e:G8}{ts:List Str}(h:ZV e=G3 ts):(∃x p,e= .Name x p/\ts=[x])∨∃xs k p,e= .Tuple xs k p/\ye xs=G3 ts/\Gi ts.length 1=G7/\xs≠[]:=by
 rcases e<;>first|exact nn h|exact .inl ⟨_,_,rfl,(Gm h).symm⟩|skip
 rename_i xs k p;rcases xs with _|⟨a,_|⟨b,r⟩⟩
 ·exact nn h
 ·exact nn h
 ·have h:ye (a::b::r)=G3 ts:=h;refine .inr ⟨_,_,_,rfl,h,?_,λq=>nomatch q⟩;refine Z3 (yb h) λx p' ts' e1 e2 h'=>?_;refine Z3 (yb h') λx2 p2 ts2 e3 e4 h2=>?_;rw[e2,e4];rfl
theorem bind_ok{env:Env}{tg:G8}{ts:List Str}{m wJ:Str->Option G9}{v:V}{u:G9}{A:Dh}{Q:Unit->Gh->Prop}{prog:Di}{w:Fb}{G:Lg}{L:Gx}{wy:Do}(X:T.K.In wy)(R:Rep T wy L wJ G H ρ E s.heap)(ht:ZV tg=G3 ts)(hh:A.handled=Gb)
  (hp:(env.scope.kind==.class ||(env.scope.kind==.module && env.locals != env.globals))=G7) (hk:∀x∈ts,env.kindOf x=G3 .local) (hv:VR T E ρ v u) (hn:s.heap.Ns env.locals m)
  (hl:(zJ (Gi ts.length 1) v).length=ts.length)
  (h:∀us h' tk,VRs T E ρ (zJ (Gi ts.length 1) v) us->us.length=ts.length->h'.Ns env.locals (YV ts us m)->(∀b o,b≠env.locals->s.heap.get? b=G3 o->h'.get? b=G3 o)->(∀b,s.heap.objs.size<=b->True)->Q () {s with heap:=h',toks:=tk}) :
  GA (Gy prog w) A (IT tg env u) Q Er s:=by
 rcases jv ht with⟨x,q,rfl,rfl⟩|⟨xs,kk,pp,rfl,ht,hne,hx0⟩
 ·refine FB (Iu (hk x (Gn ..)) hn (λh₁ wn wu=>?_) hp);exact h [u] h₁ _ (.cons hv .nil) rfl wn (λb o hb e=>wu.extBut b o hb e) λ_ _=>trivial
 ·skip
  rw[hne] at hl h;cases hv with
  |@tup vs us a htu hvs=>
   have hus:us.length=ts.length:=by rw[←hvs.length];exact hl
   refine zh (Jz (env:=env) ht) λe1 e2=>?_;refine assign_Tuple_tuple hh (R.isTup X htu) (by rw[e1];simpa using hus.symm) e2 λh₁ he=>?_;have hL:env.locals≠s.heap.objs.size:=D9 hn.lt;refine jq hp (s:={s with heap:=h₁}) (m:=m) ht (by simpa using hus) hk (hn.at' λo e=>he _ o hL e) λh' tk hn' hs'=>?_;exact h us h' tk hvs hus (by simpa using hn') (λb o hb e=>hs'.extBut b o hb (he b o (D9 (Fk e)) e)) λ_ _=>trivial
  |_=>
   induction ts using D8 with
   |cons _ _=>simp[zJ] at hl
   |nil=>
    induction xs using D8 with
    |cons e es=>obtain⟨x,q,ts',_,e,_⟩:=yb ht;cases e
    |nil=>exact absurd rfl hx0
end
section
variable {T:Tp} {wy h h':Do} {L:Gx} {m m':Str->Option G9} {G G':Lg} {H:List O} {ρ ρ':Rn} {E E':Lg}
theorem Rep.setE{x:Gx}{ob ob':Obj}(R:Rep T wy L m ((x,ob)::G) H ρ E h)(sb:∀b o,b≠x->h.get? b=G3 o->h'.get? b=G3 o)(ho:h'.get? x=G3 ob'):Rep T wy L m ((x,ob')::G) H ρ E h':=by
 refine za (R.N) λtb hb Nw=>?_;have hx:=Nw (x,ob) (Gd _ (.tail _ (.head _)));have F':Fr wy L h' m:=⟨R.F.ns.at λo e=>sb L o (Mc hx.2.1) e,λb o e=>sb b o (λq=>by rw[q,hx.2.2] at e;cases e) (R.F.keep b o e),R.F.above⟩;refine⟨F',⟨tb,hb,λp hp=>?_⟩,nd_ch (A:=(T.tab,Dz #[])::(x,ob)::G) rfl R.nd,R.len,R.enc,R.ft⟩;rcases nd_at (t':=(T.tab,tb)) R.nd rfl hp with rq|⟨hpx,hp'⟩
 ·subst rq;exact⟨ho,hx.2.1,hx.2.2⟩
 ·exact⟨sb p.1 p.2 hpx (Nw p hp').1,(Nw p hp').2⟩
end
section
variable {T:Tp} {P:Prg} {N:Nm} {d:Nat}
variable {c:Cx} {s:Gh} {ρ:Rn} {E:Lg} {H:Hp} {Er:G9->Gh->Prop} {prog:Di} {w:Fb} {A:Dh}
theorem KI{I:Gx}{o:Obj}{it:It}{j:Nat}{K:G9->Gh->Prop}(ho:s.heap.get? I=G3 o)(hi:ItO T E ρ it j o)(h:K (.ref I) s):GA (Gy prog w) A (pyIter (.ref I)) K Er s:=by
 cases hi with
 |tup _ _ h3 h4=>exact wpAny_pyIter_tupleiter ⟨o,ho,h3,h4⟩ h
 |@str x t _ _ h1 h2=>
  unfold Ie at h1
  split at h1
  ·exact wpAny_pyIter_striter_ascii ⟨o,ho,h1,h2⟩ h
  ·exact wpAny_pyIter_striter_wide ⟨o,ho,h1,h2⟩ h
 |rng _=>exact wpAny_pyIter_rangeiter ho h
 |lst _ h2 h3=>exact wpAny_pyIter_listiter ⟨o,ho,h2,h3⟩ h
 |keys _ h2 h3=>exact wpAny_pyIter_keyiter ⟨o,ho,h2,h3⟩ h
end
section
variable {RX:RxT} {T:Tp} {P:Prg} {N:Nm} {O:Orc} {d:Nat}
variable {c:Cx} {s:Gh} {ρ:Rn} {E:Lg} {H:Hp} {X:Nat->Hp->Prop} {Er:G9->Gh->Prop}
def cndF(cond:Mn.E):Lc->Hp->(Bool->Hp->Prop)->Prop:=λl H q=>ev P O cond (λ_ _=>False) l H λv H'=>ifS (yD v H') λb=>q b H'
def Xw(N:Nm)(K:DN)(sc:GW)(tb:List Str)(cond:Mn.E)(ifs:List G8):Bool:=match ifs with
 |[]=>jL cond
 |ct::r=>none? r && chkE N K G7 sc tb cond ct
set_option tactic.hygienic true in
theorem jK{e:Mn.E}(h:jL e=G6):e= .c (.bool G6):=by
 rcases e<;>first|exact absurd h G4|skip
 rename_i v;rcases v<;>first|exact absurd h G4|skip
 rename_i b;rcases b<;>first|exact absurd h G4|rfl
theorem cond_ok{cond:Mn.E}{ifs:List G8}{c:Cx}{sc:GW}{tb:List Str}{l:Lc}{q:Bool->Hp->Prop}(ic:TrOk RX T P N O d cond)
  (hc:Xw N T.K sc tb cond ifs=G6)
  (C:c.Ok T d) (S:ScOk T G7 sc c) (he:cndF (P:=P) (O:=O) cond l H q) (R:c.Rep T H ρ E s.heap) (Lk:LOk T tb c E ρ l) :
  GA (Gy T.prog T.w) c.A (forIn ifs G6 λt r=>if r=G6 then do let ok ←isTrue t c.fe (Ft t c.fe);pure (DK ok) else pure (DK r)) (PostB T c s ρ E q) Er s:=by
 induction ifs using D8 with
 |nil=>obtain rfl:=jK hc;exact wpAny_tests_nil ⟨s.heap,s.toks,H,ρ,E,rfl,R,Ext.refl _ _,he⟩
 |cons ct r=>refine zh (an2 hc) ?_;clear hc;intro h1 h2;obtain rfl:=zB h1;exact wpAny_tests_one (ic h2 C S he R Lk λe s' q=>absurd q XPost.no)
inductive CompI (P:Prg) (O:Orc) (T:Tp) (c:Cx) (s:Gh) (ρ:Rn) (E:Lg) (elt cond:Mn.E) (ts:List Str) (cap:Lc) (it:It) (I Cc D:Gx) (wK:Str->Option G9) (UC:Nat) (K:List V->Hp->Prop) (n:Nat) (s':Gh):Prop
 |mk (h':Do) (tk j:Nat) (oI oC:Obj) (m':Str->Option G9) (ys:List G9) (acc:List V) (H':Hp) (ρ':Rn) (E':Lg):s'={s with heap:=h',toks:=tk}->n=it.items.length - j->
   Mn.Rep T c.wy c.L c.m ((I,oI)::(Cc,oC)::(D,lst ys)::c.G) H' ρ' E' h'->Ext E ρ E' ρ'->ItO T E' ρ' it j oI->it.Sta H'->NsObj oC m'->VRs T E' ρ' acc.reverse ys->acc.length<=UC+j->
   YT (ev P O elt (λ_ _=>False)) (cndF (P:=P) (O:=O) cond) ts.length cap it (it.items.drop j) acc H' K->(∀y,y∉ts->m' y=wK y)->CompI P O T c s ρ E elt cond ts cap it I Cc D wK UC K n s'
def CapOk(T:Tp)(c:Cx)(csc:GW)(ts:List Str)(wK:Str->Option G9)(E:Lg)(ρ:Rn)(ctb:List Str)(cap:Lc):Prop:=∀(k:Nat) (w:V),cap[k]?=G3 w->w≠.bad->∃y z,ctb[k]?=G3 y/\
 ((csc.names.lookup y=G3 .free/\c.nm y=G3 z)∨(csc.names.lookup y=G3 .local/\y∉ts/\wK y=G3 z))/\VR T E ρ w z
theorem capOk{csc:GW}{tb ts:List Str}{caps:List Nat}{L:Lc}{wK:Str->Option G9}(Lk:LOk T tb c E ρ L)(hcp:∀x∈pick tb caps,csc.names.lookup x=G3 .free):CapOk T c csc ts wK E ρ (pick tb caps) (caps.map λk=>(L[k]?).getD .bad):=by
 intro k w hw hne;rw[List.getElem?_map] at hw;refine za (GK.mp hw) λcp hcp1 hcp2=>?_;have hLc:L[cp]?=G3 w:=by
  rcases hq:L[cp]? with _|w'
  ·rw[hq] at hcp2;exact absurd hcp2.symm hne
  ·rw[hq] at hcp2;exact congrArg G3 hcp2
 refine zF (Lk cp w hLc hne) λy z e1 e2 e3=>?_;have hpk:(pick tb caps)[k]?=G3 y:=by unfold pick;rw[List.getElem?_map,hcp1,I4,e1];rfl
 exact⟨y,z,hpk,.inl ⟨hcp y (List.mem_of_getElem? hpk),e2⟩,e3⟩
theorem ur{elt cond:Mn.E}{el x iter tg:G8}{gens:List I1}{dp:Nat}{ifs:List G8}{lm:Bool}{sc csc:GW}{pos:Pos}{cl:List (Str×Gx)}{ctb ts:List Str}{cap:Lc}{it:It}{I Cc D:Gx}{RR:Result->Gh->Prop}{K:List V->Hp->Prop}{kk:Nat}
  (hturn:∀it acc env,compTurn (.ListComp el gens csc pos) dp it acc env=Xq (.ListComp el gens csc pos) dp x tg iter ifs it acc env)
  (ie:EvOk RX T P N O d elt) (ic:TrOk RX T P N O d cond)
  (C:c.Ok T d) (Kc:CscOk sc csc) (hcl:∀x,csc.names.lookup x=G3 .free->c.fe.kindOf x=G3 .cell/\∃a,cl.lookup x=G3 a/\c.fe.cells.lookup x=G3 a)
  (ht:ZV tg=G3 ts) (hts:∀x∈ts,csc.names.lookup x=G3 .local) (nd:ts.Nodup) (hk:kk=ts.length)
  (hce:chkE N T.K G7 csc (ts++ctb) elt x=G6)
  (hcc:Xw N T.K csc (ts++ctb) cond ifs=G6)
  (hil:it.items.length<=1000)
  {h₁:Do} {tk₁:Nat} {wS wO:Obj} {wK:Str->Option G9} {acc₀:List V} {Wj:List G9} (UZ:acc₀.length<=1000)
  (fin:∀h' tk oC m' ys vs H' ρ' E',Mn.Rep T c.wy c.L c.m ((Cc,oC)::(D,lst ys)::c.G) H' ρ' E' h'->Ext E ρ E' ρ'->NsObj oC m'->VRs T E' ρ' vs ys->K vs H'->(∀y,y∉ts->m' y=wK y)->RR (.ok .next) {s with heap:=h',toks:=tk})
  (R:Mn.Rep T c.wy c.L c.m ((I,wS)::(Cc,wO)::(D,lst Wj)::c.G) H ρ E h₁) (hi:ItO T E ρ it 0 wS) (st:it.Sta H) (hns:NsObj wO wK) (ww:VRs T E ρ acc₀.reverse Wj) (hcap:CapOk T c csc ts wK E ρ ctb cap)
  (he:YT (ev P O elt (λ_ _=>False)) (cndF (P:=P) (O:=O) cond) kk cap it it.items acc₀ H K) :
  DI (Gy T.prog T.w) c.A (.compLoop (.ListComp el gens csc pos) dp (.ref I) (.ref D) (F7 csc cl Cc c.fe)) RR {s with heap:=h₁,toks:=tk₁}:=by
 subst hk;have hp:(csc.kind==.class ||(csc.kind==.module && (F7 csc cl Cc c.fe).locals != (F7 csc cl Cc c.fe).globals))=G7:=by rw[Kc.kd];rfl
 refine Zk
  (CompI P O T c s ρ E elt cond ts cap it I Cc D wK acc₀.length K) ?_ (hturn _ _ _) it.items.length
  ⟨h₁,tk₁,0,wS,wO,wK,Wj,acc₀,H,ρ,E,rfl,rfl,R,Ext.refl _ _,hi,st,hns,ww,GI _,he,λ_ _=>rfl⟩
 rintro n s' ⟨h',tk,j,oI,oC,m',ys,acc,H',ρ',E',rfl,rfl,R',x',hi',st',hns',hv',hal,he',hm'⟩
 induction hj:it.items[j]? using GD with
 |none=>refine Jl (s:={s with heap:=h',toks:=tk}) C.X C.hh R' hi' st' hj λwA Ur=>?_;have hd:it.items.drop j=[]:=List.drop_eq_nil_of_le (List.getElem?_eq_none_iff.mp hj);rw[hd] at he';exact fin wA tk oC m' ys acc.reverse H' ρ' E' Ur x' hns' hv' he' hm'
 |some v=>
  have hjl:j < it.items.length:=(List.getElem?_eq_some_iff.mp hj).1;have hd:it.items.drop j=v::it.items.drop (j+1):=by
   rw[List.drop_eq_getElem_cons hjl]
   congr 1
   exact Gm ((List.getElem?_eq_getElem hjl).symm.trans hj)
  rw[hd] at he';refine j8 (s:={s with heap:=h',toks:=tk}) C.X R' hi' st' hj λwA W5 wQ u Ur wg hu=>?_;refine za (id Ur.N) λW2 wa Ul=>?_;refine zF (wg.shape) λn0 vs0 q1 q2 q3=>?_;refine Jh (s:={s with heap:=wA,toks:=W5}) (Ul (I,wQ) (by simp)).1 q1 q2 q3 ?_;have UT:wA.get? Cc=G3 oC:=(Ul (Cc,oC) (by simp)).1;refine zh (gd_iff.mp he') λg1 he3=>?_;have hlen:(zJ (Gi ts.length 1) v).length=ts.length:=by have:=natE.mp g1;rw[Gr] at this;exact om57 this
  refine bind_ok (s:={s with heap:=wA,toks:=W5}) (env:=F7 csc cl Cc c.fe) C.X Ur ht C.hh hp (λy hy=>by rw[ZM,hts y hy];rfl) hu (hns'.ns UT) hlen λus wB W6 hus hul wp wH _=>?_;refine za (ns_obj wp) λwP UU wj=>?_;have Ut:Mn.Rep T c.wy c.L c.m ((I,wQ)::(Cc,wP)::(D,lst ys)::c.G) H' ρ' E' wB:=
   (Rep.setE (ob':=wP) (Ur.perm (Fd _ _ _)) (λb o hb e=>wH b o hb e) UU).perm (Fd _ _ _)
  refine zh (cmpOk (lm:=lm) (G:=(I,wQ)::(Cc,wP)::(D,lst ys)::c.G) (ex:=[(I,wQ),(Cc,wP),(D,lst ys)]) (Cc:=Cc) (oC:=wP) C Kc hcl rfl (Go _ (Gn ..)) wj) λuP Ux=>?_;have wi:∀y,y∉ts->YV ts us m' y=wK y:=λy hy=>(jo hy).trans (hm' y hy);have Uf:LOk T (ts++ctb) (ko c csc cl Cc ((I,wQ)::(Cc,wP)::(D,lst ys)::c.G) (YV ts us m')) E' ρ' (zJ (Gi ts.length 1) v++cap):=by
   intro k w hw hne
   by_cases hkl:k < ts.length
   ·rw[List.getElem?_append_left (by rw[hlen];exact hkl)] at hw;refine za (hus.at hw) λz hz hr=>?_;refine⟨ts[k],z,by rw[List.getElem?_append_left hkl,List.getElem?_eq_getElem hkl],?_,hr⟩;show(match csc.names.lookup ts[k] with|some .local=>YV ts us m' ts[k]|some .free=>c.nm ts[k]|_=>Gb)=G3 z;rw[hts _ (List.getElem_mem hkl)];exact bindM_at nd (List.getElem?_eq_getElem hkl) hz
   ·rw[List.getElem?_append_right (by rw[hlen];exact Fj.mp hkl),hlen] at hw;refine zF (hcap _ w hw hne) λy z e1 e2 e3=>?_;refine⟨y,z,by rw[List.getElem?_append_right (Fj.mp hkl)];exact e1,?_,e3.ext x'⟩;show(match csc.names.lookup y with|some .local=>YV ts us m' y|some .free=>c.nm y|_=>Gb)=G3 z;rcases e2 with⟨e4,e5⟩|⟨e4,e5,e6⟩
    ·rw[e4];exact e5
    ·rw[e4];exact(wi y e5).trans e6
  refine Gu (cond_ok (s:={s with heap:=wB,toks:=W6}) (c:=ko c csc cl Cc ((I,wQ)::(Cc,wP)::(D,lst ys)::c.G) (YV ts us m')) ic hcc uP Ux he3 Ut Uf) (λb wY p=>?_) λ_ _ e=>e;obtain⟨wC,W7,U6,ρ₄,uS,rfl,Uu,Wh,hq⟩:=p
  induction b using GN with
  |false=>simp only[I7,if_false];refine zh (gd_iff.mp hq) λg2 he5=>?_;exact⟨it.items.length - (j+1),by exact om58 hjl,wC,W7,j+1,wQ,wP,_,ys,acc,U6,ρ₄,uS,rfl,rfl,Uu,x'.trans Wh,wg.ext Wh,It.sta_of g2,wj,hv'.ext Wh,by exact om59 hal,he5,wi⟩
  |true=>
   simp only[if_true];refine Gu (ie (s:={s with heap:=wC,toks:=W7}) (c:=ko c csc cl Cc ((I,wQ)::(Cc,wP)::(D,lst ys)::c.G) (YV ts us m')) (X:=λ_ _=>False) hce uP Ux hq Uu (Uf.ext Wh) (λe s' q=>absurd q XPost.no)) (λy wZ p=>?_) λ_ _ e=>e;obtain⟨wD,W8,yv,U7,ρ₅,uT,rfl,Uv,Wi,hy,hq5⟩:=p;refine zh (gd_iff.mp hq5) λg2 he5=>?_;refine za (id Uv.N) λW4 wc Uo=>?_;have UW:wD.get? D=G3 (lst ys):=(Uo (D,lst ys) (by simp[ko])).1;have hyl:ys.length=acc.length:=by rw[←hv'.length,DC]
   refine append_at (s:={s with heap:=wD,toks:=W8}) (hsz:=by rw[D7,GH];exact om60 hil UZ hal hjl hyl) UW λwE wv UX=>?_;have UY:wE.get? D=G3 (lst (ys++[y])):=UX.trans (congrArg G3 (lst_snoc ys y));have pm:((I,wQ)::(Cc,wP)::(D,lst ys)::c.G).Perm ((D,lst ys)::(I,wQ)::(Cc,wP)::c.G):=by refine(List.Perm.cons _ (Fd _ _ _)).trans (Fd _ _ _)
   have pm2:((D,lst (ys++[y]))::(I,wQ)::(Cc,wP)::c.G).Perm ((I,wQ)::(Cc,wP)::(D,lst (ys++[y]))::c.G):=by refine(Fd _ _ _).trans (List.Perm.cons _ (Fd _ _ _))
   have Uw:=(Rep.setE (ob':=lst (ys++[y])) (Uv.perm pm) (λb o hb e=>wv.extBut b o hb e) UY).perm pm2;exact⟨it.items.length - (j+1),by exact om58 hjl,wE,W8,j+1,wQ,wP,_,ys++[y],yv::acc,U7,ρ₅,uT,rfl,rfl,Uw,(x'.trans Wh).trans Wi,(wg.ext Wh).ext Wi,It.sta_of g2,wj,by
    rw[Dq];exact((hv'.ext Wh).ext Wi).append (.cons hy .nil),by simp;exact om61 hal,he5,wi⟩
theorem Zt{e:G8}{env:Env}(h:yZ e=G6):∀x,foldedSetIterable e env x=pure x:=by
 intro x;rcases e<;>first|rfl|exact absurd h G4
def compF(P:Prg)(O:Orc)(elt cond:Mn.E)(n:Nat)(caps:List Nat)(L:Lc)(K:List V->Hp->Prop)(u:V)(H₁:Hp):Prop:=
 ifS (yC u H₁) λit=>YT (ev P O elt (λ_ _=>False)) (cndF (P:=P) (O:=O) cond) n (caps.map λk=>(L[k]?).getD .bad) it it.items [] H₁ K
theorem ut{iter:Mn.E}{x ix tg:G8}{ifs:List G8}{rest:List I1}{lm:Bool}{sc csc:GW}{pos:Pos}{cl:List (Str×Gx)}{tb:List Str}{L:Lc}{RR:G9->Gx->Result->Gh->Prop}{KK:It->Hp->Prop}
  (ii:EvOk RX T P N O d iter) (C:c.Ok T d) (S:ScOk T lm sc c) (Kc:CscOk sc csc) (hci:chkE N T.K lm sc tb iter ix=G6)
  (R:c.Rep T H ρ E s.heap) (Lk:LOk T tb c E ρ L) (XR:∀e s',XPost RX c s ρ E X e s'->Er e s')
  (hloop:∀wB W6 it I Cc D o oC m' H₁ ρ₁ uQ,Mn.Rep T c.wy c.L c.m ((I,o)::(Cc,oC)::(D,lst [])::c.G) H₁ ρ₁ uQ wB->Ext E ρ uQ ρ₁->ItO T uQ ρ₁ it 0 o->it.Sta H₁->it.items.length<=1000->NsObj oC m'->KK it H₁->
   DI (Gy T.prog T.w) c.A (.compLoop (.ListComp x (⟨tg,ix,ifs,0⟩::rest) csc pos) 0 (.ref I) (.ref D) (F7 csc cl Cc c.fe)) (RR (.ref D) Cc) {s with heap:=wB,toks:=W6})
  (he:ev P O iter X L H λu H₁=>ifS (yC u H₁) λit=>KK it H₁) :
  GA (Gy T.prog T.w) c.A (Ft ix c.fe) (λxv wV=>GA (Gy T.prog T.w) c.A (pyIter xv) (λit wW=>GA (Gy T.prog T.w) c.A (newList []) (λacc wX=>
   GA (Gy T.prog T.w) c.A (newFunctionEnv csc c.fe.globals cl [] c.fe.qual Gb .none (G3 c.fe)) (λcenv wY=>
    DI (Gy T.prog T.w) c.A (.compStart (.ListComp x (⟨tg,ix,ifs,0⟩::rest) csc pos) 0 it acc {cenv with scope:=relabel csc c.fe}) (RR acc cenv.locals) wY) Er wX) Er wW) Er wV) Er s:=by
 refine Post.go (ii hci C S he R Lk XR) λu v h₁ tk₁ H₁ ρ₁ uQ Uq We hv q=>?_;refine za (zq q) ?_;clear q;intro it hit q
 ·refine j7 (s:={s with heap:=h₁,toks:=tk₁}) C Uq hv hit λo Ur hi st hil=>?_;refine Iq (wpAny_newFunctionEnv Kc.cel (by intro y hy;simp at hy) (λwB wm wt=>?_) Kc.kd);dsimp only at wm wt Ur ⊢;generalize hh1:h₁.push o=H1 at wm wt Ur ⊢;generalize hH2:H1.push {cls:=.type "list",dict:=Gb,data:=.seq ([]:List G9).toArray}=H2 at wm wt ⊢;have hC:H2.objs.size=H1.objs.size+1:=by rw[←hH2,Il]
  have hDC:H1.objs.size≠H2.objs.size:=by rw[hC];exact D9 (Da _)
  have old:∀b o,H1.get? b=G3 o->wB.get? b=G3 o:=λb o e=>wt.extBut b o (D9 (by rw[hC];exact D6 (Fk e))) (Heap.get?_push_of_some _ (hH2▸Heap.get?_push_of_some _ e));have hacc:wB.get? H1.objs.size=G3 (lst []):=wt.extBut _ _ hDC (Heap.get?_push_of_some _ (hH2▸Heap.get?_push_size _ rfl));refine za (ns_obj wm) λoC hoC hno=>?_;have Ut:Mn.Rep T c.wy c.L c.m ([(H2.objs.size,oC),(H1.objs.size,lst [])]++(h₁.objs.size,o)::c.G) H₁ ρ₁ uQ wB:=
   Rep.moreG Ur old (Ur.F.keeps old) (by
    intro p hp;simp only[Gp,D1,or_false] at hp;rcases hp with rfl|rfl
    ·exact⟨hoC,by rw[hC];exact F5 _⟩
    ·exact⟨hacc,GI _⟩) (by simp[hC])
  have Uu:Mn.Rep T c.wy c.L c.m ((h₁.objs.size,o)::(H2.objs.size,oC)::(H1.objs.size,lst [])::c.G) H₁ ρ₁ uQ wB:=by refine Ut.perm ?_;exact(DF (l₁:=[(H2.objs.size,oC),(H1.objs.size,lst [])]) (a:=(h₁.objs.size,o)) (l₂:=c.G))
  have loop:∀W6,DI (Gy T.prog T.w) c.A (.compLoop (.ListComp x (⟨tg,ix,ifs,0⟩::rest) csc pos) 0 (.ref h₁.objs.size) (.ref H1.objs.size) (F7 csc cl H2.objs.size c.fe)) (RR (.ref H1.objs.size) H2.objs.size) {s with heap:=wB,toks:=W6}:=λW6=>
   hloop _ _ _ _ _ _ _ _ _ _ _ _ Uu We hi st hil hno q
  refine za (id Uu.N) λW3 wb Un=>?_;exact codeAny_compStart_list (loop _) (KI (Un (h₁.objs.size,o) (by simp)).1 hi (loop _))
theorem jk{elt iter cond:Mn.E}{x ix tg:G8}{ifs:List G8}{lm:Bool}{sc csc:GW}{pos:Pos}{cl:List (Str×Gx)}{tb ts:List Str}{caps:List Nat}{L:Lc}{RR:G9->Gx->Result->Gh->Prop}{K:List V->Hp->Prop}{kk:Nat}
  (ii:EvOk RX T P N O d iter) (ie:EvOk RX T P N O d elt) (ic:TrOk RX T P N O d cond)
  (C:c.Ok T d) (S:ScOk T lm sc c) (Kc:CscOk sc csc) (hcl:∀x,csc.names.lookup x=G3 .free->c.fe.kindOf x=G3 .cell/\∃a,cl.lookup x=G3 a/\c.fe.cells.lookup x=G3 a)
  (ht:ZV tg=G3 ts) (hts:∀x∈ts,csc.names.lookup x=G3 .local) (hcp:∀x∈pick tb caps,csc.names.lookup x=G3 .free) (nd:ts.Nodup) (hk:kk=ts.length)
  (hci:chkE N T.K lm sc tb iter ix=G6)
  (hce:chkE N T.K G7 csc (ts++pick tb caps) elt x=G6)
  (hcc:Xw N T.K csc (ts++pick tb caps) cond ifs=G6)
  (R:c.Rep T H ρ E s.heap) (Lk:LOk T tb c E ρ L) (XR:∀e s',XPost RX c s ρ E X e s'->Er e s')
  (fin:∀D Cc h' tk oC m' ys vs H' ρ' E',Mn.Rep T c.wy c.L c.m ((Cc,oC)::(D,lst ys)::c.G) H' ρ' E' h'->Ext E ρ E' ρ'->NsObj oC m'->VRs T E' ρ' vs ys->K vs H'->RR (.ref D) Cc (.ok .next) {s with heap:=h',toks:=tk})
  (he:ev P O iter X L H (compF P O elt cond kk caps L K)) :
  GA (Gy T.prog T.w) c.A (Ft ix c.fe) (λxv wV=>GA (Gy T.prog T.w) c.A (pyIter xv) (λit wW=>GA (Gy T.prog T.w) c.A (newList []) (λacc wX=>
   GA (Gy T.prog T.w) c.A (newFunctionEnv csc c.fe.globals cl [] c.fe.qual Gb .none (G3 c.fe)) (λcenv wY=>
    DI (Gy T.prog T.w) c.A (.compStart (.ListComp x [⟨tg,ix,ifs,0⟩] csc pos) 0 it acc {cenv with scope:=relabel csc c.fe}) (RR acc cenv.locals) wY) Er wX) Er wW) Er wV) Er s:=by
 refine ut (rest:=[]) ii C S Kc hci R Lk XR (λwB W6 it I Cc D o oC m' H₁ ρ₁ uQ Uu We hi st hil hno q=>?_) he;exact ur (tk₁:=W6) (lm:=lm) (sc:=sc) (kk:=kk) (acc₀:=[]) (λ_ _ _=>rfl) ie ic C Kc hcl ht hts nd hk hce hcc hil (DD _)
  (λh' tk oC' m' ys vs H' ρ' E' Rr xr no vr k _=>fin _ _ h' tk oC' m' ys vs H' ρ' E' Rr (We.trans xr) no vr k) Uu hi st hno .nil (capOk (Lk.ext We) hcp) q
theorem uq{D:Gx}{ys:List G9}{vs:List V}{h:Do}{m:Str->Option G9}(R:Mn.Rep T c.wy c.L m ((D,lst ys)::c.G) H ρ E h)(hv:VRs T E ρ vs ys)(hl:vs.length<=1000) :
  Mn.Rep T c.wy c.L m c.G (H++[.list vs]) (ρ++[(D,D)]) ((D,lst ys)::E) h/\Ext E ρ ((D,lst ys)::E) (ρ++[(D,D)])/\(ρ++[(D,D)])[H.length]?=G3 (D,D):=by
 refine za (id R.N) λtb hb N=>?_;exact Rep.takeG (ob':=lst ys) R hb R.F N (o:=.list vs) ⟨ys,ys.length,Gn ..,hv.ext ⟨λ_ _ e=>e,λp hp _=>Go _ hp⟩,hl⟩ rfl
inductive CmpAt (N:Nm) (K:DN) (lm:Bool) (sc:GW) (tb:List Str) (elt iter cond:Mn.E) (n:Nat) (caps:List Nat):G8->Prop
 |mk (y tg ix ifs csc pos ts) (ht:ZV tg=G3 ts) (hn:n=ts.length) (hsc:Xx sc csc ts (pick tb caps)=G6) (hns:yZ ix=G6) (hci:chkE N K lm sc tb iter ix=G6) (hce:chkE N K G7 csc (ts++pick tb caps) elt y=G6) (hcc:Xw N K csc (ts++pick tb caps) cond ifs=G6):CmpAt N K lm sc tb elt iter cond n caps (.ListComp y [⟨tg,ix,ifs,0⟩] csc pos)
theorem Xz{elt iter cond:Mn.E}{n:Nat}{caps:List Nat}{x:G8}{lm:Bool}{sc:GW}{tb:List Str}(h:chkE N T.K lm sc tb (.comp elt iter cond n caps) x=G6):CmpAt N T.K lm sc tb elt iter cond n caps x:=by refine Z2 (iComp h) ?_;clear h;intro y gens csc pos rq4 h;subst rq4;refine za (iOne h) ?_;clear h;intro g rq h;subst rq;obtain⟨tg,ix,ifs,as⟩:=g;refine zh (an2 h) ?_;clear h;intro h0 h;obtain rfl:as=0:=of_decide_eq_true h0;refine za (ya h) ?_;clear h;intro ts hts h;refine Yr (an6 h) ?_;clear h;intro h1 h2 h3 h4 h5 h6;exact⟨y,tg,ix,ifs,csc,pos,ts,hts,(natE.mp h1).symm,h2,h3,h4,h5,h6⟩
theorem kf{elt iter cond:Mn.E}{n:Nat}{caps:List Nat}{L:Lc}{Q:V->Hp->Prop}:ev P O (.comp elt iter cond n caps) X L H Q=ev P O iter X L H (compF P O elt cond n caps L λvs H₂=>gd (Gj vs.length 1000) (Q (.obj H₂.length) (H₂++[.list vs]))):=by rfl
theorem ua{elt iter cond:Mn.E}(n:Nat)(caps:List Nat)(ii:EvOk RX T P N O d iter)(ie:EvOk RX T P N O d elt)(ic:TrOk RX T P N O d cond):EvOk RX T P N O d (.comp elt iter cond n caps):=by intro x c lm sc tb X L H Q ρ E s Er hc C S he R Lk XR;obtain⟨y,tg,ix,ifs,csc,pos,ts,ht,hn,hsc,hns,hci,hce,hcc⟩:=Xz hc;refine JK (compSc hsc) λKc k1 k2 k3 k4=>?_;refine za (YU C S Kc) λcl hclos hcl=>?_;rw[kf] at he;rw[eval_ListComp];refine wpAny_comprehension_free (use:=Gb) rfl (Zt hns) hclos Kc.kd Kc.loc (jk (RR:=λacc Cc=>compPost (Gy T.prog T.w) c.A Er Gb (Post T c s ρ E Q) acc Cc) ii ie ic C S Kc hcl ht k1 k2 k4 hn hci hce hcc R Lk XR (λD Cc h' tk oC m' ys vs H' ρ' E' R' x' no vr q=>?_) he);refine zh (gd_iff.mp q) ?_;clear q;intro g1 q;refine za (id R'.N) λW1 w9 Uk=>?_;refine⟨m',no.ns (Uk (Cc,oC) (by simp)).1,λh'' hs''=>?_⟩;refine zP (uq (R'.dropG hs''.extBut) vr (natB.mp g1)) λR2 x2 hr=>?_;exact⟨h'',tk,_,_,_,_,rfl,R2,x'.trans x2,.obj hr,q⟩
theorem tr_comp{elt iter cond:Mn.E}(n:Nat)(caps:List Nat)(ii:EvOk RX T P N O d iter)(ie:EvOk RX T P N O d elt)(ic:TrOk RX T P N O d cond):TrOk RX T P N O d (.comp elt iter cond n caps):=by refine J5 (ua n caps ii ie ic) ?_;intro lm sc tb x h;rcases Xz h;rfl
end
theorem Zr{α β:Type}{M:IY}{A:Dh}{t:Sem α}{a:α}{f:α->Sem β}{Q:β->Gh->Prop}{E:G9->Gh->Prop}{s:Gh}(h:t=pure a)(k:GA M A (f a) Q E s):GA M A (t >>= f) Q E s:=by rw[h];exact Ge (Gv k)
section
variable {T:Tp} {N:Nm}
set_option tactic.hygienic true in
theorem plC{v:V}{lm:Bool}{sc:GW}{tb:List Str}{x:G8}(h:chkE N T.K lm sc tb (.c v) x=G6):j1 x=G6:=by
 replace h:jX v x=G6:=h;rcases x<;>first|rfl|exact absurd h G4|skip
 rename_i op _ _;rcases op<;>first|rfl|exact absurd h G4
end
section
variable {RX:RxT} {T:Tp} {P:Prg} {N:Nm} {O:Orc} {d:Nat}
structure AllOk (RX:RxT) (T:Tp) (P:Prg) (N:Nm) (O:Orc) (d:Nat) (e:Mn.E):Prop where
 ev:EvOk RX T P N O d e
 tr:TrOk RX T P N O d e
 ls:LsOk RX T P N O d e
 dc:DcOk RX T P N O d e
 pr:∀a b,e= .cons a b->EvOk RX T P N O d a/\DcOk RX T P N O d b
def notLs(e:Mn.E):Bool:=Gj e.ctorIdx 24
theorem ls_no{e:Mn.E}(h:notLs e=G6):LsOk RX T P N O d e:=by
 intro xs pos c lm sc tb X L H Q ρ E s Er hc;exfalso;rcases e<;>first|exact absurd h G4|exact absurd hc G4
theorem dc_no{e:Mn.E}(h:notLs e=G6):DcOk RX T P N O d e:=by
 intro ks xs pos c lm sc tb X L H Q ρ E s Er hc;rcases ZN hc with rfl|⟨_,_,_,rfl⟩<;>exact absurd h G4
theorem ZS{e:Mn.E}(h1:EvOk RX T P N O d e)(h2:TrOk RX T P N O d e)(h:notLs e=G6):AllOk RX T P N O d e:=
 ⟨h1,h2,ls_no h,dc_no h,λa b q=>by subst q;exact absurd h G4⟩
theorem yy{e:Mn.E}(h1:EvOk RX T P N O d e)(hp:∀{lm sc tb x},chkE N T.K lm sc tb e x=G6->j1 x=G6)(h:notLs e=G6):AllOk RX T P N O d e:=
 ZS h1 (J5 h1 hp) h
theorem ev_nil:EvOk RX T P N O d .nil:=by intro x c lm sc tb X L H Q ρ E s Er hc;exact absurd hc G4
theorem ev_cons(a b:Mn.E):EvOk RX T P N O d (.cons a b):=by intro x c lm sc tb X L H Q ρ E s Er hc;exact absurd hc G4
theorem tr_nil:TrOk RX T P N O d .nil:=by intro x c lm sc tb X L H Q ρ E s Er hc;exact absurd hc G4
theorem tr_cons(a b:Mn.E):TrOk RX T P N O d (.cons a b):=by intro x c lm sc tb X L H Q ρ E s Er hc;exact absurd hc G4
theorem chkD_cc{K:DN}{lm:Bool}{sc:GW}{tb:List Str}{a b:Mn.E}{ks:List (Option G8)}{vs:List G8}(h:chkD N K lm sc tb (.cons a b) ks vs=G6):∃x y,b= .cons x y:=by
 rcases ZN h with e|⟨a',b',r,e⟩
 ·exact nomatch e
 ·cases e;exact⟨b',r,rfl⟩
theorem yi(K:TpOk T P N)(hO:js RX T O d)(e:E):AllOk RX T P N O d e:=by
 induction e with
 |bad=>exact ZS ev_bad tr_bad rfl
 |c v=>exact yy (ev_c v) plC rfl
 |l k=>exact yy (ev_l k) (λh=>zS (zH h) rfl) rfl
 |g n v=>exact yy (ev_g K n v) (λh=>zS (zH h) rfl) rfl
 |a e f i_e=>exact yy (ev_a K f (i_e).ev) (λh=>zS (zH h) rfl) rfl
 |bin o a b i_a i_b=>exact yy (ev_bin o (i_a).ev (i_b).ev) (λh=>zS (zH h) rfl) rfl
 |cmp o a b i_a i_b=>exact ZS (ev_cmp o (i_a).ev (i_b).ev) (tr_cmp o (i_a).ev (i_b).ev) rfl
 |cmp2 o p a b e i_a i_b i_e=>exact ZS (ev_cmp2 o p (i_a).ev (i_b).ev (i_e).ev) (tr_cmp2 o p (i_a).ev (i_b).ev (i_e).ev) rfl
 |not a i_a=>exact ZS (ev_not (i_a).ev) (tr_not (i_a).tr) rfl
 |and a b i_a i_b=>exact ZS (ev_and (i_a).ev (i_b).ev) (tr_and (i_a).tr (i_b).tr) rfl
 |or a b i_a i_b=>exact ZS (ev_or (i_a).ev (i_b).ev) (tr_or (i_a).tr (i_b).tr) rfl
 |ifx b a e i_b i_a i_e=>exact ZS (ev_ifx (i_b).tr (i_a).ev (i_e).ev) (tr_ifx (i_b).tr (i_a).tr (i_e).tr) rfl
 |call f b i_b=>exact yy (ev_call K hO f (i_b).ls) (λh=>zS (zH h) rfl) rfl
 |bf f b i_b=>exact yy (ev_bf f (i_b).ls) (λh=>zS (zH h) rfl) rfl
 |meth a m b i_a i_b=>exact yy (ev_meth K hO m (i_a).ev (i_b).ls) (λh=>zS (zH h) rfl) rfl
 |bm m a b i_a i_b=>exact yy (ev_bm m (i_a).ev (i_b).ls) (λh=>zS (zH h) rfl) rfl
 |callv a b i_a i_b=>exact yy (ev_callv hO (i_a).ev (i_b).ls) (λh=>zS (zH h) rfl) rfl
 |idx a b i_a i_b=>exact yy (ev_idx (i_a).ev (i_b).ev) (λh=>zS (zH h) rfl) rfl
 |slice a l h i_a i_l i_h=>exact yy (ev_slice (i_a).ev (i_l).ev (i_h).ev K) (λh=>zS (zH h) rfl) rfl
 |rev a i_a=>exact yy (ev_rev (i_a).ev) (λh=>zS (zH h) rfl) rfl
 |tup a i_a=>exact yy (ev_tup (i_a).ls) (λh=>zS (zH h) rfl) rfl
 |lst a i_a=>exact yy (ev_lst (i_a).ls) (λh=>zS (zH h) rfl) rfl
 |dct a i_a=>exact yy (ev_dct (i_a).dc) (λh=>zS (zH h) rfl) rfl
 |comp elt iter cond n caps i_elt i_iter i_cond=>exact ZS (ua n caps (i_iter).ev (i_elt).ev (i_cond).tr) (tr_comp n caps (i_iter).ev (i_elt).ev (i_cond).tr) rfl
 |lam k=>exact yy (ev_lam K k) (λh=>zS (zH h) rfl) rfl
 |nil=>exact⟨ev_nil,tr_nil,ls_nil,dc_nil,λa b q=>by cases q⟩
 |cons a b i_a i_b=>
  exact⟨ev_cons a b,tr_cons a b,ls_cons (i_a).ev (i_b).ls,by
   intro ks xs pos c lm sc tb X L H Q ρ E s Er hc;obtain⟨x,y,rfl⟩:=chkD_cc hc;exact dc_cons (i_a).ev (i_b.pr x y rfl).1 (i_b.pr x y rfl).2 hc,λx y q=>by cases q;exact⟨(i_a).ev,(i_b).dc⟩⟩
end
structure Fm where
 A:Dh
 fe:Env
 wy:Do
 L:Gx
noncomputable def Fm.cx(f:Fm)(m cm:Str->Option G9)(G:Lg):Cx:=
 {A:=f.A,fe:=f.fe,wy:=f.wy,L:=f.L,m:=m,G:=G,nm:=λx=>match f.fe.kindOf x with|some .local=>m x|some .cell=>cm x|_=>Gb}
structure Fm.Ok (f:Fm) (T:Tp) (d:Nat):Prop where
 B:∃uM base outer env,Below uM base outer f.wy/\f.A.frames=G3 (env::outer)/\env.frame=G3 f.L/\env.scope.kind= .function
 kd:f.fe.scope.kind= .function
 gl:f.fe.globals=Dy
 bi:f.fe.builtins=I9
 X:T.K.In f.wy
 top:∃p loose mean mg mb,Top p loose mean mg mb f.wy
 tab:CodeHd f.wy T.tabC T.tab
 hh:f.A.handled=Gb
 dep:f.A.depth+4*d+8<=1000
 un:f.A.units+16*d+200<=9900
 le:d<=20
 tp:d=20->∃uM cn cs a ccd,Below uM f.wy [] f.wy/\f.A.frames=G3 [envOf cn cs f.L a ccd]/\cs.kind= .function
 scr:∃vs,f.wy.IsList T.scr vs.toArray/\IntsAre vs T.ns/\T.ns.length<=1048576
 loc:f.fe.locals=f.L
 cel:∀x,f.fe.kindOf x=G3 .cell->∃a,(x,a)∈f.fe.cells
 cnd:(f.fe.cells.map (·.1)).Nodup
inductive CG (cm:Str->Option G9):List (Str×Gx)->Lg->Prop
 |nil:CG cm [] []
 |cons {x:Str} {a:Gx} {o:Obj} {r:List (Str×Gx)} {G:Lg}:o.data= .cell (cm x)->CG cm r G->CG cm ((x,a)::r) ((a,o)::G)
theorem CG.at{cm:Str->Option G9}{cs:List (Str×Gx)}{G:Lg}{x:Str}{a:Gx}(h:CG cm cs G)(hm:(x,a)∈cs):∃o,(a,o)∈G/\o.data= .cell (cm x):=by
 induction h with
 |nil=>exact absurd hm D1
 |@cons y b o r G h _ ih=>
  rcases Gp.mp hm with e|hm
  ·obtain rfl:x=y:=congrArg Prod.fst e;obtain rfl:a=b:=congrArg Prod.snd e;exact⟨o,Gn ..,h⟩
  ·exact(ih hm).imp λ_ q=>⟨Go _ q.1,q.2⟩
theorem CG.out{cm:Str->Option G9}{x:Str}{v:Option G9}{cs:List (Str×Gx)}{G:Lg}(h:CG cm cs G)(hn:x∉cs.map (·.1)):CG (λz=>if z=x then v else cm z) cs G:=by
 induction h with
 |nil=>exact .nil
 |@cons y b o r G h _ ih=>exact .cons (h.trans (congrArg Data.cell (if_neg λ(e:y=x)=>hn (e▸Gn ..)).symm)) (ih λq=>hn (Go _ q))
theorem CG.upd{cm:Str->Option G9}{x:Str}{a:Gx}{cs:List (Str×Gx)}{G:Lg}(h:CG cm cs G)(nd:(cs.map (·.1)).Nodup)(hm:(x,a)∈cs) :
  ∃G1 o G2,G=G1++(a,o)::G2/\o.data= .cell (cm x)/\∀(o':Obj) (v:Option G9),o'.data= .cell v->CG (λz=>if z=x then v else cm z) cs (G1++(a,o')::G2):=by
 induction h with
 |nil=>exact absurd hm D1
 |@cons y b o r G h rr ih=>
  have nd:=GJ.mp nd;rcases Gp.mp hm with e|hm
  ·obtain rfl:x=y:=congrArg Prod.fst e;obtain rfl:a=b:=congrArg Prod.snd e;exact⟨[],o,G,rfl,h,λo' v hv=>.cons (hv.trans (congrArg Data.cell (if_pos rfl).symm)) (rr.out nd.1)⟩
  ·refine Z3 (ih nd.2 hm) λG1 o1 G2 rq3 h2 h3=>?_;subst rq3;exact⟨(b,o)::G1,o1,G2,rfl,h2,λo' v hv=>.cons (h.trans (congrArg Data.cell (if_neg λe=>nd.1 (by rw[e];exact D4 (f:=(·.1)) hm)).symm)) (h3 o' v hv)⟩
theorem Zy{α:Type}{x:Str}{a:α}{cs:List (Str×α)}(nd:(cs.map (·.1)).Nodup)(hm:(x,a)∈cs):cs.lookup x=G3 a:=by
 induction cs with
 |nil=>exact absurd hm D1
 |cons p r ih=>
  have nd:=GJ.mp nd;rw[GS];rcases Gp.mp hm with e|hm
  ·rw[←e,beq_self_eq_true]
  ·rw[beq_false_of_ne λ(e:x=p.1)=>nd.1 (Eq.subst (motive:=λz=>z∈r.map (·.1)) e (D4 (f:=(·.1)) hm))];exact ih nd.2 hm
section
variable {T:Tp} {d:Nat} {f:Fm} {m cm:Str->Option G9} {s:Gh} {ρ:Rn} {E:Lg} {H:Hp} {Er:G9->Gh->Prop}
set_option tactic.hygienic true in
theorem Fm.Ok.cx(F:f.Ok T d){ex Gc:Lg}(cg:CG cm f.fe.cells Gc):(f.cx m cm (ex++Gc)).Ok T d where
 B:=F.B
 kd:=F.kd
 gl:=F.gl
 bi:=F.bi
 X:=F.X
 top:=F.top
 tab:=F.tab
 hh:=F.hh
 dep:=F.dep
 un:=F.un
 le:=F.le
 tp:=F.tp
 scr:=F.scr
 look:=λx u hu hd=>by
  intro prog w A s Q Er pos Fr' N q;have hu:(match f.fe.kindOf x with|some .local=>m x|some .cell=>cm x|_=>Gb)=G3 u:=hu
  split at hu
  ·rename_i hk;exact wpAny_Name (FI (env:=f.fe) F.kd hk (by rw[F.loc];exact Fr'.ns) hu q) hd
  ·rename_i hk;refine zj (F.cel x hk) λa ha=>?_;refine za (cg.at ha) λo h1 h2=>?_;rw[hu] at h2;exact wpAny_Name (wpAny_loadName_cell (env:=f.fe) F.kd hk (Zy F.cnd ha) ⟨o,(N (a,o) (Gd _ h1)).1,h2⟩ q) hd
  ·cases hu
 cel:=λx hx=>by refine zj (F.cel x hx) λa ha=>?_;refine za (cg.at ha) λo h1 h2=>?_;refine⟨a,Zy F.cnd ha,λu hu=>⟨o,Gd _ h1,?_⟩⟩;have hx:f.fe.kindOf x=G3 .cell:=hx;have hu:(match f.fe.kindOf x with|some .local=>m x|some .cell=>cm x|_=>Gb)=G3 u:=hu;rw[hx] at hu;have hu:cm x=G3 u:=hu;rw[h2,hu]
theorem Rep.setM{wy h h':Do}{L:Gx}{m m':Str->Option G9}{G:Lg}(R:Mn.Rep T wy L m G H ρ E h)(hn:h'.Ns L m')(hs:Fi L h h'):Mn.Rep T wy L m' G H ρ E h':=by refine za (R.N) λtb hb N=>?_;exact⟨R.F.set hn hs,⟨tb,hb,λp hp=>⟨(hs.2 p.1 (N p hp).2.1).trans (N p hp).1,(N p hp).2⟩⟩,R.nd,R.len,R.enc,R.ft⟩
theorem nodup_at{α:Type}{l:List α}{j k:Nat}{x y:α}(nd:l.Nodup)(h1:l[j]?=G3 x)(h2:l[k]?=G3 y)(n:j≠k):x≠y:=by rintro rfl;exact n ((List.getElem?_inj (List.getElem?_eq_some_iff.mp h1).1 nd).mp (h1.trans h2.symm))
theorem Zf{tb:List Str}{L:Lc}{k:Nat}{x:Str}{v:V}{u:G9}{ex Gc:Lg}{Q:Unit->Gh->Prop}{prog:Di}{w:Fb}{A:Dh}(F:f.Ok T d)(cg:CG cm f.fe.cells Gc)(R:(f.cx m cm (ex++Gc)).Rep T H ρ E s.heap)
  (Lk:LOk T tb (f.cx m cm (ex++Gc)) E ρ L) (hk:f.fe.kindOf x=G3 .local∨f.fe.kindOf x=G3 .cell) (ht:tb[k]?=G3 x) (nd:tb.Nodup) (hv:VR T E ρ v u)
  (h:∀h' tk m' cm' Gc',CG cm' f.fe.cells Gc'->(f.cx m' cm' (ex++Gc')).Rep T H ρ E h'->LOk T tb (f.cx m' cm' (ex++Gc')) E ρ (setL k v L)->Q () {s with heap:=h',toks:=tk}) :
  GA (Gy prog w) A (storeName f.fe x u) Q Er s:=by
 have lk:∀m' cm' Gc',(f.cx m' cm' (ex++Gc')).nm x=G3 u->(∀y,y≠x->(f.cx m' cm' (ex++Gc')).nm y=(f.cx m cm (ex++Gc)).nm y)->LOk T tb (f.cx m' cm' (ex++Gc')) E ρ (setL k v L):=by
  intro m' cm' Gc' h1 h2 j w hw hne;unfold setL at hw
  by_cases hj:k=j
  ·subst hj;rw[List.getElem?_set] at hw;simp only[if_true] at hw
   split at hw
   ·cases hw;exact⟨x,u,ht,h1,hv⟩
   ·cases hw
  ·rw[List.getElem?_set_ne hj] at hw;refine zF (Lk j w hw hne) λy z e1 e2 e3=>?_;exact⟨y,z,e1,(h2 y (nodup_at nd e1 ht (Mc hj))).trans e2,e3⟩
 rcases hk with hk|hk
 ·refine Iu hk (m:=m) (by rw[F.loc];exact R.F.ns) (λh' hn hs=>?_) (by rw[F.kd];rfl);rw[F.loc] at hn hs;have R':(f.cx (λz=>if z=x then G3 u else m z) cm (ex++Gc)).Rep T H ρ E h':=Rep.setM R hn hs;refine h h' _ (λz=>if z=x then G3 u else m z) cm Gc cg R' (lk _ _ _ ?_ λy hy=>?_)
  ·show(match f.fe.kindOf x with|some .local=>if x=x then G3 u else m x|some .cell=>cm x|_=>Gb)=G3 u;rw[hk];exact if_pos rfl
  ·show(match f.fe.kindOf y with|some .local=>if y=x then G3 u else m y|some .cell=>cm y|_=>Gb)=(match f.fe.kindOf y with|some .local=>m y|some .cell=>cm y|_=>Gb);rw[if_neg hy]
 ·refine zj (F.cel x hk) λa ha=>?_;refine Z3 (cg.upd F.cnd ha) λG1 o G2 rq3 h1 h2=>?_;subst rq3;refine za (id R.N) λW0 hb N=>?_;have hm:s.heap.get? a=G3 o:=(N (a,o) (by simp[Fm.cx])).1;refine wpAny_storeName_cell F.kd hk (Zy F.cnd ha) ⟨o,hm,h1⟩ λh' hc hs=>?_;refine za (hc) ?_;clear hc;intro o' ho' hd';have p1:(ex++(G1++(a,o)::G2)).Perm ((a,o)::((ex++G1)++G2)):=by rw[←Gw];exact DF
  have p2:((a,o')::((ex++G1)++G2)).Perm (ex++(G1++(a,o')::G2)):=by rw[←Gw];exact DF.symm
  have R':=(Rep.setE (ob':=o') (Rep.perm R p1) (λb o hb e=>hs.extBut b o hb e) ho').perm p2;refine h h' s.toks m (λz=>if z=x then G3 u else cm z) _ (h2 o' (G3 u) hd') R' (lk _ _ _ ?_ λy hy=>?_)
  ·show(match f.fe.kindOf x with|some .local=>m x|some .cell=>if x=x then G3 u else cm x|_=>Gb)=G3 u;rw[hk];exact if_pos rfl
  ·show(match f.fe.kindOf y with|some .local=>m y|some .cell=>if y=x then G3 u else cm y|_=>Gb)=(match f.fe.kindOf y with|some .local=>m y|some .cell=>cm y|_=>Gb);rw[if_neg hy]
end
theorem natL{a b:Nat}:D0 a b=G6↔a < b:=by rw[FE]
set_option tactic.hygienic true in
theorem jN{e:Mn.E}(h:Y2 e=G6):e= .c .none:=by
 rcases e<;>first|exact absurd h G4|skip
 rename_i v;rcases v<;>first|exact absurd h G4|rfl
noncomputable def Zu(x:G8):Bool:=!(Gi x.ctorIdx 8 ||Gi x.ctorIdx 9 ||Gi x.ctorIdx 10)
noncomputable def Kq(x:G8):Bool:=!Gi x.ctorIdx 25
def kT(sc:GW)(x:Str)(p:Pos)(e:G8):Bool:=oB (vComp e) λt=>zu sc x .local && Gi p.line t.2.2.2.line && t.2.2.1.names.all λn=>!(zL n.1 x) ||!(Zo n.2 .local ||Zo n.2 .cell)
noncomputable def Jp:Mn.E->Bool
 |.comp ..=>G6
 |_=>G7
noncomputable def Yl(x:G8):Bool:=Gi x.ctorIdx 24 ||Gi x.ctorIdx 16
def XW(tb:List Str)(k:Nat)(x:Str):Bool:=oB tb[k]? (zL x)
noncomputable def ksOk(sc:GW)(tb:List Str):List Nat->List Str->Bool
 |[],xs=>none? xs
 |k::ks,xs=>oB (ht? xs) λx=>XW tb k x.1 && zu sc x.1 .local && ksOk sc tb ks x.2
noncomputable def vwS{α:Type}(x:Gq)(k:Nat)(g:x.ctorIdx=k->Option α):Option α:=if e:x.ctorIdx=k then g e else Gb
theorem Y7{α:Type}{x:Gq}{k:Nat}{g:x.ctorIdx=k->Option α}{f:α->Bool}(h:oB (vwS x k g) f=G6):x.ctorIdx=k:=
 M8 λn=>absurd h ((congrArg (oB · f) (dif_neg n:vwS x k g=Gb)).symm▸G4)
noncomputable def vPass(x:Gq):Bool:=Gi x.ctorIdx 25
noncomputable def vBrk(x:Gq):Bool:=Gi x.ctorIdx 26
def vRet(x:Gq):Option (Option G8):=vwS x 3 λe=>Ms x e λo _=>G3 o
def kM(x:Gq):Option G8:=vwS x 24 λe=>MD x e λx _=>G3 x
def vAsg(x:Gq):Option (List G8×G8):=vwS x 5 λe=>Mt x e λts v _=>G3 (ts,v)
def vIfS(x:Gq):Option (G8×List Gq×List Gq):=vwS x 12 λe=>PySem.Stmt.If.elim x e λt x y _=>G3 (t,x,y)
def vWhl(x:Gq):Option (G8×List Gq×List Gq):=vwS x 11 λe=>My x e λt x y _=>G3 (t,x,y)
def vFor(x:Gq):Option (G8×G8×List Gq×List Gq):=vwS x 9 λe=>PySem.Stmt.For.elim x e λt i x y _=>G3 (t,i,x,y)
def kL(x:Gq):Option (Option G8×Option G8):=vwS x 16 λe=>Mz x e λx y _=>G3 (x,y)
theorem iPass{x:Gq}(h:vPass x=G6):∃p,x= .Pass p:=PySem.Stmt.Pass.elim (motive_2:=λx=>∃p,x= .Pass p) x (GE h) λa0=>⟨a0,rfl⟩
theorem iBrk{x:Gq}(h:vBrk x=G6):∃p,x= .Break p:=PySem.Stmt.Break.elim (motive_2:=λx=>∃p,x= .Break p) x (GE h) λa0=>⟨a0,rfl⟩
theorem iRet{x:Gq}{f:Option G8->Bool}(h:oB (vRet x) f=G6):∃o p,x= .Return o p/\f o=G6:=Ms (motive_2:=λx=>oB (vRet x) f=G6->∃o p,x= .Return o p/\f o=G6) x (Y7 h) (λa0 a1 h=>⟨a0,a1,rfl,h⟩) h
theorem iExpr{x:Gq}{f:G8->Bool}(h:oB (kM x) f=G6):∃o p,x= .Expr o p/\f o=G6:=MD (motive_2:=λx=>oB (kM x) f=G6->∃o p,x= .Expr o p/\f o=G6) x (Y7 h) (λa0 a1 h=>⟨a0,a1,rfl,h⟩) h
theorem iAsg{x:Gq}{f:List G8×G8->Bool}(h:oB (vAsg x) f=G6):∃ts v p,x= .Assign ts v p/\f (ts,v)=G6:=Mt (motive_2:=λx=>oB (vAsg x) f=G6->∃ts v p,x= .Assign ts v p/\f (ts,v)=G6) x (Y7 h) (λa0 a1 a2 h=>⟨a0,a1,a2,rfl,h⟩) h
theorem iIfS{x:Gq}{f:G8×List Gq×List Gq->Bool}(h:oB (vIfS x) f=G6):∃t a b p,x= .If t a b p/\f (t,a,b)=G6:=PySem.Stmt.If.elim (motive_2:=λx=>oB (vIfS x) f=G6->∃t a b p,x= .If t a b p/\f (t,a,b)=G6) x (Y7 h) (λa0 a1 a2 a3 h=>⟨a0,a1,a2,a3,rfl,h⟩) h
theorem iWhl{x:Gq}{f:G8×List Gq×List Gq->Bool}(h:oB (vWhl x) f=G6):∃t a b p,x= .While t a b p/\f (t,a,b)=G6:=My (motive_2:=λx=>oB (vWhl x) f=G6->∃t a b p,x= .While t a b p/\f (t,a,b)=G6) x (Y7 h) (λa0 a1 a2 a3 h=>⟨a0,a1,a2,a3,rfl,h⟩) h
theorem iFor{x:Gq}{f:G8×G8×List Gq×List Gq->Bool}(h:oB (vFor x) f=G6):∃t i a b p,x= .For t i a b p/\f (t,i,a,b)=G6:=PySem.Stmt.For.elim (motive_2:=λx=>oB (vFor x) f=G6->∃t i a b p,x= .For t i a b p/\f (t,i,a,b)=G6) x (Y7 h) (λa0 a1 a2 a3 a4 h=>⟨a0,a1,a2,a3,a4,rfl,h⟩) h
theorem iRaise{x:Gq}{f:Option G8×Option G8->Bool}(h:oB (kL x) f=G6):∃a b p,x= .Raise a b p/\f (a,b)=G6:=Mz (motive_2:=λx=>oB (kL x) f=G6->∃a b p,x= .Raise a b p/\f (a,b)=G6) x (Y7 h) (λa0 a1 a2 h=>⟨a0,a1,a2,rfl,h⟩) h
def vTry(x:Gq):Option (List Gq×List ExceptHandler×List Gq×List Gq):=vwS x 17 λe=>Gq.Try.elim x e λa b c d _=>G3 (a,b,c,d)
theorem iTry{x:Gq}{f:List Gq×List ExceptHandler×List Gq×List Gq->Bool}(h:oB (vTry x) f=G6):∃a b c d p,x= .Try a b c d p/\f (a,b,c,d)=G6:=Gq.Try.elim (motive_2:=λx=>oB (vTry x) f=G6->∃a b c d p,x= .Try a b c d p/\f (a,b,c,d)=G6) x (Y7 h) (λa0 a1 a2 a3 a4 h=>⟨a0,a1,a2,a3,a4,rfl,h⟩) h
noncomputable def vHan:ExceptHandler->Option (G8×List Gq)
 |.ExceptHandler (G3 t) Gb b _=>G3 (t,b)
 |_=>Gb
def retB(b:Bool)(xs:List Gq):Bool:=oB (one? xs) λx=>oB (vRet x) λo=>oB o (jX (.bool b))
noncomputable def chkS(N:Nm)(K:DN)(lm:Bool)(sc:GW)(tb:List Str):S->List Gq->Bool
 |.bad,_=>G6
 |.nop,xs=>(match xs with|[]=>G6|x::r=>none? r && vPass x)
 |.seq a b,xs=>oB (ht? xs) λu=>chkS N K lm sc tb a [u.1] && chkS N K lm sc tb b u.2
 |.ret e,xs=>oB (one? xs) λx=>oB (vRet x) λo=>oN o (Y2 e) (chkE N K lm sc tb e)
 |.ex e,xs=>oB (one? xs) λx=>oB (kM x) λx=>Zu x && chkE N K lm sc tb e x
 |.set k e,xs=>oB (one? xs) λx=>oB (vAsg x) λt=>oB (one? t.1) λg=>oB (Zj g) λn=>XW tb k n.1 && (zu sc n.1 .local ||zu sc n.1 .cell) && (match Jp e with|true=>kT sc n.1 n.2 t.2|false=>Zu t.2) && chkE N K lm sc tb e t.2
 |.setA a f e,xs=>oB (one? xs) λx=>oB (vAsg x) λt=>oB (one? t.1) λg=>oB (Xb g) λn=>zL (N.attr f) n.2.1 && chkE N K lm sc tb e t.2 && chkE N K lm sc tb a n.1
 |.setI a i e,xs=>oB (one? xs) λx=>oB (vAsg x) λt=>oB (one? t.1) λg=>oB (vSub g) λn=>ZE n.2 && chkE N K lm sc tb e t.2 && chkE N K lm sc tb a n.1 && chkE N K lm sc tb i n.2
 |.unp ks e,xs=>oB (one? xs) λx=>oB (vAsg x) λt=>oB (one? t.1) λg=>oB (vTup g) λts=>Kq t.2 && Zu t.2 && oB (ye ts) (ksOk sc tb ks) && chkE N K lm sc tb e t.2
 |.unp2 wF wG a b,xs=>oB (one? xs) λx=>oB (vAsg x) λt=>oB (one? t.1) λg=>oB (vTup g) λts=>oB (two? ts) λl=>oB (Zj l.1) λm=>oB (Zj l.2) λn=>oB (vTup t.2) λrs=>oB (two? rs) λr=>
   Yl r.1 && zT r.2 && Gi n.2.line m.2.line && !zL m.1 n.1 && ksOk sc tb [wF,wG] [m.1,n.1] && chkE N K lm sc tb a r.1 && chkE N K lm sc tb b r.2
 |.ifs c a b,xs=>oB (one? xs) λx=>oB (vIfS x) λt=>chkE N K lm sc tb c t.1 && chkS N K lm sc tb a t.2.1 && chkS N K lm sc tb b t.2.2
 |.whl c b,xs=>oB (one? xs) λx=>oB (vWhl x) λt=>none? t.2.2 && chkE N K lm sc tb c t.1 && chkS N K lm sc tb b t.2.1
 |.for_ k e b,xs=>oB (one? xs) λx=>oB (vFor x) λt=>oB (Zj t.1) λn=>none? t.2.2.2 && ksOk sc tb [k] [n.1] && yZ t.2.1 && chkE N K lm sc tb e t.2.1 && chkS N K lm sc tb b t.2.2.1
 |.forT ks e b,xs=>oB (one? xs) λx=>oB (vFor x) λt=>oB (vTup t.1) λts=>none? t.2.2.2 && !none? ts && oB (ye ts) (ksOk sc tb ks) && yZ t.2.1 && chkE N K lm sc tb e t.2.1 && chkS N K lm sc tb b t.2.2.1
 |.brk,xs=>oB (one? xs) vBrk
 |.raise f as,xs=>oB (one? xs) λx=>oB (kL x) λt=>t.2.isNone && oB t.1 (chkE N K lm sc tb (.call f as))
 |.fault k e,xs=>oB (one? xs) λx=>oB (vRet x) λo=>oB o (chkE N K lm sc tb (.call k (.cons e .nil)))
 |.tryc g k,xs=>oB (two? xs) λx=>oB (vTry x.1) λt=>!lm && sc.names.all (λp=>!Zo p.2 .cell) && none? t.2.2.1 && none? t.2.2.2 && oB (one? t.1) (λy=>oB (kM y) λz=>Zu z && chkE N K lm sc tb (.call g (.cons (.l 0) .nil)) z) &&
   oB (one? t.2.1) (λh=>oB (vHan h) λh=>oB (Zj h.1) (λn=>oB (N.glob k) (λy=>zL y n.1) && zu sc n.1 .globalImplicit && !zL n.1 "__debug__") && retB G7 h.2) && retB G6 [x.2]
structure FSc (T:Tp) (lm:Bool) (sc:GW) (f:Fm):Prop where
 glob:∀x,zu sc x .globalImplicit=G6->f.fe.kindOf x=G3 .globalImplicit
 cell:∀x,zu sc x .cell=G6->f.fe.kindOf x=G3 .cell
 loc:∀x,zu sc x .local=G6->f.fe.kindOf x=G3 .local
 lam:lm=G6->∃cn cs a cl,f.fe=envX cn cs f.L a (.ref T.tabC) cl/\(cn++".<locals>."++"<lambda>":Str)=T.lamQ
theorem FSc.cx{T:Tp}{lm:Bool}{sc:GW}{f:Fm}(S:FSc T lm sc f)(m cm:Str->Option G9)(G:Lg):ScOk T lm sc (f.cx m cm G):=⟨S.glob,S.cell,S.lam⟩
inductive FlOk (T:Tp) (E:Lg) (ρ:Rn):Fl->Flow->Prop
 |next:FlOk T E ρ .next .next
 |brk:FlOk T E ρ .brk .brk
 |ret {v:V} {u:G9}:VR T E ρ v u->FlOk T E ρ (.ret v) (.ret u)
inductive SPost (T:Tp) (f:Fm) (s:Gh) (ρ:Rn) (E:Lg) (tb:List Str) (ex:Lg) (Q:KS) (fl:Flow) (s':Gh):Prop
 |mk (h':Do) (tk:Nat) (m' cm':Str->Option G9) (Gc':Lg) (F:Fl) (L':Lc) (H':Hp) (ρ':Rn) (E':Lg):s'={s with heap:=h',toks:=tk}->CG cm' f.fe.cells Gc'->(f.cx m' cm' (ex++Gc')).Rep T H' ρ' E' h'->Ext E ρ E' ρ'->LOk T tb (f.cx m' cm' (ex++Gc')) E' ρ' L'->FlOk T E' ρ' F fl->Q F L' H'->SPost T f s ρ E tb ex Q fl s'
theorem SPost.up{T:Tp}{f:Fm}{s:Gh}{ρ:Rn}{E:Lg}{tb:List Str}{ex:Lg}{Q:KS}{fl:Flow}{s':Gh}{h₁:Do}{tk₁:Nat}{ρ₁:Rn}{uQ:Lg}(x:Ext E ρ uQ ρ₁) :
  SPost T f {s with heap:=h₁,toks:=tk₁} ρ₁ uQ tb ex Q fl s'->SPost T f s ρ E tb ex Q fl s'
 |⟨h',tk,m',cm',Gc',F,L',H',ρ',E',e,cg,R,x',lk,fo,q⟩=>⟨h',tk,m',cm',Gc',F,L',H',ρ',E',e,cg,R,x.trans x',lk,fo,q⟩
def XRf(RX:RxT)(f:Fm)(ex:Lg)(s:Gh)(ρ:Rn)(E:Lg)(X:Nat->Hp->Prop)(Er:G9->Gh->Prop):Prop:=∀m cm G,(∀q∈ex,q∈G)->∀e s',XPost RX (f.cx m cm G) s ρ E X e s'->Er e s'
theorem XRf.up{RX:RxT}{f:Fm}{ex:Lg}{s:Gh}{ρ:Rn}{E:Lg}{X:Nat->Hp->Prop}{Er:G9->Gh->Prop}{h₁:Do}{tk₁:Nat}{ρ₁:Rn}{uQ:Lg}(h:XRf RX f ex s ρ E X Er)(x:Ext E ρ uQ ρ₁):XRf RX f ex {s with heap:=h₁,toks:=tk₁} ρ₁ uQ X Er:=
 λm cm G hg e s' q=>h m cm G hg e s' (q.up x)
theorem XRf.more{RX:RxT}{f:Fm}{ex:Lg}{s:Gh}{ρ:Rn}{E:Lg}{X:Nat->Hp->Prop}{Er:G9->Gh->Prop}{p:Gx×Obj}(h:XRf RX f ex s ρ E X Er):XRf RX f (p::ex) s ρ E X Er:=λm cm G hg=>h m cm G λq hq=>hg q (.tail _ hq)
def StOk(RX:RxT)(T:Tp)(P:Prg)(N:Nm)(O:Orc)(d w:Nat)(st:S):Prop:=∀{xs:List Gq} {f:Fm} {lm:Bool} {sc:GW} {tb:List Str} {X:Nat->Hp->Prop} {L:Lc} {H:Hp} {Q:KS} {ρ:Rn} {E:Lg} {s:Gh} {Er:G9->Gh->Prop} {m cm:Str->Option G9} {ex Gc:Lg},
 chkS N T.K lm sc tb st xs=G6->tb.Nodup->f.Ok T d->FSc T lm sc f->Mn.ex P O X w st L H Q->CG cm f.fe.cells Gc->(f.cx m cm (ex++Gc)).Rep T H ρ E s.heap->LOk T tb (f.cx m cm (ex++Gc)) E ρ L->
 PassesOwn (Gy T.prog T.w) f.A f.fe Er->XRf RX f ex s ρ E X Er->GA (Gy T.prog T.w) f.A (execs xs f.fe) (SPost T f s ρ E tb ex Q) Er s
section
variable {RX:RxT} {T:Tp} {P:Prg} {N:Nm} {O:Orc} {d w:Nat}
variable {f:Fm} {s:Gh} {ρ:Rn} {E:Lg} {H:Hp} {Er:G9->Gh->Prop} {m cm:Str->Option G9} {ex Gc:Lg} {tb:List Str} {L:Lc} {Q:KS}
theorem zC(x:Gq)(env:Env):execs [x] env=exec x env:=by
 rw[execs_cons];have:(λf:Flow=>match f with|.next=>execs [] env|f=>pure f)=(pure:Flow->Sem Flow):=by
  funext f
  rcases f<;>rfl
 show(exec x env >>= λf=>match f with|.next=>execs [] env|f=>pure f)=_;rw[this,bind_pure]
theorem SPost.here{F:Fl}{fl:Flow}{tk:Nat}(cg:CG cm f.fe.cells Gc)(R:(f.cx m cm (ex++Gc)).Rep T H ρ E s.heap)(lk:LOk T tb (f.cx m cm (ex++Gc)) E ρ L)(fo:FlOk T E ρ F fl)(q:Q F L H):SPost T f s ρ E tb ex Q fl {s with toks:=tk}:=
 ⟨s.heap,tk,m,cm,Gc,F,L,H,ρ,E,rfl,cg,R,Ext.refl _ _,lk,fo,q⟩
theorem st_bad:StOk RX T P N O d w .bad:=by intro xs f lm sc tb X L H Q ρ E s Er m cm ex Gc hc nd F S he cg R Lk PO XR;exact Du he
theorem st_nop:StOk RX T P N O d w .nop:=by
 intro xs f lm sc tb X L H Q ρ E s Er m cm ex Gc hc nd F S he cg R Lk PO XR
 induction xs using D8 with
 |nil=>exact I5 (SPost.here (F:=.next) (tk:=s.toks) cg R Lk .next he)
 |cons x r=>refine zh (an2 hc) ?_;clear hc;intro h1 h2;obtain rfl:=zB h1;refine zj (iPass h2) λp rq1=>?_;subst rq1;rw[zC];exact wpAny_Pass (SPost.here (F:=.next) (tk:=s.toks) cg R Lk .next he)
theorem st_seq{a b:S}(ia:StOk RX T P N O d w a)(ib:StOk RX T P N O d w b):StOk RX T P N O d w (.seq a b):=by
 intro xs f lm sc tb X L H Q ρ E s Er m cm ex Gc hc nd F S he cg R Lk PO XR;refine zf (iHt hc) ?_;clear hc;intro x xs rq2 hc;subst rq2;replace hc:=an2 hc;have:=ia hc.1 nd F S he cg R Lk PO XR;rw[zC] at this;refine FR (Gu this (λfl s' p=>?_) λ_ _ e=>e);obtain⟨h',tk,m',cm',Gc',fl',L',H',ρ',E',rfl,cg',R',x',lk',fo,q⟩:=p;cases fo
 ·exact Gu (ib (s:={s with heap:=h',toks:=tk}) hc.2 nd F S q cg' R' lk' PO (XR.up x')) (λfl s' p=>p.up x') λ_ _ e=>e
 ·exact⟨h',tk,m',cm',Gc',.brk,L',H',ρ',E',rfl,cg',R',x',lk',.brk,q⟩
 ·exact⟨h',tk,m',cm',Gc',_,L',H',ρ',E',rfl,cg',R',x',lk',.ret (by assumption),q⟩
theorem Z1{e:Mn.E}(ih:EvOk RX T P N O d e){x:G8}{lm:Bool}{sc:GW}{X:Nat->Hp->Prop}{Q:V->Hp->Prop}{K:G9->Gh->Prop}(hc:chkE N T.K lm sc tb e x=G6)(F:f.Ok T d)(S:FSc T lm sc f)(he:ev P O e X L H Q)(cg:CG cm f.fe.cells Gc)
  (R:(f.cx m cm (ex++Gc)).Rep T H ρ E s.heap) (Lk:LOk T tb (f.cx m cm (ex++Gc)) E ρ L) (XR:XRf RX f ex s ρ E X Er)
  (k:∀u v h' tk H' ρ' E',(f.cx m cm (ex++Gc)).Rep T H' ρ' E' h'->Ext E ρ E' ρ'->VR T E' ρ' v u->Q v H'->LOk T tb (f.cx m cm (ex++Gc)) E' ρ' L->XRf RX f ex {s with heap:=h',toks:=tk} ρ' E' X Er->K u {s with heap:=h',toks:=tk}) :
  GA (Gy T.prog T.w) f.A (Ft x f.fe) K Er s:=by
 refine Gu (ih (c:=f.cx m cm (ex++Gc)) hc (F.cx cg) (S.cx _ _ _) he R Lk (XR m cm (ex++Gc) λ_ h=>Gg _ h)) (λu s' p=>?_) λ_ _ e=>e;obtain⟨h',tk,v,H',ρ',E',rfl,R',x',hv,q⟩:=p;exact k u v h' tk H' ρ' E' R' x' hv q (Lk.ext x') (XR.up x')
theorem trOk_f{e:Mn.E}(ih:TrOk RX T P N O d e){x:G8}{lm:Bool}{sc:GW}{X:Nat->Hp->Prop}{Q:Bool->Hp->Prop}{K:Bool->Gh->Prop}(hc:chkE N T.K lm sc tb e x=G6)(F:f.Ok T d)(S:FSc T lm sc f)(he:ev P O e X L H (tq Q))(cg:CG cm f.fe.cells Gc)
  (R:(f.cx m cm (ex++Gc)).Rep T H ρ E s.heap) (Lk:LOk T tb (f.cx m cm (ex++Gc)) E ρ L) (XR:XRf RX f ex s ρ E X Er)
  (k:∀b h' tk H' ρ' E',(f.cx m cm (ex++Gc)).Rep T H' ρ' E' h'->Ext E ρ E' ρ'->Q b H'->LOk T tb (f.cx m cm (ex++Gc)) E' ρ' L->XRf RX f ex {s with heap:=h',toks:=tk} ρ' E' X Er->K b {s with heap:=h',toks:=tk}) :
  GA (Gy T.prog T.w) f.A (isTrue x f.fe (Ft x f.fe)) K Er s:=by
 refine Gu (ih (c:=f.cx m cm (ex++Gc)) hc (F.cx cg) (S.cx _ _ _) he R Lk (XR m cm (ex++Gc) λ_ h=>Gg _ h)) (λu s' p=>?_) λ_ _ e=>e;obtain⟨h',tk,H',ρ',E',rfl,R',x',q⟩:=p;exact k u h' tk H' ρ' E' R' x' q (Lk.ext x') (XR.up x')
theorem st_ret{e:Mn.E}(ih:EvOk RX T P N O d e):StOk RX T P N O d w (.ret e):=by
 intro xs f lm sc tb X L H Q ρ E s Er m cm ex Gc hc nd F S he cg R Lk PO XR;refine za (iOne hc) ?_;clear hc;intro x rq1 hc;subst rq1;refine zf (iRet hc) ?_;clear hc;intro vo p rq2 hc;subst rq2;rw[zC]
 induction vo using GD with
 |some x=>refine wpAny_Return_some (Z1 ih hc F S he cg R Lk XR λu v h' tk H' ρ' E' R' x' hv q Lk' XR'=>?_);exact⟨h',tk,m,cm,Gc,.ret v,L,H',ρ',E',rfl,cg,R',x',Lk',.ret hv,q⟩
 |none=>obtain rfl:=jN hc;exact wpAny_Return_none (SPost.here (F:=.ret .none) (tk:=s.toks) cg R Lk (.ret VR.none) he)
theorem Xe{v:G8}{t:Option G8}{n:Nat}{env:Env}(h:Zu v=G6):swapsWith v t n env=pure G7:=by
 rcases v<;>first|rfl|exact absurd h G4
theorem j3{env:Env}(h:env.scope.kind= .function):interactive env=G7:=by unfold interactive;rw[h];rfl
theorem Z8{k:Nat}{x:Str}(h:XW tb k x=G6):tb[k]?=G3 x:=by refine za (ya h) ?_;clear h;intro y e h;rw[e,eqStr_iff.mp h]
theorem st_ex{e:Mn.E}(ih:EvOk RX T P N O d e):StOk RX T P N O d w (.ex e):=by intro xs f lm sc tb X L H Q ρ E s Er m cm ex Gc hc nd F S he cg R Lk PO XR;refine za (iOne hc) ?_;clear hc;intro x rq1 hc;subst rq1;refine zf (iExpr hc) ?_;clear hc;intro x p rq2 hc;subst rq2;replace hc:=an2 hc;rw[zC];refine wpAny_Expr ?_ (j3 F.kd) (Xe hc.1);refine Z1 ih hc.2 F S he cg R Lk XR λu v h' tk H' ρ' E' R' x' hv q Lk' XR'=>?_;refine zh (ZG q) ?_;clear q;intro rq0 q;subst rq0;obtain rfl:=hv.ofNone;exact⟨h',tk,m,cm,Gc,.next,L,H',ρ',E',rfl,cg,R',x',Lk',.next,q⟩
theorem st_brk:StOk RX T P N O d w .brk:=by intro xs f lm sc tb X L H Q ρ E s Er m cm ex Gc hc nd F S he cg R Lk PO XR;refine za (iOne hc) ?_;clear hc;intro x rq1 hc;subst rq1;refine zj (iBrk hc) λp rq1=>?_;subst rq1;rw[zC];exact wpAny_Break (SPost.here (F:=.brk) (tk:=s.toks) cg R Lk .brk he)
theorem st_ifs{b:Mn.E}{st se:S}(ib:TrOk RX T P N O d b)(ia:StOk RX T P N O d w st)(ie:StOk RX T P N O d w se):StOk RX T P N O d w (.ifs b st se):=by
 intro xs f lm sc tb X L H Q ρ E s Er m cm ex Gc hc nd F S he cg R Lk PO XR;refine za (iOne hc) ?_;clear hc;intro x rq1 hc;subst rq1;refine Z2 (iIfS hc) ?_;clear hc;intro t xs ys p rq4 hc;subst rq4;refine zP (an3 hc) ?_;clear hc;intro h1 h2 h3;rw[zC];refine wpAny_If (trOk_f ib h1 F S (Q:=λq H₁=>ite2 q (Mn.ex P O X w st L H₁ Q) (Mn.ex P O X w se L H₁ Q)) he cg R Lk XR λq h' tk H' ρ' E' R' x' hq Lk' XR'=>?_)
 induction q using GN with
 |true=>exact Gu (ia (s:={s with heap:=h',toks:=tk}) h2 nd F S hq cg R' Lk' PO XR') (λfl s' p=>p.up x') λ_ _ e=>e
 |false=>exact Gu (ie (s:={s with heap:=h',toks:=tk}) h3 nd F S hq cg R' Lk' PO XR') (λfl s' p=>p.up x') λ_ _ e=>e
theorem kinds{sc:GW}{x:Str}{lm:Bool}(S:FSc T lm sc f)(h:(zu sc x .local ||zu sc x .cell)=G6):f.fe.kindOf x=G3 .local∨f.fe.kindOf x=G3 .cell:=by
 rcases Dg.mp h with h|h
 ·exact .inl (S.loc x h)
 ·exact .inr (S.cell x h)
theorem km{wy h:Do}{L:Gx}{m:Str->Option G9}{G:Lg}{D:Gx}{ys:List G9}{vs:List V}(R:Mn.Rep T wy L m ((D,lst ys)::G) H ρ E h)(hv:VRs T E ρ vs ys)(hl:vs.length<=1000) :
  Mn.Rep T wy L m G (H++[.list vs]) (ρ++[(D,D)]) ((D,lst ys)::E) h/\Ext E ρ ((D,lst ys)::E) (ρ++[(D,D)])/\(ρ++[(D,D)])[H.length]?=G3 (D,D):=by
 refine za (id R.N) λtb hb N=>?_;exact Rep.takeG (ob':=lst ys) R hb R.F N (o:=.list vs) ⟨ys,ys.length,Gn ..,hv.ext ⟨λ_ _ e=>e,λp hp _=>Go _ hp⟩,hl⟩ rfl
theorem set_comp{k:Nat}{x:Str}{p q pos:Pos}{y ix tg:G8}{ifs:List G8}{rest:List I1}{sc csc:GW}{lm:Bool}{cl:List (Str×Gx)}(F:f.Ok T d)(S:FSc T lm sc f)(nd:tb.Nodup)(h1:XW tb k x=G6)
  (h3:kT sc x p (.ListComp y (⟨tg,ix,ifs,0⟩::rest) csc pos)=G6) (hns:yZ ix=G6) (hclos:closureFor csc f.fe=pure cl) (Kc:CscOk sc csc) (cg:CG cm f.fe.cells Gc) (Lk:LOk T tb (f.cx m cm (ex++Gc)) E ρ L)
  (core:∀{RR:G9->Gx->Result->Gh->Prop},(∀D Cc h' tk oC m' ys vs H' ρ' E',Mn.Rep T f.wy f.L m ((Cc,oC)::(D,lst ys)::(ex++Gc)) H' ρ' E' h'->Ext E ρ E' ρ'->NsObj oC m'->VRs T E' ρ' vs ys->
    gd (Gj vs.length 1000) (Q .next (setL k (.obj H'.length) L) (H'++[.list vs]))->RR (.ref D) Cc (.ok .next) {s with heap:=h',toks:=tk})->
   GA (Gy T.prog T.w) f.A (Ft ix f.fe) (λxv wV=>GA (Gy T.prog T.w) f.A (pyIter xv) (λit wW=>GA (Gy T.prog T.w) f.A (newList []) (λacc wX=>
    GA (Gy T.prog T.w) f.A (newFunctionEnv csc f.fe.globals cl [] f.fe.qual Gb .none (G3 f.fe)) (λcenv wY=>
     DI (Gy T.prog T.w) f.A (.compStart (.ListComp y (⟨tg,ix,ifs,0⟩::rest) csc pos) 0 it acc {cenv with scope:=relabel csc f.fe}) (RR acc cenv.locals) wY) Er wX) Er wW) Er wV) Er s) :
  GA (Gy T.prog T.w) f.A (exec (.Assign [.Name x p] (.ListComp y (⟨tg,ix,ifs,0⟩::rest) csc pos) q) f.fe) (SPost T f s ρ E tb ex Q) Er s:=by
 refine zP (an3 h3) ?_;clear h3;intro g1 g2 g3;have hloc:=S.loc x g1;have hsw:swapsWith (.ListComp y (⟨tg,ix,ifs,0⟩::rest) csc pos) (G3 (.Name x p)) q.line f.fe=pure G6:=by
  have hbk:f.fe.blockKind= .function:=by unfold Env.blockKind;rw[F.kd];rfl
  have hany:(csc.names.any λ(n,k)=>n==x && (k==.local ||k==.cell))=G7:=by
   rw[List.any_eq_false];intro⟨n,k⟩ hm;have:=Gz.mp g3 (n,k) hm;simp only[Bool.or_eq_true,Dd] at this;simp only[Dc,Bool.or_eq_true,beq_iff_eq,not_and,not_or];rintro rfl;rcases this with e|e
   ·rw[eqStr_iff.mpr rfl] at e;cases e
   ·rw[F4] at e;refine⟨λq=>?_,λq=>?_⟩
    ·rw[q] at e;exact absurd e.1 (by decide)
    ·rw[q] at e;exact absurd e.2 (by decide)
  show(pure (f.fe.blockKind==.function && f.fe.kindOf x==G3 .local && p.line==pos.line && !(csc.names.any λ(n,k)=>n==x && (k==.local ||k==.cell))):Sem Bool)=pure G6;rw[hbk,hloc,hany,natE.mp g2];simp
 rw[exec_Assign_Name_used _ _ _ _ hsw];refine Ge (Dl (Ge ?_));show GA _ f.A (do let _ ←comprehension (.ListComp y (⟨tg,ix,ifs,0⟩::rest) csc pos) csc f.fe _ (newList []) G7 (Ft ix f.fe) (G3 (IT (.Name x p) f.fe))) _ _ s;refine Ge (Gu (wpAny_comprehension_free (use:=G3 (IT (.Name x p) f.fe)) (Q:=λ_ s'=>SPost T f s ρ E tb ex Q .next s') rfl (Zt hns) hclos Kc.kd Kc.loc
  (core (RR:=λacc Cc=>compPost (Gy T.prog T.w) f.A Er (G3 (IT (.Name x p) f.fe)) (λ_ s'=>SPost T f s ρ E tb ex Q .next s') acc Cc) (λD Cc h' tk oC m' ys vs H' ρ' E' R' x' no vr qq=>?_))) (λ_ s' hq=>Gv (Gv hq)) λ_ _ e=>e)
 refine zh (gd_iff.mp qq) ?_;clear qq;intro gl qq;refine zP (km (R'.perm (Fd _ _ _)) vr (natB.mp gl)) λR2 x2 hr=>?_;have R2:(f.cx m cm (((Cc,oC)::ex)++Gc)).Rep T (H'++[.list vs]) (ρ'++[(D,D)]) ((D,lst ys)::E') h':=R2;show GA _ f.A (IT (.Name x p) f.fe (.ref D)) _ _ _;refine FB (Zf (s:={s with heap:=h',toks:=tk}) (ex:=(Cc,oC)::ex) F cg R2 ((Lk.ext x').ext x2) (.inl hloc) (Z8 h1) nd (.obj hr) λh'' tk'' m'' cm' Gc' cg' R'' Lk''=>?_);refine za (id R''.N) λW1 w9 Uk=>?_;refine⟨m',no.ns (Uk (Cc,oC) (by simp[Fm.cx])).1,λh3 hs3=>?_⟩;have R3:(f.cx m'' cm' (ex++Gc')).Rep T (H'++[.list vs]) (ρ'++[(D,D)]) ((D,lst ys)::E') h3:=Rep.dropG R'' hs3.extBut;exact⟨h3,tk'',m'',cm',Gc',.next,_,_,_,_,rfl,cg',R3,x'.trans x2,Lk'',.next,qq⟩
theorem KO{e:Mn.E}(h:Jp e=G6):∃a b c n l,e= .comp a b c n l:=by
 rcases e<;>first|exact absurd h G4|exact⟨_,_,_,_,_,rfl⟩
theorem st_set{e:Mn.E}(k:Nat)(ih:EvOk RX T P N O d e)(hcomp:∀elt iter cond n caps,e= .comp elt iter cond n caps->EvOk RX T P N O d iter/\EvOk RX T P N O d elt/\TrOk RX T P N O d cond):StOk RX T P N O d w (.set k e):=by
 intro xs f lm sc tb X L H Q ρ E s Er m cm ex Gc hc nd F S he cg R Lk PO XR;have hsh:∃x p v q,xs=[.Assign [.Name x p] v q]/\XW tb k x=G6/\(zu sc x .local ||zu sc x .cell)=G6/\(match Jp e with|true=>kT sc x p v|false=>Zu v)=G6/\chkE N T.K lm sc tb e v=G6:=by refine za (iOne hc) ?_;clear hc;intro x rq1 hc;subst rq1;refine zA (iAsg hc) ?_;clear hc;intro ts v q rq3 hc;subst rq3;refine za (iOne hc) ?_;clear hc;intro t e1 hc;obtain rfl:ts=[t]:=e1;refine zf (Yf hc) ?_;clear hc;intro x p rq2 hc;subst rq2;exact⟨x,p,v,q,rfl,an4 hc⟩
 refine XL (hsh) ?_;clear hsh;intro x p v q rq4 h1 h2 h3 h4;subst rq4;rw[zC]
 induction hic:Jp e using GN with
 |false=>rw[hic] at h3;refine wpAny_Assign_Name ?_ (Xe h3);refine Z1 ih h4 F S he cg R Lk XR λu v h' tk H' ρ' E' R' x' hv q Lk' XR'=>?_;refine Zf (s:={s with heap:=h',toks:=tk}) F cg R' Lk' (kinds S h2) (Z8 h1) nd hv λh'' tk'' m' cm' Gc' cg' R'' Lk''=>?_;exact⟨h'',tk'',m',cm',Gc',.next,_,H',ρ',E',rfl,cg',R'',x',Lk'',.next,q⟩
 |true=>
  rw[hic] at h3;refine YX (KO hic) λelt iter cond n caps rq=>?_;subst rq
  ·refine zP (hcomp _ _ _ _ _ rfl) λii ie ic=>?_;obtain⟨y,tg,ix,ifs,csc,pos,ts,ht,hn,hsc,hns,hci,hce,hcc⟩:=Xz h4;refine JK (compSc hsc) λKc k1 k2 k3 k4=>?_;have C:=F.cx (m:=m) (ex:=ex) cg;refine za (YU C (S.cx m cm (ex++Gc)) Kc) λcl hclos hcl=>?_;replace he:ev P O iter X L H (compF P O elt cond n caps L λvs H₂=>gd (Gj vs.length 1000) (Q .next (setL k (.obj H₂.length) L) (H₂++[.list vs]))):=he;exact set_comp (m:=m) (cm:=cm) F S nd h1 h3 hns hclos Kc cg Lk λfin=>jk (c:=f.cx m cm (ex++Gc)) ii ie ic C (S.cx m cm (ex++Gc)) Kc hcl ht k1 k2 k4 hn hci hce hcc R Lk (XR m cm (ex++Gc) λ_ h=>Gg _ h) fin he
theorem jz{v o:G8}{a:Str}{p:Pos}{n:Nat}{env:Env}:swapsWith v (G3 (.Attribute o a p)) n env=pure G7:=by rcases v<;>rfl
theorem sw_sub{v o i:G8}{p:Pos}{n:Nat}{env:Env}:swapsWith v (G3 (.Subscript o i p)) n env=pure G7:=by rcases v<;>rfl
theorem st_setA(K:TpOk T P N){a e:Mn.E}(g:Nat)(ia:EvOk RX T P N O d a)(ih:EvOk RX T P N O d e):StOk RX T P N O d w (.setA a g e):=by
 intro xs f lm sc tb X L H Q ρ E s Er m cm ex Gc hc nd F S he cg R Lk PO XR;have hsh:∃o n p v q,xs=[.Assign [.Attribute o n p] v q]/\zL (N.attr g) n=G6/\chkE N T.K lm sc tb e v=G6/\chkE N T.K lm sc tb a o=G6:=by refine za (iOne hc) ?_;clear hc;intro x rq1 hc;subst rq1;refine zA (iAsg hc) ?_;clear hc;intro ts v q rq3 hc;subst rq3;refine za (iOne hc) ?_;clear hc;intro t e1 hc;obtain rfl:ts=[t]:=e1;refine zA (jO hc) ?_;clear hc;intro o n p rq3 hc;subst rq3;exact⟨o,n,p,v,q,rfl,an3 hc⟩
 refine xe5c4 (hsh) ?_;clear hsh;intro o n p v q rq5 h1 h2 h3;subst rq5;rw[eqStr_iff] at h1;subst h1;rw[zC];refine Fa (Z1 ih h2 F S he cg R Lk XR λu v' h' tk H' ρ' E' R' x' hv q' Lk' XR'=>?_) jz;refine Z1 (s:={s with heap:=h',toks:=tk}) ia h3 F S q' cg R' Lk' XR' λu2 v2 h2 tk2 H2 ρ2 E2 R2 x2 hv2 q2 Lk2 XR2=>?_;refine Z3 (jZ q2) ?_;clear q2;intro i k fs rq3 e1 q2;subst rq3;refine zh (gd_iff.mp q2) ?_;clear q2;intro ha q2;replace ha:=an2 ha;refine zf (hv2.ofObj) λaa dd rq2 hi=>?_;subst rq2;rw[K.nat];exact setA_ok (s:={s with heap:=h2,toks:=tk2}) K (F.cx cg) R2 e1 hi ha.1 (natL.mp ha.2) (hv.ext x2) λh3 tk3 E3 R3 x3=>
  ⟨h3,tk3,m,cm,Gc,.next,_,_,_,_,rfl,cg,R3,(x'.trans x2).trans x3,Lk2.ext x3,.next,q2⟩
theorem Kf{c:Cx}{i n:Nat}{vs:List V}{a dd:Gx}{v:V}{u:G9}{tk:Tok}{K:Unit->Gh->Prop}{prog:Di}{wo:Fb}{A:Dh}(R:c.Rep T H ρ E s.heap)(e1:H[i]?=G3 (.list vs))(hi:ρ[i]?=G3 (a,dd))(hn:n < vs.length)(hv:VR T E ρ v u)
  (h:∀h' E',c.Rep T (H.set i (.list (vs.set n v))) ρ E' h'->Ext E ρ E' ρ->K () {s with heap:=h'}):GA (Gy prog wo) A (setItem (.ref a) (.int (n:Int) tk) u) K Er s:=by
 refine yz (R.isList e1 hi) λus k hm hl hvs hlim=>?_;refine XM (R.split hm) λuQ uR tb he hb Nw n1 n2=>?_;have hz:us.length=vs.length:=hvs.length.symm;have hm':s.heap.get? a=G3 (Fq us.toArray k):=R.inNews hm;have hlim':vs.length<=1000:=hlim;refine ki_setAt hm' (om62) (om63 hn hlim') (by rw[GH];exact om64 hn hz) ?_;have hx:=Nw (a,Fq us.toArray k) (by simp);have hset:us.toArray.setIfInBounds (n:Int).toNat u=(us.set n u).toArray:=by simp
 have N':FW c.wy c.L (s.heap.update a (Obj.mapSeq (·.setIfInBounds (n:Int).toNat u))) (uQ++(a,Fq (us.set n u).toArray k)::(uR++(T.tab,tb)::c.G)):=
  ki_turn (·.setIfInBounds (n:Int).toNat u) Nw n1 n2 hset (by simp)
 obtain⟨R',x'⟩:=R.put (o:=.list vs) (o':=.list (vs.set n v)) (x:=a) e1 hi (by simp[zZ]) he hb rfl (λ_=>rfl) (R.F.change (Fc ..) hx.2.1 hx.2.2) N' λx=>⟨_,k,by simp,(hvs.ext x).set n (hv.ext x),by rw[List.length_set];exact hlim⟩;exact h _ _ R' x'
theorem Kg{c:Cx}{i:Nat}{es:List (List Nat×V)}{k:List Nat}{a dd:Gx}{v:V}{u:G9}{tk:Tok}{K:Unit->Gh->Prop}{A:Dh}(R:c.Rep T H ρ E s.heap)(e1:H[i]?=G3 (.dict es))(hi:ρ[i]?=G3 (a,dd))(hn:es.length < 1000)(hv:VR T E ρ v u)
  (h:∀h' tk E',c.Rep T (H.set i (.dict (setD k v es))) ρ E' h'->Ext E ρ E' ρ->K () {s with heap:=h',toks:=tk}):GA (Gy T.prog T.w) A (setItem (.ref a) (.str (strL k) tk) u) K Er s:=by
 refine Ye (R.objAt e1 hi) λo kvs hm hd hvs hlim hs=>?_;refine XM (R.split hm) λuQ uR tb he hb Nw n1 n2=>?_;have hm':s.heap.get? a=G3 o:=R.inNews hm;have hlen:es.length=kvs.length:=hvs.length;refine Ke (k:=strL k) (ID T.prog T.w _ _) hm' hd (λh' o' ho' hd' sb=>?_) (by rw[D7];exact om65 hn hlen);have hx:=Nw (a,o) (by simp);have N':FW c.wy c.L h' (uQ++(a,o')::(uR++(T.tab,tb)::c.G)):=news_set Nw n1 n2 sb ho';have hf:Z0 o=G7:=by refine yK (hd) ?_;clear hd;intro es' _ h2 _;exact Zi h2
 have hl2:(setD k v es).length<=lim:=by have:=(YL k v hvs hd.choose_spec.2.2.2.2 hv).length;have:=stored_length_le kvs (strL k) u;simp only[lim];exact on1 hn hlen (by assumption) this
 obtain⟨R',x'⟩:=R.put (o:=.dict es) (o':=.dict (setD k v es)) (x:=a) e1 hi (by simp[zZ]) he hb hf (λ_=>rfl) (R.F.change sb hx.2.1 hx.2.2) N' λx=>
  ⟨o',FJ kvs (strL k) u,by simp,hd',YL k v (hvs.ext x) hd.choose_spec.2.2.2.2 (hv.ext x),hl2,hs⟩
 exact h _ _ _ R' x'
theorem setI_iff{k u:V}{v:V}{H:Hp}{Q:Hp->Prop}(h:(match kd k with
  |2=>intP k λn=>natP n λn=>atL u H λj vs=>gd (D0 n vs.length) (Q (H.set j (.list (vs.set n v))))
  |_=>strP k λs=>atD u H λj es=>gd (D0 es.length 1000) (Q (H.set j (.dict (setD s v es)))))) :
  (∃n j vs,k= .int (.ofNat n)/\u= .obj j/\H[j]?=G3 (.list vs)/\D0 n vs.length=G6/\Q (H.set j (.list (vs.set n v))))∨
  ∃x j es,k= .str x/\u= .obj j/\H[j]?=G3 (.dict es)/\D0 es.length 1000=G6/\Q (H.set j (.dict (setD x v es))):=by
 induction k using V.casesOn with
 |int n=>obtain⟨n,rfl,h⟩:=yE (f:=λn=>atL u H λj vs=>gd (D0 n vs.length) (Q (H.set j (.list (vs.set n v))))) h;obtain⟨j,vs,e,e1,h⟩:=yn h;obtain⟨h1,h⟩:=gd_iff.mp h;exact .inl ⟨n,j,vs,rfl,e,e1,h1,h⟩
 |str x=>obtain⟨j,es,e,e1,h⟩:=XF (f:=λj es=>gd (D0 es.length 1000) (Q (H.set j (.dict (setD x v es))))) h;obtain⟨h1,h⟩:=gd_iff.mp h;exact .inr ⟨x,j,es,rfl,e,e1,h1,h⟩
 |_=>exact h.elim
theorem st_setI{a i e:Mn.E}(ia:EvOk RX T P N O d a)(ii:EvOk RX T P N O d i)(ih:EvOk RX T P N O d e):StOk RX T P N O d w (.setI a i e):=by
 intro xs f lm sc tb X L H Q ρ E s Er m cm ex Gc hc nd F S he cg R Lk PO XR;have hsh:∃o j p v q,xs=[.Assign [.Subscript o j p] v q]/\ZE j=G6/\chkE N T.K lm sc tb e v=G6/\chkE N T.K lm sc tb a o=G6/\chkE N T.K lm sc tb i j=G6:=by refine za (iOne hc) ?_;clear hc;intro x rq1 hc;subst rq1;refine zA (iAsg hc) ?_;clear hc;intro ts v q rq3 hc;subst rq3;refine za (iOne hc) ?_;clear hc;intro t e1 hc;obtain rfl:ts=[t]:=e1;refine zA (iSub hc) ?_;clear hc;intro o j p rq3 hc;subst rq3;exact⟨o,j,p,v,q,rfl,an4 hc⟩
 refine kD (hsh) ?_;clear hsh;intro o j p v q rq5 h1 h2 h3 h4;subst rq5;rw[zC];refine wpAny_Assign_Subscript (Z1 ih h2 F S he cg R Lk XR λu v' h' tk H' ρ' E' R' x' hv q' Lk' XR'=>?_) sw_sub;refine Z1 (s:={s with heap:=h',toks:=tk}) ia h3 F S q' cg R' Lk' XR' λu2 v2 h2 tk2 H2 ρ2 E2 R2 x2 hv2 q2 Lk2 XR2=>?_;refine Z1 (s:={s with heap:=h2,toks:=tk2}) ii h4 F S q2 cg R2 Lk2 XR2 λu3 v3 h3 tk3 H3 ρ3 E3 R3 x3 hv3 q3 Lk3 XR3=>?_;replace q3:=setI_iff q3;rcases q3 with⟨n,j,vs,rfl,rfl,e1,ha,q3⟩|⟨kk,j,es,rfl,rfl,e1,ha,q3⟩
 ·refine zf (hv2.ofObj) λaa dd rq2 hi=>?_;subst rq2;refine zj (hv3.ofInt) λt rq1=>?_;subst rq1;exact Kf (s:={s with heap:=h3,toks:=tk3}) R3 e1 (x3.pre _ _ hi) (natL.mp ha) ((hv.ext x2).ext x3) λh4 E4 R4 x4=>
   ⟨h4,tk3,m,cm,Gc,.next,_,_,_,_,rfl,cg,R4,((x'.trans x2).trans x3).trans x4,Lk3.ext x4,.next,q3⟩
 ·refine zf (hv2.ofObj) λaa dd rq2 hi=>?_;subst rq2;refine zj (hv3.ofStr) λt rq1=>?_;subst rq1;exact Kg (s:={s with heap:=h3,toks:=tk3}) R3 e1 (x3.pre _ _ hi) (natL.mp ha) ((hv.ext x2).ext x3) λh4 tk4 E4 R4 x4=>
   ⟨h4,tk4,m,cm,Gc,.next,_,_,_,_,rfl,cg,R4,((x'.trans x2).trans x3).trans x4,Lk3.ext x4,.next,q3⟩
theorem Rep.toHeap{wy h h':Do}{L:Gx}{m:Str->Option G9}{G:Lg}(R:Mn.Rep T wy L m G H ρ E h)(he:Heap.ExtBut h.objs.size h h'):Mn.Rep T wy L m G H ρ E h':=by refine za (R.N) λtb hb N=>?_;exact⟨R.F.extBut he (GI _),⟨tb,hb,N.extBut he (GI _)⟩,R.nd,R.len,R.enc,R.ft⟩
theorem jr{prog:Di}{wo:Fb}{A:Dh}{lm:Bool}{sc:GW}{Qu:Unit->Gh->Prop}(F:f.Ok T d)(S:FSc T lm sc f)(nd:tb.Nodup):∀{es:List G8} {ts:List Str} {ks:List Nat} {vs:List V} {us:List G9} {L L₁:Lc} {m cm:Str->Option G9} {Gc:Lg} {s:Gh},ye es=G3 ts->ksOk sc tb ks ts=G6->VRs T E ρ vs us->ZY ks vs L=G3 L₁->
   CG cm f.fe.cells Gc->(f.cx m cm (ex++Gc)).Rep T H ρ E s.heap->LOk T tb (f.cx m cm (ex++Gc)) E ρ L->
   (∀h' tk m' cm' Gc',CG cm' f.fe.cells Gc'->(f.cx m' cm' (ex++Gc')).Rep T H ρ E h'->LOk T tb (f.cx m' cm' (ex++Gc')) E ρ L₁->Qu () {s with heap:=h',toks:=tk})->
   GA (Gy prog wo) A (II ((Ib es f.fe).map (·.2)) us) Qu Er s:=by
 intro es
 induction es with
 |nil=>
  intro ts ks vs us L L₁ m cm Gc s ht hk hv hl cg R Lk h;have:=Zv ht;subst this
  induction ks using D8 with
  |cons _ _=>exact absurd hk G4
  |nil=>
   induction vs using D8 with
   |cons _ _=>exact nn hl
   |nil=>cases hv;obtain rfl:=Gm hl;exact assignInOrder_nil (h s.heap s.toks m cm Gc cg R Lk)
 |cons e es ih=>
  intro ts ks vs us L L₁ m cm Gc s ht hk hv hl cg R Lk h;refine Z3 (yb ht) λx q ts' rq3 rq4 ht'=>?_;subst rq3;subst rq4
  induction ks using D8 with
  |nil=>exact absurd hk G4
  |cons k ks=>
   refine zP (an3 hk) ?_;clear hk;intro k1 k2 k3;cases hv with
   |nil=>exact nn hl
   |@cons v u vs us hv hvs=>show GA _ _ (II (IT (.Name x q) f.fe::(Ib es f.fe).map (·.2)) (u::us)) _ _ _;refine Ia (FB (Zf F cg R Lk (.inl (S.loc x k2)) (Z8 k1) nd hv λh₁ tk₁ wK UH U1 UE Uq Ud=>?_));exact ih ht' k3 hvs hl UE Uq Ud λh' tk m' cm' Gc' cg' R' Lk'=>h h' tk m' cm' Gc' cg' R' Lk'
theorem Jj{sc:GW}: ∀{ks:List Nat} {xs:List Str},ksOk sc tb ks xs=G6->ks.length=xs.length:=by
 intro ks
 induction ks with
 |nil=>
  intro xs h;exact by obtain rfl:=zB h;rfl
 |cons k ks ih=>intro xs h;refine zf (iHt h) ?_;clear h;intro x r rq2 h;subst rq2;exact congrArg (·+ 1) (ih (an3 h).2.2)
theorem XX:∀{ks:List Nat} {vs:List V} {L L₁:Lc},ZY ks vs L=G3 L₁->ks.length=vs.length:=by
 intro ks
 induction ks with
 |nil=>
  intro vs y1 y2 h;exact by cases vs with
  |nil=>rfl
  |cons _ _=>exact nn h
 |cons k ks ih=>
  intro vs L L₁ h;exact by cases vs with
  |nil=>exact nn h
  |cons v vs=>exact congrArg (·+ 1) (ih h)
theorem kO{v:V}{vs:List V}(h:kP v H=G3 vs):v= .tup vs∨∃i,v= .obj i/\H[i]?=G3 (.list vs):=by
 induction v using V.casesOn with
 |tup us=>exact .inl (congrArg V.tup (Gm h))
 |obj i=>
  have h:(match H[i]? with|some (.list vs)=>G3 vs|_=>Gb)=G3 vs:=h
  induction e:H[i]? using GD with
  |none=>rw[e] at h;exact nn h
  |some o=>
   rw[e] at h
   induction o using O.casesOn with
   |list us=>cases Gm h;exact .inr ⟨i,rfl,e⟩
   |_=>exact nn h
 |_=>exact nn h
theorem XP{v:V}{u:G9}{es:List G8}{kk pos}{ts:List Str}{ks:List Nat}{vs:List V}{lm:Bool}{sc:GW}{L L₁:Lc}{Qu:Unit->Gh->Prop}{prog:Di}{wo:Fb}(F:f.Ok T d)(S:FSc T lm sc f)(nd:tb.Nodup)
  (e:kP v H=G3 vs)
  (hn:ye es=G3 ts) (hk:ksOk sc tb ks ts=G6) (hv:VR T E ρ v u) (hl:ZY ks vs L=G3 L₁) (cg:CG cm f.fe.cells Gc) (R:(f.cx m cm (ex++Gc)).Rep T H ρ E s.heap) (Lk:LOk T tb (f.cx m cm (ex++Gc)) E ρ L)
  (h:∀h' tk m' cm' Gc',CG cm' f.fe.cells Gc'->(f.cx m' cm' (ex++Gc')).Rep T H ρ E h'->LOk T tb (f.cx m' cm' (ex++Gc')) E ρ L₁->Qu () {s with heap:=h',toks:=tk}) :
  GA (Gy prog wo) f.A (IT (.Tuple es kk pos) f.fe u) Qu Er s:=by
 refine zh (Jz (env:=f.fe) hn) λe1 e2=>?_;have e3:=Jj hk;have e4:=XX hl;replace e:=kO e;rcases e with rfl|⟨i,rfl,h1⟩
 ·refine zF (hv.ofTup) λus a rq2 htu hvs=>?_;subst rq2;have e5:=hvs.length;refine assign_Tuple_tuple F.hh (R.isTup F.X htu) (by rw[e1,GH];exact om66 e3 e4 e5) e2 λh₁ he=>?_;exact jr (s:={s with heap:=h₁}) F S nd hn hk hvs hl cg (Rep.toHeap R he) Lk h
 ·refine zf (hv.ofObj) λaa dd rq2 hi=>?_;subst rq2;refine yz (R.isList h1 hi) λus n hm hil hvs hlim=>?_;have e5:=hvs.length;refine za (id R.N) λW0 hb Nw=>?_;refine kun_list R.F Nw hil F.hh (by rw[e1,GH];exact om66 e3 e4 e5) e2 λh₁ F' N'=>?_;have R':(f.cx m cm (ex++Gc)).Rep T H ρ E h₁:=⟨F',⟨W0,hb,N'⟩,R.nd,R.len,R.enc,R.ft⟩;exact jr (s:={s with heap:=h₁}) F S nd hn hk hvs hl cg R' Lk h
theorem tup_sole{ts:List G8}{k:Nat}{tp:Pos}{v:G8}{ln:Nat}{env:Env}:swapsWithSole [.Tuple ts k tp] v ln env=pure G7:=by rcases v<;>rfl
theorem tup_swap{ts:List G8}{k:Nat}{tp:Pos}{v:G8}{env:Env}(h:Kq v=G6):swappedStores [.Tuple ts k tp] v env=pure Gb:=by rcases v<;>first|rfl|exact absurd h G4
theorem st_unp(ks:List Nat){e:Mn.E}(ih:EvOk RX T P N O d e):StOk RX T P N O d w (.unp ks e):=by
 intro xs f lm sc tb X L H Q ρ E s Er m cm ex Gc hc nd F S he cg R Lk PO XR;have hsh:∃ts kk p v q zs,xs=[.Assign [.Tuple ts kk p] v q]/\Kq v=G6/\Zu v=G6/\ye ts=G3 zs/\ksOk sc tb ks zs=G6/\chkE N T.K lm sc tb e v=G6:=by refine za (iOne hc) ?_;clear hc;intro x rq1 hc;subst rq1;refine zA (iAsg hc) ?_;clear hc;intro ts v q rq3 hc;subst rq3;refine za (iOne hc) ?_;clear hc;intro t e1 hc;obtain rfl:ts=[t]:=e1;refine zA (iTup hc) ?_;clear hc;intro ts kk p rq3 hc;subst rq3;refine ZB (an4 hc) ?_;clear hc;intro h1 h2 h3 h4;refine za (ya h3) ?_;clear h3;intro zs hz h3;exact⟨ts,kk,p,v,q,zs,rfl,h1,h2,hz,h3,h4⟩
 refine xe6c6 (hsh) ?_;clear hsh;intro ts kk p v q zs rq6 h1 h2 h3 h4 h5;subst rq6;rw[zC];refine Assign_Tuple (Z1 ih h5 F S he cg R Lk XR λu v' h' tk H' ρ' E' R' x' hv q' Lk' XR'=>?_) tup_sole (tup_swap h1);refine za (zq q') ?_;clear q';intro vs hvs q';refine za (zq q') ?_;clear q';intro L₁ hl q';exact XP (s:={s with heap:=h',toks:=tk}) F S nd hvs h3 h4 hv hl cg R' Lk' λh2 tk2 m2 cm2 Gc2 cg2 R2 Lk2=>
  ⟨h2,tk2,m2,cm2,Gc2,.next,_,_,_,_,rfl,cg2,R2,x',Lk2,.next,q'⟩
theorem JL{wF wG:Nat}{a b:Mn.E}{xs:List Gq}{lm:Bool}{sc:GW}(hc:chkS N T.K lm sc tb (.unp2 wF wG a b) xs=G6):∃x p y q k1 t1 v w k2 t2 ps,xs=[.Assign [.Tuple [.Name x p,.Name y q] k1 t1] (.Tuple [v,w] k2 t2) ps]/\Yl v=G6/\zT w=G6/\Gi q.line p.line=G6/\(!zL x y)=G6/\ksOk sc tb [wF,wG] [x,y]=G6/\chkE N T.K lm sc tb a v=G6/\chkE N T.K lm sc tb b w=G6:=by refine za (iOne hc) ?_;clear hc;intro x rq1 hc;subst rq1;refine zA (iAsg hc) ?_;clear hc;intro ts v q rq3 hc;subst rq3;refine za (iOne hc) ?_;clear hc;intro t e1 hc;obtain rfl:ts=[t]:=e1;refine zA (iTup hc) ?_;clear hc;intro ts k1 t1 rq3 hc;subst rq3;refine zf (iTwo hc) ?_;clear hc;intro x y rq2 hc;subst rq2;refine zf (Yf hc) ?_;clear hc;intro x p rfl' hc;refine zf (Yf hc) ?_;clear hc;intro y r rfl'' hc;cases rfl';cases rfl'';refine zA (iTup hc) ?_;clear hc;intro rs k2 t2 rfl' hc;refine zf (iTwo hc) ?_;clear hc;intro v1 w1 rq2 hc;subst rq2;cases rfl';exact⟨_,_,_,_,_,_,_,_,_,_,_,rfl,an7 hc⟩
theorem Yb{α:Type}{c:Prop}[Decidable c]{x y r:α}(h:¬c)(k:y=r):(if c then x else y)=r:=(if_neg h).trans k
theorem or_ff{a b:Bool}(h:a=G7)(k:b=G7):¬(a ||b)=G6:=λq=>(Dg.mp q).elim (λe=>G4 (h.symm.trans e)) (λe=>G4 (k.symm.trans e))
theorem YF{w:G8}(h:zT w=G6):(λx:G8=>PySem.swappedStores.match_5 (λ_=>Bool) x (λ_ _=>G6) λ_=>G7) w=G7:=by
 rcases w<;>first|rfl|exact absurd h G4
theorem sw_tail{names:List Str}{x y:Str}{vs:List G8}(n:names=[x,y])(hne:x≠y)(h3:vs.all (FZ 8)=G7)(h4:vs.all (FL 8)=G7) :
  (if (names.length != 2 ||names.eraseDups.length != names.length)=G6 then pure Gb else if vs.all (FZ 8)=G6 then pure Gb else if vs.all (FL 8)=G6 then (do let r ←(unsupported "assign.tuple-of-constant-expressions:order-of-the-stores":Sem PUnit);(λ_=>pure (G3 names)) r) else pure (G3 names):Sem (Option (List Str)))=pure (G3 [x,y]):=by
 subst n;refine Yb (or_ff rfl ?_) (Yb (λq=>G4 (h3.symm.trans q)) (Yb (λq=>G4 (h4.symm.trans q)) rfl));rw[List.eraseDups_cons,Fe (by rw[beq_false_of_ne (Mc hne)];rfl)];rfl
theorem jy{fe:Env}{x y:Str}{p q:Pos}{kk1 kk2:Nat}{t1 t2:Pos}{v w':G8}(hbk:fe.blockKind= .function) 
  (h0:zT v=G6) (h3:FZ 8 v=G7) (h4:FL 8 v=G7)
  (h2:zT w'=G6) (hx:fe.kindOf x=G3 .local) (hy:fe.kindOf y=G3 .local) (hne:x≠y) (hl:q.line=p.line) :
  swappedStores [.Tuple [.Name x p,.Name y q] kk1 t1] (.Tuple [v,w'] kk2 t2) fe=pure (G3 [x,y]):=by
 unfold swappedStores;refine Yb (or_ff rfl (by rw[hbk];rfl)) (Yb (or_ff (YF h0) (Bool.eq_false_iff.mpr (or_ff (YF h2) rfl))) ?_);refine sw_tail (vs:=[v,w']) ((List.filterMap_cons_some (b:=x) ?_).trans (congrArg (x::·) (List.filterMap_cons_some (b:=y) ?_))) hne (congrArg (· && _) h3) (congrArg (· && _) h4)
 ·show(if (fe.kindOf x==G3 NameKind.local && p.line==p.line)=G6 then G3 x else Gb)=G3 x;rw[hx,beq_self_eq_true p.line];rfl
 ·show(if (fe.kindOf y==G3 NameKind.local && q.line==p.line)=G6 then G3 y else Gb)=G3 y;rw[hy,hl,beq_self_eq_true p.line];rfl
theorem Xj{v:G8}(h1:Yl v=G6):zT v=G6:=(Dg.mp h1).elim (λe=>by rw[zT,GE e];rfl) (λe=>by rw[zT,GE e];rfl)
theorem jx{fe:Env}{x y:Str}{p q:Pos}{kk1 kk2:Nat}{t1 t2:Pos}{v w':G8}(hbk:fe.blockKind= .function)(h1:Yl v=G6)(h2:zT w'=G6)(hx:fe.kindOf x=G3 .local)(hy:fe.kindOf y=G3 .local)(hne:x≠y)(hl:q.line=p.line) :
  swappedStores [.Tuple [.Name x p,.Name y q] kk1 t1] (.Tuple [v,w'] kk2 t2) fe=pure (G3 [x,y]):=by
 have key:zT v=G6/\FZ 8 v=G7/\FL 8 v=G7:=(Dg.mp h1).elim
  (λe=>IL (motive_1:=λv=>zT v=G6/\FZ 8 v=G7/\FL 8 v=G7) v (GE e) λ_ _=>⟨rfl,rfl,rfl⟩)
  (λe=>IK (motive_1:=λv=>zT v=G6/\FZ 8 v=G7/\FL 8 v=G7) v (GE e) λ_ _ _ _=>⟨rfl,rfl,rfl⟩)
 exact jy hbk key.1 key.2.1 key.2.2 h2 hx hy hne hl
theorem st_unp2(wF wG:Nat){a b:Mn.E}(ia:EvOk RX T P N O d a)(ib:EvOk RX T P N O d b):StOk RX T P N O d w (.unp2 wF wG a b):=by
 intro xs f lm sc tb X L H Q ρ E s Er m cm ex Gc hc nd F S he cg R Lk PO XR;obtain⟨x,p,y,q,kk1,t1,v,w',kk2,t2,ps,rfl,h1,h2,h3,h4,h5,h6,h7⟩:=JL hc;rw[zC];refine zP (an3 h5) ?_;clear h5;intro g1 g2 h5;refine zP (an3 h5) ?_;clear h5;intro g3 g4 _;have hne:x≠y:=λe=>by rw[e,eqStr_iff.mpr rfl] at h4;cases h4
 have hx:=S.loc x g2;have hy:=S.loc y g4;have hbk:f.fe.blockKind= .function:=by unfold Env.blockKind;rw[F.kd];rfl
 have hsw:=jx (kk1:=kk1) (kk2:=kk2) (t1:=t1) (t2:=t2) hbk h1 h2 hx hy hne (natE.mp h3);refine Assign_Tuple_swapped ?_ rfl hsw;have CC:(f.cx m cm (ex++Gc)).Ok T d:=F.cx cg;refine Tuple_ (args_cons (Z1 ia h6 F S he cg R Lk XR λu1 z1 h' tk H' ρ' E' R' x' hv q' Lk' XR'=>?_) (Z7 (Xj h1)));refine args_cons (Z1 (s:={s with heap:=h',toks:=tk}) ib h7 F S q' cg R' Lk' XR' λu2 z2 h2' tk2 H2 ρ2 E2 R2 x2 hv2 q2 Lk2 XR2=>?_) (Z7 h2);refine args_nil ?_;refine za (R2.N) λtb' hb Nw=>?_;refine newTuple_N (s:={s with heap:=h2',toks:=tk2}) R2.F Nw (λh3 F3 N3=>?_) (by rw[D7];simp);refine zh (R2.one hb F3 N3 (yI Nw)) λR3 x3=>?_;have R3:(f.cx m cm (ex++Gc)).Rep T H2 ρ2 _ h3:=R3;have ht:IsTup h3 h2'.objs.size [u1,u2].toArray:=by have q:=(N3 _ (Gn ..)).1;exact⟨_,q,rfl,_,rfl⟩
 show GA _ _ (unpackItems (.ref h2'.objs.size) [u1,u2].toArray.size Gb) _ _ _;refine unpackItems_tuple (s:={s with heap:=h3,toks:=tk2}) F.hh ht λh4 he4=>?_;have R4:=Rep.toHeap R3 he4;have R4:(f.cx m cm (ex++Gc)).Rep T H2 ρ2 _ h4:=R4;show GA _ _ (II [λv=>bindName f.fe y v,λv=>bindName f.fe x v] [u2,u1]) _ _ _;have nk:wF≠wG:=λe=>by have:=Z8 g1;rw[e,Z8 g3] at this;cases this;exact hne rfl
 refine Ia (bindName_ (Zf (s:={s with heap:=h4,toks:=tk2}) F cg R4 (Lk2.ext x3) (.inl hy) (Z8 g3) nd (hv2.ext x3) λh5 tk5 m5 cm5 Gc5 cg5 R5 Lk5=>?_));refine Ia (bindName_ (Zf (s:={s with heap:=h5,toks:=tk5}) F cg5 R5 Lk5 (.inl hx) (Z8 g1) nd ((hv.ext x2).ext x3) λh6 tk6 m6 cm6 Gc6 cg6 R6 Lk6=>?_));refine assignInOrder_nil ?_;refine⟨h6,tk6,m6,cm6,Gc6,.next,_,H2,ρ2,_,rfl,cg6,R6,(x'.trans x2).trans x3,?_,.next,q2⟩;have:setL wG z2 (setL wF z1 L)=setL wF z1 (setL wG z2 L):=by unfold setL;rw[List.set_comm _ _ nk]
 rw[this];exact Lk6
end
section
variable {prog:Di} {w:Fb} {A:Dh} {E:G9->Gh->Prop} {s:Gh}
theorem Zz{R:Result->Gh->Prop}{target:G8}{it:G9}{body:List Gq}{env:Env}(I:Nat->Gh->Prop)
  (turn:∀n s,I n s->GA (Gy prog w) A (pyNext it) (λr wV=>match r with
   |none=>R (.ok .next) wV
   |some v=>GA (Gy prog w) A (IQ target it v) (λ_ wU=>GA (Gy prog w) A (IT target env v) (λ_ wW=>GA (Gy prog w) A (execs body env) (λf wX=>match f with
     |.next|.cont=>∃m,m < n/\I m wX
     |.brk=>R (.ok .next) wX
     |.ret v=>R (.ok (.ret v)) wX) (M1 (Gy prog w) A env λe s'=>R (.error e) s') wW) (M1 (Gy prog w) A env λe s'=>R (.error e) s') wU) (M1 (Gy prog w) A env λe s'=>R (.error e) s') wV) (M1 (Gy prog w) A env λe s'=>R (.error e) s') s)
  (n:Nat) (h:I n s):DI (Gy prog w) A (.forLoop target it body [] env) R s:=by
 refine codeAny_loop' rfl I (λn s hI=>?_) n h;show GA _ _ ((forTurn target it body [] env).onRaise (λx=>do noteFrame x env;theTreesLotGoes x)) _ _ s;refine wpAny_noted ?_;simp only[forTurn];refine Ge (Dl (Ge (wpAny_onRaise (Gu (turn n s hI) (λr wV h₁=>?_) λ_ _ h'=>Dl h'))))
 induction r using GD with
 |none=>exact Gv (.inr ⟨rfl,codeAny_block (I5 h₁)⟩)
 |some v=>
  refine Ge (Gu h₁ (λ_ wU wy=>?_) λ_ _ h'=>h');refine Ge (Gu wy (λ_ wW wA=>Ge (Gu wA (λf wX wB=>?_) λ_ _ h'=>h')) λ_ _ h'=>h');cases f with
  |next=>exact Gv (.inl ⟨rfl,wB⟩)
  |cont=>exact Gv (.inl ⟨rfl,wB⟩)
  |brk=>exact Gv wB
  |ret v=>exact Gv wB
end
section
variable {RX:RxT} {T:Tp} {P:Prg} {N:Nm} {O:Orc} {d w:Nat}
variable {f:Fm} {s:Gh} {ρ:Rn} {E:Lg} {H:Hp} {Er:G9->Gh->Prop} {m cm:Str->Option G9} {ex Gc:Lg} {tb:List Str} {L:Lc} {Q:KS}
def AsOk(T:Tp)(f:Fm)(tb:List Str)(ks:List Nat)(one:Bool)(tg:G8):Prop:=
 ∀{v:V} {u:G9} {L L₁:Lc} {m cm:Str->Option G9} {Gc ex:Lg} {ρ:Rn} {E:Lg} {H:Hp} {s:Gh} {Qu:Unit->Gh->Prop} {Er:G9->Gh->Prop},ZY ks (zJ one v) L=G3 L₁->VR T E ρ v u->
  CG cm f.fe.cells Gc->(f.cx m cm (ex++Gc)).Rep T H ρ E s.heap->LOk T tb (f.cx m cm (ex++Gc)) E ρ L->
  (∀h' tk m' cm' Gc',CG cm' f.fe.cells Gc'->(f.cx m' cm' (ex++Gc')).Rep T H ρ E h'->LOk T tb (f.cx m' cm' (ex++Gc')) E ρ L₁->Qu () {s with heap:=h',toks:=tk})->
  GA (Gy T.prog T.w) f.A (IT tg f.fe u) Qu Er s
theorem asOk_one{lm:Bool}{sc:GW}{k:Nat}{x:Str}{p:Pos}(F:f.Ok T d)(S:FSc T lm sc f)(nd:tb.Nodup)(hk:ksOk sc tb [k] [x]=G6):AsOk T f tb [k] G6 (.Name x p):=by intro v u L L₁ m cm Gc ex ρ E H s Qu Er hl hv cg R Lk h;have hk:=an3 hk;obtain rfl:=Gm hl;exact FB (Zf F cg R Lk (.inl (S.loc x hk.2.1)) (Z8 hk.1) nd hv h)
theorem asOk_tup{lm:Bool}{sc:GW}{ks:List Nat}{es:List G8}{ts:List Str}{kk:Nat}{p:Pos}(F:f.Ok T d)(S:FSc T lm sc f)(nd:tb.Nodup)(hn:ye es=G3 ts)(hk:ksOk sc tb ks ts=G6)(hne:ks≠[]):AsOk T f tb ks G7 (.Tuple es kk p):=by
 intro v u L L₁ m cm Gc ex ρ E H s Qu Er hl hv cg R Lk h;have hz:∃us,v= .tup us:=by
  rcases v<;>first|exact⟨_,rfl⟩|(exfalso;simp only[zJ] at hl;have:=XX hl;exact hne (List.eq_nil_of_length_eq_zero this))
 refine zj (hz) ?_;clear hz;intro us rq1;subst rq1;exact XP F S nd rfl hn hk hv hl cg R Lk h
inductive ForI (P:Prg) (O:Orc) (T:Tp) (f:Fm) (s:Gh) (ρ:Rn) (E:Lg) (X:Nat->Hp->Prop) (w:Nat) (b:S) (ks:List Nat) (one:Bool) (it:It) (tb:List Str) (ex:Lg) (I:Gx) (Q:KS) (n:Nat) (s':Gh):Prop
 |mk (h':Do) (tk:Nat) (m' cm':Str->Option G9) (Gc':Lg) (L':Lc) (H':Hp) (ρ':Rn) (E':Lg) (j:Nat) (o:Obj):s'={s with heap:=h',toks:=tk}->CG cm' f.fe.cells Gc'->(f.cx m' cm' (((I,o)::ex)++Gc')).Rep T H' ρ' E' h'->Ext E ρ E' ρ'->
   LOk T tb (f.cx m' cm' (((I,o)::ex)++Gc')) E' ρ' L'->ItO T E' ρ' it j o->it.Sta H'->forL (Mn.ex P O X w b) ks one it (it.items.drop j) L' H' Q->j<=it.items.length->n=it.items.length+1 - j->ForI P O T f s ρ E X w b ks one it tb ex I Q n s'
theorem forL_ok{tg:G8}{one:Bool}{ks:List Nat}{it:It}{b:S}{body:List Gq}{lm:Bool}{sc:GW}{X:Nat->Hp->Prop}{I:Gx}{o:Obj}{wV:Gh}{wK UH:Str->Option G9}{U1:Lg}{L₁:Lc}{H₁:Hp}{ρ₁:Rn}{uQ:Lg}{h₁:Do}{tk₁:Nat}
  (ib:StOk RX T P N O d w b) (hb:chkS N T.K lm sc tb b body=G6) (nd:tb.Nodup) (F:f.Ok T d) (S:FSc T lm sc f) (PO:PassesOwn (Gy T.prog T.w) f.A f.fe Er) (XR:XRf RX f ex s ρ E X Er) (hA:AsOk T f tb ks one tg)
  (UN:wV={s with heap:=h₁,toks:=tk₁}) (cg:CG UH f.fe.cells U1) (R:(f.cx wK UH (((I,o)::ex)++U1)).Rep T H₁ ρ₁ uQ h₁) (We:Ext E ρ uQ ρ₁) (Lk:LOk T tb (f.cx wK UH (((I,o)::ex)++U1)) uQ ρ₁ L₁)
  (hi:ItO T uQ ρ₁ it 0 o) (st:it.Sta H₁) (he:forL (Mn.ex P O X w b) ks one it it.items L₁ H₁ Q) :
  DI (Gy T.prog T.w) f.A (.forLoop tg (.ref I) body [] f.fe) (λr s'=>match r with|.ok fl=>SPost T f s ρ E tb ex Q fl s'|.error e=>cameBackBy (Gy T.prog T.w) f.A f.fe Er e s') wV:=by
 refine Zz (ForI P O T f s ρ E X w b ks one it tb ex I Q) ?_ (it.items.length+1)
  ⟨h₁,tk₁,wK,UH,U1,L₁,H₁,ρ₁,uQ,0,o,UN,cg,R,We,Lk,hi,st,by simpa using he,DD _,rfl⟩
 rintro n s' ⟨h',tk,m',cm',Gc',L',H',ρ',E',j,o',rfl,cg',R',x',Lk',hi',st',he',hj,rfl⟩;have R':Mn.Rep T f.wy f.L m' ((I,o')::(ex++Gc')) H' ρ' E' h':=R'
 induction hd:it.items[j]? using GD with
 |none=>refine Jl (s:={s with heap:=h',toks:=tk}) F.X F.hh R' hi' st' hd λwA Ur=>?_;have hdrop:it.items.drop j=[]:=List.drop_eq_nil_of_le (List.getElem?_eq_none_iff.mp hd);rw[hdrop] at he';exact⟨wA,tk,m',cm',Gc',.next,L',H',ρ',E',rfl,cg',Ur,x',Lk',.next,he'⟩
 |some v=>
  have hlt:=(List.getElem?_eq_some_iff.mp hd).1;have hdrop:it.items.drop j=v::it.items.drop (j+1):=by rw[List.drop_eq_getElem_cons hlt,(List.getElem?_eq_some_iff.mp hd).2]
  rw[hdrop] at he';refine za (zq he') ?_;clear he';intro Uh hset he';refine j8 (s:={s with heap:=h',toks:=tk}) F.X R' hi' st' hd λwA W5 wT u Ur wg hv=>?_;refine za (id Ur.N) λW2 wa Ul=>?_;refine zF (wg.shape) λwN Wc UK UL wG=>?_;refine Jh (Ul (I,wT) (by simp)).1 UK UL wG ?_;have Ur:(f.cx m' cm' (((I,wT)::ex)++Gc')).Rep T H' ρ' E' wA:=Ur;refine hA (s:={s with heap:=wA,toks:=W5}) hset hv cg' Ur Lk' λwB W6 wL UI U2 UF Ut Uf=>?_;refine wpAny_passesOwn PO ?_;refine Gu (ib (s:={s with heap:=wB,toks:=W6}) hb nd F S he' UF Ut Uf PO (XR.up x').more) (λfl wY p=>?_) λ_ _ e=>e;obtain⟨wC,W7,wM,UJ,U3,fl',Ui,U6,ρ₄,uS,rfl,UG,Uu,Wh,wI,fo,q⟩:=p;cases fo with|next=>?_|brk=>?_|ret hr=>?_
  ·refine zh (gd_iff.mp q) ?_;clear q;intro g q;exact⟨_,by exact om67 hlt,wC,W7,wM,UJ,U3,Ui,U6,ρ₄,uS,j+1,wT,rfl,UG,Uu,x'.trans Wh,wI,wg.ext Wh,It.sta_of g,q,hlt,rfl⟩
  ·exact⟨wC,W7,wM,UJ,U3,.next,Ui,U6,ρ₄,uS,rfl,UG,Rep.lessG (ex:=[(I,wT)]) Uu,x'.trans Wh,wI,.next,q⟩
  ·exact⟨wC,W7,wM,UJ,U3,.ret _,Ui,U6,ρ₄,uS,rfl,UG,Rep.lessG (ex:=[(I,wT)]) Uu,x'.trans Wh,wI,.ret hr,q⟩
theorem for_ok{tg ix:G8}{one:Bool}{ks:List Nat}{e:Mn.E}{b:S}{body:List Gq}{pos:Pos}{lm:Bool}{sc:GW}{X:Nat->Hp->Prop}
  (ih:EvOk RX T P N O d e) (ib:StOk RX T P N O d w b) (hs:yZ ix=G6) (hx:chkE N T.K lm sc tb e ix=G6) (hb:chkS N T.K lm sc tb b body=G6) (nd:tb.Nodup) (F:f.Ok T d) (S:FSc T lm sc f) (hA:AsOk T f tb ks one tg)
  (he:ev P O e X L H λu H₁=>ifS (yC u H₁) λit=>forL (Mn.ex P O X w b) ks one it it.items L H₁ Q)
  (cg:CG cm f.fe.cells Gc) (R:(f.cx m cm (ex++Gc)).Rep T H ρ E s.heap) (Lk:LOk T tb (f.cx m cm (ex++Gc)) E ρ L) (PO:PassesOwn (Gy T.prog T.w) f.A f.fe Er) (XR:XRf RX f ex s ρ E X Er) :
  GA (Gy T.prog T.w) f.A (exec (.For tg ix body [] pos) f.fe) (SPost T f s ρ E tb ex Q) Er s:=by
 refine wpAny_For (Z1 ih hx F S he cg R Lk XR λu v h' tk H' ρ' E' R' x' hv q Lk' XR'=>?_) (Zt hs);refine za (zq q) ?_;clear q;intro it hit q
 ·refine j7 (c:=f.cx m cm (ex++Gc)) (s:={s with heap:=h',toks:=tk}) (F.cx cg) R' hv hit λo Ur hi st hil=>?_;have Ur:(f.cx m cm (((h'.objs.size,o)::ex)++Gc)).Rep T H' ρ' E' (h'.push o):=Ur;exact forL_ok (h₁:=h'.push o) (tk₁:=tk) ib hb nd F S PO XR hA rfl cg Ur x' Lk' hi st q
theorem st_for(k:Nat){e:Mn.E}{b:S}(ih:EvOk RX T P N O d e)(ib:StOk RX T P N O d w b):StOk RX T P N O d w (.for_ k e b):=by
 intro xs f lm sc tb X L H Q ρ E s Er m cm ex Gc hc nd F S he cg R Lk PO XR;have hsh:∃x q it body p,xs=[.For (.Name x q) it body [] p]/\ksOk sc tb [k] [x]=G6/\yZ it=G6/\chkE N T.K lm sc tb e it=G6/\chkS N T.K lm sc tb b body=G6:=by refine za (iOne hc) ?_;clear hc;intro x rq1 hc;subst rq1;refine kE (iFor hc) ?_;clear hc;intro tg it body oe p rq5 hc;subst rq5;refine zf (Yf hc) ?_;clear hc;intro x q e1 hc;cases e1;refine zh (an5 hc) ?_;clear hc;intro h1 hc;replace h1:=zB h1;cases h1;exact⟨_,_,_,_,_,rfl,hc⟩
 refine kD (hsh) ?_;clear hsh;intro x q it body p rq5 h1 h2 h3 h4;subst rq5;rw[zC];exact for_ok ih ib h2 h3 h4 nd F S (asOk_one F S nd h1) he cg R Lk PO XR
theorem st_forT(ks:List Nat){e:Mn.E}{b:S}(ih:EvOk RX T P N O d e)(ib:StOk RX T P N O d w b):StOk RX T P N O d w (.forT ks e b):=by
 intro xs f lm sc tb X L H Q ρ E s Er m cm ex Gc hc nd F S he cg R Lk PO XR;have hsh:∃ts kk q it body p zs,xs=[.For (.Tuple ts kk q) it body [] p]/\none? ts=G7/\ye ts=G3 zs/\ksOk sc tb ks zs=G6/\yZ it=G6/\chkE N T.K lm sc tb e it=G6/\chkS N T.K lm sc tb b body=G6:=by refine za (iOne hc) ?_;clear hc;intro x rq1 hc;subst rq1;refine kE (iFor hc) ?_;clear hc;intro tg it body oe p rq5 hc;subst rq5;refine zA (iTup hc) ?_;clear hc;intro ts kk q e1 hc;cases e1;refine ZB (an6 hc) ?_;clear hc;intro h1 h2 h3 hc;replace h1:=zB h1;cases h1;refine za (ya h3) ?_;clear h3;intro zs hz h3;exact⟨_,_,_,_,_,_,zs,rfl,(Dd _).mp h2,hz,h3,hc⟩
 obtain⟨ts,kk,q,it,body,p,zs,rfl,hnn,hz,h1,h2,h3,h4⟩:=hsh;rw[zC];have hne:ks≠[]:=λe=>by
  have l1:=Jj h1
  induction ts using D8 with
  |nil=>cases hnn
  |cons t ts=>refine Z3 (yb hz) λy q' ts' rq3 rq4 _=>?_;subst rq3;subst rq4;rw[e] at l1;cases l1
 exact for_ok ih ib h2 h3 h4 nd F S (asOk_tup F S nd hz h1 hne) he cg R Lk PO XR
def whT(P:Prg)(O:Orc)(X:Nat->Hp->Prop)(c:Mn.E):Lc->Hp->(Bool->Hp->Prop)->Prop:=λL H q=>ev P O c X L H λu H₁=>ifS (yD u H₁) λt=>q t H₁
inductive WhI (P:Prg) (O:Orc) (T:Tp) (f:Fm) (s:Gh) (ρ:Rn) (E:Lg) (X:Nat->Hp->Prop) (w:Nat) (c:Mn.E) (b:S) (tb:List Str) (ex:Lg) (Q:KS) (n:Nat) (s':Gh):Prop
 |mk (h':Do) (tk:Nat) (m' cm':Str->Option G9) (Gc':Lg) (L':Lc) (H':Hp) (ρ':Rn) (E':Lg):s'={s with heap:=h',toks:=tk}->CG cm' f.fe.cells Gc'->(f.cx m' cm' (ex++Gc')).Rep T H' ρ' E' h'->Ext E ρ E' ρ'->
   LOk T tb (f.cx m' cm' (ex++Gc')) E' ρ' L'->Yu (whT P O X c) (Mn.ex P O X w b) n L' H' Q->WhI P O T f s ρ E X w c b tb ex Q n s'
theorem kI{c:Mn.E}{b:S}{t:G8}{body:List Gq}{lm:Bool}{sc:GW}{X:Nat->Hp->Prop}{n:Nat}
  (ic:TrOk RX T P N O d c) (ib:StOk RX T P N O d w b) (hx:chkE N T.K lm sc tb c t=G6) (hb:chkS N T.K lm sc tb b body=G6) (nd:tb.Nodup) (F:f.Ok T d) (S:FSc T lm sc f) (PO:PassesOwn (Gy T.prog T.w) f.A f.fe Er) (XR:XRf RX f ex s ρ E X Er)
  (cg:CG cm f.fe.cells Gc) (R:(f.cx m cm (ex++Gc)).Rep T H ρ E s.heap) (Lk:LOk T tb (f.cx m cm (ex++Gc)) E ρ L)
  (he:Yu (whT P O X c) (Mn.ex P O X w b) n L H Q) :
  DI (Gy T.prog T.w) f.A (.whileLoop t body [] f.fe) (λr s'=>match r with|.ok fl=>SPost T f s ρ E tb ex Q fl s'|.error e=>cameBackBy (Gy T.prog T.w) f.A f.fe Er e s') s:=by
 refine codeAny_whileLoop (WhI P O T f s ρ E X w c b tb ex Q) ?_ n
  ⟨s.heap,s.toks,m,cm,Gc,L,H,ρ,E,rfl,cg,R,Ext.refl _ _,Lk,he⟩
 rintro n s' ⟨h',tk,m',cm',Gc',L',H',ρ',E',rfl,cg',R',x',Lk',he'⟩
 induction n using Nat.casesOn with
 |zero=>exact Du he'
 |succ n=>
  refine wpAny_passesOwn PO (trOk_f (s:={s with heap:=h',toks:=tk}) ic hx F S (Q:=λq H₁=>ite2 q (Mn.ex P O X w b L' H₁ λf Uh H₂=>flP f (Yu (whT P O X c) (Mn.ex P O X w b) n Uh H₂ Q) (Q .next Uh H₂) λv=>Q (.ret v) Uh H₂) (Q .next L' H₁)) he' cg' R' Lk' (XR.up x') λq wA W5 H₂ ρ₂ uR Ur Wg hq Ue UA=>?_)
  induction q using GN with
  |false=>rw[if_neg G4];exact I5 ⟨wA,W5,m',cm',Gc',.next,L',H₂,ρ₂,uR,rfl,cg',Ur,x'.trans Wg,Ue,.next,hq⟩
  |true=>
   rw[if_pos rfl];refine wpAny_passesOwn PO (Gu (ib (s:={s with heap:=wA,toks:=W5}) hb nd F S hq cg' Ur Ue PO UA) (λfl wX p=>?_) λ_ _ e=>e);obtain⟨wC,W7,wM,UJ,U3,fl',Ui,U6,ρ₄,uS,rfl,UG,Uu,Wh,wI,fo,q⟩:=p;cases fo with|next=>?_|brk=>?_|ret hr=>?_
   ·exact⟨n,Da n,wC,W7,wM,UJ,U3,Ui,U6,ρ₄,uS,rfl,UG,Uu,(x'.trans Wg).trans Wh,wI,q⟩
   ·exact⟨wC,W7,wM,UJ,U3,.next,Ui,U6,ρ₄,uS,rfl,UG,Uu,(x'.trans Wg).trans Wh,wI,.next,q⟩
   ·exact⟨wC,W7,wM,UJ,U3,.ret _,Ui,U6,ρ₄,uS,rfl,UG,Uu,(x'.trans Wg).trans Wh,wI,.ret hr,q⟩
theorem st_whl{c:Mn.E}{b:S}(ic:TrOk RX T P N O d c)(ib:StOk RX T P N O d w b):StOk RX T P N O d w (.whl c b):=by
 intro xs f lm sc tb X L H Q ρ E s Er m cm ex Gc hc nd F S he cg R Lk PO XR;have hsh:∃t body p,xs=[.While t body [] p]/\chkE N T.K lm sc tb c t=G6/\chkS N T.K lm sc tb b body=G6:=by refine za (iOne hc) ?_;clear hc;intro x rq1 hc;subst rq1;refine Z2 (iWhl hc) ?_;clear hc;intro t body oe p rq4 hc;subst rq4;refine zh (an3 hc) ?_;clear hc;intro h1 hc;replace h1:=zB h1;cases h1;exact⟨_,_,_,rfl,hc⟩
 refine Z3 (hsh) ?_;clear hsh;intro t body p rq3 h1 h2;subst rq3;rw[zC];exact wpAny_While (kI ic ib h1 h2 nd F S PO XR cg R Lk he)
theorem st_fault(k:Nat)(e:Mn.E):StOk RX T P N O d w (.fault k e):=by intro xs f lm sc tb X L H Q ρ E s Er m cm ex Gc hc nd F S he cg R Lk PO XR;exact Du he
theorem st_tryc(g k:Nat):StOk RX T P N O d w (.tryc g k):=by intro xs f lm sc tb X L H Q ρ E s Er m cm ex Gc hc nd F S he cg R Lk PO XR;exact Du he
def RaOk(RX:RxT)(T:Tp)(P:Prg)(N:Nm)(O:Orc)(d w:Nat):Prop:=∀(g:Nat) (e:Mn.E),LsOk RX T P N O d e->StOk RX T P N O d w (.raise g e)
theorem st_ok(K:TpOk T P N)(hO:js RX T O d)(hR:RaOk RX T P N O d w)(st:S):StOk RX T P N O d w st:=by
 induction st with
 |bad=>exact st_bad
 |nop=>exact st_nop
 |seq a b i_a i_b=>exact st_seq (i_a) (i_b)
 |ret e=>exact st_ret (yi K hO e).ev
 |ex e=>exact st_ex (yi K hO e).ev
 |set k e=>exact st_set k (yi K hO e).ev (λelt iter cond n caps q=>⟨(yi K hO iter).ev,(yi K hO elt).ev,(yi K hO cond).tr⟩)
 |setA a g e=>exact st_setA K g (yi K hO a).ev (yi K hO e).ev
 |setI a i e=>exact st_setI (yi K hO a).ev (yi K hO i).ev (yi K hO e).ev
 |unp ks e=>exact st_unp ks (yi K hO e).ev
 |unp2 wF wG a b=>exact st_unp2 wF wG (yi K hO a).ev (yi K hO b).ev
 |ifs c a b i_a i_b=>exact st_ifs (yi K hO c).tr (i_a) (i_b)
 |whl c b i_b=>exact st_whl (yi K hO c).tr (i_b)
 |for_ k e b i_b=>exact st_for k (yi K hO e).ev (i_b)
 |forT ks e b i_b=>exact st_forT ks (yi K hO e).ev (i_b)
 |brk=>exact st_brk
 |raise g e=>exact hR g e (yi K hO e).ls
 |fault k e=>exact st_fault k e
 |tryc g k=>exact st_tryc g k
end
inductive XcO (h:Do) (C:Gx):Prop
 |mk (nm q N bs bm hdct sn sub ab col dd k0 k1 k2 k3 k5) (hC:h.get? C=G3 (excClassObj nm q C N bs bm hdct sn sub ab col dd k0 k1 k2 k3 k5 "Exception.__new__")) (hE:bm.contains (.type "Exception")=G6) (hB:bm.contains (.type "BaseException")=G6):XcO h C
structure XcL (M:IY) (h:Do) (C:Gx):Prop where
 obj:XcO h C
 subE:I0 M h (isSubtype (.ref C) (.type "Exception")) G6
 self:I0 M h (isSubtype (.ref C) (.ref C)) G6
 nA:I0 M h (isSubtype (.ref C) (.type "AttributeError")) G7
 nN:I0 M h (isSubtype (.ref C) (.type "NameError")) G7
 call:I0 M h (specialOf (.ref C) "__call__") (G3 (.builtin "type.__call__"))
 typ:I0 M h (isInstance (.ref C) (.type "type")) G6
noncomputable abbrev Ys(C t:Gx):Obj:={cls:=.ref C,data:=.fields #[.ref t,.none,.none,.none,.bool G7,.none]}
noncomputable abbrev tupl(rest:List G9):Obj:={cls:=.type "tuple",data:=.seq rest.toArray}
section
variable {prog:Di} {w:Fb} {A:Dh} {K:DN} {C:Gx} {R:Result->Gh->Prop} {h:Do} {g:Array GenState} {d:Drawn} {t:Nat} {os:OsState}
theorem xc_new{rest:List G9}(Y:XcL (Gy prog w) h C)(hr:rest.length<=Ir)
  (hq:R (.ok (.ret (.ref (h.objs.size+1)))) ⟨(h.push (tupl rest)).push (Ys C h.objs.size),g,d,t,os⟩) :
  DI (Gy prog w) A (.call (.builtin "Exception.__new__") ⟨.ref C::rest,[]⟩) R ⟨h,g,d,t,os⟩:=by
 obtain⟨⟨nm,q,N,bs,bm,hdct,sn,sub,ab,col,dd,k0,k1,k2,k3,k5,hC,hE,_⟩,subE,self,nA,nN,call,typ⟩:=Y;have F:=PySem.F.excBase_Exception;refine codeAny_call_builtin_code (Code.quiet_builtin _ F.quiet) (wpAny_check_new_subU F hE .base hC ?_);have hends:=F.ends;refine codeAny_builtinAt F.entry ?_;unfold Builtin.«BaseException.__new__»;refine PySem.wpAt_bind ?_;show PySem.wpAt _ _ _ (stack >>= _) _ _ _;refine PySem.wpAt_bind (PySem.wpAt_stack λp below=>PySem.wpAt_of_wpAny ?_)
 wp_walk
 refine PySem.wpAt_of_wpAny ?_;rw[F.owner]
 repeat (first|with_reducible refine wpAny_madeHere_exc F.canon hC ?_|with_reducible refine Looks.at (by assumption) ?_|wp_step)
 show R _ _;rw[Il];exact hq
theorem xc_core{rest:List G9}{init:G9}(Y:XcL (Gy prog w) h C)(hi:I0 (Gy prog w) h (typeLookup (.ref C) "__init__") (G3 init))
  (hb:∀self,I0 (Gy prog w) h (bindSpecial init self) (init,[self])) (hr:rest.length<=Ir)
  (hq:DI (Gy prog w) (A.under (.builtin "type.__call__" ⟨.ref C::rest,[]⟩)) (.call init ⟨.ref (h.objs.size+1)::rest,[]⟩) (InitBack (h.objs.size+1) R) ⟨(h.push (tupl rest)).push (Ys C h.objs.size),g,d,t,os⟩) :
  DI (Gy prog w) A (.call (.ref C) ⟨rest,[]⟩) R ⟨h,g,d,t,os⟩:=by
 have Y':=Y;obtain⟨⟨nm,q,N,bs,bm,hdct,sn,sub,ab,col,dd,k0,k1,k2,k3,k5,hC,hE,_⟩,subE,self,nA,nN,call,typ⟩:=Y;refine codeAny_of_tree ?_;show GA _ _ (callAny (.ref C) _) _ _ _;refine nd_load hC ?_;show GA _ _ (callAny.viaDunder (.ref C) _) _ _ _;unfold callAny.viaDunder;refine Ge (call.at ?_);dsimp only;rw[tc_bind];refine Ge (Gv (Ge (Gv ?_)));refine Gv (a:=PySem.Fin.again (.call (.builtin "type.__call__") ⟨.ref C::rest,[]⟩)) (Ic rfl ?_);refine codeAny_call_builtin_at (Code.quiet_builtin _ (by decide+kernel)) entry_typeCall (check_slot tc_kind tc_split typ (tc_args _ _ _) ?_);unfold Builtin.«type.__call__»
 repeat (first|with_reducible refine Fz hC ?_|with_reducible refine wpAny_madeBy_exc hC ?_|with_reducible refine IC ?_|wp_step)
 refine xc_new Y' hr ?_;have k:∀b o,h.get? b=G3 o->((h.push (tupl rest)).push (Ys C h.objs.size)).get? b=G3 o:=λb o e=>Heap.get?_push_of_some _ (Heap.get?_push_of_some _ e);have hx:((h.push (tupl rest)).push (Ys C h.objs.size)).get? (h.objs.size+1)=G3 (Ys C h.objs.size):=by heap_get
 have t1:I0 (Gy prog w) ((h.push (tupl rest)).push (Ys C h.objs.size)) (typeOf (.ref (h.objs.size+1))) (.ref C):=(Looks.ld hx).andThen .now;have s1:=self.keeps k;have i1:=hi.keeps k;have b1:=(hb (.ref (h.objs.size+1))).keeps k;unfold isInstance callSpecial? specialOf
 repeat (first|with_reducible refine IC ?_|lk)
 refine FT hq λr s' z=>?_;rcases r with e|(v|_|_|_)<;>first|exact z|exact z.elim|skip
 obtain⟨rfl,z⟩:=z;exact Gv (Gv z)
end
inductive XcD (wy h:Do) (L:Gx) (news:List (Gx×Obj)) (e:Gx) (n:Nat):Option Gx->Prop
 |none:XcD wy h L news e n Gb
 |some (dx mA ns) (h1:dx≠e) (h2:h.Ns1 dx mA) (h3:Within mA ns) (h4:ns.length<=n) (h5:dx≠L) (h6:wy.get? dx=Gb) (h7:∀p∈news,p.1≠dx):XcD wy h L news e n (G3 dx)
noncomputable def X2:G9->Option Gx
 |.ref a=>G3 a
 |_=>Gb
theorem Y3{u:G9}{f:Gx->Bool}(h:oB (X2 u) f=G6):∃b,u= .ref b/\f b=G6:=by rcases u<;>first|exact absurd h G4|exact⟨_,rfl,h⟩
noncomputable abbrev excF(t:Gx):Data:=.fields #[.ref t,.none,.none,.none,.bool G7,.none]
inductive XcI (wy h:Do) (L:Gx) (news:List (Gx×Obj)) (e C:Gx) (n:Nat):Prop
 |mk (od osl t) (ho:h.get? e=G3 ⟨.ref C,od,excF t,osl⟩) (hd:XcD wy h L news e n od) (neL:e≠L) (new:wy.get? e=Gb) (out:∀p∈news,p.1≠e):XcI wy h L news e C n
def Jw(l:List G9):Bool:=List.rec (motive:=λ_=>Bool) G7 (λv r ih=>(v::r)==[.type "Exception",.type "BaseException",.type "object"] ||oB (X2 v) λ_=>ih) l
theorem Xu(self:G9){l:List G9}(e:Jw l=G6):refuseLoop self "__setattr__" l=pure ():=by
 induction l with
 |nil=>exact absurd e G4
 |cons v r ih=>
  rcases Dg.mp e with e|e
  ·rw[beq_iff_eq.mp e];exact PySem.F.store_Exception.passes self
  ·refine za (Y3 e) λc rq e=>?_;rw[rq,refuseLoop_ref];exact ih e
section
variable {prog:Di} {w:Fb} {A:Dh} {K:DN} {C e:Gx} {s:Gh} {wy:Do} {L:Gx} {m:Str->Option G9} {news:List (Gx×Obj)} {Er:G9->Gh->Prop}
theorem J2{n:Nat}{name:Str}{v:G9}{cd:ClassData}{Q:Unit->Gh->Prop}(F:Fr wy L s.heap m)(N:FW wy L s.heap news)(X:K.In s.heap)(I:XcI wy s.heap L news e C n)(hn:n<=100)
  (hcd:clsIn K C=G3 cd) (hm:Jw cd.mro=G6) (hdi:cd.hasDict=G6) (ho:mroIn K C (.type "object")=G3 G6) (hs:I8 K (.ref C) "__setattr__"= G3 (G3 (.builtin "object.__setattr__"))) (ht:I8 K (.ref C) name=G3 Gb)
  (hq:∀h' tk,Fr wy L h' m->FW wy L h' news->XcI wy h' L news e C (n+1)->Q () {s with heap:=h',toks:=tk}) :
  GA (Gy prog w) A (setAttr (.ref e) name v) Q Er s:=by
 obtain⟨hh,g,dr,tk,os⟩:=s;obtain⟨od,osl,t,ho',hdict,neL,new,out⟩:=I;have T:I0 (Gy prog w) hh (typeOf (.ref e)) (.ref C):=(Looks.ld (part:=Gb) ho').andThen .now;refine Ge (wpAny_mkText (Ge (Ge (Ge (T.at (looks_findIn X hs _ _ _ _ (λ_ _ e=>e) (GR ?_)))))));rw[PySem.F.store_Exception.slot.bind];refine Ge (Gv (Ge (IC (FT (R:=λr s'=>match r with|.ok (.ret _)=>Q () s'|.ok _=>False|.error e=>Er e s') ?_ λr s' z=>?_))))
 case refine_2=>rcases r with e|(v|_|_|_)<;>first|exact z|exact Gv (Gv z)
 have SF:=PySem.F.store_Exception;refine codeAny_call_builtin SF.slot.plain SF.entry (@check_slot (Gy prog w) _ _ ⟨hh,g,dr,tk+1,os⟩ "object.__setattr__" "object" "__setattr__" (.ref e) [.str name tk,v] [] _ SF.kind SF.split (T.andThen (FK X ho)) (SF.args (.ref e) (.str name tk) v) ?_);have hmr:I0 (Gy prog w) hh (mroOf (.ref C)) cd.mro:=(looks_clsIn X hcd).andThen .now;show GA _ _ (Builtin.«object.__setattr__» ⟨[.ref e,.str name tk,v],[]⟩) _ _ _;rw[osa_eq,refuse_eq];refine Ge (Ge (T.at (Ge (hmr.at ?_))));rw[Xu _ hm];refine Gv (Ge (T.at (Ge ((looks_findIn X ht).at (Ge (Gv ?_))))));show GA _ _ (Builtin.ObjectAttr.storeInOwnDict _ _ _ _ _ _) _ _ _;refine Ge (Gv (Ge (Ge (wpAny_loadPart ho' ?_))));refine Ge ((looks_clsIn X hcd).at ?_);rw[hdi];have fin:∀{Z:PySem.Fin->Gh->Prop} {Ez:G9->Gh->Prop} (h₁:Do) (dx:Gx) (mA:Str->Option G9) (ns:List Str),(∀h' tk',Q () ⟨h',g,dr,tk',os⟩->Z (.done (.ret .none)) ⟨h',g,dr,tk',os⟩)->h₁.get? e=G3 ⟨.ref C,G3 dx,excF t,osl⟩->Fr wy L h₁ m->FW wy L h₁ news->dx≠e->h₁.Ns1 dx mA->Within mA ns->ns.length<=n->dx≠L->wy.get? dx=Gb->(∀p∈news,p.1≠dx)->
   GA (Gy prog w) A.in1 (Builtin.ObjectAttr.storeInDict dx (.str name tk) name v) Z Ez ⟨h₁,g,dr,tk+1,os⟩:=by
  intro Z Ez h₁ dx mA ns hZ he uV Uk hne hns hw hl hL hn0 hN0;unfold Builtin.ObjectAttr.storeInDict Builtin.ObjectAttr.newKeyGuard;refine Ge (Gv (Ge (wpAny_nsSet1 hns λh' hn' hsb=>?_)));refine Z3 (hn'.count (Within.cons name v hw)) λoD esD epD hoD hdD hcD=>?_;refine Ge (wpAny_lookBehind hoD (by rw[hdD];exact pastItsLine_dict (Ga hcD (Ga (DE (Ga hl hn)) (G5 rfl)))) ?_);refine Gv (hZ _ _ (hq h' _ (uV.change hsb hL hn0) (λp hp=>⟨(hsb.2 p.1 (hN0 p hp)).trans (Uk p hp).1,(Uk p hp).2⟩) ⟨_,_,t,(hsb.2 e (Mc hne)).trans he,.some dx _ (name::ns) hne hn' (Within.cons name v hw) (DE hl) hL hn0 hN0,neL,new,out⟩))
 rcases hdict with _|⟨dx,mA,ns,h1,h2,h3,h4,h5,h6,h7⟩
 ·have wx:=Heap.get?_push_of_some (h:=hh) {cls:=.type "dict",data:=.dict #[]} ho';have hxs:e≠hh.objs.size:=D9 (Fk ho');refine Ge (wpAny_alloc' (Ge (wpAny_update' wx (Gv ?_))));have sb:Fi e (hh.push {cls:=.type "dict",data:=.dict #[]}) ((hh.push {cls:=.type "dict",data:=.dict #[]}).update e λo=>{cls:=o.cls,dict:=G3 hh.objs.size,data:=o.data,slots:=o.slots}):=Fc ..;have uV:Fr wy L (hh.push {cls:=.type "dict",data:=.dict #[]}) m:=F.push _;have hgd:(hh.push {cls:=.type "dict",data:=.dict #[]}).get? hh.objs.size=G3 {cls:=.type "dict",data:=.dict #[]}:=Heap.get?_push_at rfl rfl;refine fin _ hh.objs.size (λ_=>Gb) [] (λ_ _ z=>z) (Heap.get?_update_self _ wx rfl) (uV.change sb neL new) (λp hp=>⟨(sb.2 p.1 (out p hp)).trans (Heap.get?_push_of_some _ (N p hp).1),(N p hp).2⟩) (Mc hxs) (Heap.Ns1.of_empty ⟨_,#[],_,(sb.2 _ (Mc hxs)).trans hgd,rfl,λ_ q=>absurd q (Array.not_mem_empty _),λ_=>rfl⟩) Within.nil (DD _) (DQ F.ns.lt) ?_ λp hp=>D9 (Fk (N p hp).1);exact none_at_size F
 ·exact Gv (fin _ dx mA ns (λ_ _ z=>z) ho' F N h1 h2 h3 h4 h5 h6 h7)
theorem xc_meth{pl:Sem Bool}{Q:G9×List G9->Gh->Prop}(X:K.In s.heap)(h:Q (.builtin "Exception.__init__",[]) {s with toks:=s.toks+1}) :
  GA (Gy prog w) A (IE (.type "Exception") "__init__" pl) Q Er s:=by
 have L0:I0 (Gy prog w) s.heap (typeOf (.type "Exception")) (.type "type"):=Looks.of_pure (kitMeta_of (by decide+kernel));have LO:I0 (Gy prog w) s.heap (opaqueClassAbove (.type "Exception")) Gb:=Looks.of_pure (by unfold opaqueClassAbove;dsimp only;rw[show Manifest.isStub "Exception"= G7 from by decide+kernel];rfl);have hg:I8 K (.type "type") "__getattribute__"= G3 (G3 (.builtin "type.__getattribute__")):=type_tga;unfold IE;refine Ge (Looks.here (L0.andThen (looks_findIn X hg)) ?_);dsimp only;rw[if_pos canon_tga];refine Ge (cls_open X LO L0 hg (looks_hook X (r:=Gb) (by rfl)) (by show subIn K _ _=_;rfl) (r:=.val (.builtin "Exception.__init__")) (by kernel_rfl) ?_);refine Gv ?_;show GA _ _ (handedOut _) _ _ _;rw[handedOut_of (by decide+kernel)];exact Gv (Gv h)
theorem xc_check{M:IY}{h:Do}{g:Array GenState}{d:Drawn}{t:Nat}{os:OsState}{rest:List G9}{Q:Unit->Gh->Prop}{od:Option Gx}{osl:Array (Option G9)}{dt:Data}(he:h.get? e=G3 ⟨.ref C,od,dt,osl⟩)(hC:XcO h C)(hi:I0 M h (isInstance (.ref e) (.type "Exception")) G6)(hq:Q () ⟨h,g,d,t,os⟩) :
  GA M A (checkBuiltinCall "Exception.__init__" ⟨.ref e::rest,[]⟩) Q Er ⟨h,g,d,t,os⟩:=by
 have F:=PySem.F.excBase_Exception;have hshort:=F.noStar;obtain⟨nm,q,N,bs,bm,hdct,sn,sub,ab,col,dd,k0,k1,k2,k3,k5,hC,_,_⟩:=hC;simp only[checkBuiltinCall,F.initKind,F.initSplit,F.initRow]
 repeat (first|with_reducible refine Looks.at (by assumption) ?_|(with_reducible refine Fz he ?_)|with_reducible refine Fz hC ?_|wp_step)
 refine wpAny_onRaise ?_;rw[show ∀(a b:String) (n:Nat),Bind.check ⟨.positional,"*","Exception",.self,[⟨"args",.varPos,G7⟩]⟩ a b n (List.map (λx=>x.fst) ({pos:=Value.ref e::rest}:Args).kw)=pure () from
  λa b n=>check_star_args _ _ _ _ _ _]
 exact Gv hq
theorem xc_binit{n:Nat}{u:G9}{Q:G9->Gh->Prop}(F:Fr wy L s.heap m)(N:FW wy L s.heap news)(I:XcI wy s.heap L news e C n)(hC:XcO s.heap C)(sub:I0 (Gy prog w) s.heap (isSubtype (.ref C) (.type "Exception")) G6)
  (hq:∀h',Fr wy L h' m->FW wy L h' news->XcI wy h' L news e C n->Q .none {s with heap:=h'}) :
  GA (Gy prog w) A (call (.builtin "Exception.__init__") [.ref e,u]) Q Er s:=by
 obtain⟨od,osl,t,ho,hdict,neL,new,out⟩:=I;have F':=PySem.F.excBase_Exception;refine IC (codeAny_call_builtin F'.init.plain F'.initEntry (xc_check ho hC (((Looks.ld (part:=Gb) ho).andThen .now).andThen sub) ?_));unfold Builtin.«BaseException.__init__» newTuple;refine Ge (Iq ?_ (by show 1<=_;decide));have k:∀b o,s.heap.get? b=G3 o->(s.heap.push (tupl [u])).get? b=G3 o:=λb o q=>Heap.get?_push_of_some _ q;have ho':=k _ _ ho;have sb:Fi e (s.heap.push (tupl [u])) ((s.heap.push (tupl [u])).update e (Obj.mapFields (·.setIfInBounds 0 (.ref s.heap.objs.size)))):=Fc ..;refine Ge (Ge (wpAny_field (i:=0) ho' rfl rfl (Ge (wpAny_setField (i:=0) ho' rfl (Nat.zero_lt_succ _) ?_))));refine wpAny_letGo (Gv (hq _ ((F.push _).change sb neL new) (λp hp=>⟨(sb.2 p.1 (out p hp)).trans (k _ _ (N p hp).1),(N p hp).2⟩) ⟨od,osl,s.heap.objs.size,Heap.get?_update_self _ ho' rfl,?_,neL,new,out⟩));rcases hdict with _|⟨dx,mA,ns,h1,h2,h3,h4,h5,h6,h7⟩
 ·exact .none
 ·exact .some dx mA ns h1 (h2.at λo q=>(sb.2 _ h1).trans (k _ _ q)) h3 h4 h5 h6 h7
end
inductive XcE (wy h:Do) (L:Gx) (news:List (Gx×Obj)) (e C:Gx):Prop
 |mk (od osl t) (ho:h.get? e=G3 ⟨.ref C,od,excF t,osl⟩) (neL:e≠L) (new:wy.get? e=Gb) (out:∀p∈news,p.1≠e):XcE wy h L news e C
theorem XcI.toE{wy h:Do}{L:Gx}{news:List (Gx×Obj)}{e C:Gx}{n:Nat}(I:XcI wy h L news e C n):XcE wy h L news e C:=by rcases I with⟨od,osl,t,ho,_,neL,new,out⟩;exact⟨od,osl,t,ho,neL,new,out⟩
structure FlyNow (B:Do) (l:List Env) (a:Gx) (C a0:G9) (h:Do):Prop where
 stays:B.StaysIn h
 out:B.get? a=Gb
 frames:h.FunFrames B l
 exc:(∃oe vs,h.get? a=G3 oe/\oe.cls=C/\oe.data= .fields vs/\vs[0]?=G3 a0/\vs[1]?=G3 .none)∨h.TracedW B a C a0
section
variable {M:IY} {A:Dh} {E:G9->Gh->Prop} {s:Gh} {B:Do} {env:Env} {outer:List Env} {L a:Gx} {C a0:G9} {Q:Unit->Gh->Prop}
theorem u7(hfr:A.frames=G3 (env::outer))(hf:env.frame=G3 L)(F:FlyNow B (env::outer) a C a0 s.heap)(h:∀h',FlyNow B outer a C a0 h'->s.heap.UpToSlots h'->Q () {s with heap:=h'}):GA M A (leaving env (.ref a)) Q E s:=by
 obtain⟨f1,f2,f3,⟨oe,vs,q1,q2,q3,q4,q5⟩|q⟩:=F
 ·refine wpAny_leaving_firstW hfr f3 hf q1 f1 f2 q3 q5 q4 λh' ⟨k1,⟨_,_,k2⟩,k3,k4⟩=>h h' ⟨k1,f2,k2,.inr (q2▸k3)⟩ k4
 ·exact wpAny_leaving_nextW hfr f3 hf q f1 f2 λh' ⟨k1,⟨_,_,k2⟩,k3,k4⟩=>h h' ⟨k1,f2,k2,.inr k3⟩ k4
theorem fly_note(hfr:A.frames=G3 (env::outer))(hf:env.frame=G3 L)(F:FlyNow B (env::outer) a C a0 s.heap)(h:∀h',Heap.HeldW B (env::outer) a C a0 L h'->s.heap.UpToSlots h'->Q () {s with heap:=h'}):GA M A (noteFrame (.ref a) env) Q E s:=by
 obtain⟨f1,f2,f3,⟨oe,vs,q1,q2,q3,q4,q5⟩|q⟩:=F
 ·unfold noteFrame;simp only[hf];refine Ge (wpAny_field q1 q3 q5 ?_);rw[if_neg (by decide)];exact wpAny_entryW hfr f3 hf q1 f1 f2 q3 (Array.getElem?_eq_some_iff.mp q5).1 q4 λh' ⟨k1,k2,k3,k4⟩=>h h' ⟨k1,f2,k2,q2▸k3⟩ k4
 ·exact wpAny_noteFrame_onW hfr f3 hf q f1 f2 λh' ⟨k1,k2,k3,k4⟩=>h h' ⟨k1,f2,k2,k3⟩ k4
end
inductive FlyX (T:Tp) (c:Cx) (k:Nat) (H':Hp) (ρ':Rn) (E':Lg) (h':Do) (e:G9):Prop
 |mk (a B a0 tb) (ea:e= .ref a) (fr:∀env outer,c.A.frames=G3 (env::outer)->env.frame=G3 c.L->(∀b o,c.wy.get? b=G3 o->b∉outer.filterMap (·.frame)->B.get? b=G3 o)/\FlyNow B (env::outer) a (.ref k) a0 h') (hb:TbOk T E' tb)
   (hq:∀q∈E'++(T.tab,tb)::c.G,B.get? q.1=G3 q.2/\c.wy.get? q.1=Gb/\q.1≠c.L) (up:c.wy.UpToSlots h') (ns:h'.Ns c.L c.m) (above:c.wy.objs.size<=c.L) (nd:((E'++(T.tab,Dz #[])::c.G).map (·.1)).Nodup) (len:ρ'.length=H'.length)
   (enc:∀(i:Nat) (o:O) (a d:Gx),H'[i]?=G3 o->ρ'[i]?=G3 (a,d)->OAt T E' ρ' a d o) (ft:(foot H' ρ').Nodup):FlyX T c k H' ρ' E' h' e
theorem KY{g h:Do}{L:Gx}{m:Str->Option G9}(F:Fr g L h m):g.get? L=Gb:=by
 rcases q:g.get? L with _|o
 ·rfl
 ·exact absurd (Dk (Fk q) F.above) (DH _)
theorem ZF{g G:Do}(k:∀b o,g.get? b=G3 o->G.get? b=G3 o){b:Gx}(e:G.get? b=Gb):g.get? b=Gb:=by
 rcases q:g.get? b with _|o
 ·rfl
 ·rw[k b o q] at e;cases e
theorem X6{env:Env}{outer:List Env}{L b:Gx}(hf:env.frame=G3 L)(hm:b∈(env::outer).filterMap (·.frame)):b=L∨b∈outer.filterMap (·.frame):=by rw[IV,hf] at hm;exact Gp.mp hm
theorem nd_sub{E G Gc:Lg}{x:Gx×Obj}(hG:∀q∈Gc,q∈G)(h:((E++x::G).map (·.1)).Nodup)(nd:((x::Gc).map (·.1)).Nodup):((E++x::Gc).map (·.1)).Nodup:=by
 rw[GB] at h ⊢;obtain⟨w1,_,w3⟩:=GG.mp h;refine GG.mpr ⟨w1,nd,λa ha b hb=>w3 a ha b ?_⟩;obtain⟨q,hq,rfl⟩:=Df.mp hb;rcases Gp.mp hq with rfl|hq
 ·exact .head _
 ·exact .tail _ (D4 (f:=(·.1)) (hG q hq))
section
variable {T:Tp} {d:Nat} {c:Cx} {s:Gh} {ρ:Rn} {E:Lg} {H:Hp}
theorem fly_new(C:c.Ok T d)(R:c.Rep T H ρ E s.heap){e:Gx}{k:Nat}{tb:Obj}{h':Do}(hb:TbOk T E tb)(F:Fr c.wy c.L h' c.m)(N:FW c.wy c.L h' (E++(T.tab,tb)::c.G))(I:XcE c.wy h' c.L (E++(T.tab,tb)::c.G) e k) :
  FlyX T c k H ρ E h' (.ref e):=by
 refine JJ (C.B) λuM base outer env B hA hf hke=>?_;obtain⟨od,osl,t,i1,neL,new,out⟩:=I;have nL:=KY F;have nfr:∀b,c.wy.get? b=Gb->b∉outer.filterMap (·.frame):=λb q hm=>by obtain⟨_,o,ho,_⟩:=B.frames.mem hm;rw[q] at ho;cases ho
 have hid:∀b o,h'.get? b=G3 o->b≠e->b≠c.L->b∉outer.filterMap (·.frame)->(hideAll h' (e::(env::outer).filterMap (·.frame))).get? b=G3 o:=λb o q n1 n2 n3=>hideAll_get _ q λhm=>by
  rcases Gp.mp hm with z|z
  ·exact n1 z
  ·exact(X6 hf z).elim n2 n3
 refine⟨e,hideAll h' (e::(env::outer).filterMap (·.frame)),.ref t,tb,rfl,λenv' outer' hA' hf'=>?_,hb,λq hq=>⟨hid _ _ (N q hq).1 (out q hq) (N q hq).2.1 (nfr _ (N q hq).2.2),(N q hq).2.2,(N q hq).2.1⟩,
  Heap.UpToSlots.of_keeps F.keep,F.ns,F.above,R.nd,R.len,R.enc,R.ft⟩
 rw[hA] at hA';cases hA';refine⟨λb o q hb'=>hid b o (F.keep b o q) (λz=>by rw[z,new] at q;cases q) (λz=>by rw[z,nL] at q;cases q) hb',λb o q=>of_hideAll _ q,hideAll_none _ (.head _),?_,.inl ⟨_,_,i1,rfl,rfl,rfl,rfl⟩⟩;exact funFrames_hide (Heap.FunFrames.cons (by rw[hke];decide) hf F.ns (ZF B.stays nL) (B.frames.of_keeps λb o q _=>⟨o,F.keep b o q,rfl⟩)) λenv' he b hb'=>.tail _ (List.mem_filterMap.mpr ⟨env',he,hb'⟩)
theorem fly_out{M:IY}{Er:G9->Gh->Prop}{cc:Cx}{env' env:Env}{outer:List Env}{k:Nat}{H':Hp}{ρ':Rn}{E':Lg}{e:G9}{Q:Unit->Gh->Prop}(X:FlyX T cc k H' ρ' E' s.heap e)
  (h1:cc.A.frames=G3 (env'::env::outer)) (h2:env'.frame=G3 cc.L) (h3:c.A.frames=G3 (env::outer)) (h4:env.frame=G3 c.L) (FG:Fr c.wy c.L cc.wy c.m) (hG:∀q∈c.G,q∈cc.G) (nd:(((T.tab,Dz #[])::c.G).map (·.1)).Nodup)
  (hQ:∀h',FlyX T c k H' ρ' E' h' e->Q () {s with heap:=h'}):GA M cc.A (leaving env' e) Q Er s:=by
 obtain⟨a,B,a0,tb,rq,x1,x2,x3,up,ns,ab,nd',len,enc,ft⟩:=X;subst rq;refine zh (x1 _ _ h1 h2) λy1 y2=>?_;have nL:=KY FG;refine u7 h1 h2 y2 λh' F' U'=>hQ h' ⟨a,B,a0,tb,rfl,λUM wR US we=>?_,x2,λq hq=>?_,(Heap.UpToSlots.of_keeps FG.keep).trans (up.trans U'),(up.trans U').ns FG.ns,FG.above,?_,len,enc,ft⟩
 ·rw[h3] at US;cases US;exact⟨λb o q hb=>y1 b o (FG.keep b o q) λhm=>(X6 h4 hm).elim (λz=>by rw[z,nL] at q;cases q) hb,F'⟩
 ·have hq':q∈E'++(T.tab,tb)::cc.G:=(GL.mp hq).elim (λm=>Gg _ m) λm=>Gd _ ((Gp.mp m).elim (λz=>z▸.head _) λm=>.tail _ (hG q m));obtain⟨z1,z2,_⟩:=x3 q hq';exact⟨z1,ZF FG.keep z2,λz=>by
   obtain⟨o,_,_,ho,_⟩:=FG.ns;rw[z,ho] at z2;cases z2⟩
 ·exact nd_sub hG nd' nd
end
theorem JX:∀{names:List Str} {us:List G9} {i:Nat} {x:Str},names.Nodup->names[i]?=G3 x->(names.zip us).lookup x=us[i]?:=by
 intro names
 induction names with
 |nil=>exact λ_ h=>nn h
 |cons n names ih=>
  intro us i x nd h;rcases us with _|⟨u,us⟩
  ·rw[List.zip_nil_right];exact List.getElem?_nil.symm
  ·rw[DG,GS];rcases i with _|i
   ·rw[show n=x from Gm h,beq_self_eq_true];rfl
   ·have hm:x∈names:=List.mem_of_getElem? h;rw[beq_false_of_ne λ(e:x=n)=>(GJ.mp nd).1 (e▸hm)];exact ih (GJ.mp nd).2 h
theorem YK{names:List Str}{us:List G9}{x:Str}(h:x∉names):(names.zip us).lookup x=Gb:=by
 induction names generalizing us with
 |nil=>simp
 |cons n names ih=>
  induction us using D8 with
  |nil=>simp
  |cons u us=>simp only[Gp,not_or] at h;rw[DG,GS,beq_false_of_ne h.1];exact ih h.2
theorem ZK:∀{names:List Str} {us:List G9} {sl:List (Str×G9)},names.length=us.length->(∀(i:Nat) (x:Str),names[i]?=G3 x->sl.lookup x=us[i]?)->names.filterMap (λn=>(sl.lookup n).map (n,·))=names.zip us
 |[],us,sl,_,_=>by simp
 |n::names,[],sl,h,_=>by simp at h
 |n::names,u::us,sl,hl,h=>by have h0:=h 0 n rfl;simp only[List.getElem?_cons_zero] at h0;rw[IV,h0];simp only[I4,DG];rw[ZK (names:=names) (us:=us) (by simpa using hl) λi x hx=>by simpa using h (i+1) x (by simpa using hx)]
noncomputable def yu(b:List (Str×G9))(p:Str×G9):List (Str×G9):=if (b.lookup p.1).isNone then b++[p] else b
theorem u6:∀{ns:List Str} {ds:List G9} {sl:List (Str×G9)},(∀x∈ns,(sl.lookup x).isSome=G6)->(ns.zip ds).foldl yu sl=sl:=by
 intro ns
 induction ns with
 |nil=>
  intro y9 y2 y3;exact by simp
 |cons n ns ih=>
  intro xx sl h;rcases xx with _|⟨d,ds⟩
  ·exact by simp
  ·have h0:=h n (Gn ..);rw[DG,Fs];have:yu sl (n,d)=sl:=by
    unfold yu;rw[if_neg]
    induction e:sl.lookup n using GD with
    |none=>rw[e] at h0;cases h0
    |some _=>simp
   rw[this];exact ih λx hx=>h x (Go _ hx)
theorem zip_snoc{α β:Type}:∀{as:List α} {bs:List β} {a:α} {b:β},as.length=bs.length->(as++[a]).zip (bs++[b])=as.zip bs++[(a,b)]:=by
 intro as
 induction as with
 |nil=>
  intro xx y2 y3 h;rcases xx with _|⟨_,_⟩
  ·exact rfl
  ·exact by simp at h
 |cons z0 as ih=>
  intro xx a b h;rcases xx with _|⟨_,bs⟩
  ·exact by simp at h
  ·exact by simp only[DU,DG];rw[ih (by simpa using h)]
theorem Ju:∀{ns:List Str} {ds:List G9} {pre:List Str} {us:List G9},pre.length=us.length->(pre++ns).Nodup->ns.length=ds.length->(ns.zip ds).foldl yu (pre.zip us)=(pre++ns).zip (us++ds)
 |[],[],pre,us,_,_,_=>by simp
 |n::ns,d::ds,pre,us,hl,nd,hd=>by
  rw[DG,Fs];have hn:n∉pre:=λhm=>by have:=(GG.mp nd).2.2 n hm n (Gn ..);exact this rfl
  have:yu (pre.zip us) (n,d)=(pre++[n]).zip (us++[d]):=by unfold yu;rw[YK hn,if_pos (by rfl),zip_snoc hl]
  rw[this];have:=Ju (ns:=ns) (ds:=ds) (pre:=pre++[n]) (us:=us++[d]) (by simp[hl]) (by simpa using nd) (by simpa using hd);simpa using this
 |[],_::_,_,_,_,_,h=>by simp at h
 |_::_,[],_,_,_,_,h=>by simp at h
theorem Xt:∀(l:List (Str×G9)) (b:List (Str×G9)),
  (forIn l b λx r=>if (DS x.fst r).isNone=G6 then (pure (DK (r++[(x.fst,x.snd)])):Sem (ForInStep (List (Str×G9)))) else pure (DK r))=pure (l.foldl yu b):=by
 intro l
 induction l with
 |nil=>intro b;exact rfl
 |cons hdp l ih=>
  intro b;obtain⟨n,d⟩:=hdp;rw[List.forIn_cons,Fs];have ih:=ih (yu b (n,d))
  by_cases h:(DS n b).isNone=G6
  ·have e:yu b (n,d)=b++[(n,d)]:=by unfold yu;rw[if_pos h]
   simp only[h,if_true,pure_bind];rw[e] at ih;rw[e];exact ih
  ·have e:yu b (n,d)=b:=by unfold yu;rw[if_neg h]
   simp only[h,if_false,pure_bind,I7];rw[e] at ih;rw[e];exact ih
theorem YJ:∀{pre post:List Str} {us:List G9} {x:Str},x∈pre->pre.length<=us.length->(((pre++post).zip us).lookup x).isSome=G6:=by
 intro pre
 induction pre with
 |nil=>intro y1 y9 y3 h y5;exact nomatch h
 |cons n pre ih=>
  intro post xx x h hl;rcases xx with _|⟨u,us⟩
  ·exact absurd hl (Dj _)
  ·rw[DU,DG,GS];rcases e:x==n with _|_
   ·rcases Gp.mp h with q|q
    ·rw[q,beq_self_eq_true] at e;cases e
    ·exact ih q (Dm hl)
   ·rfl
inductive BpS (names:List Str) (us ds:List G9):Prop
 |mk (n1 n2 n3:List Str) (d1 d2:List G9):names=n1++(n2++n3)->ds=d1++d2->n1.length=names.length - ds.length->(n1++n2).length=us.length->n2.length=d1.length->n3.length=d2.length->d1.length=us.length+ds.length - names.length->BpS names us ds
theorem bp_split{names:List Str}{us ds:List G9}(h1:us.length<=names.length)(h2:names.length<=us.length+ds.length)(h3:ds.length<=names.length):BpS names us ds:=by
 have l1:(names.take (names.length - ds.length)).length=names.length - ds.length:=Io (Nat.sub_le _ _);have l2:(ds.take (us.length+ds.length - names.length)).length=us.length+ds.length - names.length:=Io (by clear l1;exact om68 h1);have l3:((names.drop (names.length - ds.length)).take (us.length+ds.length - names.length)).length=us.length+ds.length - names.length:=Io (by rw[DV];clear l1 l2;exact om69 h1 h3);refine⟨names.take (names.length - ds.length),(names.drop (names.length - ds.length)).take (us.length+ds.length - names.length),(names.drop (names.length - ds.length)).drop (us.length+ds.length - names.length),
  ds.take (us.length+ds.length - names.length),ds.drop (us.length+ds.length - names.length),?_,(Fw _ _).symm,l1,?_,l3.trans l2.symm,?_,l2⟩
 ·rw[Fw,Fw]
 ·rw[Gr,l1,l3];clear l1 l2 l3;exact om70 h2 h3
 ·rw[DV,DV,DV];clear l1 l2 l3;exact om71 h3
theorem kC{as bs:List Str}{us:List G9}(h:as.length=us.length):(as++bs).zip us=as.zip us:=by have:=List.zip_append (l₁:=as) (r₁:=bs) (l₂:=us) (r₂:=[]) h;rw[D5,List.zip_nil_right,D5] at this;exact this
theorem bp_fold{names:List Str}{us ds:List G9}(nd:names.Nodup)(b:BpS names us ds) :
  (names.take (names.length - ds.length)).filter (λn=>((names.zip us).lookup n).isNone)=[]/\
  ((names.drop (names.length - ds.length)).zip ds).foldl yu (names.zip us)=names.zip (us++ds.drop (us.length+ds.length - names.length))/\
  names.length=(us++ds.drop (us.length+ds.length - names.length)).length:=by
 obtain⟨n1,n2,n3,d1,d2,e1,e2,l1,l2,l3,l4,l5⟩:=b;have t1:names.take (names.length - ds.length)=n1:=by rw[←l1,e1];exact List.take_left
 have t2:names.drop (names.length - ds.length)=n2++n3:=by rw[←l1,e1];exact List.drop_left
 have t3:ds.drop (us.length+ds.length - names.length)=d2:=by rw[←l5,e2];exact List.drop_left
 have t4:names=(n1++n2)++n3:=by rw[e1,Gw]
 have hs:∀x∈n1++n2,((names.zip us).lookup x).isSome=G6:=λx hx=>by rw[t4];exact YJ hx (Ii l2)
 refine⟨?_,?_,?_⟩
 ·rw[t1];refine List.filter_eq_nil_iff.mpr λx hx q=>?_;have:=hs x (Gg _ hx);rw[Option.isNone_iff_eq_none.mp q] at this;cases this
 ·rw[t2,t3,e2,List.zip_append l3,List.foldl_append,u6 λx hx=>hs x (Gd _ hx),t4,kC l2];exact Ju l2 (t4▸nd) l4
 ·rw[t3,t4,Gr,l2,l4,Gr]
theorem Yt{α:Type}{M:IY}{A:Dh}{c:Prop}[Decidable c]{x y:Sem α}{Q:α->Gh->Prop}{E:G9->Gh->Prop}{s:Gh}(h:¬c)(k:GA M A y Q E s):GA M A (if c then x else y) Q E s:=by rw[if_neg h];exact k
theorem Y5{fd:FuncData}{ps:List Arg}{dl:List G8}{us ds:List G9}{s:Gh}(hp:fd.params=⟨[],ps,Gb,[],[],Gb,dl⟩)(nd:(ps.map (·.arg)).Nodup)(h1:us.length<=ps.length)(h2:ps.length<=us.length+ds.length)(h3:ds.length<=ps.length)
  (hd:∀{M:IY} {A:Dh} {E:G9->Gh->Prop} {Q:Option (Array G9)->Gh->Prop},(∀r,(r.getD #[]).toList=ds->Q r s)->GA M A (seqItems? fd.defaults) Q E s) :
  BindsTo s fd ⟨us,[]⟩ ((ps.map (·.arg)).zip (us++ds.drop (us.length+ds.length - ps.length))):=by
 have e1:(ps.map (·.arg)).length=ps.length:=Gs _;revert nd;rw[←e1] at h1 h2 h3 ⊢;intro nd M A E Q hQ;obtain⟨e3,e4,e5⟩:=bp_fold nd (bp_split h1 h2 h3);unfold bindArgs;rw[hp];refine Zr (a:=((ps.map (·.arg)).zip us,[])) rfl ?_;refine Ge (hd λr hr=>?_);rw[←hr] at h3 e3 e4 e5 hQ;refine Yt (λq=>absurd (of_decide_eq_true (an2 q).1) (Fj.mpr h1)) (Yt ?_ (Zr (a:=(ps.map (·.arg)).zip (us++(r.getD #[]).toList.drop (us.length+(r.getD #[]).toList.length - (ps.map (·.arg)).length))) ?_ ?_))
 ·simp only[IZ,List.nil_append];rw[Nat.sub_eq_zero_of_le h3,M3,e3];exact G4
 ·simp only[IZ,List.nil_append];rw[Nat.sub_eq_zero_of_le h3,M3,Xt,e4]
 ·dsimp only;refine Zr (a:=(_,[])) rfl ?_;refine Yt G4 ?_;simp only[IZ,List.nil_append,D5];rw[ZK e5 λi x hx=>JX nd hx];exact Gv hQ
noncomputable def uD:G9->Option Bool
 |.bool b=>G3 b
 |_=>Gb
noncomputable def intVal:G9->Option Int
 |.int i _=>G3 i
 |_=>Gb
noncomputable def strVal:G9->Option Str
 |.str s _=>G3 s
 |_=>Gb
noncomputable def jF:G9->Bool
 |.none=>G6
 |_=>G7
theorem iBoolVal{u:G9}{f:Bool->Bool}(h:oB (uD u) f=G6):∃b,u= .bool b/\f b=G6:=by rcases u<;>first|exact absurd h G4|exact⟨_,rfl,h⟩
theorem iIntVal{u:G9}{f:Int->Bool}(h:oB (intVal u) f=G6):∃b t,u= .int b t/\f b=G6:=by rcases u<;>first|exact absurd h G4|exact⟨_,_,rfl,h⟩
theorem iStrVal{u:G9}{f:Str->Bool}(h:oB (strVal u) f=G6):∃b t,u= .str b t/\f b=G6:=by rcases u<;>first|exact absurd h G4|exact⟨_,_,rfl,h⟩
theorem Jt{u:G9}(h:jF u=G6):u= .none:=by rcases u<;>first|exact absurd h G4|rfl
def dvF(v:V)(u:G9):Bool:=match v with
 |.none=>jF u
 |.bool a=>oB (uD u) λb=>decide (a=b)
 |.int i=>oB (intVal u) λj=>decide (i=j)
 |.str s=>oB (strVal u) λx=>isS x s
 |_=>G7
noncomputable def dvFs:List V->List G9->Bool
 |[],us=>none? us
 |v::vs,us=>oB (ht? us) λu=>dvF v u.1 && dvFs vs u.2
noncomputable def JR(K:DN)(t:Gx):Option (String×List G9):=match K.lookup t with
 |some ⟨.type n,_,.seq us _,_⟩=>G3 (n,us.toList)
 |_=>Gb
theorem YA{K:DN}{t:Gx}{n:String}{us:List G9}(h:JR K t=G3 (n,us)):∃d k sl,K.lookup t=G3 ⟨.type n,d,.seq us.toArray k,sl⟩:=by
 have h:(match K.lookup t with|some ⟨.type n,_,.seq us _,_⟩=>G3 (n,us.toList)|_=>Gb)=G3 (n,us):=h
 induction e:K.lookup t using GD with
 |none=>rw[e] at h;exact nn h
 |some o=>
  rw[e] at h;obtain⟨oc,od,odt,osl⟩:=o;rcases oc<;>first|exact nn h|skip
  rcases odt<;>first|exact nn h|skip
  cases h;exact⟨_,_,_,rfl⟩
def dvOk(K:DN)(v:V)(u:G9):Bool:=match v with
 |.tup vs=>oB (X2 u) λt=>oB (JR K t) λq=>q.1=="tuple" && dvFs vs q.2
 |v=>dvF v u
noncomputable def kh(K:DN):List V->List G9->Bool
 |[],us=>none? us
 |v::vs,us=>oB (ht? us) λu=>dvOk K v u.1 && kh K vs u.2
noncomputable def ub:List Str->List Str->Bool
 |[],ys=>none? ys
 |x::xs,ys=>oB (ht? ys) λy=>zL x y.1 && ub xs y.2
theorem kg:∀{xs ys:List Str},ub xs ys=G6->xs=ys:=by
 intro xs
 induction xs with
 |nil=>intro ys h;exact(zB h).symm
 |cons x xs ih=>intro ys h;refine zf (iHt h) ?_;clear h;intro y r rq2 h;subst rq2;rw[eqStr_iff.mp (an2 h).1,ih (an2 h).2]
def Km(ps:Fg):Option (List Arg):=match none? ps.posonlyargs && ps.vararg.isNone && none? ps.kwonlyargs && none? ps.kw_defaults && ps.kwarg.isNone with
 |true=>G3 ps.args
 |false=>Gb
theorem JT{ps:Fg}{as:List Arg}(h:Km ps=G3 as):∃dl,ps=⟨[],as,Gb,[],[],Gb,dl⟩:=by
 obtain⟨b1,b2,b3,b4,b5,b6,b7⟩:=ps;have h:(match none? b1 && b3.isNone && none? b4 && none? b5 && b6.isNone with|true=>G3 b2|false=>Gb)=G3 as:=h
 induction e:none? b1 && b3.isNone && none? b4 && none? b5 && b6.isNone using GN with
 |false=>rw[e] at h;exact nn h
 |true=>rw[e] at h;refine JK (an5 e) ?_;clear e;intro e1 e2 e3 e4 e5;obtain rfl:=Gm h;exact⟨b7,by rw[zB e1,ZH e2,zB e3,zB e4,ZH e5]⟩
def parOk(ps:Fg)(names:List Str):Bool:=oB (Km ps) λas=>ub (as.map (·.arg)) names
def dfOk(K:DN)(n:Nat)(ds:List V)(dV:G9):Bool:=match none? ds with
 |true=>jF dV
 |false=>oB (X2 dV) λt=>oB (JR K t) λq=>kh K ds q.2 && Gj ds.length n
def lamHere(tabC:Gx)(lamQ:Str)(lm:Bool)(qual:Str)(cdv:G9):Bool:=match lm with
 |false=>G6
 |true=>oB (X2 cdv) (λc=>Gi c tabC) && zL (qual++".<locals>."++"<lambda>") lamQ
def fnChk(N:Nm)(K:DN)(tabC:Gx)(lamQ:Str)(fn:Fn)(lm:Bool)(tb:List Str)(qual:Str)(params:Fg)(body:List Gq)(scope:GW)(dV cdv:G9):Bool:=
 codeIn K cdv qual && !scope.isCoroutine && !scope.isGenerator && jc scope.kind && chkS N K lm scope tb fn.body body && Y9 tb &&
 parOk params (tb.take fn.n) && Gi tb.length fn.loc && Gj fn.n fn.loc && ((tb.take fn.n).all λx=>zu scope x .local ||zu scope x .cell) && Y9 ((FU 0 scope.names []).map (·.1)) &&
 dfOk K fn.n fn.dflt dV &&
 lamHere tabC lamQ lm qual cdv
inductive FnAt (T:Tp) (N:Nm) (fn:Fn) (a:Gx):Prop
 |mk (oc od osl name qual params body scope dV kV doc pm an cdv ct lm tb) (ho:T.K.lookup a=G3 ⟨oc,od,.func (fnOf name qual params body scope dV kV doc pm an cdv ct),osl⟩) (hc:fnChk N T.K T.tabC T.lamQ fn lm tb qual params body scope dV cdv=G6):FnAt T N fn a
section
variable {T:Tp} {ρ:Rn} {E:Lg}
theorem dvF_vr{v:V}{u:G9}(h:dvF v u=G6):VR T E ρ v u:=by
 induction v using V.casesOn with
 |none=>obtain rfl:=Jt h;exact .none
 |bool a=>replace h:=iBoolVal h;obtain⟨b,rfl,h⟩:=h;rw[of_decide_eq_true h];exact .bool _
 |int i=>replace h:=iIntVal h;obtain⟨b,t,rfl,h⟩:=h;rw[of_decide_eq_true h];exact .int _ _
 |str x=>replace h:=iStrVal h;obtain⟨b,t,rfl,h⟩:=h;replace h:=isS_iff.mp h;subst h;exact .str _ _
 |_=>exact absurd h G4
theorem dvFs_vr:∀{vs:List V} {us:List G9},dvFs vs us=G6->VRs T E ρ vs us:=by
 intro vs
 induction vs with
 |nil=>
  intro us h;exact by obtain rfl:=zB h;exact .nil
 |cons v vs ih=>intro us h;refine zf (iHt h) ?_;clear h;intro u r rq2 h;subst rq2;exact .cons (dvF_vr (an2 h).1) (ih (an2 h).2)
theorem dvOk_vr{v:V}{u:G9}(h:dvOk T.K v u=G6):VR T E ρ v u:=by
 induction v using V.casesOn with
 |tup vs=>refine za (Y3 h) ?_;clear h;intro t rq1 h;subst rq1;obtain⟨⟨n,us⟩,e,h⟩:=ya h;refine zh (an2 h) λh1 h2=>?_;obtain rfl:n= "tuple":=eq_of_beq h1;refine ju (YA e) λd k sl hk=>?_;exact .tup (.inr ⟨_,_,_,hk⟩) (dvFs_vr h2)
 |_=>exact dvF_vr h
theorem dvOks_vr:∀{vs:List V} {us:List G9},kh T.K vs us=G6->VRs T E ρ vs us:=by
 intro vs
 induction vs with
 |nil=>
  intro us h;exact by obtain rfl:=zB h;exact .nil
 |cons v vs ih=>intro us h;refine zf (iHt h) ?_;clear h;intro u r rq2 h;subst rq2;exact .cons (dvOk_vr (an2 h).1) (ih (an2 h).2)
theorem ug{K:DN}: ∀{vs:List V} {us:List G9},kh K vs us=G6->vs.length=us.length:=by
 intro vs
 induction vs with
 |nil=>
  intro us h;exact by obtain rfl:=zB h;rfl
 |cons v vs ih=>intro us h;refine zf (iHt h) ?_;clear h;intro u r rq2 h;subst rq2;exact congrArg (·+ 1) (ih (an2 h).2)
end
theorem uG{k:Str->Option DY}: ∀{bs:List (Str×G9)} {m:Str->Option G9} {x:Str},x∉bs.map (·.1)->bindL k bs m x=m x:=by
 intro bs
 induction bs with
 |nil=>intro y0 y1 y2;exact rfl
 |cons hdp r ih=>
  intro m x h;obtain⟨n,v⟩:=hdp;simp only[GV,Gp,not_or] at h;rw[bindL,ih h.2]
  split
  ·exact if_neg h.1
  ·rfl
theorem JI{k:Str->Option DY}:∀{bs:List (Str×G9)} {m:Str->Option G9} {x:Str} {u:G9},(bs.map (·.1)).Nodup->(x,u)∈bs->k x=G3 .local->bindL k bs m x=G3 u:=by
 intro bs
 induction bs with
 |nil=>intro m x u nd h hk;exact absurd h D1
 |cons hdp r ih=>
  intro m x u nd h hk;obtain⟨n,v⟩:=hdp;rw[GV,GJ] at nd;rw[bindL];rcases Gp.mp h with e|h
  ·cases e;rw[uG nd.1,if_pos hk];exact if_pos rfl
  ·exact ih nd.2 h hk
theorem uH{k:Str->Option DY}: ∀{bs:List (Str×G9)} {m:Str->Option G9} {x:Str},x∉bs.map (·.1)->bindC k bs m x=m x:=by
 intro bs
 induction bs with
 |nil=>intro y0 y1 y2;exact rfl
 |cons hdp r ih=>
  intro m x h;obtain⟨n,v⟩:=hdp;simp only[GV,Gp,not_or] at h;rw[bindC,ih h.2]
  split
  ·rfl
  ·exact if_neg h.1
theorem bindC_at{k:Str->Option DY}:∀{bs:List (Str×G9)} {m:Str->Option G9} {x:Str} {u:G9},(bs.map (·.1)).Nodup->(x,u)∈bs->k x≠G3 .local->bindC k bs m x=G3 u:=by
 intro bs
 induction bs with
 |nil=>intro m x u nd h hk;exact absurd h D1
 |cons hdp r ih=>
  intro m x u nd h hk;obtain⟨n,v⟩:=hdp;rw[GV,GJ] at nd;rw[bindC];rcases Gp.mp h with e|h
  ·cases e;rw[uH nd.1,if_neg hk];exact if_pos rfl
  ·exact ih nd.2 h hk
theorem Yc:∀(names:List (Str×DY)) (n:Nat) (acc:List (Str×Gx)),(∀p∈acc,p.2 < n)->(acc.map (·.2)).Nodup->(∀p∈FU n names acc,p∈acc∨n<=p.2)/\((FU n names acc).map (·.2)).Nodup:=by
 intro names
 induction names with
 |nil=>intro n acc h nd;exact⟨λp hp=>.inl hp,nd⟩
 |cons hdp r ih=>
  intro n acc h nd;obtain⟨x,k⟩:=hdp;unfold FU
  split
  ·obtain⟨h1,h2⟩:=ih (n+1) ((x,n)::acc) (λp hp=>by
    rcases Gp.mp hp with rfl|hp
    ·exact Da _
    ·exact D6 (h p hp)) (by
    rw[GV,GJ];exact⟨λhm=>by
     refine za (Df.mp hm) λp hp e=>?_;have:=h p hp;rw[e] at this;exact DH _ this,nd⟩)
   refine⟨λp hp=>?_,h2⟩;rcases h1 p hp with q|q
   ·rcases Gp.mp q with rfl|q
    ·exact .inr (GI _)
    ·exact .inl q
   ·exact .inr (Fy q)
  ·exact ih n acc h nd
theorem ZO{cm:Str->Option G9}{cs:List (Str×Gx)}{cells:Lg}(h:CellsAre cm cs cells):cells.map (·.1)=cs.map (·.2)/\CG cm cs cells:=by
 induction h with
 |nil=>exact⟨rfl,.nil⟩
 |cons h _ ih=>exact⟨by simp[ih.1],.cons h ih.2⟩
set_option tactic.hygienic true in
theorem yU{cs:List (Str×Gx)}{x:Str}(h:(cs.lookup x).isSome=G6):∃a,(x,a)∈cs:=by
 induction e:cs.lookup x using GD with
 |none=>rw[e] at h;cases h
 |some a=>
  refine⟨a,?_⟩;clear h
  induction cs with
  |nil=>simp at e
  |cons p r ih=>
   obtain⟨n,b⟩:=p;rw[GS] at e
   split at e
   ·rename_i hx;cases e;rw[eq_of_beq hx];exact Gn ..
   ·exact Go _ (ih e)
section
variable {T:Tp} {P:Prg} {N:Nm} {O:Orc} {d w:Nat} {c:Cx} {s:Gh} {ρ:Rn} {E:Lg} {H:Hp} {Q:V->Hp->Prop} {X:Nat->Hp->Prop} {Er:G9->Gh->Prop}
def uB(T:Tp)(c:Cx)(s:Gh)(ρ:Rn)(E:Lg)(Q:V->Hp->Prop)(Er:G9->Gh->Prop)(r:Result)(s':Gh):Prop:=match r with
 |.ok (.ret v)=>Post T c s ρ E Q v s'
 |.ok _=>False
 |.error e=>Er e s'
noncomputable def flVal(fl:Flow):G9:=match fl with|.ret v=>v|_=>.none
theorem kx{names:List Str}{vs:List V}{us:List G9}{kind:Str->Option DY}{i:Nat}{v:V}(nd:names.Nodup)(hn:names.length=us.length)(hv:VRs T E ρ vs us)(hi:vs[i]?=G3 v)
  (hk:∀x∈names,kind x=G3 .local∨kind x=G3 .cell):∃x u,names[i]?=G3 x/\(match kind x with|some .local=>bindL kind (names.zip us) (λ_=>Gb) x|some .cell=>bindC kind (names.zip us) (λ_=>Gb) x|_=>Gb)=G3 u/\VR T E ρ v u:=by
 refine za (hv.at hi) λu hu hr=>?_;have hlt:i < names.length:=by rw[hn];exact(List.getElem?_eq_some_iff.mp hu).1
 have hx:names[i]?=G3 names[i]:=List.getElem?_eq_getElem hlt;refine⟨names[i],u,hx,?_,hr⟩;have hm:(names[i],u)∈names.zip us:=by refine List.mem_of_getElem? (i:=i) ?_;rw[List.getElem?_zip_eq_some];exact⟨hx,hu⟩
 have hz:((names.zip us).map (·.1))=names:=List.map_fst_zip (om72 hn);have nd':((names.zip us).map (·.1)).Nodup:=by rw[hz];exact nd
 rcases hk _ (List.getElem_mem hlt) with q|q
 ·rw[q];exact JI nd' hm q
 ·rw[q];exact bindC_at nd' hm (by rw[q];simp)
theorem YD{ps:Fg}{names:List Str}(h:parOk ps names=G6):∃as dl,ps=⟨[],as,Gb,[],[],Gb,dl⟩/\as.map (·.arg)=names:=by refine za (ya h) ?_;clear h;intro as e h;refine zj (JT e) ?_;clear e;intro dl e;exact⟨as,dl,e,kg h⟩
theorem jp{f:Fn}{as:List V}{L:Lc}(h:Zl f as=G3 L):as.length<=f.n/\f.n<=as.length+f.dflt.length/\L=as++f.dflt.drop (as.length+f.dflt.length - f.n)++Ij (f.loc - f.n) .bad:=by
 have h:(match Gj as.length f.n,Gj f.n (as.length+f.dflt.length) with|true,G6=>G3 (as++f.dflt.drop (as.length+f.dflt.length - f.n)++Ij (f.loc - f.n) V.bad)|_,_=>Gb)=G3 L:=h
 induction e1:Gj as.length f.n using GN with
 |false=>rw[e1] at h;exact nn h
 |true=>
  rw[e1] at h
  induction e2:Gj f.n (as.length+f.dflt.length) using GN with
  |false=>rw[e2] at h;exact nn h
  |true=>rw[e2] at h;exact⟨natB.mp e1,natB.mp e2,(Gm h).symm⟩
theorem uo{n:Nat}{ds:List V}{dV:G9}{h:Do}{ρ:Rn}{E:Lg}(z:dfOk T.K n ds dV=G6)(X:T.K.In h)(hn:ds.length<=n):∃us:List G9,VRs T E ρ ds us/\us.length<=n/\∀{M:IY} {A:Dh} {E:G9->Gh->Prop} {Q:Option (Array G9)->Gh->Prop} {s:Gh},s.heap=h->(∀r,(r.getD #[]).toList=us->Q r s)->GA M A (seqItems? dV) Q E s:=by
 induction ds using D8 with
 |nil=>obtain rfl:=Jt z;exact⟨[],.nil,DD _,λ_ h=>Gv (h Gb rfl)⟩
 |cons d ds=>obtain⟨t,rfl,z⟩:=Y3 (f:=λt=>oB (JR T.K t) λq=>kh T.K (d::ds) q.2 && Gj (d::ds).length n) z;obtain⟨⟨m,us⟩,e,z⟩:=ya z;obtain⟨dd,k,sl,hk⟩:=YA e;obtain⟨z1,z2⟩:=an2 z;have hl:(d::ds).length=us.length:=ug z1;refine⟨us,dvOks_vr z1,by rw[←hl];exact hn,λ{M A E' Q s} e h=>?_⟩;exact wpAny_seqItems (s:=s) (show s.heap.get? t=G3 ⟨.type m,dd,.seq us.toArray k,sl⟩ by rw[e];exact X _ _ hk) rfl (h (G3 us.toArray) rfl)
theorem JA{n:Nat}{ds:List V}{dV:G9}(z:dfOk T.K n ds dV=G6):ds.length<=n:=by
 induction ds using D8 with
 |nil=>exact DD _
 |cons d ds=>obtain⟨t,_,z⟩:=Y3 (f:=λt=>oB (JR T.K t) λq=>kh T.K (d::ds) q.2 && Gj (d::ds).length n) z;refine za (ya z) ?_;clear z;intro _ _ z;exact natB.mp (an2 z).2
theorem rr_mem{α:Type}{E G C:List α}{t q:α}(h:q∈E++t::(G++C)):q∈C++(E++t::G):=
 (GL.mp h).elim (λa=>Gd _ (Gg _ a)) λa=>(Gp.mp a).elim (λe=>Gd _ (Gd _ (e▸.head _))) λa=>
  (GL.mp a).elim (λa=>Gd _ (Gd _ (.tail _ a))) (λa=>Gg _ a)
theorem Xf{α:Type}{E G C:List α}{t q:α}(h:q∈E++t::G):q∈E++t::(G++C):=
 (GL.mp h).elim (λa=>Gg _ a) λa=>(Gp.mp a).elim (λe=>Gd _ (e▸.head _)) λa=>Gd _ (.tail _ (Gg _ a))
theorem rr_low{cs:List (Str×Gx)}{L:Nat}(h:∀p∈cs,p∈([]:List (Str×Gx))∨L<=p.2):∀a∈cs.map (·.2),L<=a:=λa ha=>by obtain⟨q,hq,e⟩:=Df.mp ha;exact e▸(h q hq).resolve_left D1
theorem rr_nd{E G C:Lg}{x:Gx}{o o':Obj}{L:Nat}{ks:List Gx}(nd:((E++(x,o)::G).map (·.1)).Nodup)(k:C.map (·.1)=ks)(kn:ks.Nodup)(kl:∀a∈ks,L+1<=a)(hl:∀p∈E++(x,o')::G,p.1 < L):((E++(x,o)::(G++C)).map (·.1)).Nodup:=by rw[show E++(x,o)::(G++C)=(E++(x,o)::G)++C from(Gw E ((x,o)::G) C).symm,GB,k];refine GG.mpr ⟨nd,kn,λa ha b hb e=>?_⟩;subst e;rw[show(E++(x,o)::G).map (·.1)=(E++(x,o')::G).map (·.1) by rw[GB,GB];rfl] at ha;obtain⟨p,hp,e⟩:=Df.mp ha;exact absurd (hl p hp) (Fj.mpr (Fy (e▸kl _ hb)))
theorem Jy{f:Nat}{fn:Fn}{a:Gx}{as:List V}{us:List G9}{Kr:Result->Gh->Prop}{Ug:Lc}(FA:FnAt T N fn a)(C:c.Ok T (d+1))(R:c.Rep T H ρ E s.heap)(hv:VRs T E ρ as us)(hL:Zl fn as=G3 Ug)
  (hbd:∀{fm:Fm} {body:List Gq} {scope:GW} {lm:Bool} {tb:List Str} {m cm:Str->Option G9} {cells:Lg} {h₁:Do} {tk:Nat} {env:Env} {outer:List Env},chkS N T.K lm scope tb fn.body body=G6->tb.Nodup->fm.Ok T d->FSc T lm scope fm->CG cm fm.fe.cells cells->
   (fm.cx m cm (c.G++cells)).Rep T H ρ E h₁->LOk T tb (fm.cx m cm (c.G++cells)) E ρ Ug->fm.A.frames=G3 (fm.fe::env::outer)->fm.fe.frame=G3 fm.L->c.A.frames=G3 (env::outer)->env.frame=G3 c.L->Fr c.wy c.L fm.wy c.m->
   GA (Gy T.prog T.w) fm.A (execs body fm.fe) (λfl s'=>LeaveK c.wy c.L c.m fm.wy Kr (flVal fl) s') (λe s'=>GA (Gy T.prog T.w) fm.A (leaving fm.fe e) (λ_ s''=>Kr (.error e) s'') (λe' s''=>Kr (.error e') s'') s') {s with heap:=h₁,toks:=tk}) :
  DI (Gy T.prog T.w) c.A (.call (.ref a) ⟨us,[]⟩) Kr s:=by
 obtain⟨oc,od,osl,name,qual,params,body,scope,dV,kV,doc,pm,an,cdv,ct,lm,tb,ho,hchk⟩:=FA;refine Yr (an6 hchk) ?_;clear hchk;intro hchk z9 z10 z11 z12 z13;refine xe0c8 (an8 hchk) ?_;clear hchk;intro z1 z2 z3 z4 z5 z6 z7 z8;have hk:scope.kind= .function:=yW z4;have hco:scope.isCoroutine=G7:=(Dd _).mp z2;have hgen:scope.isGenerator=G7:=(Dd _).mp z3;have ndt:=yf z6;have z8:=natE.mp z8;have z9:=natB.mp z9;refine zf (YD z7) λaps dl hp hpn=>?_;refine JJ (C.B) λuM base outer env B hA hf hke=>?_;refine YX (C.top) λp loose mean mg mb top=>?_;refine za (id R.N) λW0 hb Nw=>?_;refine zP (jp hL) ?_;clear hL;intro b1 b2 rq2;subst rq2;have hnames:(tb.take fn.n).length=fn.n:=by rw[FP];exact om73 z8 z9
 have haps:aps.length=fn.n:=by rw[←hnames,←hpn,Gs]
 have hlen:=hv.length;refine yK (uo (ρ:=ρ) (E:=E) z12 (C.X.keeps R.F.keep) (JA z12)) λds hds hdl hseq=>?_;rw[←haps] at hdl;have hdsl:=hds.length;have hbind:BindsTo s (fnOf name qual params body scope dV kV doc pm an cdv ct) ⟨us,[]⟩ ((tb.take fn.n).zip (us++ds.drop (us.length+ds.length - aps.length))):=by have:=Y5 (fd:=fnOf name qual params body scope dV kV doc pm an cdv ct) (us:=us) (ds:=ds) (s:=s) hp (by rw[hpn];exact DX (List.take_sublist _ _) ndt) (om74 b1 haps hlen) (om75 b2 haps hlen hdsl) hdl (hseq rfl);rw[hpn] at this;exact this
 have hvs:VRs T E ρ (as++fn.dflt.drop (as.length+fn.dflt.length - fn.n)) (us++ds.drop (us.length+ds.length - aps.length)):=by
  have e:as.length+fn.dflt.length - fn.n=us.length+ds.length - aps.length:=by exact om76 haps hlen hdsl
  rw[e];exact hv.append (hds.drop _)
 have hbl:(tb.take fn.n).length=(us++ds.drop (us.length+ds.length - aps.length)).length:=by rw[hnames,Gr,DV];exact om77 b1 b2 haps hlen hdsl
 have ndn:(tb.take fn.n).Nodup:=DX (List.take_sublist _ _) ndt;have hkinds:∀x∈tb.take fn.n,scope.names.lookup x=G3 .local∨scope.names.lookup x=G3 .cell:=λx hx=>by
  rcases Dg.mp (Gz.mp z10 x hx) with q|q
  ·exact .inl (zk q)
  ·exact .inr (zk q)
 refine code_defC B R.F C.X Nw top hA hf hke ho z1 (by have:=C.dep;have:recursionLimit=1000:=rfl;exact on2 (by assumption) this) hbind ?_ (yf z11) (λg L' h₁ tk cells FG F' N' Y B' X' T' hlt=>?_) hco hgen hk
 ·rw[Gz];intro y hy;have:y.1∈tb.take fn.n:=(List.of_mem_zip hy).1;rcases hkinds _ this with q|q<;>simp[q]
 generalize hus:us++ds.drop (us.length+ds.length - aps.length)=us' at *;have hkd:∀x,(DB qual scope L' a cdv).kindOf x=scope.names.lookup x:=λx=>rfl;refine zh (ZO Y) λcy1 cy2=>?_;refine zh (Yc scope.names (L'+ 1) [] (by simp) (by simp)) λca1 ca2=>?_
 let fm:Fm:=⟨c.A.deeper (DB qual scope L' a cdv),DB qual scope L' a cdv,g,L'⟩
 have FO:fm.Ok T d:=
  {B:=⟨c.A,base,env::outer,DB qual scope L' a cdv,B',by show c.A.frames.map _=_;rw[hA];rfl,rfl,hk⟩
   kd:=hk
   gl:=rfl
   bi:=rfl
   X:=X'
   top:=⟨p,loose,mean,mg,mb,T'⟩
   tab:=C.tab.keeps FG.keep
   le:=Fy C.le
   tp:=λe=>absurd (e▸C.le) (Nat.not_succ_le_self 20)
   hh:=C.hh
   dep:=by have:=C.dep;show c.A.depth+1+4*d+8<=1000;exact om78 this
   un:=by have:=C.un;show c.A.units+3+16*d+200<=9900;exact om79 this
   scr:=by refine za (C.scr) λvs h1 h2=>?_;refine za (h1) ?_;clear h1;intro o ho' r;exact⟨vs,⟨o,FG.keep _ _ ho',r⟩,h2⟩
   loc:=rfl
   cel:=λx hx=>yU (cellsFrom_some _ _ _ (.inl hx))
   cnd:=by
    have:=yf z11;rw[cellsFrom_names scope.names 0 (L'+ 1) [] [] rfl] at this;exact this}
 have FS:FSc T lm scope fm:=
  {glob:=λx h=>zk h
   cell:=λx h=>zk h
   loc:=λx h=>zk h
   lam:=λh=>by
    subst h;refine zh (an2 z13) λy1 y2=>?_;refine za (Y3 y1) ?_;clear y1;intro c' rq1 y1;subst rq1;have e1:=natE.mp y1;subst e1;exact⟨qual,scope,a,_,rfl,eqStr_iff.mp y2⟩}
 have RR:(fm.cx (bindL (DB qual scope L' a cdv).kindOf ((tb.take fn.n).zip us') λ_=>Gb) (bindC (DB qual scope L' a cdv).kindOf ((tb.take fn.n).zip us') λ_=>Gb) (c.G++cells)).Rep T H ρ E h₁:=by exact⟨F',⟨W0,hb,λq hq=>N' q (rr_mem hq)⟩,rr_nd R.nd cy1 ca2 (rr_low ca1) hlt,R.len,R.enc,R.ft⟩
 have LK:LOk T tb (fm.cx (bindL (DB qual scope L' a cdv).kindOf ((tb.take fn.n).zip us') λ_=>Gb) (bindC (DB qual scope L' a cdv).kindOf ((tb.take fn.n).zip us') λ_=>Gb) (c.G++cells)) E ρ (as++fn.dflt.drop (as.length+fn.dflt.length - fn.n)++Ij (fn.loc - fn.n) .bad):=by
  intro k v hkv hne
  by_cases hlt':k < (as++fn.dflt.drop (as.length+fn.dflt.length - fn.n)).length
  ·rw[List.getElem?_append_left hlt'] at hkv;refine zF (kx (kind:=(DB qual scope L' a cdv).kindOf) ndn hbl hvs hkv hkinds) λx u h1 h2 h3=>?_;refine⟨x,u,?_,h2,h3⟩;rw[List.getElem?_take] at h1
   split at h1
   ·exact h1
   ·cases h1
  ·rw[List.getElem?_append_right (Fj.mp hlt'),List.getElem?_replicate] at hkv
   split at hkv
   ·cases hkv;exact absurd rfl hne
   ·cases hkv
 exact hbd z5 ndt FO FS cy2 RR LK (Around.frames_deeper hA) rfl hA hf FG
theorem call_fn0{f:Nat}{fn:Fn}{a:Gx}{as:List V}{us:List G9}(FA:FnAt T N fn a)(hst:∀st,StOk (FlyX T) T P N O d w st)(C:c.Ok T (d+1))(R:c.Rep T H ρ E s.heap)(hv:VRs T E ρ as us)(he:yM P w O fn f as H Q X)(XR:∀e s',XPost (FlyX T) c s ρ E X e s'->Er e s') :
  DI (Gy T.prog T.w) c.A (.call (.ref a) ⟨us,[]⟩) (uB T c s ρ E Q Er) s:=by
 refine za (zq he) ?_;clear he;intro Ug hL he;refine Jy (f:=f) FA C R hv hL λ{fm body scope lm tb m cm cells h₁ tk env outer} z5 ndt FO FS cy2 RR LK a1 a2 a3 a4 FG=>?_;refine Gu (hst fn.body (f:=fm) (s:={s with heap:=h₁,toks:=tk}) z5 ndt FO FS he cy2 RR LK PassesOwn.leaving (λm cm G hG e s' q=>?_)) (λfl s' q=>?_) λ_ _ e=>e
 ·obtain⟨h',tk',k,H',ρ',E',rfl,x',qX,fx⟩:=q;refine fly_out (c:=c) (s:={s with heap:=h',toks:=tk'}) fx a1 a2 a3 a4 FG hG ?_ λh'' fx'=>XR e _ ⟨h'',tk',k,H',ρ',E',rfl,x',qX,fx'⟩;have nd:=R.nd;rw[GB] at nd;exact(GG.mp nd).2.1
 obtain⟨h',tk',m',cm',Gc',uW,Uh,H',ρ',E',rfl,cg',Ur,x',lk',fo,qq⟩:=q;refine za (id Ur.N) λW2 wa Ul=>?_;have hret:∃v,VR T E' ρ' v (flVal fl)/\Q v H':=by
  cases fo with
  |next=>exact⟨.none,.none,qq⟩
  |brk=>exact Du qq
  |ret hr=>exact⟨_,hr,qq⟩
 refine za (hret) ?_;clear hret;intro v hvr hQ;refine leaveK_ Ur.F (news':=E'++(T.tab,W2)::c.G) (λq hq=>Ul q ?_) λuU Uj=>?_
 ·exact Xf hq
 ·refine⟨h',tk',v,H',ρ',E',rfl,⟨uU,⟨W2,wa,Uj⟩,?_,Ur.len,Ur.enc,Ur.ft⟩,x',hvr,hQ⟩;have nd:=Ur.nd;refine DX (IB _ ?_) nd;exact(Fx _).append ((FX _ _).cons_cons _)
end
def nmS(x:G8)(s:Str):Bool:=oB (Zj x) λn=>zL n.1 s
theorem iNmS{x:G8}{s:Str}(h:nmS x s=G6):∃p,x= .Name s p:=by refine zf (Yf h) λy p e h=>?_;have h:y=s:=eqStr_iff.mp h;exact⟨p,h▸e⟩
def xiSet(x:Gq)(a:Str):Bool:=oB (vAsg x) λt=>oB (one? t.1) λg=>oB (Xb g) λn=>zL n.2.1 a && nmS n.1 "self" && nmS t.2 a
theorem iXiSet{x:Gq}{a:Str}(h:xiSet x a=G6):∃p q r z,x= .Assign [.Attribute (.Name "self" p) a q] (.Name a r) z:=by refine zA (iAsg h) ?_;clear h;intro ts v z rq h;subst rq;refine za (iOne h) ?_;clear h;intro g e h;obtain rfl:ts=[g]:=e;refine zA (jO h) ?_;clear h;intro o n q rq h;subst rq;refine zP (an3 h) ?_;clear h;intro h1 h2 h3;refine zj (iNmS h2) λp rq=>?_;subst rq;refine zj (iNmS h3) λr rq=>?_;have rq:v= .Name a r:=rq;subst rq;have h1:n=a:=eqStr_iff.mp h1;subst h1;exact⟨p,q,r,z,rfl⟩
def xiCall(x:Gq):Bool:=oB (kM x) λx=>oB (YY x) λt=>oB (Xb t.1) λq=>zL q.2.1 "__init__" && nmS q.1 "Exception" && Gi q.2.2.endLine t.2.2.line && oB (two? t.2.1) λy=>nmS y.1 "self" && nmS y.2 "what"
theorem iXiCall{x:Gq}(h:xiCall x=G6):∃p ap p1 p2 pos z,x= .Expr (.Call (.Attribute (.Name "Exception" p) "__init__" ap) [.Name "self" p1,.Name "what" p2] [] pos) z/\Gi ap.endLine pos.line=G6:=by refine zf (iExpr h) ?_;clear h;intro x z rq h;subst rq;refine zA (k9 h) ?_;clear h;intro f xs pos rq h;subst rq;refine zA (jO h) ?_;clear h;intro o n ap e h;obtain rfl:f= .Attribute o n ap:=e;refine ZB (an4 h) ?_;clear h;intro h1 h2 h3 h4;have h1:n= "__init__":=eqStr_iff.mp h1;subst h1;refine zj (iNmS h2) λp rq=>?_;have rq:o= .Name "Exception" p:=rq;subst rq;refine zf (iTwo h4) ?_;clear h4;intro y1 y2 e h;obtain rfl:xs=[y1,y2]:=e;refine zj (iNmS (an2 h).1) λp1 rq=>?_;have rq:y1= .Name "self" p1:=rq;subst rq;refine zj (iNmS (an2 h).2) λp2 rq=>?_;have rq:y2= .Name "what" p2:=rq;subst rq;exact⟨p,ap,p1,p2,pos,z,rfl,h3⟩
noncomputable def xiNames:List Str:=["self","what","at"]
inductive XiB:List Gq->Prop
 |mk (p ap p1 p2 pos z q1 q2 q3 q4 v1 v2 v3 v4) (w0:Gi ap.endLine pos.line=G6) :
  XiB [.Expr (.Call (.Attribute (.Name "Exception" p) "__init__" ap) [.Name "self" p1,.Name "what" p2] [] pos) z,.Assign [.Attribute (.Name "self" q1) "what" q2] (.Name "what" q3) q4,.Assign [.Attribute (.Name "self" v1) "at" v2] (.Name "at" v3) v4]
def xiBody(body:List Gq):Bool:=oB (ht? body) (λa=>oB (ht? a.2) λb=>oB (one? b.2) λc=>xiCall a.1 && xiSet b.1 "what" && xiSet c "at")
theorem xiB_of{body:List Gq}(y5:xiBody body=G6):XiB body:=by refine zf (iHt y5) ?_;clear y5;intro s1 r1 rq y5;subst rq;refine zf (iHt y5) ?_;clear y5;intro s2 r2 rq y5;obtain rfl:r1=s2::r2:=rq;refine za (iOne y5) ?_;clear y5;intro s3 rq y5;obtain rfl:r2=[s3]:=rq;refine zP (an3 y5) ?_;clear y5;intro w1 w2 w3;refine xe6c2 (iXiCall w1) ?_;clear w1;intro p ap p1 p2 pos z rq w0;subst rq;refine xe4c1 (iXiSet w2) ?_;clear w2;intro q1 q2 q3 q4 rq;subst rq;refine xe4c1 (iXiSet w3) ?_;clear w3;intro v1 v2 v3 v4 rq;subst rq;exact .mk p ap p1 p2 pos z q1 q2 q3 q4 v1 v2 v3 v4 w0
def xiChk(K:DN)(qual:Str)(params:Fg)(body:List Gq)(scope:GW)(dV cdv:G9):Bool:=
 codeIn K cdv qual && !scope.isCoroutine && !scope.isGenerator && jc scope.kind && parOk params xiNames && (oB (X2 dV) λt=>oB (JR K t) λq=>oB (one? q.2) λ_=>G6) &&
 (xiNames.all (λx=>zu scope x .local) && zu scope "Exception" .globalImplicit && (match nsIn K Dy "Exception" with|some Gb=>G6|_=>G7) && Y9 ((FU 0 scope.names []).map (·.1)) &&
 xiBody body)
inductive XiAt (K:DN) (fI:Gx):Prop
 |mk (oc od osl name qual params body scope dV kV doc pm an cdv ct) (ho:K.lookup fI=G3 ⟨oc,od,.func (fnOf name qual params body scope dV kV doc pm an cdv ct),osl⟩) (hc:xiChk K qual params body scope dV cdv=G6):XiAt K fI
noncomputable def xcIn(K:DN)(C:Gx):Bool:=
 ktsIn K C "Exception" && (match K.lookup C with|some o=>(o.slots.toList[4]?).join==G3 (.builtin "Exception.__new__")|none=>G7) && mroIn K C (.type "Exception")==G3 G6 && mroIn K C (.ref C)==G3 G6 && mroIn K C (.type "AttributeError")==G3 G7 && mroIn K C (.type "NameError")==G3 G7 &&
   specialIn K (.ref C) "__call__"==G3 (G3 (.builtin "type.__call__")) && instIn K (.ref C) (.type "type")==G3 G6
theorem kF{K:DN}{h:Do}{C:Gx}(X:K.In h)(e:xcIn K C=G6):XcO h C:=by
 refine xe0c8 (an8 e) ?_;clear e;intro e1 e2 _ _ _ _ _ _;obtain⟨nm,q,N,bs,bm,hdct,sn,sub,ab,col,dd,k0,k1,k2,k3,k5,i,hC,hB,hE⟩:=kts_cls X e1;rcases ho:K.lookup C with _|o
 ·rw[ho] at e2;exact absurd e2 G4
 rw[ho] at e2;obtain rfl:=Gm ((X _ _ ho).symm.trans hC);obtain rfl:i= "Exception.__new__":=by injection (Gm (beq_iff_eq.mp e2))
 exact⟨nm,q,N,bs,bm,hdct,sn,sub,ab,col,dd,k0,k1,k2,k3,k5,hC,hE,hB⟩
theorem xcL_of{K:DN}{M:IY}{h:Do}{C:Gx}(X:K.In h)(e:xcIn K C=G6):XcL M h C:=
 have q:=an8 e
 ⟨kF X e,FK X (beq_iff_eq.mp q.2.2.1),FK X (beq_iff_eq.mp q.2.2.2.1),FK X (beq_iff_eq.mp q.2.2.2.2.1),FK X (beq_iff_eq.mp q.2.2.2.2.2.1),looks_specialIn X (beq_iff_eq.mp q.2.2.2.2.2.2.1),looks_instIn X (beq_iff_eq.mp q.2.2.2.2.2.2.2)⟩
structure XcK (K:DN) (C fI:Gx):Prop where
 cd:∃cd,clsIn K C=G3 cd/\Jw cd.mro=G6/\cd.hasDict=G6
 set:I8 K (.ref C) "__setattr__"= G3 (G3 (.builtin "object.__setattr__"))
 what:I8 K (.ref C) "what"= G3 Gb
 at_:I8 K (.ref C) "at"= G3 Gb
 sub:mroIn K C (.type "Exception")=G3 G6
 ini:XiAt K fI
 cls:xcIn K C=G6
 base:mroIn K C (.type "BaseException")=G3 G6
 obj:mroIn K C (.type "object")=G3 G6
 noT:mroIn K C (.type "type")=G3 G7
 typ:typeIn K (.ref C)=G3 (.type "type")
 init:I8 K (.ref C) "__init__"= G3 (G3 (.ref fI))
 fn:typeIn K (.ref fI)=G3 (.type "function")
structure Cx.Lo (c:Cx) (T:Tp):Prop where
 B:∃uM base outer env,Below uM base outer c.wy/\c.A.frames=G3 (env::outer)/\env.frame=G3 c.L/\env.scope.kind= .function
 X:T.K.In c.wy
 top:∃p loose mean mg mb,Top p loose mean mg mb c.wy
 room:c.A.depth < 1000
section
variable {T:Tp} {d:Nat} {c:Cx} {s:Gh}
theorem xc_init{C fI e:Gx}{u:G9}{news:Lg}(XK:XcK T.K C fI)(CO:c.Lo T)(F:Fr c.wy c.L s.heap c.m)(N:FW c.wy c.L s.heap news){t0:Gx}(he0:s.heap.get? e=G3 (Ys C t0))(neL:e≠c.L)(new:c.wy.get? e=Gb)(out:∀p∈news,p.1≠e){R:Result->Gh->Prop}
  (h:∀h' tk,Fr c.wy c.L h' c.m->FW c.wy c.L h' news->XcI c.wy h' c.L news e C 2->R (.ok (.ret .none)) {s with heap:=h',toks:=tk}) :
  DI (Gy T.prog T.w) c.A (.call (.ref fI) ⟨[.ref e,u],[]⟩) R s:=by
 rcases XK.ini with⟨oc,od,osl,name,qual,params,body,scope,dV,kV,doc,pm,an,cdv,ct,ho,hchk⟩;refine xe0c7 (an7 hchk) ?_;clear hchk;intro z1 z2 z3 z4 z5 z6 hchk;refine JK (an5 hchk) ?_;clear hchk;intro y1 y2 y3 y4 y5;have hk:scope.kind= .function:=yW z4;have hco:scope.isCoroutine=G7:=(Dd _).mp z2;have hgen:scope.isGenerator=G7:=(Dd _).mp z3;refine zf (YD z5) ?_;clear z5;intro aps dl hp hpn;refine za (Y3 z6) ?_;clear z6;intro t rq z6;subst rq;refine za (ya z6) ?_;clear z6;intro tw ets z6;obtain⟨tn,ws⟩:=tw;refine za (iOne z6) ?_;clear z6;intro atv e1 _;obtain rfl:ws=[atv]:=e1;refine ju (YA ets) λdd kk sl hts=>?_;refine JJ (CO.B) λuM base outer env B hA hf hke=>?_;refine YX (CO.top) λp loose mean mg mb top=>?_;have lc:∀x∈xiNames,scope.names.lookup x=G3 .local:=λx hx=>zk (Gz.mp y1 x hx);have hal:aps.length=3:=by rw[←Gs (as:=aps) (f:=(·.arg)),hpn];rfl
 have hbind:BindsTo s (fnOf name qual params body scope (.ref t) kV doc pm an cdv ct) ⟨[.ref e,u],[]⟩ [("self",.ref e),("what",u),("at",atv)]:=by
  have:=Y5 (fd:=fnOf name qual params body scope (.ref t) kV doc pm an cdv ct) (us:=[.ref e,u]) (ds:=[atv]) (s:=s) hp (by rw[hpn];exact yf (by kernel_rfl)) (by rw[hal];exact G5 rfl) (by rw[hal];exact G5 rfl) (by rw[hal];exact G5 rfl)
   (λ{M A E Q} hQ=>wpAny_seqItems (s:=s) (CO.X.keeps F.keep _ _ hts) rfl (hQ (G3 #[atv]) rfl))
  rw[hpn,hal] at this;exact this
 have N1:FW c.wy c.L s.heap ((e,Ys C t0)::news):=λp hp=>(Gp.mp hp).elim (λq=>by rw[q];exact⟨he0,neL,new⟩) (N p);rcases xiB_of y5 with⟨sp,ap,p1,p2,pos,z,q1,q2,q3,q4,v1,v2,v3,v4,w0⟩;refine code_defC B F CO.X N1 top hA hf hke ho z1 CO.room hbind ?_ (yf y4) (λg L' h₁ tk cells FG F' N' Y B' X' T' hlt=>?_) hco hgen hk
 ·show xiNames.all (λx=>DS x scope.names==G3 .local ||DS x scope.names==G3 .cell)=G6;exact Gz.mpr λx hx=>by rw[lc x hx];rfl
 have U8:XcI g h₁ L' (news) e C 0:=by have:=N' (e,Ys C t0) (Gd _ (.head _));exact⟨Gb,_,t0,this.1,.none,this.2.1,this.2.2,out⟩
 have Uk:FW g L' h₁ news:=λp hp=>N' p (Gd _ (.tail _ hp));have nmE:∀x v,(x,v)∈[(("self":Str),Value.ref e),("what",u),("at",atv)]->x∈xiNames->(x==("__debug__":Str))=G7->∀{A:Dh} {s:Gh} {Q:G9->Gh->Prop} {Er:G9->Gh->Prop} {pos:Pos},Fr g L' s.heap (bindL (DB qual scope L' fI cdv).kindOf [("self",.ref e),("what",u),("at",atv)] λ_=>Gb)->Q v s->
   GA (Gy T.prog T.w) A (Ft (.Name x pos) (DB qual scope L' fI cdv)) Q Er s:=by
  intro x v hm hx hd A s Q Er pos F q;exact wpAny_Name (FI (env:=DB qual scope L' fI cdv) hk (lc x hx) F.ns (JI (yf (by kernel_rfl)) hm (lc x hx)) q) hd
 refine FR (wpAny_Expr ?_ (j3 hk) (Xe rfl));refine MethodCall_ ?_ (jH rfl w0 rfl rfl);refine IM hk (zk y2) (loadGlobal_builtin (env:=DB qual scope L' fI cdv) (T'.g.keeps F'.keep) (mg_none_of X' T'.g (X8 y3)) (T'.b.keeps F'.keep) ((T'.builtins _ (by decide)).trans PyProof.Rows.Boot.«Exception») ?_) (by decide);refine xc_meth (X'.keeps F'.keep) ?_;refine yX (Pr:=λ_=>True) rfl (λh _=>⟨.machine,.inr (.inl rfl),Zx rfl⟩) ?_;refine args_cons (nmE _ _ (.head _) (.head _) rfl F' ?_) rfl;refine args_cons (nmE _ _ (.tail _ (.head _)) (.tail _ (.head _)) rfl F' ?_) rfl;refine args_nil ⟨trivial,?_⟩;refine yK XK.cd λcd k1 k2 k3=>?_;refine xc_binit F' Uk U8 (kF (X'.keeps F'.keep) XK.cls) (FK (X'.keeps F'.keep) XK.sub) λwA uW Ul U9=>?_;refine FR (Fa (nmE _ _ (.tail _ (.head _)) (.tail _ (.head _)) rfl uW (nmE _ _ (.head _) (.head _) rfl uW ?_)) jz);refine J2 uW Ul (X'.keeps uW.keep) U9 (DD _) k1 k2 k3 XK.obj XK.set XK.what λwB W6 uX Um Ua=>?_;refine FR (Fa (nmE _ _ (.tail _ (.tail _ (.head _))) (.tail _ (.tail _ (.head _))) rfl uX (nmE _ _ (.head _) (.head _) rfl uX ?_)) jz);refine J2 uX Um (X'.keeps uX.keep) Ua (G5 rfl) k1 k2 k3 XK.obj XK.set XK.at_ λwC W7 uY Un Ub=>?_;refine I5 ?_;obtain⟨od,osl,t,i1,i2,i3,i4,i5⟩:=Ub;rcases i2 with _|⟨dx,mA,ns,d1,d2,d3,d4,d5,d6,d7⟩
 ·refine leaveK_ uY (news':=(e,⟨.ref C,Gb,excF t,osl⟩)::news) (λp hp=>(Gp.mp hp).elim (λq=>by rw[q];exact⟨i1,i3,i4⟩) (Un p)) λuU Uj=>?_;have z:=Uj (e,⟨.ref C,Gb,excF t,osl⟩) (.head _);exact h wC _ uU (λp hp=>Uj p (.tail _ hp)) ⟨Gb,osl,t,z.1,.none,z.2.1,z.2.2,out⟩
 ·refine zA (id d2) λod es ep q1 q2=>?_;refine leaveK_ uY (news':=(e,⟨.ref C,G3 dx,excF t,osl⟩)::(dx,od)::news) (λp hp=>(Gp.mp hp).elim (λq=>by rw[q];exact⟨i1,i3,i4⟩) λhp=>(Gp.mp hp).elim (λq=>by rw[q];exact⟨q1,d5,d6⟩) (Un p)) λuU Uj=>?_;have z:=Uj (e,⟨.ref C,G3 dx,excF t,osl⟩) (.head _);have y:=Uj (dx,od) (.tail _ (.head _));exact h wC _ uU (λp hp=>Uj p (.tail _ (.tail _ hp))) ⟨G3 dx,osl,t,z.1,.some dx mA ns d1 d2 d3 d4 y.2.1 y.2.2 d7,z.2.1,z.2.2,out⟩
theorem xc_call{C fI:Gx}{u:G9}{news:Lg}(XK:XcK T.K C fI)(CO:c.Lo T)(hd:c.A.depth+1 < 1000)(F:Fr c.wy c.L s.heap c.m)(N:FW c.wy c.L s.heap news){R:Result->Gh->Prop}
  (h:∀h' tk e,Fr c.wy c.L h' c.m->FW c.wy c.L h' news->XcI c.wy h' c.L news e C 2->R (.ok (.ret (.ref e))) {s with heap:=h',toks:=tk}) :
  DI (Gy T.prog T.w) c.A (.call (.ref C) ⟨[u],[]⟩) R s:=by
 obtain⟨hh,g,dr,tk,os⟩:=s;have X:=CO.X.keeps F.keep;refine xc_core (xcL_of X XK.cls) (looks_findIn X XK.init) (λself=>bind_fn X self XK.fn) (by show 1<=_;decide) ?_;have F':Fr c.wy c.L ((hh.push (tupl [u])).push (Ys C hh.objs.size)) c.m:=(F.push _).push _;refine xc_init (c:={c with A:=c.A.under (.builtin "type.__call__" ⟨.ref C::[u],[]⟩)}) (s:=⟨(hh.push (tupl [u])).push (Ys C hh.objs.size),g,dr,tk,os⟩) (t0:=hh.objs.size) XK ⟨?_,CO.X,CO.top,hd⟩ F' ((N.pushKeep _).pushKeep _) (by heap_get) ?_ ?_ (λp hp=>?_)
  λh' tk' F2 N2 I2=>⟨rfl,h h' tk' _ F2 N2 I2⟩
 ·refine JJ (CO.B) λuM base outer env h1 h2 h3 h4=>?_;exact⟨uM,base,outer,env,h1,h2,h3,h4⟩
 ·exact DQ (D6 F.ns.lt)
 ·rcases q:c.wy.get? (hh.objs.size+1) with _|o
  ·rfl
  ·exact absurd (M0 (Da _) (Fk (F.keep _ _ q))) (DH _)
 ·exact D9 (D6 (Fk (N p hp).1))
end
inductive RaD (M:IY) (E:G9->Gh->Prop) (v:G9) (wV:Gh):Prop
 |mk (e od osl t k kd kdt ksl) (hv:v= .ref e) (he:wV.heap.get? e=G3 ⟨.ref k,od,excF t,osl⟩) (l1:I0 M wV.heap (isSubtype (.ref k) (.type "BaseException")) G6) (l2:I0 M wV.heap (isSubtype (.ref k) (.type "type")) G7) (hk:wV.heap.get? k=G3 ⟨.type "type",kd,kdt,ksl⟩) (hE:E v wV):RaD M E v wV
theorem JS{M:IY}{A:Dh}{E:G9->Gh->Prop}{s:Gh}{env:Env}{x:Sem G9}{Q:Flow->Gh->Prop}(hh:A.handled=Gb)
  (h:GA M A x (RaD M E) E s) :
  GA M A (raiseStmt env (G3 x) Gb) Q E s:=by
 unfold raiseStmt;refine Ge (Gu h (λv wV h₁=>?_) λ_ _ x=>x);obtain⟨hp,g,d,tk,os⟩:=wV;obtain⟨e,od,osl,t,k,kd,kdt,ksl,rfl,he,l1,l2,hk,hE⟩:=h₁;dsimp only at he l1 l2 hk
 repeat (first|with_reducible refine Fz he ?_|with_reducible refine Fz hk ?_|with_reducible refine Looks.at (by assumption) ?_|wp_step)
 exact wpAny_raiseNew_none hh hE
structure FnsOk (T:Tp) (P:Prg) (N:Nm):Prop where
 fn:∀f a,T.fn f=G3 a->∃fn,P.fn f=G3 fn/\FnAt T N fn a
 cls:∀f C,T.cls f=G3 C->P.fn f=Gb/\∀i,P.cls f=G3 i->∃fI,T.fn i=G3 fI/\makesIn T.K C=G6/\I8 T.K (.ref C) "__init__"= G3 (G3 (.ref fI))/\isFn T.K (.ref fI)=G6
 lam:∃g,P.fn T.lamK=G3 ⟨1,[],1,.ret (.a (.l 0) g)⟩/\T.attr g=T.lamN/\P.frm T.lamK=G7
 lamX:zL T.lamX "__debug__"= G7
 exc:∀f,P.exc f=G6->T.cls f=G3 f/\∃fI,XcK T.K f fI
inductive Made (T:Tp) (c:Cx) (s:Gh) (ρ:Rn) (E:Lg) (X:Nat->Hp->Prop) (v:G9) (s':Gh):Prop
 |mk (h':Do) (tk k:Nat) (fI:Gx) (H':Hp) (ρ':Rn) (E':Lg) (e:Gx) (tb:Obj):s'={s with heap:=h',toks:=tk}->c.Rep T H' ρ' E' h'->Ext E ρ E' ρ'->v= .ref e->XcK T.K k fI->TbOk T E' tb->FW c.wy c.L h' (E'++(T.tab,tb)::c.G)->
   XcE c.wy h' c.L (E'++(T.tab,tb)::c.G) e k->X k H'->Made T c s ρ E X v s'
section
variable {T:Tp} {P:Prg} {N:Nm} {O:Orc} {d w:Nat} {c:Cx} {s:Gh} {ρ:Rn} {E:Lg} {H:Hp} {X:Nat->Hp->Prop} {Er:G9->Gh->Prop}
theorem Cx.Ok.lt(C:c.Ok T d):c.A.depth+1 < 1000:=Ga (Ih (Db _ _) (G5 rfl:2<=8)) C.dep
theorem Cx.Ok.lo(C:c.Ok T d):c.Lo T:=⟨C.B,C.X,C.top,Nat.lt_of_succ_lt C.lt⟩
theorem JN{as:List V}(h:Yy as=G6):∃x,as=[.str x]:=by
 rcases as with _|⟨a,_|⟨b,r⟩⟩
 ·exact absurd h G4
 ·rcases a<;>first|exact⟨_,rfl⟩|exact absurd h G4
 ·rcases a<;>exact absurd h G4
theorem fltB_iff{b:S}{f:Nat->Mn.E->Prop}(h:fltB b f):∃k e,b= .fault k e/\f k e:=by
 rcases b<;>first|exact⟨_,_,rfl,h⟩|exact h.elim
theorem c0_ok:js (FlyX T) T C0 d:=λ_ _ _ _ _ _ _ _ _ _ _ _ _ ho=>ho.elim
theorem JD(R:c.Rep T H ρ E s.heap)(CO:c.Lo T)(hd:c.A.depth+1 < 1000){k fI:Gx}{u:G9}(XK:XcK T.K k fI)(q:X k H):DI (Gy T.prog T.w) c.A (.call (.ref k) ⟨[u],[]⟩) (λr s'=>match r with|.ok (.ret v)=>Made T c s ρ E X v s'|_=>False) s:=by refine za (id R.N) λtb hb Nw=>?_;exact xc_call XK CO hd R.F Nw λh' tk e F' N' I'=>⟨h',tk,k,fI,H,ρ,E,e,tb,rfl,⟨F',⟨tb,hb,N'⟩,R.nd,R.len,R.enc,R.ft⟩,Ext.refl _ _,rfl,XK,hb,N',I'.toE,q⟩
theorem FnsOk.ex_eq(FO:FnsOk T P N){k a:Nat}(hx:P.exc k=G6)(h:T.fn k=G3 a∨T.cls k=G3 a):a=k:=by
 refine zh (FO.exc k hx) λe1 _=>?_;rcases h with q|q
 ·refine za (FO.fn k a q) λfn e2 _=>?_;rw[(FO.cls k k e1).1] at e2;exact nn e2
 ·rw[e1] at q;exact(Gm q).symm
theorem iFault{lm:Bool}{sc:GW}{tb:List Str}{k:Nat}{e:Mn.E}{xs:List Gq}(h:chkS N T.K lm sc tb (.fault k e) xs=G6):∃y p,xs=[.Return (G3 y) p]/\chkE N T.K lm sc tb (.call k (.cons e .nil)) y=G6:=by refine za (iOne h) ?_;clear h;intro x rq h;subst rq;refine zf (iRet h) ?_;clear h;intro vo p rq h;subst rq;refine za (ya h) ?_;clear h;intro y rq h;subst rq;exact⟨y,p,rfl,h⟩
theorem flt_call(K:TpOk T P N)(FO:FnsOk T P N){g:Nat}{a:Gx}{as:List V}{us:List G9}(C:c.Ok T (d+1))(R:c.Rep T H ρ E s.heap)(hv:VRs T E ρ as us)(hf:T.fn g=G3 a∨T.cls g=G3 a)(he:Jv P g as H X) :
  GA (Gy T.prog T.w) c.A (call (.ref a) us) (Made T c s ρ E X) Er s:=by
 refine IC (FT (R:=λr s'=>match r with|.ok (.ret v)=>Made T c s ρ E X v s'|_=>False) ?_ λr s' z=>by rcases r with e|(v|_|_|_)<;>first|exact z|exact z.elim);replace he:(match P.fn g with
  |some fn=>fltB fn.body λk e=>gd (P.exc k) (ifS (Zl fn as) λL=>ev P C0 e (λ_ _=>False) L H λv H'=>strP v λ_=>X k H')
  |none=>gd (P.exc g && Yy as) (X g H)):=he
 induction hg:P.fn g using GD with
 |none=>rw[hg] at he;refine zh (gd_iff.mp he) ?_;clear he;intro h1 he;refine zh (an2 h1) ?_;clear h1;intro h1 h2;refine zj (JN h2) λx rq=>?_;subst rq;refine za (hv.of1) λu rq _=>?_;subst rq;refine zj (FO.exc g h1).2 λfI XK=>?_;rw[FO.ex_eq h1 hf];exact JD R C.lo C.lt XK he
 |some fn=>
  rw[hg] at he;refine zf (fltB_iff he) ?_;clear he;intro k e hbody he;refine zh (gd_iff.mp he) ?_;clear he;intro hx he;refine za (zq he) ?_;clear he;intro Ug hL he;refine zj (FO.exc k hx).2 λfI XK=>?_;have hf:T.fn g=G3 a:=hf.resolve_right λq=>by have:=(FO.cls g a q).1;rw[hg] at this;cases this
  refine za (FO.fn g a hf) λfn' e1 FA=>?_;rw[hg] at e1;cases e1;refine Jy (f:=g) FA C R hv hL λ{fm body scope lm tb m cm cells h₁ tk env outer} z5 ndt FM FS cg RR LK a1 a2 a3 a4 FG=>?_;rw[hbody] at z5;refine zf (iFault z5) ?_;clear z5;intro y p rq z5;subst rq;rcases Xm K z5 with⟨z,py,xs,pos,a',ha,hg,h2,h3,h4⟩;obtain rfl:=FO.ex_eq hx ha;rw[zC];have CC:=FM.cx (m:=m) (ex:=c.G) cg;refine wpAny_Return_some (Call_ (Zd CC RR.F (FS.glob _ h2) (beq_iff_eq.mp (an2 hg).1) (YR h3) ?_));refine yX (Pr:=λh=>T.K.In h) (yt h4) (Ym CC (an2 hg).2) ?_;have ha:LsOk (FlyX T) T P N C0 d (.cons e .nil):=(yi K c0_ok (.cons e .nil)).ls;refine Gu (ha (s:={s with heap:=h₁,toks:=tk}) (c:=fm.cx m cm (c.G++cells)) (X:=λ_ _=>False) (Q:=λv H'=>tupP v λvs=>arg1 vs λu=>strP u λ_=>X a' H') h4 CC (FS.cx _ _ _) he RR LK λ_ _ q=>absurd q XPost.no) (λus' s' q=>?_) λ_ _ z=>z;obtain⟨h',tk',vs,H',ρ',E',rfl,R',x',hvs,hl,q⟩:=q;refine⟨CC.X.keeps R'.F.keep,?_⟩;refine za (zY q) ?_;clear q;intro u rq q;subst rq;refine za (yw q) ?_;clear q;intro _ _ q;refine za (hvs.of1) λu' rq _=>?_;subst rq;refine IC (FT (JD (X:=X) (s:={s with heap:=h',toks:=tk'}) R' CC.lo CC.lt XK q) λr s' z=>?_);rcases r with e|(v|_|_|_)<;>first|exact z.elim|skip
  obtain⟨h2',tk2,k2,fI2,H2,ρ2,E2,e2,tb2,rfl,R2,x2,rfl,XK2,hb2,N2,⟨od,osl,t,i1,i4,i5,i6⟩,q2⟩:=z;refine leaveK_ R2.F (news':=(e2,⟨.ref k2,od,excF t,osl⟩)::(E2++(T.tab,tb2)::c.G)) (λq hq=>(Gp.mp hq).elim (λz=>by rw[z];exact⟨i1,i4,i5⟩) λhq=>N2 q (Xf hq)) λuU Uj=>?_;have z:=Uj (e2,_) (.head _);have Uk:FW c.wy c.L h2' (E2++(T.tab,tb2)::c.G):=λp hp=>Uj p (.tail _ hp);refine⟨h2',tk2,k2,fI2,H2,ρ2,E2,e2,tb2,rfl,⟨uU,⟨tb2,hb2,Uk⟩,?_,R2.len,R2.enc,R2.ft⟩,x'.trans x2,rfl,XK2,hb2,Uk,⟨od,osl,t,z.1,z.2.1,z.2.2,λp hp=>i6 p (Xf hp)⟩,q2⟩;refine DX (IB _ ?_) R2.nd;exact(Fx _).append ((FX _ _).cons_cons _)
theorem Made.up{h₁:Do}{tk₁:Nat}{ρ₁:Rn}{uQ:Lg}(x:Ext E ρ uQ ρ₁){v:G9}{s':Gh}:Made T c {s with heap:=h₁,toks:=tk₁} ρ₁ uQ X v s'->Made T c s ρ E X v s'
 |⟨h',tk,k,fI,H',ρ',E',e,tb,e0,a,y,b,f,g,i,j,q⟩=>⟨h',tk,k,fI,H',ρ',E',e,tb,e0,a,x.trans y,b,f,g,i,j,q⟩
theorem ra_ok(K:TpOk T P N)(FO:FnsOk T P N):RaOk (FlyX T) T P N O (d+1) w:=by
 intro g e ih xs f lm sc tb X L H Q ρ E s Er m cm ex Gc hc nd F S he cg R Lk PO XR;refine za (iOne hc) ?_;clear hc;intro x rq hc;subst rq;refine zA (iRaise hc) ?_;clear hc;intro a b p rq hc;subst rq;refine zh (an2 hc) ?_;clear hc;intro h1 hc;obtain rfl:b=Gb:=ZH h1;refine za (ya hc) ?_;clear hc;intro y rq hc;obtain rfl:a=G3 y:=rq;rcases Xm K hc with⟨z,py,ys,pos,ga,ha,hg,h2,h3,h4⟩;rw[zC,arm_exec_Raise];have CC:=F.cx (m:=m) (ex:=ex) cg;show GA _ _ (do IG p;raiseStmt f.fe (G3 (do let v ←Ft (.Call (.Name z py) ys [] pos) f.fe;IG p;pure v)) Gb) _ _ _;refine Ge (Dl (JS F.hh (Ge (Gu (Q:=Made T (f.cx m cm (ex++Gc)) s ρ E X) (E:=Er) ?_ (λv wV q=>Ge (Dl (Gv ?_))) λ_ _ z=>z))))
 ·refine Call_ (Zd CC R.F (S.glob _ h2) (beq_iff_eq.mp (an2 hg).1) (YR h3) ?_);refine yX (Pr:=λh=>T.K.In h) (yt h4) (Ym CC (an2 hg).2) ?_;refine Gu (ih (c:=f.cx m cm (ex++Gc)) h4 CC (S.cx _ _ _) he R Lk (XR m cm (ex++Gc) λ_ h=>Gg _ h)) (λus' s' q=>?_) λ_ _ z=>z;obtain⟨h',tk',vs,H',ρ',E',rfl,R',x',hvs,hl,q⟩:=q;exact⟨CC.X.keeps R'.F.keep,Gu (flt_call (s:={s with heap:=h',toks:=tk'}) K FO CC R' hvs ha q) (λ_ _ z=>z.up x') λ_ _ z=>z⟩
 ·obtain⟨h',tk,k,fI,H',ρ',E',e0,tb',rfl,R',x',rfl,XK,hb,N',I',q⟩:=q;have X':=CC.X.keeps R'.F.keep;refine za (GK.mp XK.typ) λoK q1 q2=>?_;obtain⟨kc,kd,kdt,ksl⟩:=oK;have q2:kc= .type "type":=q2;subst q2;rcases I' with⟨od,osl,t,i1,i2,i3,i4⟩;exact⟨e0,od,osl,t,k,kd,kdt,ksl,rfl,i1,FK X' XK.base,FK X' XK.noT,X' _ _ q1,XR m cm (ex++Gc) (λ_ h=>Gg _ h) _ _ ⟨h',tk,k,H',ρ',E',rfl,x',q,fly_new (s:={s with heap:=h',toks:=tk}) CC R' hb R'.F N' ⟨od,osl,t,i1,i2,i3,i4⟩⟩⟩
end
section
variable {T:Tp} {P:Prg} {N:Nm} {O:Orc} {d w:Nat} {c:Cx} {s:Gh} {ρ:Rn} {E:Lg} {H:Hp} {Q:V->Hp->Prop} {X:Nat->Hp->Prop} {Er:G9->Gh->Prop}
def OrcC(T:Tp)(O:Orc)(d:Nat):Prop:=∀(c:Cx) (f:Nat) (as:List V) (H:Hp) (Q:V->Hp->Prop) (X:Nat->Hp->Prop) (ρ:Rn) (E:Lg) (s:Gh) (us:List G9) (fv:G9) (Er:G9->Gh->Prop),
 c.Ok T d->O f as H Q X->c.Rep T H ρ E s.heap->VRs T E ρ as us->CalAt T E f fv->(∀e s',XPost (FlyX T) c s ρ E X e s'->Er e s')->DI (Gy T.prog T.w) c.A (.call fv ⟨us,[]⟩) (uB T c s ρ E Q Er) s
theorem OrcC.ok(h:OrcC T O d):js (FlyX T) T O d:=λc f as H Q X ρ E s us fv Er C ho R hv hc XR=>
 IC (FT (h c f as H Q X ρ E s us fv Er C ho R hv hc XR) λ_ _ q=>q)
theorem Yp{α β:Type}{x:Sem α}{a:α}{f:α->Sem β}{r:Sem β}(h:x=pure a)(k:f a=r):(x >>= f)=r:=by rw[h,pure_bind];exact k
theorem KD{ar:Arg}{name qual:Str}{body:G8}{csc:GW}{pm ctv:G9}{c':Gx}{u:G9} :
  bindArgs (kla_fn name qual ⟨[],[ar],Gb,[],[],Gb,[]⟩ body csc [] pm (.ref c') ctv) ⟨[u],[]⟩=pure [(ar.arg,u)]:=by
 have lk:DS ar.arg [(ar.arg,u)]=G3 u:=by rw[GS,beq_self_eq_true]
 unfold bindArgs;refine Yp (a:=([(ar.arg,u)],[])) rfl ?_;refine Yp (a:=Gb) rfl ?_;refine Yb G4 (Yb ?_ (Yp (a:=[(ar.arg,u)]) rfl ?_))
 ·show ¬(!(List.filter (λn=>(DS n [(ar.arg,u)]).isNone) [ar.arg]).isEmpty)=G6;rw[Ff (by rw[lk];exact G4)];exact G4
 ·refine Yp (a:=(_,[])) rfl ?_;refine Yb G4 ?_;show pure (List.filterMap (λn=>(DS n [(ar.arg,u)]).map (n,·)) [ar.arg])=_;rw[IV,lk];rfl
set_option tactic.hygienic true in
theorem call_lam{f:Nat}{a:Gx}{as:List V}{us:List G9}(K:TpOk T P N)(FO:FnsOk T P N)(hL:LamAt T E f a)(C:c.Ok T (d+1))(R:c.Rep T H ρ E s.heap)(hv:VRs T E ρ as us){fn:Fn}(hf:P.fn f=G3 fn)(he:yM P w O fn f as H Q X) :
  DI (Gy T.prog T.w) c.A (.call (.ref a) ⟨us,[]⟩) (uB T c s ρ E Q Er) s:=by
 obtain⟨ar,p1,p2,csc,pm,c',ctv,oc,vs,t,rfl,hm,hx,hloc,hcell,hk,hco,hgen,hc1,hc2,hc3⟩:=hL;refine yK (FO.lam) λg g1 g2 g3=>?_;rw[g1] at hf;cases hf;refine za (zq he) ?_;clear he;intro Ug hL he;refine zP (jp hL) ?_;clear hL;intro b1 b2 rq2;subst rq2;cases hv with
 |nil=>exact absurd b2 (Dj 0)
 |@cons v u vs' us' hvv hvr=>
  cases hvr with
  |cons _ _=>exact absurd (Dm b1) (Dj _)
  |nil=>
   refine JJ (C.B) λuM base outer env B hA hfr hke=>?_;refine YX (C.top) λp loose mean mg mb top=>?_;refine za (id R.N) λW0 hb Nw=>?_;have hcr:s.heap.CodeRec (.ref c') T.lamQ:=⟨c',oc,vs,t,rfl,R.inNews hc1,hc2,hc3⟩;refine kla_code (binds:=[(ar.arg,u)]) B R.F C.X Nw top hA hfr hke (Gg _ hm) hcr (by have:=C.dep;have:recursionLimit=1000:=rfl;exact on2 (by assumption) this) KD (by
    intro y hy;simp only[GQ] at hy;subst hy;rw[hx];exact hloc) (λg' L' h₁ FG F' N' B' X' T'=>?_) hco hgen hk hcell
   have hcellN:∀x,csc.names.lookup x≠G3 .cell:=λx h=>hcell _ (yh h) rfl
   let cc:Cx:={A:=c.A.deeper (envX T.lamQ csc L' a (.ref c') []),fe:=envX T.lamQ csc L' a (.ref c') [],wy:=g',L:=L',m:=λy=>[(ar.arg,u)].reverse.lookup y,G:=c.G,nm:=λx=>match csc.names.lookup x with|some .local=>[(ar.arg,u)].reverse.lookup x|_=>Gb}
   have CO:cc.Ok T d:=
    {B:=⟨c.A,base,env::outer,envX T.lamQ csc L' a (.ref c') [],B',by show c.A.frames.map _=_;rw[hA];rfl,rfl,hk⟩
     kd:=hk
     gl:=rfl
     bi:=rfl
     X:=X'
     top:=⟨p,loose,mean,mg,mb,T'⟩
     tab:=C.tab.keeps FG.keep
     le:=Fy C.le
     tp:=λe=>absurd (e▸C.le) (Nat.not_succ_le_self 20)
     hh:=C.hh
     dep:=by have:=C.dep;show c.A.depth+1+4*d+8<=1000;exact om78 this
     un:=by have:=C.un;show c.A.units+3+16*d+200<=9900;exact om79 this
     scr:=by refine za (C.scr) λvs h1 h2=>?_;refine za (h1) ?_;clear h1;intro o ho' r;exact⟨vs,⟨o,FG.keep _ _ ho',r⟩,h2⟩
     look:=λx u' hu hd=>λ{prog wo A' s' Q' Er' pos} F N q=>by
      have hu:(match csc.names.lookup x with|some .local=>[(ar.arg,u)].reverse.lookup x|_=>Gb)=G3 u':=hu
      split at hu
      ·rename_i hx';exact wpAny_Name (FI (env:=envX T.lamQ csc L' a (.ref c') []) hk hx' F.ns hu q) hd
      ·cases hu
     cel:=λx hx'=>absurd hx' (hcellN x)}
   have SO:ScOk T G7 csc cc:=⟨λx h=>zk h,λx h=>absurd (zk h) (hcellN x),λh=>by cases h⟩;have hl:zu csc T.lamX .local=G6:=by
    unfold zu;rw[j4] at hloc
    induction e:csc.names.find? (λp=>zL p.1 T.lamX) using GD with
    |none=>rw[e] at hloc;cases hloc
    |some q=>rw[e] at hloc;cases q with|mk a b=>cases hloc;rfl
   have chk:chkE N T.K G7 csc [T.lamX] (.a (.l 0) g) (.Attribute (.Name T.lamX p1) T.lamN p2)=G6:=by show(zL (N.attr g) T.lamN && G6 && (zL T.lamX T.lamX && !zL T.lamX "__debug__"))=G6;rw[K.nat,g2,eqStr_iff.mpr rfl,eqStr_iff.mpr rfl,FO.lamX];rfl
   have RR:cc.Rep T H ρ E h₁:=⟨F',⟨W0,hb,N'⟩,R.nd,R.len,R.enc,R.ft⟩;have LK:LOk T [T.lamX] cc E ρ [v]:=by
    intro k w hkw hne
    induction k using Nat.casesOn with
    |succ k=>simp at hkw
    |zero=>simp only[List.getElem?_cons_zero,Option.some.injEq] at hkw;subst hkw;refine⟨T.lamX,u,rfl,?_,hvv⟩;show(match csc.names.lookup T.lamX with|some .local=>[(ar.arg,u)].reverse.lookup T.lamX|_=>Gb)=G3 u;rw[hloc,←hx];simp[GS]
   have he':ev P O (.a (.l 0) g) (λ_ _=>False) [v] H Q:=he;refine Gu (ev_a (RX:=FlyX T) (d:=d) K g (ev_l 0) (c:=cc) (lm:=G7) (s:={s with heap:=h₁,toks:=s.toks+1}) (Er:=λ_ _=>False) chk CO SO he' RR LK λ_ _ q=>absurd q XPost.no) (λv' s' q=>?_) λ_ _ e=>e.elim;obtain⟨h',tk',Wd,H',ρ',E',rfl,Ur,x',hv2,qq⟩:=q;refine za (id Ur.N) λW2 wa Ul=>?_;exact leaveK_ Ur.F Ul λuU Uj=>⟨h',tk',Wd,H',ρ',E',rfl,⟨uU,⟨W2,wa,Uj⟩,Ur.nd,Ur.len,Ur.enc,Ur.ft⟩,x',hv2,qq⟩
end
structure Sh (E:Lg) (ρ ρ':Rn) (E':Lg):Prop where
 k:∀(i:Nat) (p:Gx×Gx),ρ'[i]?=G3 p->(ρ++ρ')[ρ.length+i]?=G3 p
 f:∀p∈E,Z0 p.2=G6->p∈E'
section
variable {T:Tp} {E E':Lg} {ρ ρ':Rn}
theorem shGo_map(k:Nat):∀vs:List V,shV.go k vs=vs.map (shV k):=by
 intro vs
 induction vs with
 |nil=>exact rfl
 |cons v vs ih=>
  exact by simp[shV.go,ih]
theorem VR.shift(x:Sh E ρ ρ' E'){v:V}{u:G9}(h:VR T E ρ' v u):VR T E' (ρ++ρ') (shV ρ.length v) u:=
 VR.rec (motive_1:=λv u _=>VR T E' (ρ++ρ') (shV ρ.length v) u) (motive_2:=λvs us _=>VRs T E' (ρ++ρ') (vs.map (shV ρ.length)) us) .none .bool .int .str (λh=>.obj (x.k _ _ h))
  (λ{vs us a} h _ r=>(congrArg (λz=>VR T E' (ρ++ρ') (.tup z) (.ref a)) (shGo_map ρ.length vs)).mpr (.tup (h.ext x.f) r)) (λh=>.fn (h.ext x.f)) (λh=>.rng (h.ext x.f)) .scr .nil (λ_ _ a r=>.cons a r) h
theorem VRs.shift(x:Sh E ρ ρ' E'){v:List V}{u:List G9}(h:VRs T E ρ' v u):VRs T E' (ρ++ρ') (v.map (shV ρ.length)) u:=
 h.ind (Pr:=λv u=>VRs T E' (ρ++ρ') (v.map (shV ρ.length)) u) .nil λa _ r=>.cons (a.shift x) r
theorem FRs.shift{κ:Type}{nm:κ->Str}(x:Sh E ρ ρ' E'){fs:List (κ×V)}{es:List FV}(h:FRs T E ρ' nm fs es):FRs T E' (ρ++ρ') nm (fs.map λp=>(p.1,shV ρ.length p.2)) es:=
 FRs.rec (motive:=λfs es _=>FRs T E' (ρ++ρ') nm (fs.map λ(p:κ×V)=>(p.1,shV ρ.length p.2)) es) .nil (λh v _ r=>.cons h (v.shift x) r) h
theorem KVs.shift(x:Sh E ρ ρ' E'){fs:List (List Nat×V)}{es:List (Str×G9)}(h:KVs T E ρ' fs es):KVs T E' (ρ++ρ') (fs.map λp=>(p.1,shV ρ.length p.2)) es:=
 KVs.rec (motive:=λfs es _=>KVs T E' (ρ++ρ') (fs.map λ(p:List Nat×V)=>(p.1,shV ρ.length p.2)) es) .nil (λv _ r=>.cons (v.shift x) r) h
theorem foot1_sh(k:Nat)(o:O)(p:Gx×Gx):zZ (shO k o) p=zZ o p:=by rcases o<;>rfl
theorem foot_sh(k:Nat):∀(H:List O) (ρ:Rn),foot (H.map (shO k)) ρ=foot H ρ:=by
 intro H
 induction H with
 |nil=>intro y9;exact rfl
 |cons o H ih=>
  intro xx;rcases xx with _|⟨p,ρ⟩
  ·exact rfl
  ·show zZ (shO k o) p++foot (H.map (shO k)) ρ=zZ o p++foot H ρ;rw[foot1_sh,ih ρ]
theorem foot_app:∀{H:List O} {ρ:Rn} {H':List O} {ρ':Rn},ρ.length=H.length->foot (H++H') (ρ++ρ')=foot H ρ++foot H' ρ':=by
 intro H
 induction H with
 |nil=>
  intro xx y2 y3 h;rcases xx with _|⟨_,_⟩
  ·rfl
  ·exact by simp at h
 |cons o H ih=>
  intro xx H' ρ' h;rcases xx with _|⟨p,ρ⟩
  ·exact by simp at h
  ·show zZ o p++foot (H++H') (ρ++ρ')=(zZ o p++foot H ρ)++foot H' ρ';rw[ih (by simpa using h),Gw]
theorem OAt.shift(x:Sh E ρ ρ' E'){a d:Gx}{o:O}(y:OAt T E ρ' a d o)(hm:∀b∈zZ o (a,d),∀ob,(b,ob)∈E->(b,ob)∈E'):OAt T E' (ρ++ρ') a d (shO ρ.length o):=by
 induction o using O.casesOn with
 |list vs=>exact GY (λus=>GY λn h=>⟨hm a (.head _) _ h.1,h.2.1.shift x,by rw[Gs];exact h.2.2⟩) y
 |inst c fs=>refine GY (λC=>GY λes=>GY λn h=>⟨h.1,hm a (.head _) _ h.2.1,hm d (.tail _ (.head _)) _ h.2.2.1,h.2.2.2.1.shift x,by rw[Gs];exact h.2.2.2.2.1,λp hp=>?_⟩) y;refine za (Df.mp hp) λq hq rq2=>?_;subst rq2;exact h.2.2.2.2.2 q hq
 |exc c=>exact GY (λC=>GY λob=>GY λt h=>⟨h.1,hm a (.head _) _ h.2.1,h.2.2⟩) y
 |dict es=>exact GY (λo=>GY λkvs h=>⟨hm a (.head _) _ h.1,h.2.1,h.2.2.1.shift x,by rw[Gs];exact h.2.2.2.1,h.2.2.2.2⟩) y
theorem flat_vr{v:V}{u:G9}(h:VR T E ρ v u)(f:Yg v=G6){uQ:Lg}{ρ₁:Rn}:VR T uQ ρ₁ v u:=by
 rcases h<;>first|exact .none|exact .bool _|exact .int _ _|exact .str _ _|exact absurd f G4
theorem flat_vrs{vs:List V}{us:List G9}(h:VRs T E ρ vs us)(f:vs.all Yg=G6){uQ:Lg}{ρ₁:Rn}:VRs T uQ ρ₁ vs us:=
 h.ind (Pr:=λvs us=>vs.all Yg=G6->VRs T uQ ρ₁ vs us) (λ_=>.nil) (λh _ r f=>.cons (flat_vr h (GC.mp f).1) (r (GC.mp f).2)) f
end
section
variable {T:Tp} {c:Cx} {s:Gh} {ρ:Rn} {E:Lg} {H:Hp} {d:Nat}
theorem Rep.aside(R:c.Rep T H ρ E s.heap):∃uQ uR,E.Perm (uQ++uR)/\(∀p∈uQ,Z0 p.2=G6/\p.1∉foot H ρ)/\(c.add uR).Rep T [] [] uQ s.heap:=by
 refine za (id R.N) λtb hb N=>?_;have nd1:(E.map (·.1)).Nodup:=by have nd:=R.nd;rw[GB] at nd;exact(GG.mp nd).1
 have mk:∀uQ uR:Lg,E.Perm (uQ++uR)->(TbOk T uQ tb)->(c.add uR).Rep T [] [] uQ s.heap:=λuQ uR hp ht=>by
  have hperm:∀o:Obj,(E++(T.tab,o)::c.G).Perm (uQ++(T.tab,o)::(uR++c.G)):=λo=>by refine(hp.append_right _).trans ?_;rw[Gw];exact List.Perm.append_left _ (DF (l₁:=uR) (a:=(T.tab,o)) (l₂:=c.G))
  refine⟨R.F,⟨tb,ht,λp hm=>N p ((hperm tb).mem_iff.mpr hm)⟩,?_,rfl,λi o a d h=>by simp at h,.nil⟩;exact(((hperm (Dz #[])).map _).nodup_iff).mp R.nd
 obtain⟨ps,e,h|⟨c',oc,vs,t,h1,h2,h3,h4⟩⟩:=id hb
 ·exact⟨[],E,by simp,by simp,mk [] E (by simp) ⟨ps,e,.inl h⟩⟩
 ·refine xe2c1 (List.append_of_mem h2) λA B rq2=>?_;subst rq2;refine⟨[(c',oc)],A++B,DF,λp hp=>?_,mk [(c',oc)] (A++B) DF ⟨ps,e,.inr ⟨c',oc,vs,t,h1,Gn ..,h3,h4⟩⟩⟩;simp only[GQ] at hp;subst hp;refine⟨Zi h3,λhm=>?_⟩;refine jR hm ?_;intro i o p e1 e2 e3;obtain⟨a,dd⟩:=p;have y:=R.enc i o a dd e1 e2;have same:∀ob,(c',ob)∈A++(c',oc)::B->ob=oc:=λob hob=>by have:=YG nd1 hob h2 rfl;exact(Prod.mk.inj this).2
  induction o using O.casesOn with
  |list vs=>refine zf (y) ?_;clear y;intro us n h1 _;simp only[zZ,GQ] at e3;subst e3;have:=same _ h1;rw[←this] at h3;cases h3
  |inst c fs=>
   refine XN (y) ?_;clear y;intro C es n _ h1 h2' _;simp only[zZ,Gp,D1,or_false] at e3;rcases e3 with e3|e3
   ·subst e3;have:=same _ h1;rw[←this] at h3;cases h3
   ·subst e3;have:=same _ h2';rw[←this] at h3;cases h3
  |exc c=>refine XN (y) ?_;clear y;intro C ob t' _ h1 _ h2';simp only[zZ,GQ] at e3;subst e3;have:=same _ h1;rw[←this,h2'] at h3;cases h3;simp at h4
  |dict es=>refine zF (y) ?_;clear y;intro o' kvs h1 h2' _;simp only[zZ,GQ] at e3;subst e3;have:=same _ h1;refine yK (h2') ?_;clear h2';intro es' _ h5 _;rw[←this,h5] at h3;cases h3
theorem Rep.back{H':Hp}{ρ':Rn}{uQ uR E':Lg}{h':Do}(R:c.Rep T H ρ E s.heap)(hp:E.Perm (uQ++uR))(hf:∀p∈uQ,Z0 p.2=G6/\p.1∉foot H ρ)(R':(c.add uR).Rep T H' ρ' E' h')(x:Ext uQ [] E' ρ') :
  c.Rep T (H++H'.map (shO H.length)) (ρ++ρ') (E'++uR) h'/\Ext E ρ (E'++uR) (ρ++ρ')/\Sh E' ρ ρ' (E'++uR):=by
 refine za (id R'.N) λtb hb N=>?_;have hall:∀p∈E,p∈E'++uR:=λp hpm=>by
  rcases GL.mp (hp.mem_iff.mp hpm) with q|q
  ·exact Gg _ (x.fix p q (hf p q).1)
  ·exact Gd _ q
 have xE:Ext E ρ (E'++uR) (ρ++ρ'):=⟨λi p e=>by rw[List.getElem?_append_left (List.getElem?_eq_some_iff.mp e).1];exact e,λp hpm _=>hall p hpm⟩;have hperm:∀o:Obj,(E'++(T.tab,o)::(uR++c.G)).Perm ((E'++uR)++(T.tab,o)::c.G):=λo=>by rw[Gw];exact List.Perm.append_left _ (DF (l₁:=uR) (a:=(T.tab,o)) (l₂:=c.G)).symm
 have sh:Sh E' ρ ρ' (E'++uR):=⟨λi p e=>by rw[List.getElem?_append_right (Db _ _),Dx];exact e,λp hpm _=>Gg _ hpm⟩;have nd:(((E'++uR)++(T.tab,Dz #[])::c.G).map (·.1)).Nodup:=(((hperm (Dz #[])).map _).nodup_iff).mp R'.nd;refine⟨⟨R'.F,⟨tb,hb.ext λp hpm _=>Gg _ hpm,λp hm=>N p ((hperm tb).mem_iff.mpr hm)⟩,nd,by simp[R.len,R'.len],λi o a dd h1 h2=>?_,?_⟩,xE,sh⟩
 ·by_cases hi:i < H.length
  ·rw[List.getElem?_append_left hi] at h1;rw[List.getElem?_append_left (by rw[R.len];exact hi)] at h2;exact(R.enc i o a dd h1 h2).mono xE λ_ _ _ hm=>hall _ hm
  ·have hi:=Fj.mp hi;rw[List.getElem?_append_right hi,List.getElem?_map] at h1;rw[List.getElem?_append_right (by rw[R.len];exact hi),R.len] at h2;refine za (GK.mp h1) λo' ho' rq2=>?_;subst rq2;have:=(R'.enc (i - H.length) o' a dd ho' h2).shift sh λ_ _ _ hm=>Gg _ hm;rw[R.len] at this;exact this
 ·rw[foot_app R.len,foot_sh];refine GG.mpr ⟨R.ft,R'.ft,?_⟩;rintro b hb1 b' hb2 rfl;refine zj (R.key b hb1) λob hob=>?_;have h2:(b,ob)∈uR:=by
   rcases GL.mp (hp.mem_iff.mp hob) with q|q
   ·exact absurd hb1 (hf _ q).2
   ·exact q
  refine jR hb2 ?_;intro i o p e1 e2 e3;refine zj ((R'.enc i o p.1 p.2 e1 e2).keys b e3) λob' hob'=>?_;rw[GB,GB] at nd;have:=(GG.mp (GG.mp nd).1).2.2 b (D4 (f:=(·.1)) hob') b (D4 (f:=(·.1)) h2);exact this rfl
end
section
variable {T:Tp} {P:Prg} {N:Nm} {d w:Nat}
theorem under_tc(A:Dh)(C:Gx)(us:List G9)(kw:List (Str×G9)):(A.under (.builtin "type.__call__" ⟨.ref C::us,kw⟩)).frames=A.frames/\(A.under (.builtin "type.__call__" ⟨.ref C::us,kw⟩)).handled=A.handled/\
  (A.under (.builtin "type.__call__" ⟨.ref C::us,kw⟩)).depth=A.depth+1/\(A.under (.builtin "type.__call__" ⟨.ref C::us,kw⟩)).units=A.units+1:=⟨rfl,rfl,rfl,rfl⟩
def JF(P:Prg)(w:Nat)(C:Orc):Orc:=λf as H Q X=>match P.fn f with
  |some fn=>ite2 (P.frm f)
    (gd (as.all Yg) (yM P w C fn f as [] (λv H'=>Q (shV H.length v) (H++H'.map (shO H.length))) λ_ _=>False))
    (yM P w C fn f as H Q X)
  |none=>(match P.cls f with
   |some i=>C i (.obj H.length::as) (H++[.inst f []]) (λv H₁=>ym v (Q (.obj H.length) H₁)) λ_ _=>False
   |none=>False)
theorem orc_ok(K:TpOk T P N)(FO:FnsOk T P N):∀(n d:Nat),n < d->OrcC T (zb P w n) d:=by
 intro n
 induction n with
 |zero=>intro d y2;intro c f as H Q X ρ E s us fv Er C ho R hv hc XR;exact ho.elim
 |succ n ih=>
  intro d hd;intro c f as H Q X ρ E s us fv Er C ho R hv hc XR;obtain⟨d,rfl⟩:∃k,d=k+2:=⟨d - 2,by omega⟩;have hd:n < d+1:=Ik hd;have ih:=ih (d+1) hd;have hst:∀st,StOk (FlyX T) T P N (zb P w n) (d+1) w st:=st_ok K ih.ok (ra_ok K FO);have body:∀{fn:Fn} {H:Hp} {Q:V->Hp->Prop} {X:Nat->Hp->Prop} {c:Cx} {ρ:Rn} {E:Lg},P.fn f=G3 fn->c.Ok T (d+2)->c.Rep T H ρ E s.heap->VRs T E ρ as us->((∃a,T.fn f=G3 a/\fv= .ref a)∨∃a,LamAt T E f a/\fv= .ref a)->yM P w (zb P w n) fn f as H Q X->(∀e s',XPost (FlyX T) c s ρ E X e s'->Er e s')->
    DI (Gy T.prog T.w) c.A (.call fv ⟨us,[]⟩) (uB T c s ρ E Q Er) s:=by
   intro fn H Q X c ρ E hf C R hv hc ho XR;rcases hc with⟨a,h1,rfl⟩|⟨a,h1,rfl⟩
   ·refine za (FO.fn f a h1) λfn' e1 FA=>?_;rw[hf] at e1;cases e1;exact call_fn0 FA hst C R hv ho XR
   ·exact call_lam K FO h1 C R hv hf ho
  replace ho:JF P w (zb P w n) f as H Q X:=ho;unfold JF at ho
  induction hf:P.fn f using GD with
  |some fn=>
   rw[hf] at ho;have hc':(∃a,T.fn f=G3 a/\fv= .ref a)∨∃a,LamAt T E f a/\fv= .ref a:=by
    rcases hc with h|⟨a,h1,h2⟩|h
    ·exact .inl h
    ·rw[(FO.cls f a h1).1] at hf;cases hf
    ·exact .inr h
   induction hfrm:P.frm f using GN with
   |true=>
    rw[hfrm] at ho;refine zh (gd_iff.mp ho) ?_;clear ho;intro hflat ho;refine zF (R.aside) λuQ uR hp hfx Uq=>?_;have hc1:(∃a,T.fn f=G3 a/\fv= .ref a)∨∃a,LamAt T uQ f a/\fv= .ref a:=by
     rcases hc' with h|⟨a,h1,h2⟩
     ·exact .inl h
     ·refine yK (FO.lam) λg g1 g2 g3=>?_;obtain⟨ar,p1,p2,csc,pm,c',ctv,oc,vs,t,e,_⟩:=h1;rw[e,g3] at hfrm;cases hfrm
    refine FT (body (c:=c.add uR) hf (C.add uR) Uq (flat_vrs hv hflat) hc1 ho λ_ _ q=>absurd q XPost.no) λr s' q=>?_;cases r with
    |error e=>exact q
    |ok f=>
     cases f with
     |ret v=>obtain⟨h',tk,v',H',ρ',E',rfl,R',x',hv',qq⟩:=q;refine zP (R.back hp hfx R' x') λR2 x2 sh=>?_;have:=hv'.shift sh;rw[R.len] at this;exact⟨h',tk,_,_,_,_,rfl,R2,x2,this,qq⟩
     |_=>exact q
   |false=>rw[hfrm] at ho;exact body hf C R hv hc' ho XR
  |none=>
   rw[hf] at ho;have hc':∃a,T.cls f=G3 a/\fv= .ref a:=by
    rcases hc with⟨a,h1,rfl⟩|h|⟨a,h1,rfl⟩
    ·refine za (FO.fn f a h1) λfn' e1 _=>?_;rw[hf] at e1;cases e1
    ·exact h
    ·obtain⟨ar,p1,p2,csc,pm,c',ctv,oc,vs,t,e,_⟩:=h1;refine za (FO.lam) λg g1 _=>?_;rw[e,g1] at hf;cases hf
   refine za (hc') ?_;clear hc';intro uO hcls rq2;subst rq2
   induction hi:P.cls f using GD with
   |some i=>
    rw[hi] at ho;refine XO ((FO.cls f uO hcls).2 i hi) λfI f1 f2 f3 f4=>?_;refine za (id R.N) λW0 hb Nw=>?_;refine make_K R.F Nw (C.X.keeps R.F.keep) f2 f3 (beq_iff_eq.mp f4) λx dx h' F' N' l1 l2=>?_;refine zP (R.newI hb hcls F' N' l1 l2) λR' x' hr=>?_;refine ZB (under_tc c.A uO us []) λu1 u2 u3 u4=>?_;have C':({c with A:=c.A.under (.builtin "type.__call__" ⟨.ref uO::us,[]⟩)}:Cx).Ok T (d+1):=
     {B:=by refine xe4c3 (C.B) λuM base outer env h1 h2 h3=>?_;exact⟨uM,base,outer,env,h1,u1.trans h2,h3⟩
      kd:=C.kd
      gl:=C.gl
      bi:=C.bi
      X:=C.X
      top:=C.top
      tab:=C.tab
      le:=Fy C.le
      tp:=λe=>absurd (e▸C.le) (Nat.not_succ_le_self 20)
      hh:=u2.trans C.hh
      dep:=by have:=C.dep;show(c.A.under _).depth+4*(d+1)+8<=1000;exact om82 u3 this
      un:=by have:=C.un;show(c.A.under _).units+16*(d+1)+200<=9900;exact om83 u4 this
      scr:=C.scr
      look:=λy u hu hd=>λF N q=>C.look y u hu hd F N q
      cel:=C.cel}
    have:=ih {c with A:=c.A.under (.builtin "type.__call__" ⟨.ref uO::us,[]⟩)} i (.obj H.length::as) (H++[.inst f []]) _ (λ_ _=>False) (ρ++[(x,dx)]) _ {s with heap:=h'} (.ref x::us) (.ref fI) Er C' ho R' (.cons (.obj hr) (hv.ext x')) (.inl ⟨fI,f1,rfl⟩) (λ_ _ q=>absurd q XPost.no);refine FT this λr s' q=>?_;cases r with
    |error e=>exact q
    |ok f=>
     cases f with
     |ret v=>obtain⟨h2,tk,v',H',ρ',E',rfl,R2,x2,hv',qq⟩:=q;refine zh (ZG qq) ?_;clear qq;intro rq0 qq;subst rq0;obtain rfl:=hv'.ofNone;exact⟨rfl,h2,tk,_,H',ρ',E',rfl,R2,x'.trans x2,.obj (x2.pre _ _ hr),qq⟩
     |_=>exact q
   |none=>rw[hi] at ho;exact Du ho
end
theorem iHan{x:ExceptHandler}{f:G8×List Gq->Bool}(h:oB (vHan x) f=G6):∃t b p,x= .ExceptHandler (G3 t) Gb b p/\f (t,b)=G6:=by
 obtain⟨t,n,b,p⟩:=x;rcases t with _|t
 ·exact absurd h G4
 ·rcases n with _|n
  ·exact⟨t,b,p,rfl,h⟩
  ·exact absurd h G4
set_option tactic.hygienic true in
theorem lit_bool{b:Bool}{c:Const}(h:Kz (.bool b) c=G6):c= .bool b:=by
 rcases c<;>first|exact absurd h G4|skip
 rename_i a;rcases a<;>rcases b<;>first|rfl|exact absurd h G4
theorem iRetB{b:Bool}{xs:List Gq}(h:retB b xs=G6):∃k p q,xs=[.Return (G3 (.Constant (.bool b) k p)) q]:=by
 refine za (iOne h) ?_;clear h;intro x rq h;subst rq;refine zf (iRet h) ?_;clear h;intro vo q rq h;subst rq;refine za (ya h) ?_;clear h;intro y rq h;obtain rfl:vo=G3 y:=rq;rcases cst_of h with⟨c,k,p,rfl,h⟩|⟨j,k,p,q,rfl,e⟩
 ·rw[lit_bool h];exact⟨k,p,q,rfl⟩
 ·cases e
section
variable {T:Tp} {P:Prg} {N:Nm} {w:Nat} {c:Cx} {s:Gh} {ρ:Rn} {E:Lg} {H:Hp} {Q:V->Hp->Prop} {X:Nat->Hp->Prop} {Er:G9->Gh->Prop}
theorem Jb{M:IY}{A:Dh}{env:Env}{b:Bool}{k:Nat}{p q:Pos}{Z:Flow->Gh->Prop}(h:Z (.ret (.bool b)) s):GA M A (execs [.Return (G3 (.Constant (.bool b) k p)) q] env) Z Er s:=by rw[zC];exact wpAny_Return_some (Gv h)
theorem genZ{α:Type}{M:IY}{A:Dh}{x:Sem α}{Z:α->Gh->Prop}{E:G9->Gh->Prop}{s:Gh}(h:∀(Z':α->Gh->Prop) (E':G9->Gh->Prop),(∀a s,Z a s->Z' a s)->GA M A x Z' E' s):GA M A x Z E s:=h Z E λ_ _ z=>z
theorem VR.ifS{v:V}{u:G9}(h:VR T E ρ v u){F:V->Prop}(q:F v):ifS (locO [v] 0) F:=by rcases h<;>exact q
inductive TryAt (N:Nm) (K:DN) (sc:GW) (tb:List Str) (g k:Nat):List Gq->Prop
 |mk (z np ce k1 p1 q1 k2 p2 q2 hp tp) (hc:∀x∈sc.names,x.2≠.cell) (hce:chkS N K G7 sc tb (.ex (.call g (.cons (.l 0) .nil))) [ce]=G6) (hz:N.glob k=G3 z) (y2:zu sc z .globalImplicit=G6) (y3:(!zL z "__debug__")=G6) :
  TryAt N K sc tb g k [.Try [ce] [.ExceptHandler (G3 (.Name z np)) Gb [.Return (G3 (.Constant (.bool G7) k1 p1)) q1] hp] [] [] tp,.Return (G3 (.Constant (.bool G6) k2 p2)) q2]
theorem J4{N:Nm}{K:DN}{lm:Bool}{sc:GW}{tb:List Str}{g k:Nat}{xs:List Gq}(z5:chkS N K lm sc tb (.tryc g k) xs=G6):TryAt N K sc tb g k xs:=by
 refine zf (iTwo z5) ?_;clear z5;intro st1 st2 rqb z5;subst rqb;refine kE (iTry z5) ?_;clear z5;intro tb1 hs oe fb tp rq z5;obtain rfl:st1= .Try tb1 hs oe fb tp:=rq;refine xe0c7 (an7 z5) ?_;clear z5;intro w1 w2 w3 w4 w5 w6 w7;obtain rfl:oe=[]:=zB w3;obtain rfl:fb=[]:=zB w4;refine za (iOne w5) λce rq w5=>?_;obtain rfl:tb1=[ce]:=rq;refine za (iOne w6) ?_;clear w6;intro hd rq w6;obtain rfl:hs=[hd]:=rq;refine zA (iHan w6) ?_;clear w6;intro ht hb hp' rq w6;subst rq;refine zh (an2 w6) ?_;clear w6;intro w6 w8;refine zf (Yf w6) ?_;clear w6;intro hz np rq w6;obtain rfl:ht= .Name hz np:=rq;refine zP (an3 w6) ?_;clear w6;intro y1 y2 y3;refine za (ya y1) ?_;clear y1;intro z hz' y1;obtain rfl:=eqStr_iff.mp y1;refine ju (iRetB w8) ?_;clear w8;intro k1 p1 q1 rq;obtain rfl:hb=_:=rq;refine ju (iRetB w7) ?_;clear w7;intro k2 p2 q2 rq;obtain rfl:=(Fv rq).1;obtain rfl:lm=G7:=(Dd _).mp w1;exact⟨z,np,ce,k1,p1,q1,k2,p2,q2,hp',tp,λx hx' q=>by
  have:=Gz.mp w2 x hx';rw[q] at this;exact absurd this G4,w5,hz',y2,y3⟩
theorem TryAt.nc{N:Nm}{K:DN}{sc:GW}{tb:List Str}{g k:Nat}{xs:List Gq}(h:TryAt N K sc tb g k xs):∀x∈sc.names,x.2≠.cell:=by rcases h;assumption
theorem try_ok(K:TpOk T P N)(FO:FnsOk T P N){g k:Nat}{fn:Fn}{a:Gx}{v0:V}{u0:G9}(FA:FnAt T N fn a)(hbody:fn.body= .tryc g k)(hn:fn.n=1)(hx:P.exc k=G6)(C:c.Ok T 20)(R:c.Rep T H ρ E s.heap)(hv:VR T E ρ v0 u0)
  (he:zb P w 18 g [v0] H (λv H₁=>ym v (Q (.bool G6) H₁)) λc H₁=>gd (Gi c k) (Q (.bool G7) H₁)) :
  DI (Gy T.prog T.w) c.A (.call (.ref a) ⟨[u0],[]⟩) (uB T c s ρ E Q Er) s:=by
 obtain⟨oc,od,osl,name,qual,params,body,scope,dV,kV,doc,pm,an,cdv,ct,lm,tb,ho,hchk⟩:=FA;refine Yr (an6 hchk) ?_;clear hchk;intro hchk z9 z10 z11 z12 z13;refine xe0c8 (an8 hchk) ?_;clear hchk;intro z1 z2 z3 z4 z5 z6 z7 z8;have hk:scope.kind= .function:=yW z4;have hco:scope.isCoroutine=G7:=(Dd _).mp z2;have hgen:scope.isGenerator=G7:=(Dd _).mp z3;have ndt:=yf z6;have z8:=natE.mp z8;have z9:=natB.mp z9;rw[hbody] at z5;rw[hn] at z7 z10 z12 z9;refine zf (YD z7) ?_;clear z7;intro aps dl hp hpn;refine yK (uo (ρ:=ρ) (E:=E) z12 (C.X.keeps R.F.keep) (JA z12)) λds hds hdl hseq=>?_;refine zj (FO.exc k hx).2 λfI XK=>?_;refine zj (C.tp rfl) λuM q=>?_;refine xe4c3 q ?_;clear q;intro cn cs UC ccd B hA hck;refine YX (C.top) λp loose mean mg mb top=>?_;refine za (id R.N) λW0 hb Nw=>?_;obtain⟨x0,tb',rfl⟩:∃x0 tb',tb=x0::tb':=by
  rcases tb with _|⟨x0,tb'⟩
  ·have z8:0=fn.loc:=z8;rw[←z8] at z9;cases z9
  ·exact⟨x0,tb',rfl⟩
 have hpn:aps.map (·.arg)=[x0]:=hpn;have haps:aps.length=1:=by rw[←Gs (as:=aps) (f:=(·.arg)),hpn];rfl
 have hncell:=(J4 z5).nc;have hx0:scope.names.lookup x0=G3 .local:=by
  rcases Dg.mp (Gz.mp z10 x0 (.head _)) with q|q
  ·exact zk q
  ·exact absurd rfl (hncell _ (yh (zk q)))
 have hbind:BindsTo s (fnOf name qual params body scope dV kV doc pm an cdv ct) ⟨[u0],[]⟩ [(x0,u0)]:=by have:=Y5 (fd:=fnOf name qual params body scope dV kV doc pm an cdv ct) (us:=[u0]) (ds:=ds) (s:=s) hp (by rw[hpn];exact GJ.mpr ⟨D1,M7⟩) (by rw[haps];exact GI 1) (by rw[haps];exact Db 1 _) (by rw[haps];exact hdl) (hseq rfl);rw[hpn,haps,show[u0].length+ds.length - 1=ds.length from Dx 1 _,List.drop_length] at this;exact this
 rcases J4 z5 with⟨z,np,ce,k1,p1,q1,k2,p2,q2,hp',tp,_,hce,hz',y2,y3⟩;refine za (K.glo k z hz') λa' ha hg=>?_;obtain rfl:=FO.ex_eq hx ha;have hroom:c.A.depth < recursionLimit:=C.lo.room;refine code_defS0 B R.F C.X Nw top hA ho z1 hroom hbind (λy hy=>by rw[GQ.mp hy];exact hx0) (λg' L' h₁ FG F' N' B' X' T' D'=>?_) hck hco hgen hk hncell
 let env':=envOf qual scope L' a cdv
 let fm:Fm:=⟨c.A.deeper env',env',g',L'⟩
 have FO':fm.Ok T 19:=
  {B:=⟨c.A,c.wy,[envOf cn cs c.L UC ccd],env',B',by show c.A.frames.map _=_;rw[hA];rfl,rfl,hk⟩
   kd:=hk
   gl:=rfl
   bi:=rfl
   X:=X'
   top:=⟨p,loose,mean,mg,mb,T'⟩
   tab:=C.tab.keeps FG.keep
   le:=F5 19
   tp:=λe=>absurd e (by decide)
   hh:=C.hh
   dep:=by have:c.A.depth+4*(19+1)+8<=1000:=C.dep;show c.A.depth+1+4*19+8<=1000;exact om78 (b:=19) this
   un:=by have:c.A.units+16*(19+1)+200<=9900:=C.un;show c.A.units+3+16*19+200<=9900;exact om79 (b:=19) this
   scr:=by refine za (C.scr) λvs h1 h2=>?_;refine za (h1) ?_;clear h1;intro o ho' r;exact⟨vs,⟨o,FG.keep _ _ ho',r⟩,h2⟩
   loc:=rfl
   cel:=λx hx'=>absurd rfl (hncell _ (yh (show scope.names.lookup x=G3 .cell from hx')))
   cnd:=M7}
 have FS:FSc T G7 scope fm:=⟨λx h=>zk h,λx h=>zk h,λx h=>zk h,λh=>absurd h G4⟩;have RR:(fm.cx (λy=>[(x0,u0)].reverse.lookup y) (λ_=>Gb) (c.G++[])).Rep T H ρ E h₁:=by
  have e0:c.G++([]:Lg)=c.G:=D5 _;refine⟨F',⟨W0,hb,?_⟩,?_,R.len,R.enc,R.ft⟩
  ·show FW g' L' h₁ (E++(T.tab,W0)::(c.G++[]));rw[e0];exact N'
  ·show((E++(T.tab,Dz #[])::(c.G++[])).map (·.1)).Nodup;rw[e0];exact R.nd
 have LK:LOk T (x0::tb') (fm.cx (λy=>[(x0,u0)].reverse.lookup y) (λ_=>Gb) (c.G++[])) E ρ [v0]:=by
  intro k' w' hkw hne;rcases k' with _|k'
  ·obtain rfl:v0=w':=Gm hkw;refine⟨x0,u0,rfl,?_,hv⟩;show(match scope.names.lookup x0 with|some .local=>[(x0,u0)].reverse.lookup x0|some .cell=>Gb|_=>Gb)=G3 u0;rw[hx0];show DS x0 [(x0,u0)]=G3 u0;rw[GS,beq_self_eq_true]
  ·exact nn hkw
 have hst:StOk (FlyX T) T P N (zb P w 18) 19 w (.ex (.call g (.cons (.l 0) .nil))):=st_ok K (orc_ok K FO 18 19 (Da 18)).ok (ra_ok K FO) _;have hex:Mn.ex P (zb P w 18) (λc H₁=>gd (Gi c a') (Q (.bool G7) H₁)) w (.ex (.call g (.cons (.l 0) .nil))) [v0] H (λfl _ H₁=>flP fl (Q (.bool G6) H₁) False λ_=>False):=VR.ifS hv he;refine genZ λZ Ez hZ=>?_;refine FR (wpAny_Try_except (Gu (hst (f:=fm) (ex:=c.G) (s:={s with heap:=h₁,toks:=s.toks+1}) hce ndt FO' FS hex CG.nil RR LK PassesOwn.looking (λm cm G hG e s' q=>?_)) (λfl s' q=>?_) λ_ _ z=>z))
 ·obtain⟨h',tk',k',H',ρ',E',rfl,x',qX,⟨UD,uN,a0,W2,rfl,y1',y2',y3',up,ns,ab,nd',len,enc,ft⟩⟩:=q;refine zh (gd_iff.mp qX) ?_;clear qX;intro ek qX;obtain rfl:k'=a':=GE ek;have hfr:(c.A.deeper env').frames=G3 (env'::[envOf cn cs c.L UC ccd]):=Around.frames_deeper hA;refine zh (y1' _ _ hfr rfl) λhBG FN=>?_;have fsL:∀b,b∈[envOf cn cs c.L UC ccd].filterMap (·.frame)↔b=c.L:=λb=>by show b∈[c.L]↔b=c.L;exact GQ
  have ground:∀wD:Do,uN.StaysIn wD->h'.UpToSlots wD->∃UQ,KtsTurn ([envOf cn cs c.L UC ccd].filterMap (·.frame)) g' UQ/\Fr UQ L' wD m/\c.wy.StaysIn UQ:=by
   intro wD hst5 up5;obtain⟨T5,S5⟩:=kts_turn_at (h:=wD) (fs:=[envOf cn cs c.L UC ccd].filterMap (·.frame)) (g:=g') (λb hb=>(B'.frames.mem hb).2.imp λ_ h=>h.1) (λb o q nm=>hst5 b o (hBG b o q nm))
    (λb o q hm=>by
     obtain⟨_,o',ho',hd'⟩:=B'.frames.mem hm;rw[q] at ho';cases ho';exact(up.trans up5) b o q hd')
   refine⟨_,T5,⟨up5.ns ns,S5,by rw[T5.size];exact ab⟩,λb o q=>T5.other b o (B'.stays b o q) λhm=>?_⟩;rw[(B'.frames.mem hm).1] at q;cases q
  refine fly_note hfr rfl FN λwC wd W9=>?_;refine wpAny_landsW wd λwD UO Wa=>?_;refine yK (ground wD UO.1 (W9.trans Wa)) λUQ Uy uZ st5=>?_;have UB:T.K.In UQ:=C.X.keeps st5;refine za UO.there λob hob hobc=>?_;rcases kF UB XK.cls with⟨nm,q',N',bs,bm,hdct,sn,sub,ab',col,dd,k0,k1,k2,k3,k5,hC,_,hbase⟩;have UV:=uZ.keep _ _ hC;refine wpAny_handleBy_cons (codeAny_handlers_test (name_K uZ UB (topRead_of (top.keeps st5)) (beq_iff_eq.mp (an2 hg).1) ?_ hk (zk y2) (YR y3))) (by intro q;cases q);refine wpAny_excMatches_sub_self UV hob hobc hbase (codeAny_handlers_suite ?_);refine lands_againW UO λwE UP Wb=>?_;refine yK (ground wE UP.1 ((W9.trans Wa).trans Wb)) λUR Uz U0 st6=>?_;refine Jb ?_;have mem:∀q∈E'++(T.tab,W2)::c.G,q∈E'++(T.tab,W2)::G:=λq hq=>(GL.mp hq).elim (λm=>Gg _ m) λm=>Gd _ ((Gp.mp m).elim (λz=>z▸.head _) λm=>.tail _ (hG q m));refine hZ _ _ ?_;refine leaveS0_ U0 (news':=E'++(T.tab,W2)::c.G) (λq hq=>⟨UP.1 _ _ (y3' q (mem q hq)).1,(y3' q (mem q hq)).2.2,Uz.none_ _ (y3' q (mem q hq)).2.1⟩) Uz λuU Uj=>?_;refine⟨wE,tk',.bool G7,H',ρ',E',rfl,⟨uU,⟨W2,y2',Uj⟩,nd_sub hG nd' ?_,len,enc,ft⟩,x',.bool _,qX⟩;have nd:=R.nd;rw[GB] at nd;exact(GG.mp nd).2.1
 ·obtain⟨h',tk',m',cm',Gc',uW,Uh,H',ρ',E',rfl,cg',Ur,x',lk',fo,qq⟩:=q;cases cg';rcases fo with _|_|_
  ·refine I5 (Jb ?_);refine za (id Ur.N) λW2 wa Ul=>?_;refine hZ _ _ ?_;refine leaveS0_ Ur.F (news':=E'++(T.tab,W2)::c.G) (λq hq=>Ul q (Xf hq)) KtsTurn.refl λuU Uj=>?_;refine⟨h',tk',.bool G6,H',ρ',E',rfl,⟨uU,⟨W2,wa,Uj⟩,?_,Ur.len,Ur.enc,Ur.ft⟩,x',.bool _,qq⟩;refine DX (IB _ ?_) Ur.nd;exact(Fx _).append ((FX _ _).cons_cons _)
  ·exact Du qq
  ·exact Du qq
set_option tactic.hygienic true in
theorem kQ{fn:Fn}{g k:Nat}(h:Yv fn=G3 (g,k)):fn.body= .tryc g k/\fn.n=1:=by
 obtain⟨n,df,lc,b⟩:=fn;rcases b<;>first|exact nn h|skip
 rename_i g' k';have h:(match Gi n 1 with|true=>G3 (g',k')|false=>Gb)=G3 (g,k):=h;rcases e:Gi n 1 with _|_
 ·rw[e] at h;exact nn h
 ·rw[e] at h;cases h;exact⟨rfl,GE e⟩
theorem orcT_ok(K:TpOk T P N)(FO:FnsOk T P N):OrcC T (callT P w 18) 20:=by
 intro c f as H Q X ρ E s us fv Er C he R hv hc XR;have he:(match (P.fn f).bind Yv with
  |some (g,k)=>arg1 as λ_=>gd (P.exc k) (zb P w 18 g as H (λv H₁=>ym v (Q (.bool G6) H₁)) λc H₁=>gd (Gi c k) (Q (.bool G7) H₁))
  |none=>zb P w 18 f as H Q X):=he
 rcases e:(P.fn f).bind Yv with _|⟨g,k⟩
 ·rw[e] at he;exact orc_ok K FO 18 20 (by decide) c f as H Q X ρ E s us fv Er C he R hv hc XR
 ·rw[e] at he;refine za (Option.bind_eq_some_iff.mp e) λfn e1 e2=>?_;refine zh (kQ e2) λe3 e4=>?_;refine za (zY he) ?_;clear he;intro v0 rq he;subst rq;refine za (hv.of1) λu0 rq hv0=>?_;subst rq;rcases hc with⟨a,h1,rfl⟩|⟨a,h1,rfl⟩|⟨a,h1,rfl⟩
  ·refine za (FO.fn f a h1) λfn' e5 FA=>?_;rw[e1] at e5;cases e5;exact try_ok K FO FA e3 e4 (gd_iff.mp he).1 C R hv0 (gd_iff.mp he).2
  ·have:=(FO.cls f a h1).1;rw[e1] at this;cases this
  ·obtain⟨ar,p1,p2,csc,pm,c',ctv,oc,vs,t,e5,_⟩:=h1;refine za (FO.lam) λg' e6 _=>?_;rw[e5,e6] at e1;cases e1;cases e3
end
inductive As where
 |nil
 |o (x:O) (r:As)
 |w (x:V) (r:As)
 |b (x:Bool) (r:As)
 |g (r:As)
 |h (x:Hp) (r:As)
 |c (v:V) (x:Hp) (r:As)
 |l (f:Fl) (L:Lc) (x:Hp) (r:As)
 |m (vs:List V) (x:Hp) (r:As)
 |u (x:List V) (r:As)
 |it (x:It) (r:As)
 |x (k:Nat) (H:Hp)
noncomputable def asO(as:As):Option (O×As):=match as with|.o x r=>G3 (x,r)|_=>Gb
noncomputable def asW(as:As):Option (V×As):=match as with|.w x r=>G3 (x,r)|_=>Gb
noncomputable def asB(as:As):Option (Bool×As):=match as with|.b x r=>G3 (x,r)|_=>Gb
noncomputable def asG(as:As):Option As:=match as with|.g r=>G3 r|_=>Gb
noncomputable def asH(as:As):Option (Hp×As):=match as with|.h x r=>G3 (x,r)|_=>Gb
noncomputable def asU(as:As):Option (List V×As):=match as with|.u x r=>G3 (x,r)|_=>Gb
noncomputable def asI(as:As):Option (It×As):=match as with|.it x r=>G3 (x,r)|_=>Gb
noncomputable def asC(as:As):Option (V×Hp×As):=match as with|.c v x r=>G3 (v,x,r)|_=>Gb
noncomputable def asL(as:As):Option (Fl×Lc×Hp×As):=match as with|.l f L x r=>G3 (f,L,x,r)|_=>Gb
noncomputable def asM(as:As):Option (List V×Hp×As):=match as with|.m v x r=>G3 (v,x,r)|_=>Gb
noncomputable def asX(as:As):Option (Nat×Hp):=match as with|.x k H=>G3 (k,H)|_=>Gb
def pop{α:Type}(d:As->Option (α×As))(as:As)(x:Option α)(k:α->As->Prop):Prop:=match d as with|some (y,r)=>x=G3 y/\k y r|none=>ifS x λy=>k y as
def popE{α:Type}(d:As->Option (α×As))(as:As)(x:α)(k:α->As->Prop):Prop:=match d as with|some (y,r)=>x=y/\k y r|none=>k x as
def popG(as:As)(b:Bool)(k:As->Prop):Prop:=match asG as with|some r=>b=G6/\k r|none=>gd b (k as)
theorem ifK{α:Type}{o:Option α}{f g:α->Prop}(h:ifS o f)(k:∀a,f a->g a):ifS o g:=by
 rcases o with _|a
 ·exact h
 ·exact k a h
theorem yG{α:Type}{d:As->Option (α×As)}{as:As}{x:Option α}{k:α->As->Prop}{f:α->Prop}(h:pop d as x k)(g:∀y r,k y r->f y):ifS x f:=by
 refine(?_:(match d as with|some (y,r)=>x=G3 y/\k y r|none=>ifS x λy=>k y as)->ifS x f) h;rcases d as with _|⟨y,r⟩
 ·exact λh=>ifK h λy=>g y as
 ·exact λh=>Zp h.1 (g _ _ h.2)
theorem yA{α:Type}{d:As->Option (α×As)}{as:As}{x:α}{k:α->As->Prop}{f:α->Prop}(h:popE d as x k)(g:∀y r,k y r->f y):f x:=by
 refine(?_:(match d as with|some (y,r)=>x=y/\k y r|none=>k x as)->f x) h;rcases d as with _|⟨y,r⟩
 ·exact g _ _
 ·exact λh=>h.1▸g _ _ h.2
theorem yl{as:As}{b:Bool}{k:As->Prop}{p:Prop}(h:popG as b k)(g:∀r,k r->p):gd b p:=by
 refine(?_:(match asG as with|some r=>b=G6/\k r|none=>gd b (k as))->gd b p) h;rcases asG as with _|r
 ·exact λh=>gd_iff.mpr ⟨(gd_iff.mp h).1,g _ (gd_iff.mp h).2⟩
 ·exact λh=>gd_iff.mpr ⟨h.1,g _ h.2⟩
structure Call (C:Orc) (f:Nat) (as:List V) (H:Hp) (v:V) (H':Hp):Prop where
 out:∀(Q:QV) (X:QX),Q v H'->C f as H Q X
def yc(C:Orc)(f:Nat)(as:List V)(H:Hp)(k:Nat)(H':Hp):Prop:=∀(Q:QV) (X:QX),X k H'->C f as H Q X
def ZA(elt:Lc->Hp->QV->Prop)(cond:Lc->Hp->(Bool->Hp->Prop)->Prop)(n:Nat)(cap:Lc)(it:It)(vs acc:List V)(H:Hp)(us:List V)(H':Hp):Prop:=∀Q:List V->Hp->Prop,Q us H'->YT elt cond n cap it vs acc H Q
def trS(u:V)(H:Hp)(as:As)(k:Bool->As->Prop):Prop:=match kd u with
 |4=>objP u λi=>pop asO as H[i]? λo as=>listP o λvs=>k (match vs with|[]=>G7|_=>G6) as
 |_=>ifS (yD u H) λb=>k b as
theorem ZD{u:V}{H:Hp}{as:As}{k:Bool->As->Prop}{f:Bool->Prop}(h:trS u H as k)(g:∀y r,k y r->f y):ifS (yD u H) f:=by
 have rest:(ifS (yD u H) λb=>k b as)->ifS (yD u H) f:=λh=>ifK h λy=>g y as;rcases u with _|_|_|_|i|_|_|_|_|_<;>try exact rest h
 have h:pop asO as H[i]? λo as=>listP o λvs=>k (match vs with|[]=>G7|_=>G6) as:=h;refine Gf (zq (yG h (f:=λo=>∃vs,o= .list vs/\f (match vs with|[]=>G7|_=>G6)) λo r h=>?_)) λo h=>?_
 ·rcases o with _|vs|_|_<;>first|exact h.elim|exact⟨vs,rfl,g _ _ h⟩
 ·obtain⟨e,vs,rfl,h⟩:=h;refine Zp (a:=match vs with|[]=>G7|_=>G6) ?_ h;show(match H[i]? with|some (.list vs)=>G3 (match vs with|[]=>G7|_=>G6)|_=>Gb)=_;rw[e]
def atLS(v:V)(H:Hp)(as:As)(k:Nat->List V->As->Prop):Prop:=objP v λi=>pop asO as H[i]? λo as=>listP o λvs=>k i vs as
def atDS(v:V)(H:Hp)(as:As)(k:Nat->List (List Nat×V)->As->Prop):Prop:=objP v λi=>pop asO as H[i]? λo as=>dictP o λvs=>k i vs as
def atIS(v:V)(H:Hp)(as:As)(k:Nat->Nat->List (Nat×V)->As->Prop):Prop:=objP v λi=>pop asO as H[i]? λo as=>instP o λc fs=>k i c fs as
section
variable {v:V} {H:Hp} {as:As}
theorem intK{f g:Int->Prop}(h:intP v f)(k:∀a,f a->g a):intP v g:=by rcases v<;>first|exact h.elim|exact k _ h
theorem strK{f g:List Nat->Prop}(h:strP v f)(k:∀a,f a->g a):strP v g:=by rcases v<;>first|exact h.elim|exact k _ h
theorem tupK{f g:List V->Prop}(h:tupP v f)(k:∀a,f a->g a):tupP v g:=by rcases v<;>first|exact h.elim|exact k _ h
theorem fnK{f g:Nat->Prop}(h:fnP v f)(k:∀a,f a->g a):fnP v g:=by rcases v<;>first|exact h.elim|exact k _ h
theorem objK{f g:Nat->Prop}(h:objP v f)(k:∀a,f a->g a):objP v g:=by rcases v<;>first|exact h.elim|exact k _ h
theorem noneK{p q:Prop}(h:ym v p)(k:p->q):ym v q:=by rcases v<;>first|exact h.elim|exact k h
theorem natK{i:Int}{f g:Nat->Prop}(h:natP i f)(k:∀a,f a->g a):natP i g:=by rcases i<;>first|exact h.elim|exact k _ h
theorem gdK{b:Bool}{p q:Prop}(h:gd b p)(k:p->q):gd b q:=gd_iff.mpr ⟨(gd_iff.mp h).1,k (gd_iff.mp h).2⟩
theorem iteK{b:Bool}{p q p' q':Prop}(h:ite2 b p q)(k:p->p')(l:q->q'):ite2 b p' q':=by
 rcases b with _|_
 ·exact l h
 ·exact k h
theorem arg0K{as:List V}{p q:Prop}(h:arg0 as p)(k:p->q):arg0 as q:=by rcases as with _|⟨a,r⟩<;>first|exact h.elim|exact k h
theorem kz{as:List V}{f g:V->Prop}(h:arg1 as f)(k:∀a,f a->g a):arg1 as g:=by rcases as with _|⟨a,_|⟨b,r⟩⟩<;>first|exact h.elim|exact k _ h
theorem arg2K{as:List V}{f g:V->V->Prop}(h:arg2 as f)(k:∀a b,f a b->g a b):arg2 as g:=by rcases as with _|⟨a,_|⟨b,_|⟨c,r⟩⟩⟩<;>first|exact h.elim|exact k _ _ h
theorem yB{k:Nat->List V->As->Prop}{f:Nat->List V->Prop}(h:atLS v H as k)(g:∀i vs r,k i vs r->f i vs):atL v H f:=
 objK h λi h=>yG h λo r h=>by rcases o<;>first|exact h.elim|exact g _ _ _ h
theorem XG{k:Nat->List (List Nat×V)->As->Prop}{f:Nat->List (List Nat×V)->Prop}(h:atDS v H as k)(g:∀i vs r,k i vs r->f i vs):atD v H f:=
 objK h λi h=>yG h λo r h=>by rcases o<;>first|exact h.elim|exact g _ _ _ h
theorem J0{k:Nat->Nat->List (Nat×V)->As->Prop}{f:Nat->Nat->List (Nat×V)->Prop}(h:atIS v H as k)(g:∀i c fs r,k i c fs r->f i c fs):atI v H f:=
 objK h λi h=>yG h λo r h=>by rcases o<;>first|exact h.elim|exact g _ _ _ _ h
end
abbrev QA:=V->Hp->As->Prop
def addS(a b:V)(H:Hp)(as:As)(Q:QA):Prop:=match kd a with
 |2=>intP a λx=>intP b λy=>Q (.int (x+y)) H as
 |3=>strP a λx=>strP b λy=>popG as (Gj (x.length+y.length) 1000) (Q (.str (x++y)) H)
 |_=>atLS a H as λ_ x as=>atLS b H as λ_ y as=>popG as (Gj (x.length+y.length) 1000) (Q (.obj H.length) (H++[.list (x++y)]))
def binopS(o:Op)(a b:V)(H:Hp)(as:As)(Q:QA):Prop:=match o with
 |.add=>addS a b H as Q
 |.sub=>intP a λx=>intP b λy=>Q (.int (x - y)) H as
 |.mul=>intP a λx=>intP b λy=>popG as (decide (x.natAbs < 1000000000/\y.natAbs < 1000000000)) (Q (.int (x*y)) H)
 |.fdiv=>intP a λx=>intP b λy=>popG as (decide (0 < y/\y < 1000000000)) (Q (.int (MA x y)) H)
 |.mod=>intP a λx=>intP b λy=>popG as (decide (0 < y)) (Q (.int (IJ x y)) H)
def idxS(a b:V)(H:Hp)(as:As)(Q:V->As->Prop):Prop:=match kd a with
 |5=>tupP a λvs=>intP b λi=>gd (Gj vs.length 1000) (pop asW as (atV vs i) Q)
 |3=>False
 |_=>(match kd b with
  |2=>intP b λi=>atLS a H as λ_ vs as=>pop asW as (atV vs i) Q
  |_=>strP b λs=>atDS a H as λ_ es as=>pop asW as (getD s es) Q)
def sliceS(sc:List Int)(a lo hi:V)(H:Hp)(as:As)(Q:QA):Prop:=match kd a with
 |4=>atLS a H as λ_ vs as=>ym lo (intP hi λh=>Q (.obj H.length) (H++[.list (vs.take (Yi vs.length h))]) as)
 |_=>slice sc a lo hi H λv H=>Q v H as
def bfunS(b:Bf)(vs:List V)(H:Hp)(as:As)(Q:QA):Prop:=match b with
 |.len=>arg1 vs λa=>atLS a H as λ_ vs as=>Q (.int vs.length) H as
 |.str=>arg1 vs λa=>intP a λi=>popG as (D0 i.natAbs 1000000000) (Q (.str (Yw i)) H)
 |.list=>arg1 vs λa=>atDS a H as λ_ es as=>Q (.obj H.length) (H++[.list (es.map λe=>.str e.1)]) as
 |.range=>arg1 vs λa=>intP a λi=>natP i λn=>popG as (Gj n 1000) (Q (.rng n) H)
 |b=>bfun b vs H λv H=>Q v H as
def bmethS(b:Bm)(a:V)(ws:List V)(H:Hp)(as:As)(Q:QA):Prop:=match b with
 |.append=>atLS a H as λi vs as=>arg1 ws λv=>popG as (D0 vs.length 1000) λas=>popE asH as (H.set i (.list (vs++[v]))) (Q .none)
 |.extend=>atLS a H as λi vs as=>arg1 ws λx=>atLS x H as λ_ us as=>popG as (Gj (vs.length+us.length) 1000) λas=>popE asH as (H.set i (.list (vs++us))) (Q .none)
 |.pop=>atLS a H as λi vs as=>arg0 ws (popE asU as vs.reverse λus as=>(match us with|v::r=>popE asH as (H.set i (.list r.reverse)) (Q v)|[]=>False))
 |.get=>atDS a H as λ_ es as=>arg2 ws λk d=>strP k λk=>Q ((getD k es).getD d) H as
 |.insert=>atLS a H as λi vs as=>arg2 ws λk v=>intP k λk=>natP k λk=>popG as (D0 vs.length 1000 && Gj k 1000) λas=>popE asH as (H.set i (.list (vs.take k++v::vs.drop k))) (Q .none)
 |b=>jY b a ws H λv H=>Q v H as
section
variable {a b:V} {H:Hp} {as:As} {Q':QA} {Q:QV}
theorem addS_ok(h:addS a b H as Q')(k:∀v H as,Q' v H as->Q v H):addP a b H Q:=by
 have rest:(atLS a H as λ_ x as=>atLS b H as λ_ y as=>popG as (Gj (x.length+y.length) 1000) (Q' (.obj H.length) (H++[O.list (x++y)])))->atL a H λ_ x=>atL b H λ_ y=>gd (Gj (x.length+y.length) 1000) (Q (.obj H.length) (H++[O.list (x++y)])):=
  λh=>yB h λ_ _ _ h=>yB h λ_ _ _ h=>yl h λ_ h=>k _ _ _ h
 rcases a with _|_|x|x|_|_|_|_|_|_<;>try exact rest h
 ·exact intK (f:=λy=>Q' (.int (x+y)) H as) (g:=λy=>Q (.int (x+y)) H) h λ_=>k _ _ _
 ·exact strK (f:=λy=>popG as (Gj (x.length+y.length) 1000) (Q' (.str (x++y)) H)) (g:=λy=>gd (Gj (x.length+y.length) 1000) (Q (.str (x++y)) H)) h λ_ h=>yl h λ_=>k _ _ _
theorem uF{o:Op}(h:binopS o a b H as Q')(k:∀v H as,Q' v H as->Q v H):binop o a b H Q:=by
 rcases o
 ·exact addS_ok h k
 ·exact intK h λ_ h=>intK h λ_=>k _ _ _
 ·exact intK h λ_ h=>intK h λ_ h=>yl h λ_=>k _ _ _
 ·exact intK h λ_ h=>intK h λ_ h=>yl h λ_=>k _ _ _
 ·exact intK h λ_ h=>intK h λ_ h=>yl h λ_=>k _ _ _
theorem idxS_ok{R':V->As->Prop}{R:V->Prop}(h:idxS a b H as R')(k:∀v as,R' v as->R v):idx a b H R:=by
 have rest:(match kd b with|2=>intP b λi=>atLS a H as λ_ vs as=>pop asW as (atV vs i) R'|_=>strP b λs=>atDS a H as λ_ es as=>pop asW as (getD s es) R')->
   (match kd b with|2=>intP b λi=>atL a H λ_ vs=>ifS (atV vs i) R|_=>strP b λs=>atD a H λ_ es=>ifS (getD s es) R):=λh=>by
  rcases b with _|_|i|s|_|_|_|_|_|_<;>try exact Du h
  ·exact yB (k:=λ_ vs as=>pop asW as (atV vs i) R') (f:=λ_ vs=>ifS (atV vs i) R) h λ_ _ _ h=>yG h k
  ·exact XG (k:=λ_ vs as=>pop asW as (getD s vs) R') (f:=λ_ vs=>ifS (getD s vs) R) h λ_ _ _ h=>yG h k
 rcases a with _|_|_|x|_|vs|_|_|_|_<;>try exact rest h
 ·exact h.elim
 ·exact intK (f:=λi=>gd (Gj vs.length 1000) (pop asW as (atV vs i) R')) (g:=λi=>gd (Gj vs.length 1000) (ifS (atV vs i) R)) h λ_ h=>gdK h λh=>yG h k
theorem kZ{sc:List Int}{lo hi:V}(h:sliceS sc a lo hi H as Q')(k:∀v H as,Q' v H as->Q v H):slice sc a lo hi H Q:=by
 have rest:(slice sc a lo hi H λv H=>Q' v H as)->slice sc a lo hi H Q:=λh=>zf (J7 _ h) λv H h r=>r Q X0 (k _ _ _ h);rcases a with _|_|_|_|i|_|_|_|_|_<;>try exact rest h
 exact yB (v:=.obj i) (H:=H) (as:=as) (k:=λ_ vs as=>ym lo (intP hi λh=>Q' (.obj H.length) (H++[O.list (vs.take (Yi vs.length h))]) as)) (f:=λ_ vs=>ym lo (intP hi λh=>Q (.obj H.length) (H++[O.list (vs.take (Yi vs.length h))]))) h
  λ_ _ _ h=>noneK h λh=>intK h λ_=>k _ _ _
theorem bfunS_ok{b:Bf}{vs:List V}(h:bfunS b vs H as Q')(k:∀v H as,Q' v H as->Q v H):bfun b vs H Q:=by
 have rest:(bfun b vs H λv H=>Q' v H as)->bfun b vs H Q:=λh=>zf (uI _ h) λv H h r=>r Q X0 (k _ _ _ h);rcases b<;>try exact rest h
 ·refine kz h λa h=>?_;have h:atLS a H as λ_ vs as=>Q' (.int vs.length) H as:=h;rcases a<;>first|exact h.elim|exact yB h λ_ _ _=>k _ _ _
 ·exact kz h λ_ h=>intK h λ_ h=>yl h λ_=>k _ _ _
 ·exact kz h λ_ h=>XG h λ_ _ _=>k _ _ _
 ·exact kz h λ_ h=>intK h λ_ h=>natK h λ_ h=>yl h λ_=>k _ _ _
theorem uE{b:Bm}{vs:List V}(h:bmethS b a vs H as Q')(k:∀v H as,Q' v H as->Q v H):jY b a vs H Q:=by
 have rest:(jY b a vs H λv H=>Q' v H as)->jY b a vs H Q:=λh=>zf (JG _ h) λv H h r=>r Q X0 (k _ _ _ h);rcases b<;>try exact rest h
 ·exact yB h λi vs r h=>kz h λv h=>yl h λr h=>yA (f:=Q .none) h λ_ _=>k _ _ _
 ·exact yB h λi vs r h=>kz h λv h=>yB h λ_ _ _ h=>yl h λr h=>yA (f:=Q .none) h λ_ _=>k _ _ _
 ·refine yB h λi vs r h=>arg0K h λh=>yA (f:=λus=>match us with|v::r=>Q v (H.set i (.list r.reverse))|[]=>False) h λus r h=>?_;rcases us with _|⟨u,us⟩
  ·exact h.elim
  ·exact yA (f:=Q u) h λ_ _=>k _ _ _
 ·exact yB h λi vs r h=>arg2K h λ_ v h=>intK h λ_ h=>natK h λ_ h=>yl h λr h=>yA (f:=Q .none) h λ_ _=>k _ _ _
 ·exact XG h λ_ _ _ h=>arg2K h λ_ _ h=>strK h λ_=>k _ _ _
end
def popX(as:As)(R:Nat->Hp->Prop)(Y:QX):Prop:=match asX as with|some (k,H)=>R k H/\Y k H|none=>False
theorem Kk{as:As}{R:Nat->Hp->Prop}{Y:QX}(h:popX as R Y):∃k H,R k H/\Y k H:=by
 refine(?_:(match asX as with|some (k,H)=>R k H/\Y k H|none=>False)->_) h;rcases asX as with _|⟨k,H⟩
 ·exact Du
 ·exact λh=>⟨k,H,h⟩
def popC(as:As)(C:Orc)(Y:QX)(f:Nat)(vs:List V)(H:Hp)(k:QA):Prop:=match asC as with|some (v,H',r)=>Call C f vs H v H'/\k v H' r|none=>popX as (yc C f vs H) Y
theorem jD{as:As}{C:Orc}{Y:QX}{f:Nat}{vs:List V}{H:Hp}{k:QA}{Q:QV}{X:QX}(ky:∀k H,Y k H->X k H)(h:popC as C Y f vs H k)(g:∀v H as,k v H as->Q v H):C f vs H Q X:=by
 refine(?_:(match asC as with|some (v,H',r)=>Call C f vs H v H'/\k v H' r|none=>popX as (yc C f vs H) Y)->C f vs H Q X) h;rcases asC as with _|⟨v,H',r⟩
 ·exact λh=>zf (Kk h) λk H r y=>r Q X (ky _ _ y)
 ·exact λh=>h.1.out Q X (g _ _ _ h.2)
def popM(as:As)(R:List V->Hp->Prop)(k:QA):Prop:=match asM as with|some (vs,H',r)=>R vs H'/\popG r (Gj vs.length 1000) (k (.obj H'.length) (H'++[.list vs]))|none=>False
theorem popM_ok{as:As}{R:List V->Hp->Prop}{k:QA}{Q:QV}(h:popM as R k)(g:∀v H as,k v H as->Q v H):∃vs H',R vs H'/\gd (Gj vs.length 1000) (Q (.obj H'.length) (H'++[.list vs])):=by
 refine(?_:(match asM as with|some (vs,H',r)=>R vs H'/\popG r (Gj vs.length 1000) (k (.obj H'.length) (H'++[.list vs]))|none=>False)->_) h;rcases asM as with _|⟨v,H',r⟩
 ·exact Du
 ·exact λh=>⟨v,H',h.1,yl h.2 λ_=>g _ _ _⟩
section
variable (P:Prg) (C:Orc)
noncomputable def evY:E->QX->Lc->Hp->As->QA->Prop
 |.bad,_,_,_,_,_=>False
 |.c v,Y,_,H,as,Q=>Q v H as
 |.l k,Y,L,H,as,Q=>ifS (locO L k) λv=>Q v H as
 |.g _ v,Y,_,H,as,Q=>Q v H as
 |.a e f,Y,L,H,as,Q=>evY e Y L H as λv H₁ as=>atIS v H₁ as λ_ c fs as=>gd (P.att c f) (pop asW as (getF f fs) λu as=>Q u H₁ as)
 |.bin o a b,Y,L,H,as,Q=>evY a Y L H as λu H₁ as=>evY b Y L H₁ as λv H₂ as=>binopS o u v H₂ as Q
 |.cmp o a b,Y,L,H,as,Q=>evY a Y L H as λu H₁ as=>evY b Y L H₁ as λv H₂ as=>pop asB as (yg o u v H₂) λr as=>Q (.bool r) H₂ as
 |.cmp2 o p a b c,Y,L,H,as,Q=>evY a Y L H as λu H₁ as=>evY b Y L H₁ as λv H₂ as=>pop asB as (yg o u v H₂) λt as=>ite2 t
   (evY c Y L H₂ as λw U5 as=>pop asB as (yg p v w U5) λr as=>Q (.bool r) U5 as) (Q (.bool G7) H₂ as)
 |.not a,Y,L,H,as,Q=>evY a Y L H as λu H₁ as=>trS u H₁ as λb as=>Q (.bool (!b)) H₁ as
 |.and a b,Y,L,H,as,Q=>evY a Y L H as λu H₁ as=>trS u H₁ as λt as=>popE asB as t λt as=>ite2 t (evY b Y L H₁ as Q) (Q u H₁ as)
 |.or a b,Y,L,H,as,Q=>evY a Y L H as λu H₁ as=>trS u H₁ as λt as=>popE asB as t λt as=>ite2 t (Q u H₁ as) (evY b Y L H₁ as Q)
 |.ifx c a b,Y,L,H,as,Q=>evY c Y L H as λu H₁ as=>trS u H₁ as λt as=>popE asB as t λt as=>ite2 t (evY a Y L H₁ as Q) (evY b Y L H₁ as Q)
 |.call f es,Y,L,H,as,Q=>evY es Y L H as λv H₁ as=>tupP v λvs=>popC as C Y f vs H₁ Q
 |.bf b es,Y,L,H,as,Q=>evY es Y L H as λv H₁ as=>tupP v λvs=>bfunS b vs H₁ as Q
 |.meth a m es,Y,L,H,as,Q=>evY a Y L H as λu H₁ as=>atIS u H₁ as λ_ c _ as=>ifS (P.meth c m) λf=>evY es Y L H₁ as λv H₂ as=>tupP v λvs=>popC as C Y f (u::vs) H₂ Q
 |.bm b a es,Y,L,H,as,Q=>evY a Y L H as λu H₁ as=>popG as (jn b u H₁) λas=>evY es Y L H₁ as λv H₂ as=>tupP v λvs=>bmethS b u vs H₂ as Q
 |.callv f es,Y,L,H,as,Q=>evY f Y L H as λu H₁ as=>fnP u λk=>evY es Y L H₁ as λv H₂ as=>tupP v λvs=>popC as C Y k vs H₂ Q
 |.idx a b,Y,L,H,as,Q=>evY a Y L H as λu H₁ as=>evY b Y L H₁ as λv H₂ as=>idxS u v H₂ as λw as=>Q w H₂ as
 |.slice a lo hi,Y,L,H,as,Q=>evY a Y L H as λu H₁ as=>evY lo Y L H₁ as λv H₂ as=>evY hi Y L H₂ as λw U5 as=>sliceS P.scr u v w U5 as Q
 |.rev a,Y,L,H,as,Q=>evY a Y L H as λu H₁ as=>atLS u H₁ as λ_ vs as=>Q (.obj H₁.length) (H₁++[.list vs.reverse]) as
 |.tup es,Y,L,H,as,Q=>evY es Y L H as Q
 |.lst es,Y,L,H,as,Q=>evY es Y L H as λv H₁ as=>tupP v λvs=>gd (Gj vs.length 1000) (Q (.obj H₁.length) (H₁++[.list vs]) as)
 |.dct es,_,L,H,as,Q=>evY es X0 L H as λv H₁ as=>tupP v λvs=>gd (ZX vs) (Q (.obj H₁.length) (H₁++[.dict (JU [] vs)]) as)
 |.comp elt iter cond n caps,Y,L,H,as,Q=>evY iter Y L H as λu H₁ as=>pop asI as (yC u H₁) λit as=>popM as
   (ZA (ev P C elt X0) (λl H q=>ev P C cond X0 l H λv H'=>ifS (yD v H') λb=>q b H') n (caps.map λk=>(L[k]?).getD .bad) it it.items [] H₁) Q
 |.lam k,Y,_,H,as,Q=>Q (.fn k) H as
 |.nil,Y,_,H,as,Q=>Q (.tup []) H as
 |.cons a b,Y,L,H,as,Q=>evY a Y L H as λu H₁ as=>evY b Y L H₁ as λv H₂ as=>tupP v λvs=>Q (.tup (u::vs)) H₂ as
def EvI(e:E):Prop:=∀{L:Lc} {H:Hp} {as:As} {Q':QA} {Q:QV} {X Y:QX},(∀k H,Y k H->X k H)->evY P C e Y L H as Q'->(∀v H as,Q' v H as->Q v H)->ev P C e X L H Q
theorem yx(e:E):EvI P C e:=by
 induction e with
 |bad=>intro L H as Q' Q X Y ky h k;exact h
 |c z0=>intro L H as Q' Q X Y ky h k;exact k _ _ _ h
 |l z0=>intro L H as Q' Q X Y ky h k;exact ifK h λ_=>k _ _ _
 |g z0 z1=>intro L H as Q' Q X Y ky h k;exact k _ _ _ h
 |a e z1 i_e=>intro L H as Q' Q X Y ky h k;exact i_e ky h λ_ _ _ h=>J0 h λ_ _ _ _ h=>gdK h λh=>yG h λ_ _=>k _ _ _
 |bin z0 a b i_a i_b=>intro L H as Q' Q X Y ky h k;exact i_a ky h λ_ _ _ h=>i_b ky h λ_ _ _ h=>uF h k
 |cmp z0 a b i_a i_b=>intro L H as Q' Q X Y ky h k;exact i_a ky h λ_ _ _ h=>i_b ky h λ_ _ _ h=>yG h λ_ _=>k _ _ _
 |cmp2 z0 z1 a b c i_a i_b i_c=>intro L H as Q' Q X Y ky h k;exact i_a ky h λ_ _ _ h=>i_b ky h λ_ _ _ h=>yG h λ_ _ h=>iteK h (λh=>i_c ky h λ_ _ _ h=>yG h λ_ _=>k _ _ _) (k _ _ _)
 |not a i_a=>intro L H as Q' Q X Y ky h k;exact i_a ky h λ_ _ _ h=>ZD h λ_ _=>k _ _ _
 |and a b i_a i_b=>intro L H as Q' Q X Y ky h k;exact i_a ky h λu H₁ _ h=>ZD h λ_ _ h=>yA (f:=λt=>ite2 t (ev P C b _ _ H₁ Q) (Q u H₁)) h λ_ _ h=>iteK h (λh=>i_b ky h k) (k _ _ _)
 |or a b i_a i_b=>intro L H as Q' Q X Y ky h k;exact i_a ky h λu H₁ _ h=>ZD h λ_ _ h=>yA (f:=λt=>ite2 t (Q u H₁) (ev P C b _ _ H₁ Q)) h λ_ _ h=>iteK h (k _ _ _) λh=>i_b ky h k
 |ifx c a b i_c i_a i_b=>intro L H as Q' Q X Y ky h k;exact i_c ky h λ_ H₁ _ h=>ZD h λ_ _ h=>yA (f:=λt=>ite2 t (ev P C a _ _ H₁ Q) (ev P C b _ _ H₁ Q)) h λ_ _ h=>iteK h (λh=>i_a ky h k) λh=>i_b ky h k
 |call z0 es i_es=>intro L H as Q' Q X Y ky h k;exact i_es ky h λ_ _ _ h=>tupK h λ_ h=>jD ky h k
 |bf z0 es i_es=>intro L H as Q' Q X Y ky h k;exact i_es ky h λ_ _ _ h=>tupK h λ_ h=>bfunS_ok h k
 |meth a z1 es i_a i_es=>intro L H as Q' Q X Y ky h k;exact i_a ky h λ_ _ _ h=>J0 h λ_ _ _ _ h=>ifK h λ_ h=>i_es ky h λ_ _ _ h=>tupK h λ_ h=>jD ky h k
 |bm z0 a es i_a i_es=>intro L H as Q' Q X Y ky h k;exact i_a ky h λ_ _ _ h=>yl h λ_ h=>i_es ky h λ_ _ _ h=>tupK h λ_ h=>uE h k
 |callv f es i_f i_es=>intro L H as Q' Q X Y ky h k;exact i_f ky h λ_ _ _ h=>fnK h λ_ h=>i_es ky h λ_ _ _ h=>tupK h λ_ h=>jD ky h k
 |idx a b i_a i_b=>intro L H as Q' Q X Y ky h k;exact i_a ky h λ_ _ _ h=>i_b ky h λ_ _ _ h=>idxS_ok h λ_ _=>k _ _ _
 |slice a l r i_a i_l i_r=>intro L H as Q' Q X Y ky h k;exact i_a ky h λ_ _ _ h=>i_l ky h λ_ _ _ h=>i_r ky h λ_ _ _ h=>kZ h k
 |rev a i_a=>intro L H as Q' Q X Y ky h k;exact i_a ky h λ_ _ _ h=>yB h λ_ _ _=>k _ _ _
 |tup es i_es=>intro L H as Q' Q X Y ky h k;exact i_es ky h k
 |lst es i_es=>intro L H as Q' Q X Y ky h k;exact i_es ky h λ_ _ _ h=>tupK h λ_ h=>gdK h (k _ _ _)
 |dct es i_es=>intro L H as Q' Q X Y ky h k;exact i_es (X:=X0) (λ_ _ h=>h) h λ_ _ _ h=>tupK h λ_ h=>gdK h (k _ _ _)
 |comp z0 i z2 z3 z4 i_z0 i_i i_z2=>intro L H as Q' Q X Y ky h k;exact i_i ky h λ_ _ _ h=>yG h λ_ _ h=>zf (popM_ok h k) λ_ _ h1 h2=>h1 _ h2
 |lam z0=>intro L H as Q' Q X Y ky h k;exact k _ _ _ h
 |nil=>intro L H as Q' Q X Y ky h k;exact k _ _ _ h
 |cons a b i_a i_b=>intro L H as Q' Q X Y ky h k;exact i_a ky h λ_ _ _ h=>i_b ky h λ_ _ _ h=>tupK h λ_=>k _ _ _
variable (Y:QX)
def WhR(w:Nat)(c:E)(b:S)(n:Nat)(L:Lc)(H:Hp)(f:Fl)(L':Lc)(H':Hp):Prop:=∀(X:QX) (Q:KS),Q f L' H'->Yu (λL H q=>ev P C c X L H λu H₁=>ifS (yD u H₁) λt=>q t H₁) (ex P C X w b) n L H Q
def ForR(w:Nat)(b:S)(ks:List Nat)(one:Bool)(it:It)(vs:List V)(L:Lc)(H:Hp)(f:Fl)(L':Lc)(H':Hp):Prop:=∀(X:QX) (Q:KS),Q f L' H'->forL (ex P C X w b) ks one it vs L H Q
abbrev KA:=Fl->Lc->Hp->As->Prop
def popL(as:As)(R:Fl->Lc->Hp->Prop)(k:KA):Prop:=match asL as with|some (f,L,H,r)=>R f L H/\k f L H r|none=>False
def popLX(as:As)(R:Fl->Lc->Hp->Prop)(RX:Nat->Hp->Prop)(k:KA):Prop:=match asL as with|some (f,L,H,r)=>R f L H/\k f L H r|none=>popX as RX Y
variable {P C} in
theorem popL_ok{as:As}{R:Fl->Lc->Hp->Prop}{k:KA}(h:popL as R k):∃f L H r,R f L H/\k f L H r:=by
 refine(?_:(match asL as with|some (f,L,H,r)=>R f L H/\k f L H r|none=>False)->_) h;rcases asL as with _|⟨f,L,H,r⟩
 ·exact Du
 ·exact λh=>⟨f,L,H,r,h⟩
def ForX(w:Nat)(b:S)(ks:List Nat)(one:Bool)(it:It)(vs:List V)(L:Lc)(H:Hp)(k:Nat)(H':Hp):Prop:=∀(X:QX) (Q:KS),X k H'->forL (ex P C X w b) ks one it vs L H Q
def fltS(f:Nat)(vs:List V)(H:Hp)(as:As):Prop:=match P.fn f with
 |some fn=>fltB fn.body λk e=>gd (P.exc k) (ifS (Zl fn vs) λL=>evY P C0 e X0 L H as λv H' _=>strP v λ_=>Y k H')
 |none=>gd (P.exc f && Yy vs) (Y f H)
noncomputable def exY(w:Nat):S->Lc->Hp->As->KA->Prop
 |.nop,L,H,as,Q=>Q .next L H as
 |.seq a b,L,H,as,Q=>exY w a L H as λf L₁ H₁ as=>flP f (exY w b L₁ H₁ as Q) (Q .brk L₁ H₁ as) λv=>Q (.ret v) L₁ H₁ as
 |.ret e,L,H,as,Q=>evY P C e Y L H as λv H₁ as=>Q (.ret v) L H₁ as
 |.ex e,L,H,as,Q=>evY P C e Y L H as λv H₁ as=>ym v (Q .next L H₁ as)
 |.set k e,L,H,as,Q=>evY P C e Y L H as λv H₁ as=>Q .next (setL k v L) H₁ as
 |.setA a f e,L,H,as,Q=>evY P C e Y L H as λv H₁ as=>evY P C a Y L H₁ as λu H₂ as=>atIS u H₂ as λi c fs as=>gd (P.att c f && D0 fs.length 100) (popE asH as (H₂.set i (.inst c (setF f v fs))) (Q .next L))
 |.setI a i e,L,H,as,Q=>evY P C e Y L H as λv H₁ as=>evY P C a Y L H₁ as λu H₂ as=>evY P C i Y L H₂ as λk U5 as=>(match kd k with
  |2=>intP k λn=>natP n λn=>atLS u U5 as λj vs as=>popG as (D0 n vs.length) λas=>popE asH as (U5.set j (.list (vs.set n v))) (Q .next L)
  |_=>strP k λs=>atDS u U5 as λj es as=>popG as (D0 es.length 1000) λas=>popE asH as (U5.set j (.dict (setD s v es))) (Q .next L))
 |.unp ks e,L,H,as,Q=>evY P C e Y L H as λv H₁ as=>pop (λas=>asU as) as (kP v H₁) λvs as=>ifS (ZY ks vs L) λL₁=>Q .next L₁ H₁ as
 |.unp2 wF wG a b,L,H,as,Q=>evY P C a Y L H as λu H₁ as=>evY P C b Y L H₁ as λv H₂ as=>Q .next (setL wG v (setL wF u L)) H₂ as
 |.ifs c a b,L,H,as,Q=>evY P C c Y L H as λu H₁ as=>trS u H₁ as λt as=>popE asB as t λt as=>ite2 t (exY w a L H₁ as Q) (exY w b L H₁ as Q)
 |.whl c b,L,H,as,Q=>popL as (WhR P C w c b w L H) Q
 |.for_ k e b,L,H,as,Q=>evY P C e Y L H as λu H₁ as=>pop asI as (yC u H₁) λit as=>popLX Y as (ForR P C w b [k] G6 it it.items L H₁) (ForX P C w b [k] G6 it it.items L H₁) Q
 |.forT ks e b,L,H,as,Q=>evY P C e Y L H as λu H₁ as=>pop asI as (yC u H₁) λit as=>popLX Y as (ForR P C w b ks G7 it it.items L H₁) (ForX P C w b ks G7 it it.items L H₁) Q
 |.brk,L,H,as,Q=>Q .brk L H as
 |.raise f e,L,H,as,_=>evY P C e Y L H as λu H₁ as=>tupP u λvs=>fltS P Y f vs H₁ as
 |_,_,_,_,_=>False
variable {P C Y} in
theorem Jc{as:As}{R:Fl->Lc->Hp->Prop}{RX:Nat->Hp->Prop}{k:KA}(h:popLX Y as R RX k):(∃f L H r,R f L H/\k f L H r)∨∃k H,RX k H/\Y k H:=by
 refine(?_:(match asL as with|some (f,L,H,r)=>R f L H/\k f L H r|none=>popX as RX Y)->_) h;rcases asL as with _|⟨f,L,H,r⟩
 ·exact λh=>.inr (Kk h)
 ·exact λh=>.inl ⟨f,L,H,r,h⟩
variable {P Y} in
theorem fltS_ok{f:Nat}{vs:List V}{H:Hp}{as:As}{X:QX}(ky:∀k H,Y k H->X k H)(h:fltS P Y f vs H as):Jv P f vs H X:=by
 refine(?_:(match P.fn f with
  |some fn=>fltB fn.body λk e=>gd (P.exc k) (ifS (Zl fn vs) λL=>evY P C0 e X0 L H as λv H' _=>strP v λ_=>Y k H')
  |none=>gd (P.exc f && Yy vs) (Y f H))->(match P.fn f with
  |some fn=>fltB fn.body λk e=>gd (P.exc k) (ifS (Zl fn vs) λL=>ev P C0 e (λ_ _=>False) L H λv H'=>strP v λ_=>X k H')
  |none=>gd (P.exc f && Yy vs) (X f H))) h
 rcases P.fn f with _|fn
 ·exact λh=>gdK h (ky _ _)
 ·refine(?_:(fltB fn.body λk e=>gd (P.exc k) (ifS (Zl fn vs) λL=>evY P C0 e X0 L H as λv H' _=>strP v λ_=>Y k H'))->
   fltB fn.body λk e=>gd (P.exc k) (ifS (Zl fn vs) λL=>ev P C0 e (λ_ _=>False) L H λv H'=>strP v λ_=>X k H'))
  rcases fn.body<;>try exact id
  exact λh=>gdK h λh=>ifK h λ_ h=>yx P C0 _ (λ_ _ h=>h) h λ_ _ _ h=>strK h λ_=>ky _ _
def ExI(w:Nat)(s:S):Prop:=∀{L:Lc} {H:Hp} {as:As} {Q':KA} {Q:KS} {X:QX},(∀k H,Y k H->X k H)->exY P C Y w s L H as Q'->(∀f L H as,Q' f L H as->Q f L H)->ex P C X w s L H Q
theorem u9(w:Nat)(s:S):ExI P C Y w s:=by
 induction s with
 |bad=>intro L H as Q' Q X ky h k;exact h
 |nop=>intro L H as Q' Q X ky h k;exact k _ _ _ _ h
 |seq a b i_a i_b=>
  intro L H as Q' Q X ky h k;exact i_a ky h λf _ _ _ h=>by
   rcases f with _|_|v
   ·exact i_b ky h k
   ·exact k _ _ _ _ h
   ·exact k _ _ _ _ h
 |ret e=>intro L H as Q' Q X ky h k;exact yx P C e ky h λ_ _ _=>k _ _ _ _
 |ex e=>intro L H as Q' Q X ky h k;exact yx P C e ky h λ_ _ _ h=>noneK h (k _ _ _ _)
 |set z0 e=>intro L H as Q' Q X ky h k;exact yx P C e ky h λ_ _ _=>k _ _ _ _
 |setA a z1 e=>intro L H as Q' Q X ky h k;exact yx P C e ky h λ_ _ _ h=>yx P C a ky h λ_ _ _ h=>J0 h λ_ _ _ _ h=>gdK h λh=>yA (f:=Q .next L) h λ_ _=>k _ _ _ _
 |setI a i e=>
  intro L H as Q' Q X ky h k;exact yx P C e ky h λv _ _ h=>yx P C a ky h λu _ _ h=>yx P C i ky h λq U5 as h=>by
   rcases q with _|_|n|s|_|_|_|_|_|_<;>try exact Du h
   ·exact natK (i:=n) (f:=λn=>atLS u U5 as λj vs as=>popG as (D0 n vs.length) λas=>popE asH as (U5.set j (.list (vs.set n v))) (_)) (g:=λn=>atL u U5 λj vs=>gd (D0 n vs.length) (Q .next L (U5.set j (.list (vs.set n v))))) h λ_ h=>yB h λ_ _ _ h=>yl h λ_ h=>yA (f:=Q .next L) h λ_ _=>k _ _ _ _
   ·exact XG (v:=u) (H:=U5) (as:=as) (k:=λj es as=>popG as (D0 es.length 1000) λas=>popE asH as (U5.set j (.dict (setD s v es))) (_)) (f:=λj es=>gd (D0 es.length 1000) (Q .next L (U5.set j (.dict (setD s v es))))) h λ_ _ _ h=>yl h λ_ h=>yA (f:=Q .next L) h λ_ _=>k _ _ _ _
 |unp z0 e=>intro L H as Q' Q X ky h k;exact yx P C e ky h λ_ _ _ h=>yG h λ_ _ h=>ifK h λ_=>k _ _ _ _
 |unp2 z0 z1 a b=>intro L H as Q' Q X ky h k;exact yx P C a ky h λ_ _ _ h=>yx P C b ky h λ_ _ _=>k _ _ _ _
 |ifs c a b i_a i_b=>intro L H as Q' Q X ky h k;exact yx P C c ky h λ_ H₁ _ h=>ZD h λ_ _ h=>yA (f:=λt=>ite2 t (ex P C X w a L H₁ Q) (ex P C X w b L H₁ Q)) h λ_ _ h=>iteK h (λh=>i_a ky h k) λh=>i_b ky h k
 |whl z0 z1 i_z1=>intro L H as Q' Q X ky h k;exact Z2 (popL_ok h) λ_ _ _ _ h1 h2=>h1 _ _ (k _ _ _ _ h2)
 |for_ z0 e z2 i_z2=>intro L H as Q' Q X ky h k;exact yx P C e ky h λ_ _ _ h=>yG h λ_ _ h=>(Jc h).elim (λh=>Z2 h λ_ _ _ _ h1 h2=>h1 _ _ (k _ _ _ _ h2)) λh=>zf h λ_ _ h1 h2=>h1 _ _ (ky _ _ h2)
 |forT z0 e z2 i_z2=>intro L H as Q' Q X ky h k;exact yx P C e ky h λ_ _ _ h=>yG h λ_ _ h=>(Jc h).elim (λh=>Z2 h λ_ _ _ _ h1 h2=>h1 _ _ (k _ _ _ _ h2)) λh=>zf h λ_ _ h1 h2=>h1 _ _ (ky _ _ h2)
 |brk=>intro L H as Q' Q X ky h k;exact k _ _ _ _ h
 |raise f e=>intro L H as Q' Q X ky h k;exact yx P C e ky h λ_ _ _ h=>tupK h λ_ h=>fltS_ok ky h
 |fault z0 z1=>intro L H as Q' Q X ky h k;exact h.elim
 |tryc z0 z1=>intro L H as Q' Q X ky h k;exact h.elim
def evS(e:E)(L:Lc)(H:Hp)(as:As)(Q:QA):Prop:=evY P C e X0 L H as Q
def exS(w:Nat)(s:S)(L:Lc)(H:Hp)(as:As)(Q:KA):Prop:=exY P C X0 w s L H as Q
theorem jf(e:E){L:Lc}{H:Hp}{as:As}{Q':QA}{Q:QV}{X:QX}(h:evS P C e L H as Q')(k:∀v H as,Q' v H as->Q v H):ev P C e X L H Q:=yx P C e (λ_ _ h=>h.elim) h k
theorem YP(w:Nat)(s:S){L:Lc}{H:Hp}{as:As}{Q':KA}{Q:KS}{X:QX}(h:exS P C w s L H as Q')(k:∀f L H as,Q' f L H as->Q f L H):ex P C X w s L H Q:=u9 P C X0 w s (λ_ _ h=>h.elim) h k
end
namespace G
noncomputable abbrev K0:E:=.l 0
noncomputable abbrev K1:E:=.l 1
noncomputable abbrev K2:E:=.c (.int 0)
noncomputable abbrev K3:E:=.l 2
noncomputable abbrev K4:E:=.c (.int 1)
abbrev K5:E:=.cons K0 .nil
noncomputable abbrev K6:E:=.c (.bool G7)
noncomputable abbrev K7:E:=.c (.str [])
noncomputable abbrev K8:E:=.l 3
abbrev K9:E:=.cons K1 .nil
noncomputable abbrev K10:V:=.str [116,114,97,105,108,105,110,103]
noncomputable abbrev K11:E:=.cons (.l 4) .nil
noncomputable abbrev K12:E:=.c .none
noncomputable abbrev K13:V:=.str [100,105,115,112,108,97,121]
abbrev K14:E:=.cons K8 .nil
noncomputable abbrev K15:E:=.c (.str [110,117,109,101,114,105,99])
noncomputable abbrev K16:E:=.lst .nil
abbrev K17:E:=.cons K3 .nil
noncomputable abbrev K18:E:=.cons (.c (.str [88])) .nil
noncomputable abbrev K19:E:=.c (.bool G6)
abbrev K20:E:=.cons (.tup .nil) (.cons (.tup .nil) (.cons K12 .nil))
noncomputable abbrev K21:E:=.cons (.c (.str [32])) .nil
noncomputable abbrev K22:E:=.c (.str [65])
noncomputable abbrev K23:E:=.c (.int 2)
noncomputable abbrev K24:E:=.c (.str [101,100,105,116,101,100])
noncomputable abbrev K25:E:=.l 5
noncomputable abbrev K26:E:=.l 4
noncomputable abbrev K27:E:=.c (.str [105,110,100,101,120])
noncomputable abbrev K28:E:=.c (.str [97,108,112,104,97,110,117,109,101,114,105,99])
noncomputable abbrev K29:E:=.c (.str [90])
noncomputable abbrev K30:E:=.cons (.c (.str [67,82])) (.cons (.c (.str [68,66])) .nil)
abbrev K31:E:=.a (.idx (.a (.l 6) 27) K2) 11
noncomputable abbrev K32:E:=.c (.str [97,108,112,104,97,98,101,116,105,99])
abbrev K33:E:=.cons K25 .nil
noncomputable abbrev K34:E:=.cons (.c (.str [73])) .nil
noncomputable abbrev K35:V:=.bool G7
noncomputable abbrev K36:E:=.c (.int 3)
abbrev K37:E:=.cons (.call 731 (.cons K29 (.cons K22 K18))) .nil
abbrev K38:E:=.cons K2 .nil
noncomputable abbrev K39:E:=.c (.str [114,101,102])
noncomputable abbrev K40:E:=.c (.str [108,101,97,100,105,110,103])
noncomputable abbrev K41:E:=.l 6
noncomputable abbrev K42:E:=.cons (.tup .nil) .nil
noncomputable abbrev K43:E:=.c (.str [41])
noncomputable abbrev K44:E:=.c (.str [112,97,99,107,101,100])
noncomputable abbrev K45:E:=.c (.str [98,105,110,97,114,121])
noncomputable abbrev K46:E:=.c (.str [88,40])
noncomputable abbrev K47:E:=.c (.int 4)
noncomputable abbrev K48:E:=.c (.int 5)
abbrev K49:E:=.cons (.c K10) (.cons K6 .nil)
abbrev K50:E:=.a K0 25
abbrev K51:E:=.a K0 22
abbrev K52:E:=.a K1 19
abbrev K53:E:=.a K3 19
abbrev K54:E:=.a K0 31
abbrev K55:E:=.a K1 17
abbrev K56:E:=.cons (.bin .add K3 K4) .nil
noncomputable abbrev K57:E:=.c (.int (-1))
noncomputable abbrev K58:E:=.c (.str [46])
noncomputable abbrev K59:E:=.c (.str [83])
noncomputable abbrev K60:E:=.c (.str [84])
noncomputable abbrev K61:E:=.c (.str [75])
def f91:Fn:=⟨6,[.none,(.tup []),(.tup [])],6,(.seq (.setA K0 4 K1) (.seq (.setA K0 3 K3) (.seq (.setA K0 2 K8) (.seq (.setA K0 1 (.bf .tuple K11)) (.setA K0 0 (.bf .tuple K33))))))⟩
def f119:Fn:=⟨3,[],3,(.seq (.setA K0 23 K1) (.seq (.setA K0 22 K3) (.seq (.setA K0 21 K12) (.seq (.setA K0 20 K7) (.seq (.setA K0 19 K7) (.seq (.setA K0 18 K6) (.seq (.setA K0 17 K12) (.seq (.setA K0 16 K7) (.seq (.setA K0 15 K12) (.seq (.setA K0 14 K6) (.seq (.setA K0 13 K6) (.seq (.setA K0 12 K16) (.seq (.setA K0 11 K16) (.seq (.setA K0 10 K12) (.seq (.setA K0 9 K12) (.seq (.setA K0 8 K7) (.seq (.setA K0 7 K2) (.seq (.setA K0 6 K2) (.setA K0 5 K12)))))))))))))))))))⟩
def f126:Fn:=⟨2,[],2,(.seq (.setA K1 10 K0) (.ex (.bm .append (.a K0 11) K9)))⟩
def f133:Fn:=⟨1,[],1,(.ret (.ifx (.cmp .is (.a K0 17) K12) K4 (.a (.a K0 17) 3)))⟩
def f166:Fn:=⟨1,[],1,(.seq (.setA K0 27 K16) (.seq (.setA K0 26 K16) (.seq (.setA K0 25 (.dct .nil)) (.seq (.setA K0 24 K16) (.seq (.setA K0 6 K2) (.setA K0 0 (.dct .nil)))))))⟩
def f185:Fn:=⟨1,[],3,(.seq (.set 1 K16) (.seq (.for_ 2 K50 (.ex (.bm .extend K1 (.cons (.idx K50 K3) .nil)))) (.ret (.bin .add (.bin .add K1 (.a K0 27)) (.a K0 26)))))⟩
def f192:Fn:=⟨1,[],4,(.seq (.set 1 K16) (.seq (.set 2 (.lst K5)) (.seq (.whl (.cmp .ne K3 K16) (.seq (.set 3 (.bm .pop K3 .nil)) (.seq (.ex (.bm .append K1 K14)) (.ex (.bm .extend K3 (.cons (.rev (.a K8 11)) .nil)))))) (.ret K1))))⟩
def f199:Fn:=⟨1,[],3,(.seq (.set 1 K16) (.seq (.for_ 2 (.call 185 K5) (.ex (.bm .extend K1 (.cons (.call 192 K17) .nil)))) (.ret K1)))⟩
def f206:Fn:=⟨1,[],3,(.seq (.set 1 K16) (.seq (.set 2 (.a K0 10)) (.seq (.whl (.cmp .isnot K3 K12) (.seq (.ex (.bm .append K1 K17)) (.set 2 (.a K3 10)))) (.ret K1))))⟩
def f218:Fn:=⟨1,[],1,(.ret (.comp K51 (.call 206 K5) (.cmp .ne K51 (.g 15 (.str [70,73,76,76,69,82]))) 1 []))⟩
def f223:Fn:=⟨1,[],1,(.ret (.cmp .ne (.comp K0 (.a K0 11) (.cmp .ne (.a K0 23) (.g 0 (.int 66))) 1 []) K16))⟩
def f228:Fn:=⟨1,[],1,(.ret (.comp K0 (.a K0 11) (.cmp .ne (.a K0 23) (.g 0 (.int 66))) 1 []))⟩
def f235:Fn:=⟨2,[],3,(.seq (.for_ 2 (.bin .add (.lst K5) (.call 206 K5)) (.ifs (.cmp .ne (.callv K1 K17) K7) (.ret (.callv K1 K17)) .nop)) (.ret K7))⟩
def f242:Fn:=⟨1,[],2,(.seq (.set 1 (.call 235 (.cons K0 (.cons (.lam 1) .nil)))) (.ret (.ifx (.cmp .ne K1 K7) K1 (.c K13))))⟩
def f249:Fn:=⟨1,[],2,(.seq (.for_ 1 (.bin .add (.lst K5) (.call 206 K5)) (.ifs (.cmp .ne K52 K7) (.ret (.tup (.cons K52 (.cons (.a K1 18) .nil)))) .nop)) (.ret (.tup K49)))⟩
def f256:Fn:=⟨3,[],5,(.seq (.ifs (.cmp .ne K51 K1) (.ret K6) .nop) (.seq (.set 3 (.call 218 K5)) (.seq (.for_ 4 K3 (.seq (.ifs (.cmp .notin K26 K8) (.ret K6) .nop) (.set 3 (.slice K8 (.bin .add (.meth K8 15 K11) K4) K12)))) (.ret K19))))⟩
def f270:Fn:=⟨8,[],8,(.seq (.setA K0 33 K1) (.seq (.setA K0 32 K3) (.seq (.setA K0 31 K8) (.seq (.setA K0 30 K26) (.seq (.setA K0 29 K25) (.seq (.setA K0 28 K41) (.setA K0 6 (.l 7))))))))⟩
def f303:Fn:=⟨4,[],4,(.seq (.setA K0 19 K1) (.seq (.setA K0 35 K3) (.setA K0 34 K8)))⟩
def f324:Fn:=⟨2,[],2,(.seq (.ifs (.cmp .isin (.slice K0 K1 (.bin .add K1 K23)) (.tup K30)) (.ret (.slice K0 K1 (.bin .add K1 K23))) .nop) (.seq (.ifs (.cmp .notin (.idx K0 K1) (.g 1 (.str [65,66,80,83,86,88,90,57,48,47,44,46,43,45,42,36]))) .bad .nop) (.ret (.idx K0 K1))))⟩
def f329:Fn:=⟨2,[],4,(.seq (.ifs (.cmp .ne (.slice K0 K1 (.bin .add K1 K4)) (.c (.str [40]))) (.ret (.tup (.cons K4 K9))) .nop) (.seq (.set 2 (.bm .find K0 (.cons K43 K9))) (.seq (.set 3 (.slice K0 (.bin .add K1 K4) (.bf .max (.cons K3 K9)))) (.seq (.ifs (.or (.not (.cmp2 .le .le K4 (.bf .len K14) K47)) (.or (.cmp .ne (.comp K0 K8 (.cmp .notin K0 (.g 2 (.str [48,49,50,51,52,53,54,55,56,57]))) 1 []) K16) (.cmp .eq (.bf .int K14) K2))) .bad .nop) (.ret (.tup (.cons (.bf .int K14) K56)))))))⟩
def f336:Fn:=⟨1,[],6,(.seq (.unp2 1 2 K16 K2) (.seq (.whl (.cmp .lt K3 (.bf .len K5)) (.seq (.set 3 (.call 324 (.cons K0 K17))) (.seq (.unp [4,5] (.call 329 (.cons K0 (.cons (.bin .add K3 (.bf .len K14)) .nil)))) (.seq (.ifs (.and (.cmp .gt K25 (.bin .add K3 (.bf .len K14))) (.cmp .isin K8 (.bm .split (.g 3 (.str [83,32,86,32,46,32,67,82,32,68,66])) K21))) .bad .nop) (.seq (.ex (.bm .append K1 (.cons (.call 313 (.cons K8 (.cons K26 K17))) .nil))) (.set 2 K25)))))) (.ret K1)))⟩
def f343:Fn:=⟨1,[],3,(.seq (.set 1 K16) (.seq (.for_ 2 K0 (.ifs (.and (.cmp .ne K1 K16) (.cmp .eq (.idx (.idx K1 K57) K2) K53)) (.setI K1 K57 (.tup (.cons K53 (.cons (.bin .add (.idx (.idx K1 K57) K4) (.a K3 35)) .nil)))) (.ex (.bm .append K1 (.cons (.tup (.cons K53 (.cons (.a K3 35) .nil))) .nil))))) (.ret K1)))⟩
def f348:Fn:=⟨1,[],1,(.ret (.bf .sum (.cons (.comp (.bin .mul K1 (.bf .len K5)) K0 (.cmp .notin K0 (.bm .split (.g 4 (.str [80,32,83,32,86])) K21)) 2 []) .nil)))⟩
def f362:Fn:=⟨1,[],1,(.seq (.setA K0 50 K2) (.seq (.setA K0 49 K6) (.seq (.setA K0 48 K7) (.seq (.setA K0 47 K2) (.seq (.setA K0 46 K2) (.seq (.setA K0 45 K2) (.seq (.setA K0 44 K7) (.seq (.setA K0 43 K2) (.seq (.setA K0 42 K2) (.seq (.setA K0 41 K2) (.seq (.setA K0 40 K6) (.seq (.setA K0 19 K7) (.seq (.setA K0 39 K7) (.seq (.setA K0 38 K7) (.seq (.setA K0 37 K6) (.setA K0 36 K6))))))))))))))))⟩
def f369:Fn:=⟨1,[],1,(.ret (.bin .add (.bin .add (.a K0 45) (.a K0 43)) (.a K0 42)))⟩
def f376:Fn:=⟨3,[],3,(.ifs (.cmp .ne (.a K0 48) K7) (.seq (.setA K0 41 (.bin .add (.a K0 41) K1)) (.setA K0 40 (.or (.a K0 40) K3))) .nop)⟩
def f383:Fn:=⟨2,[],2,(.seq (.ifs (.or (.cmp .gt (.a K0 46) K2) (.a K0 40)) .bad .nop) (.seq (.setA K0 45 (.bin .add (.a K0 45) (.a K1 35))) (.ex (.meth K0 0 (.cons (.a K1 35) (.cons K6 .nil))))))⟩
def f397:Fn:=⟨2,[],2,(.seq (.ifs (.or (.cmp .ne (.a K0 48) K7) (.or (.cmp .gt (.a K0 47) K2) (.and (.cmp .eq K52 K58) (.cmp .gt (.a K0 46) K2)))) .bad .nop) (.setA K0 48 K52))⟩
def f453:Fn:=⟨2,[],3,(.seq (.set 2 K52) (.seq (.ifs (.or (.a K0 37) (.or (.and (.a K0 49) (.cmp .notin K3 (.tup (.cons (.c (.str [57])) (.cons (.c (.str [80])) (.cons (.c (.str [86])) .nil)))))) (.and (.cmp .eq K3 K59) (.cmp .gt (.a K0 50) K2)))) .bad .nop) (.seq (.ifs (.cmp .eq K3 K59) (.setA K0 49 K19) (.ifs (.cmp .eq K3 (.c (.str [57]))) (.ex (.meth K0 1 K9)) (.ifs (.cmp .isin K3 (.tup (.cons K29 (.cons (.c (.str [42])) .nil)))) (.ex (.meth K0 2 K9)) (.ifs (.cmp .isin K3 (.tup (.cons (.c (.str [86])) (.cons K58 .nil)))) (.ex (.meth K0 3 K9)) (.ifs (.cmp .eq K3 (.c (.str [80]))) (.ex (.meth K0 4 K9)) (.ifs (.cmp .isin K3 (.tup (.cons (.c (.str [43])) (.cons (.c (.str [45])) .nil)))) (.ex (.meth K0 5 K9)) (.ifs (.cmp .eq K3 (.c (.str [36]))) (.ex (.meth K0 6 K9)) (.ifs (.cmp .isin K3 (.tup K30)) (.ex (.meth K0 7 K9)) (.ex (.meth K0 8 K9)))))))))) (.seq (.setA K0 50 (.bin .add (.a K0 50) K4)) (.setA K0 38 K3)))))⟩
def f460:Fn:=⟨1,[],1,(.seq (.ifs (.or (.cmp .eq (.meth K0 9 .nil) K2) (.cmp .isin (.a K0 38) (.tup (.cons (.c (.str [44])) (.cons K58 .nil))))) (.ret K6) .nop) (.ret (.cmp .le (.bin .add (.bin .add (.meth K0 9 .nil) (.a K0 47)) (.a K0 46)) (.g 5 (.int 18)))))⟩
def f467:Fn:=⟨1,[],1,(.seq (.ifs (.cmp .gt (.a K0 47) K2) (.ret (.bin .add (.a K0 47) (.meth K0 9 .nil))) .nop) (.ret (.bin .sub (.a K0 41) (.a K0 46))))⟩
def f479:Fn:=⟨2,[],8,(.seq (.unp2 2 3 (.call 470 .nil) (.call 343 K9)) (.seq (.for_ 4 K1 (.ex (.meth K3 12 K11))) (.seq (.ifs (.or (.not (.meth K3 11 .nil)) (.cmp .gt (.call 348 K14) (.g 7 (.int 9999)))) .bad .nop) (.seq (.set 5 (.cmp .eq (.comp K0 K8 (.cmp .notin K0 (.bm .split (.g 6 (.str [57,32,80,32,83,32,86])) K21)) 2 []) K16)) (.seq (.set 6 (.ifx K25 K15 K24)) (.seq (.set 7 (.or (.a K3 49) (.cmp .ne K53 K7))) (.ret (.call 285 (.cons K0 (.cons K8 (.cons K41 (.cons (.meth K3 9 .nil) (.cons (.meth K3 10 .nil) (.cons (.l 7) (.cons (.call 348 K14) .nil)))))))))))))))⟩
def f484:Fn:=⟨1,[],2,(.seq (.set 1 (.comp K0 K0 K19 2 [])) (.seq (.ifs (.or (.cmp .isin (.c (.str [66])) K1) (.or (.cmp .isin (.c (.str [48])) K1) (.cmp .isin (.c (.str [47])) K1))) (.ret (.c (.str [97,108,110,117,109,45,101,100,105,116,101,100]))) .nop) (.ret (.ifx (.cmp .eq K1 (.lst (.cons K22 .nil))) K32 K28))))⟩
def f491:Fn:=⟨2,[],4,(.seq (.for_ 2 K1 (.ifs (.cmp .notin K53 (.bm .split (.g 8 (.str [65,32,88,32,57,32,66,32,48,32,47])) K21)) .bad .nop)) (.seq (.set 3 (.call 343 K9)) (.seq (.ifs (.cmp .gt (.call 348 K14) (.g 7 (.int 9999))) .bad .nop) (.ret (.call 285 (.cons K0 (.cons K8 (.cons (.call 484 K14) (.cons K2 (.cons K2 (.cons K6 (.cons (.call 348 K14) .nil))))))))))))⟩
def f496:Fn:=⟨1,[],3,(.seq (.ifs (.cmp .gt (.bf .len K5) (.g 9 (.int 30))) .bad .nop) (.seq (.set 1 (.bm .join K7 (.cons (.comp (.ifx (.cmp2 .le .le (.c (.str [97])) K0 (.c (.str [122]))) (.bf .chr (.cons (.bin .sub (.bf .ord K5) (.c (.int 32))) .nil)) K0) K0 K19 1 []) .nil))) (.seq (.set 2 (.call 336 K9)) (.seq (.ifs (.cmp .ne (.comp K0 K3 (.cmp .isin (.a K0 19) (.tup (.cons K22 K18))) 1 []) K16) (.ret (.call 491 (.cons K1 K17))) .nop) (.ret (.call 479 (.cons K1 K17)))))))⟩
def f511:Fn:=⟨9,[.none,K13,K10,K35,K35,K35],9,(.seq (.setA K0 31 K1) (.seq (.setA K0 6 K3) (.seq (.setA K0 51 K8) (.seq (.setA K0 20 K26) (.seq (.setA K0 19 K25) (.seq (.setA K0 18 K41) (.seq (.setA K0 14 (.l 7)) (.seq (.setA K0 13 (.l 8)) (.seq (.setA K0 30 K2) (.seq (.setA K0 29 K2) (.seq (.setA K0 28 K6) (.ifs (.and (.cmp .isnot K8 K12) (.cmp .isin K1 (.tup (.cons K15 (.cons K24 .nil))))) (.seq (.setA K0 30 (.a K8 30)) (.seq (.setA K0 29 (.a K8 29)) (.setA K0 28 (.a K8 28)))) .nop))))))))))))⟩
def f539:Fn:=⟨1,[],1,(.seq (.ifs (.not (.cmp2 .le .le K4 K0 (.g 10 (.int 18)))) (.raise 72 (.cons (.c (.str [97,32,110,117,109,98,101,114,32,104,97,115,32,49,32,116,111,32,49,56,32,102,105,103,117,114,101,115])) .nil)) .nop) (.seq (.ifs (.cmp .le K0 K47) (.ret K23) .nop) (.ret (.ifx (.cmp .le K0 (.c (.int 9))) K47 (.c (.int 8))))))⟩
def f546:Fn:=⟨1,[],1,(.seq (.ifs (.not (.cmp2 .le .le K4 K0 (.g 10 (.int 18)))) (.raise 72 (.cons (.c (.str [97,32,110,117,109,98,101,114,32,104,97,115,32,49,32,116,111,32,49,56,32,102,105,103,117,114,101,115])) .nil)) .nop) (.ret (.bin .add (.bin .fdiv K0 K23) K4)))⟩
def f553:Fn:=⟨3,[],3,(.seq (.ifs (.cmp .eq K1 K44) (.ret (.call 546 (.cons (.a K0 30) .nil))) .nop) (.seq (.ifs (.cmp .eq K1 K45) (.ret (.call 539 (.cons (.a K0 30) .nil))) .nop) (.ret (.bin .add (.a K0 6) (.ifx K3 K4 K2)))))⟩
def f560:Fn:=⟨2,[],2,(.seq (.ifs (.cmp .notin K1 (.bm .split (.g 11 (.str [100,105,115,112,108,97,121,32,112,97,99,107,101,100,32,98,105,110,97,114,121,32,105,110,100,101,120])) K21)) (.raise 72 (.cons (.bin .add (.c (.str [110,111,32,117,115,97,103,101,58,32])) K1) .nil)) .nop) (.seq (.ifs (.cmp .eq K1 K27) (.raise 72 (.cons (.c (.str [97,110,32,105,110,100,101,120,32,104,97,115,32,110,111,32,112,105,99,116,117,114,101])) .nil)) .nop) (.ifs (.and (.cmp .ne K1 (.c K13)) (.cmp .ne K54 K15)) (.raise 72 (.cons (.c (.str [111,110,108,121,32,110,117,109,98,101,114,115,32,97,114,101,32,112,97,99,107,101,100,32,111,114,32,98,105,110,97,114,121])) .nil)) .nop)))⟩
def f567:Fn:=⟨4,[],4,(.seq (.ifs (.and (.cmp .ne K3 K40) (.cmp .ne K3 (.c K10))) (.raise 72 (.cons (.c (.str [97,32,115,105,103,110,32,108,101,97,100,115,32,111,114,32,116,114,97,105,108,115])) .nil)) .nop) (.seq (.ifs (.and (.cmp .eq K3 (.c K10)) (.not K8)) (.ret K12) .nop) (.ifs (.or (.cmp .ne K54 K15) (.or (.not (.a K0 28)) (.cmp .ne K1 (.c K13)))) (.raise 72 (.cons (.c (.str [116,104,101,32,115,105,103,110,39,115,32,112,108,97,99,101,32,105,115,32,116,111,108,100,32,111,102,32,110,117,109,98,101,114,115,32,119,105,116,104,32,97,110,32,83,32,105,110,32,100,105,115,112,108,97,121,32,97,108,111,110,101])) .nil)) .nop)))⟩
def f572:Fn:=⟨3,[],3,(.seq (.ifs (.and K1 (.cmp .notin K54 (.tup (.cons K32 (.cons K28 .nil))))) (.raise 72 (.cons (.c (.str [111,110,108,121,32,108,101,116,116,101,114,115,32,97,110,100,32,115,105,103,110,115,32,97,114,101,32,106,117,115,116,105,102,105,101,100])) .nil)) .nop) (.seq (.ifs (.and K3 (.cmp .ne K54 K24)) (.raise 72 (.cons (.c (.str [111,110,108,121,32,101,100,105,116,101,100,32,110,117,109,98,101,114,115,32,97,114,101,32,98,108,97,110,107,32,119,104,101,110,32,122,101,114,111])) .nil)) .nop) (.ifs (.and K3 (.cmp .ne (.comp K0 (.a K0 32) (.cmp .eq K0 (.c (.str [42]))) 2 []) K16)) (.raise 72 (.cons (.c (.str [97,115,116,101,114,105,115,107,115,32,97,114,101,32,110,111,116,32,98,108,97,110,107,32,119,104,101,110,32,122,101,114,111])) .nil)) .nop)))⟩
def f580:Fn:=⟨6,[K13,K10,K35,K35,K35],7,(.seq (.ex (.call 560 (.cons K0 K9))) (.seq (.ex (.call 567 (.cons K0 (.cons K1 (.cons K3 K14))))) (.seq (.ex (.call 572 (.cons K0 (.cons K26 K33)))) (.seq (.set 6 (.call 553 (.cons K0 (.cons K1 K14)))) (.ret (.call 528 (.cons K54 (.cons K41 (.cons K0 (.cons K1 (.cons K3 (.cons K8 (.cons K26 K33)))))))))))))⟩
def f587:Fn:=⟨1,[],1,(.ret (.call 528 (.cons (.c (.str [103,114,111,117,112])) K5)))⟩
def f608:Fn:=⟨2,[],2,(.fault 72 (.bin .add (.bin .add K1 (.c (.str [58,32]))) K51))⟩
def f615:Fn:=⟨1,[],6,(.seq (.set 1 (.call 242 K5)) (.seq (.ifs (.cmp .eq K1 K27) (.seq (.ifs (.cmp .isnot (.a K0 21) K12) (.raise 608 (.cons K0 (.cons (.c (.str [97,110,32,105,110,100,101,120,32,119,105,116,104,32,97,32,112,105,99,116,117,114,101])) .nil))) .nop) (.ret .bad)) .nop) (.seq (.ifs (.cmp .is (.a K0 21) K12) (.raise 608 (.cons K0 (.cons (.c (.str [97,32,112,105,99,116,117,114,101,32,105,115,32,109,105,115,115,105,110,103])) .nil))) .nop) (.seq (.set 2 (.call 496 (.cons (.a K0 21) .nil))) (.seq (.set 3 (.and (.cmp .eq K1 (.c K13)) (.and (.cmp .eq (.a K3 31) K15) (.a K3 28)))) (.seq (.unp [4,5] (.ifx (.or (.cmp .ne (.a K0 19) K7) K8) (.call 249 K5) (.tup K49))) (.ret (.call 580 (.cons K3 (.cons K1 (.cons K26 (.cons K25 (.cons (.a K0 14) (.cons (.a K0 13) .nil))))))))))))))⟩
def f622:Fn:=⟨1,[],1,(.ret (.bin .mul (.a K0 6) (.meth K0 13 .nil)))⟩
def f629:Fn:=⟨2,[],3,(.seq (.for_ 2 (.rev K1) (.seq (.ifs (.cmp .eq (.a K3 22) (.a K0 16)) (.seq (.ifs (.cmp .isnot (.a K3 17) K12) (.raise 608 (.cons K0 (.cons (.c (.str [119,104,97,116,32,104,97,115,32,79,67,67,85,82,83,32,105,115,32,114,101,100,101,102,105,110,101,100])) .nil))) .nop) (.ret K3)) .nop) (.ifs (.cmp .ne (.a K3 16) (.a K0 16)) .brk .nop))) (.raise 608 (.cons K0 (.cons (.c (.str [110,111,116,104,105,110,103,32,116,111,32,114,101,100,101,102,105,110,101])) .nil))))⟩
def f636:Fn:=⟨2,[],2,(.seq (.ifs (.cmp .gt K1 (.g 13 (.int 20))) (.raise 608 (.cons K0 (.cons (.c (.str [103,114,111,117,112,115,32,116,111,111,32,100,101,101,112])) .nil))) .nop) (.seq (.ifs (.and (.cmp .isnot (.a K0 17) K12) (.or (.cmp .eq (.a K0 23) K4) (.or (.cmp .eq (.a K0 23) (.g 12 (.int 77))) (.cmp .lt (.a (.a K0 17) 3) K4)))) (.raise 608 (.cons K0 (.cons (.c (.str [79,67,67,85,82,83,32,99,97,110,110,111,116,32,115,116,97,110,100,32,104,101,114,101])) .nil))) .nop) (.seq (.ifs (.not (.call 223 K5)) (.seq (.setA K0 5 (.call 615 K5)) (.seq (.setA K0 6 (.a (.a K0 5) 6)) (.ret K12))) .nop) (.seq (.ifs (.cmp .isnot (.a K0 21) K12) (.raise 608 (.cons K0 (.cons (.c (.str [97,32,103,114,111,117,112,32,119,105,116,104,32,97,32,112,105,99,116,117,114,101])) .nil))) .nop) (.seq (.setA K0 6 (.call 643 (.cons K0 K9))) (.setA K0 5 (.call 587 (.cons (.a K0 6) .nil))))))))⟩
def f643:Fn:=⟨2,[],5,(.seq (.set 2 K2) (.seq (.set 3 K16) (.seq (.for_ 4 (.call 228 K5) (.seq (.ex (.call 636 (.cons K26 (.cons (.bin .add K1 K4) .nil)))) (.seq (.ifs (.cmp .eq (.a K26 16) K7) (.set 2 (.bin .add K3 (.call 622 K11))) (.ifs (.cmp .gt (.call 622 K11) (.call 622 (.cons (.call 629 (.cons K26 K14)) .nil))) (.raise 608 (.cons K26 (.cons (.c (.str [97,32,114,101,100,101,102,105,110,105,116,105,111,110,32,105,115,32,116,111,111,32,108,111,110,103])) .nil))) .nop)) (.ex (.bm .append K8 K11))))) (.seq (.ifs (.cmp .gt (.bin .mul K3 (.meth K0 13 .nil)) (.g 14 (.int 1000000))) (.raise 608 (.cons K0 (.cons (.c (.str [116,111,111,32,108,111,110,103])) .nil))) .nop) (.ret K3)))))⟩
def f650:Fn:=⟨3,[],6,(.seq (.setA K0 7 K1) (.seq (.setA K0 8 K3) (.seq (.set 3 K1) (.seq (.set 4 K16) (.for_ 5 (.call 228 K5) (.seq (.ifs (.cmp .eq (.a K25 16) K7) (.seq (.ex (.call 650 (.cons K25 (.cons K8 K17)))) (.set 3 (.bin .add K8 (.call 622 K33)))) (.ex (.call 650 (.cons K25 (.cons (.a (.call 629 (.cons K25 K11)) 7) K17))))) (.ex (.bm .append K26 K33))))))))⟩
def f669:Fn:=⟨3,[],4,(.seq (.ex (.call 636 (.cons K0 K38))) (.seq (.ex (.call 650 (.cons K0 (.cons K1 K17)))) (.for_ 3 (.a K0 11) (.ifs (.cmp .eq (.a K8 23) (.g 0 (.int 66))) (.ex .bad) .nop))))⟩
def f676:Fn:=⟨2,[],6,(.seq (.set 2 K1) (.seq (.set 3 K16) (.seq (.for_ 4 K0 (.seq (.set 5 (.ifx (.cmp .eq (.a K26 16) K7) K3 (.a (.call 629 (.cons K26 K14)) 7))) (.seq (.ex (.call 669 (.cons K26 (.cons K25 (.cons K7 .nil))))) (.seq (.set 2 (.bf .max (.cons K3 (.cons (.bin .add K25 (.a K26 6)) .nil)))) (.ex (.bm .append K8 K11)))))) (.ret K3))))⟩
def f683:Fn:=⟨2,[],4,(.seq (.set 2 K1) (.seq (.for_ 3 K0 (.seq (.ifs (.cmp .ne (.a K8 16) K7) (.raise 608 (.cons K8 (.cons (.c (.str [97,32,102,105,108,101,39,115,32,114,101,99,111,114,100,32,116,104,97,116,32,114,101,100,101,102,105,110,101,115])) .nil))) .nop) (.seq (.ex (.call 669 (.cons K8 (.cons K1 (.cons K7 .nil))))) (.set 2 (.bf .max (.cons K3 (.cons (.bin .add K1 (.a K8 6)) .nil))))))) (.ret K3)))⟩
def f690:Fn:=⟨1,[],3,(.seq (.setA K0 0 (.dct .nil)) (.for_ 1 (.call 199 K5) (.for_ 2 (.ifx (.cmp .isnot K55 K12) (.a K55 0) (.tup .nil)) (.seq (.ifs (.cmp .isin K3 (.a K0 0)) (.raise 608 (.cons K1 (.cons (.bin .add (.c (.str [97,110,32,105,110,100,101,120,32,111,102,32,116,119,111,32,116,97,98,108,101,115,32])) K3) .nil))) .nop) (.setI (.a K0 0) K3 K1)))))⟩
def f695:Fn:=⟨2,[],6,(.seq (.set 2 (.comp K51 (.call 192 K9) K19 1 [])) (.seq (.ifs (.cmp .isnot (.a K55 2) K12) (.seq (.set 3 (.a K55 2)) (.seq (.ifs (.cmp .eq (.comp K0 (.call 199 K5) (.call 256 (.cons K0 (.cons (.idx K1 K4) (.cons (.idx K1 K23) .nil)))) 1 [3]) K16) (.raise 608 (.cons K1 (.cons (.c (.str [110,111,116,104,105,110,103,32,116,111,32,100,101,112,101,110,100,32,111,110])) .nil))) .nop) (.ifs (.and (.cmp .isin (.idx K8 K4) K3) (.cmp .eq (.idx K8 K23) (.tup .nil))) (.raise 608 (.cons K1 (.cons (.c (.str [97,32,116,97,98,108,101,32,100,101,112,101,110,100,115,32,111,110,32,105,116,115,101,108,102])) .nil))) .nop))) .nop) (.forT [4,5] (.a K55 1) (.ifs (.cmp .notin K25 K3) (.raise 608 (.cons K1 (.cons (.bin .add (.c (.str [97,32,107,101,121,32,116,104,97,116,32,105,115,32,110,111,116,32,105,110,32,116,104,101,32,116,97,98,108,101,32])) K25) .nil))) .nop))))⟩
def f702:Fn:=⟨1,[],5,(.seq (.set 1 K2) (.seq (.for_ 2 K50 (.set 1 (.call 683 (.cons (.idx K50 K3) K9)))) (.seq (.setA K0 6 (.call 676 (.cons (.a K0 27) K9))) (.seq (.for_ 3 (.a K0 26) (.ex (.call 669 (.cons K8 (.cons K2 (.cons (.a K8 22) .nil)))))) (.seq (.ex (.call 690 K5)) (.for_ 4 (.call 199 K5) (.ifs (.cmp .isnot (.a K26 17) K12) (.ex (.call 695 (.cons K0 K11))) .nop)))))))⟩
def f709:Fn:=⟨2,[],4,(.seq (.set 2 (.idx K0 K2)) (.seq (.set 3 (.idx K0 K4)) (.seq (.setI K0 K4 (.bin .add K8 K4)) (.ret (.bin .mod (.bin .add (.idx K3 (.bin .mod K8 (.bf .len K17))) (.bin .mul (.c (.int 11)) (.bin .fdiv K8 (.bf .len K17)))) K1)))))⟩
def f717:Fn:=⟨3,[(.str [])],4,(.seq (.set 3 (.call 148 (.cons K48 K5))) (.seq (.setA K8 21 K1) (.seq (.setA K8 20 K3) (.ret K8))))⟩
def f724:Fn:=⟨1,[],5,(.seq (.set 1 (.call 148 (.cons K4 (.cons (.c (.str [82])) .nil)))) (.seq (.set 2 (.call 148 (.cons K48 (.cons (.c (.str [71])) .nil)))) (.seq (.set 3 (.call 148 (.cons K48 (.cons K60 .nil)))) (.seq (.setA K8 17 (.call 101 (.cons K4 (.cons K36 (.cons (.tup (.cons K39 (.cons (.c (.str [78])) K20))) (.cons (.tup (.cons (.tup (.cons K19 (.cons K61 .nil))) .nil)) (.cons (.tup K34) .nil))))))) (.seq (.for_ 4 (.tup (.cons (.call 717 (.cons K22 (.cons (.bin .add (.bin .add K46 (.bf .str K5)) K43) .nil))) (.cons K3 (.cons (.call 717 (.cons (.c (.str [78])) (.cons (.c (.str [57,40,52,41])) .nil))) K14)))) (.ex (.meth K1 14 K11))) (.seq (.ex (.meth K3 14 (.cons (.call 717 (.cons (.c (.str [66])) (.cons (.c (.str [83,57,40,51,41])) .nil))) .nil))) (.seq (.ex (.meth K3 14 (.cons (.call 717 (.cons (.c (.str [67])) (.cons (.c (.str [57,40,53,41])) (.cons K45 .nil)))) .nil))) (.seq (.ex (.meth K8 14 (.cons (.call 717 (.cons K61 K18)) .nil))) (.ret K1)))))))))⟩
def f731:Fn:=⟨3,[],4,(.seq (.set 3 (.call 717 (.cons K0 K17))) (.seq (.setA K8 16 K1) (.ret K8)))⟩
def f738:Fn:=⟨3,[],9,(.seq (.set 3 (.idx (.a K0 27) K2)) (.seq (.unp [4,5,6,7] (.a K8 11)) (.ifs (.cmp .eq K1 K2) (.setA K25 21 (.c (.str [88]))) (.ifs (.cmp .eq K1 K4) (.setA K26 21 K12) (.ifs (.cmp .eq K1 K23) (.setA K8 17 (.call 101 (.cons K4 (.cons K23 .nil)))) (.ifs (.cmp .eq K1 K36) (.setA K26 17 (.call 101 (.cons K2 K38))) (.ifs (.cmp .eq K1 K47) (.ex (.meth K8 14 K37)) (.ifs (.cmp .eq K1 K48) (.ex (.meth K25 14 K37)) (.ifs (.cmp .eq K1 (.c (.int 6))) (.ex (.bm .insert (.a K8 11) (.cons K4 (.cons (.call 731 (.cons K29 (.cons K22 (.cons (.bin .add (.bin .add K46 (.bf .str K56)) K43) .nil)))) .nil)))) (.ifs (.cmp .eq K1 (.c (.int 7))) (.ex (.meth K8 14 (.cons (.call 731 (.cons K29 (.cons K60 K18))) .nil))) (.ifs (.cmp .eq K1 (.c (.int 8))) (.setA K26 20 K44) (.ifs (.cmp .eq K1 (.c (.int 9))) (.seq (.setA K41 19 K40) (.setA K41 18 K19)) (.ifs (.cmp .eq K1 (.c (.int 10))) (.setA K26 17 (.call 101 (.cons K4 (.cons K23 (.cons K12 (.cons (.tup .nil) (.cons (.tup K34) .nil))))))) (.ifs (.cmp .eq K1 (.c (.int 11))) (.setA (.l 7) 17 (.call 101 (.cons K4 (.cons K36 (.cons K12 (.cons (.tup (.cons (.tup (.cons K6 (.cons K22 .nil))) .nil)) K42)))))) (.ifs (.cmp .eq K1 (.c (.int 12))) (.setA (.l 7) 17 (.call 101 (.cons K4 (.cons K36 (.cons (.tup (.cons K39 (.cons (.c (.str [81])) K20))) (.cons (.tup .nil) K42)))))) (.ifs (.cmp .eq K1 (.c (.int 13))) (.setA (.l 7) 17 (.call 101 (.cons K4 (.cons K36 (.cons (.tup (.cons K39 (.cons K61 K20))) (.cons (.tup .nil) K42)))))) (.ifs (.cmp .eq K1 (.c (.int 14))) (.seq (.set 8 (.call 731 (.cons K59 (.cons (.c (.str [82])) K18)))) (.seq (.setA (.l 8) 23 K4) (.setI K50 (.c (.str [70])) (.lst (.cons (.l 8) .nil))))) (.setA K26 20 K27))))))))))))))))))⟩
noncomputable def f745:Fn:=⟨1,[],1,(.tryc 702 72)⟩
def f1:Fn:=⟨1,[],1,.ret (.a K0 20)⟩
def fnT:List (Nat×Fn):=[(91,f91),(119,f119),(126,f126),(133,f133),(166,f166),(185,f185),(192,f192),(199,f199),(206,f206),(218,f218),(223,f223),(228,f228),(235,f235),(242,f242),(249,f249),(256,f256),(270,f270),(303,f303),(324,f324),(329,f329),(336,f336),(343,f343),(348,f348),(362,f362),(369,f369),(376,f376),(383,f383),(397,f397),(453,f453),(460,f460),(467,f467),(479,f479),(484,f484),(491,f491),(496,f496),(511,f511),(539,f539),(546,f546),(553,f553),(560,f560),(567,f567),(572,f572),(580,f580),(587,f587),(608,f608),(615,f615),(622,f622),(629,f629),(636,f636),(643,f643),(650,f650),(669,f669),(676,f676),(683,f683),(690,f690),(695,f695),(702,f702),(709,f709),(717,f717),(724,f724),(731,f731),(738,f738),(745,f745),(1,f1)]
noncomputable def chT:List (Nat×Bool×List Str):=[(91,G7,[G0 "self",G0 "low",G0 "high",G0 "depending",G0 "keys",G0 "indexes"]),
 (119,G7,[G0 "self",G0 "level",G0 "name"]),
 (126,G7,[G0 "self",G0 "kid"]),
 (133,G7,[G0 "self"]),
 (166,G7,[G0 "self"]),
 (185,G7,[G0 "data",G0 "found",G0 "name"]),
 (192,G7,[G0 "item",G0 "found",G0 "line",G0 "one"]),
 (199,G7,[G0 "data",G0 "found",G0 "root"]),
 (206,G7,[G0 "item",G0 "found",G0 "above"]),
 (218,G7,[G0 "item"]),
 (223,G7,[G0 "item"]),
 (228,G7,[G0 "item"]),
 (235,G7,[G0 "item",G0 "read",G0 "one"]),
 (242,G6,[G0 "item",G0 "found"]),
 (249,G7,[G0 "item",G0 "one"]),
 (256,G7,[G0 "item",G0 "name",G0 "qualifiers",G0 "around",G0 "wanted"]),
 (270,G7,[G0 "self",G0 "text",G0 "symbols",G0 "category",G0 "digits",G0 "scale",G0 "is_signed",G0 "size"]),
 (303,G7,[G0 "self",G0 "sign",G0 "count",G0 "at"]),
 (324,G7,[G0 "text",G0 "at"]),
 (329,G7,[G0 "text",G0 "at",G0 "end",G0 "figures"]),
 (336,G7,[G0 "text",G0 "found",G0 "at",G0 "sign",G0 "count",G0 "end"]),
 (343,G7,[G0 "signs",G0 "found",G0 "one"]),
 (348,G7,[G0 "symbols"]),
 (362,G7,[G0 "self"]),
 (369,G7,[G0 "self"]),
 (376,G7,[G0 "self",G0 "count",G0 "is_loose"]),
 (383,G7,[G0 "self",G0 "one"]),
 (397,G7,[G0 "self",G0 "one"]),
 (453,G7,[G0 "self",G0 "one",G0 "sign"]),
 (460,G7,[G0 "self"]),
 (467,G7,[G0 "self"]),
 (479,G7,[G0 "text",G0 "signs",G0 "order",G0 "symbols",G0 "one",G0 "plain",G0 "category",G0 "is_signed"]),
 (484,G7,[G0 "symbols",G0 "signs"]),
 (491,G7,[G0 "text",G0 "signs",G0 "one",G0 "symbols"]),
 (496,G7,[G0 "text",G0 "great",G0 "signs"]),
 (511,G7,[G0 "self",G0 "category",G0 "size",G0 "picture",G0 "usage",G0 "sign",G0 "is_separate",G0 "is_justified",G0 "is_blank_zero"]),
 (539,G7,[G0 "digits"]),
 (546,G7,[G0 "digits"]),
 (553,G7,[G0 "picture",G0 "usage",G0 "is_separate"]),
 (560,G7,[G0 "picture",G0 "usage"]),
 (567,G7,[G0 "picture",G0 "usage",G0 "sign",G0 "is_separate"]),
 (572,G7,[G0 "picture",G0 "is_justified",G0 "is_blank_zero"]),
 (580,G7,[G0 "picture",G0 "usage",G0 "sign",G0 "is_separate",G0 "is_justified",G0 "is_blank_zero",G0 "size"]),
 (587,G7,[G0 "size"]),
 (608,G7,[G0 "item",G0 "what"]),
 (615,G7,[G0 "item",G0 "usage",G0 "picture",G0 "is_signed_row",G0 "sign",G0 "is_separate"]),
 (622,G7,[G0 "item"]),
 (629,G7,[G0 "item",G0 "ahead",G0 "one"]),
 (636,G7,[G0 "item",G0 "depth"]),
 (643,G7,[G0 "item",G0 "depth",G0 "size",G0 "ahead",G0 "kid"]),
 (650,G7,[G0 "item",G0 "offset",G0 "base",G0 "here",G0 "ahead",G0 "kid"]),
 (669,G7,[G0 "root",G0 "offset",G0 "base",G0 "item"]),
 (676,G7,[G0 "roots",G0 "offset",G0 "end",G0 "ahead",G0 "root",G0 "begin"]),
 (683,G7,[G0 "roots",G0 "offset",G0 "end",G0 "root"]),
 (690,G7,[G0 "data",G0 "item",G0 "name"]),
 (695,G7,[G0 "data",G0 "item",G0 "names",G0 "wanted",G0 "is_ascending",G0 "name"]),
 (702,G7,[G0 "data",G0 "here",G0 "name",G0 "root",G0 "item"]),
 (709,G7,[G0 "source",G0 "limit",G0 "cells",G0 "at"]),
 (717,G7,[G0 "name",G0 "picture",G0 "usage",G0 "item"]),
 (724,G7,[G0 "many",G0 "root",G0 "group",G0 "table",G0 "kid"]),
 (731,G7,[G0 "name",G0 "goal",G0 "picture",G0 "item"]),
 (738,G7,[G0 "data",G0 "way",G0 "many",G0 "root",G0 "a",G0 "group",G0 "counter",G0 "table",G0 "other"]),
 (745,G7,[G0 "data"])]
noncomputable def attrT:List Str:=[G0 "indexes",G0 "keys",G0 "depending",G0 "high",G0 "low",G0 "shape",G0 "size",G0 "offset",G0 "base",G0 "renames",G0 "parent",G0 "kids",G0 "conditions",G0 "is_blank_zero",G0 "is_justified",G0 "value",G0 "redefines",G0 "occurs",G0 "is_separate",G0 "sign",G0 "usage",G0 "picture_text",G0 "name",G0 "level",G0 "sorts",G0 "files",G0 "linkage",G0 "working",G0 "is_signed",G0 "scale",G0 "digits",G0 "category",G0 "symbols",G0 "text",G0 "at",G0 "count",G0 "is_inserted",G0 "is_over",G0 "last",G0 "money",G0 "is_late",G0 "behind",G0 "floats",G0 "zeros",G0 "zero",G0 "nines",G0 "trail",G0 "lead",G0 "point",G0 "is_plain",G0 "seen",G0 "picture"]
noncomputable def methT:List Str:=[G0 "add_behind",G0 "take_nine",G0 "take_zero",G0 "take_point",G0 "take_scaling",G0 "take_sign",G0 "take_money",G0 "take_end",G0 "take_inserted",G0 "digits",G0 "scale",G0 "is_whole",G0 "take",G0 "count",G0 "add",G0 "index"]
noncomputable def globT:List (Nat×Str):=[(185,(G0 "records")),(192,(G0 "items_under")),(199,(G0 "all_items")),(206,(G0 "items_around")),(218,(G0 "names_around")),(223,(G0 "is_group")),(228,(G0 "plain_kids")),(235,(G0 "told_up")),(242,(G0 "usage_of")),(249,(G0 "sign_of")),(256,(G0 "matches_names")),(324,(G0 "sign_at")),(329,(G0 "count_at")),(336,(G0 "signs_of")),(343,(G0 "symbols_of")),(348,(G0 "size_of_symbols")),(479,(G0 "number_picture")),(484,(G0 "text_category")),(491,(G0 "text_picture")),(496,(G0 "read_picture")),(539,(G0 "binary_width")),(546,(G0 "packed_width")),(553,(G0 "size_for")),(560,(G0 "check_usage")),(567,(G0 "check_sign")),(572,(G0 "check_clauses")),(580,(G0 "shape_of")),(587,(G0 "group_shape")),(608,(G0 "data_fault")),(615,(G0 "leaf_shape")),(622,(G0 "whole_size")),(629,(G0 "redefined")),(636,(G0 "set_sizes")),(643,(G0 "group_size")),(650,(G0 "set_offsets")),(669,(G0 "set_record")),(676,(G0 "lay_working")),(683,(G0 "lay_file")),(690,(G0 "set_indexes")),(695,(G0 "check_occurs")),(702,(G0 "lay_out")),(709,(G0 "_law_draw")),(717,(G0 "_law_leaf")),(724,(G0 "_law_record")),(731,(G0 "_law_upon")),(738,(G0 "_law_bent")),(745,(G0 "_law_lies")),(101,(G0 "Occurs")),(148,(G0 "Item")),(174,(G0 "Data")),(285,(G0 "Picture")),(313,(G0 "Sign")),(470,(G0 "Order")),(528,(G0 "Shape")),(72,(G0 "DataFault"))]
noncomputable def excT:List (Nat×Nat):=[(72,37)]
noncomputable def initT:List (Nat×Nat):=[(101,91),(148,119),(174,166),(285,270),(313,303),(470,362),(528,511)]
noncomputable def mthT:List (Nat×Nat×Nat):=[(148,14,126),(148,13,133),(470,9,369),(470,0,376),(470,1,383),(470,3,397),(470,12,453),(470,11,460),(470,10,467)]
noncomputable def ownT:List (Nat×List Nat):=[(101,[4,3,2,1,0]),(148,[23,22,21,20,19,18,17,16,15,14,13,12,11,10,9,8,7,6,5]),(174,[27,26,25,24,6,0]),(285,[33,32,31,30,29,28,6]),(313,[19,35,34]),(470,[50,49,48,47,46,45,44,43,42,41,40,19,39,38,37,36]),(528,[31,6,51,20,19,18,14,13,30,29,28,30,29,28])]
noncomputable def lamPos:Pos:=⟨124,26,124,47⟩
noncomputable def lamX:Str:=G0 "one"
noncomputable def lamN:Str:=G0 "usage"
noncomputable def lamQ:Str:=G0 "usage_of.<locals>.<lambda>"
def lawS:S:=(.seq (.set 1 (.comp (.bf .int K5) (.slice K0 K12 (.c (.int 60))) K19 1 [])) (.seq (.set 2 (.lst (.cons (.ifx K1 K1 (.lst K38)) K38))) (.seq (.set 3 (.call 709 (.cons K3 (.cons (.c (.int 16)) .nil)))) (.seq (.set 4 (.bin .add K4 (.call 709 (.cons K3 (.cons (.c (.int 20)) .nil))))) (.seq (.for_ 5 (.tup (.cons K6 (.cons K19 .nil))) (.seq (.set 6 (.call 174 .nil)) (.seq (.ex (.bm .append (.a K41 27) (.cons (.call 724 K11) .nil))) (.seq (.ifs K25 (.ex (.call 738 (.cons K41 (.cons K8 K11)))) .nop) (.seq (.ifs (.cmp .ne (.call 745 (.cons K41 .nil)) (.not K25)) (.ret K6) .nop) (.ifs (.and (.not K25) (.or (.cmp .ne (.a K41 6) (.bin .add K26 (.c (.int 14)))) (.or (.cmp .ne (.bf .list (.cons (.a K41 0) .nil)) (.lst K34)) (.cmp .ne (.a (.idx (.a K41 0) (.c (.str [73]))) 22) K60)))) (.ret K6) .nop)))))) (.seq (.set 6 (.call 174 .nil)) (.seq (.ex (.bm .append (.a K41 27) (.cons (.call 724 K11) .nil))) (.seq (.for_ 7 (.bf .range (.cons (.bin .add K4 (.call 709 (.cons K3 (.cons K36 .nil)))) .nil)) (.ex (.bm .insert K31 (.cons (.bin .add K4 (.l 7)) (.cons (.call 731 (.cons (.bin .add K29 (.bf .str (.cons (.l 7) .nil))) (.cons K22 (.cons (.bin .add (.bin .add K46 (.bf .str K11)) K43) .nil)))) .nil))))) (.seq (.set 8 K31) (.seq (.ifs (.cmp .ne (.a (.call 629 (.cons (.idx (.l 8) (.c (.int (-4)))) (.cons (.slice (.l 8) K12 (.c (.int (-4)))) .nil))) 22) K22) (.ret K6) .nop) (.ret (.and (.call 745 (.cons K41 .nil)) (.and (.cmp .eq (.a K41 6) (.bin .add K26 (.c (.int 14)))) (.cmp .eq (.comp (.a K0 7) (.slice K31 K12 K23) K19 1 []) (.lst (.cons K2 K38))))))))))))))))
noncomputable def lawT:List Str:=[G0 "script",G0 "cells",G0 "source",G0 "way",G0 "many",G0 "is_bent",G0 "data",G0 "turn",G0 "kids"]
end G
namespace G
noncomputable def big(n:Nat):Str:=⟨Array.replicate (n+60) 122⟩
def attr(f:Nat):Str:=match attrT[f]? with|some x=>x|none=>big f
def meth(f:Nat):Str:=match methT[f]? with|some x=>x|none=>big f
noncomputable def look3(k m:Nat):List (Nat×Nat×Nat)->Option Nat
 |[]=>Gb
 |(a,b,c)::r=>match Gi a k && Gi b m with|true=>G3 c|false=>look3 k m r
def att(c f:Nat):Bool:=match zU c ownT with|some l=>l.any (Gi f)|none=>G7
def here{α:Type}(l:List (Nat×α))(f:Nat):Option Nat:=match zU f l with|some _=>G3 f|none=>Gb
def fnA(f:Nat):Option Nat:=here chT f
def clsA(f:Nat):Option Nat:=here (initT++excT) f
def P(ns:List Int):Prg:=⟨λk=>zU k fnT,λc=>zU c initT,λc m=>look3 c m mthT,att,λf=>Gi f 496 ||Gi f 724,λf=>Gi f 72,ns⟩
def N:Nm:=⟨λf=>zU f globT,attr,meth,1,lamPos,lamX,lamN⟩
def T(prog:Di)(w:Fb)(K:DN)(scr:Gx)(ns:List Int):Tp:=
 {prog:=prog,w:=w,K:=K,P:=w.params,lamK:=1,lamP:=lamPos,lamQ:=lamQ,lamX:=lamX,lamN:=lamN,attr:=attr,cls:=clsA,tab:=237,tabC:=241,scr:=scr,ns:=ns,fn:=fnA,att:=att}
def fnB(K:DN)(fn:Fn)(lm:Bool)(tb:List Str)(a:Nat):Bool:=match K.lookup a with
 |some ⟨_,_,.func fd,_⟩=>(match fd.body with
  |.stmts b=>Gi fd.globals Dy && none? fd.closure && Gi fd.builtins I9 && fnChk N K 241 lamQ fn lm tb fd.qualname fd.params b fd.scope fd.defaults fd.code
  |_=>G7)
 |_=>G7
set_option tactic.hygienic true in
theorem fnB_at{prog:Di}{w:Fb}{K:DN}{scr:Gx}{ns:List Int}{fn:Fn}{lm:Bool}{tb:List Str}{a:Nat}(h:fnB K fn lm tb a=G6):FnAt (T prog w K scr ns) N fn a:=by
 have h:(match K.lookup a with
  |some ⟨_,_,.func fd,_⟩=>(match fd.body with
   |.stmts b=>Gi fd.globals Dy && none? fd.closure && Gi fd.builtins I9 && fnChk N K 241 lamQ fn lm tb fd.qualname fd.params b fd.scope fd.defaults fd.code
   |_=>G7)
  |_=>G7)=G6:=h
 rcases e:K.lookup a with _|⟨oc,od,dt,sl⟩
 ·rw[e] at h;exact absurd h G4
 ·rw[e] at h;rcases dt<;>first|exact absurd h G4|skip
  rename_i fd;obtain⟨n1,n2,n3,n4,n5,n6,n7,n8,n9,n10,n11,n12,n13,n14,n15⟩:=fd;rcases n4 with b|b
  ·replace h:=an4 h;obtain⟨h1,h2,h3,h4⟩:=h;obtain rfl:n6=Dy:=natE.mp h1;obtain rfl:n7=[]:=zB h2;obtain rfl:n15=I9:=natE.mp h3;exact⟨oc,od,sl,n1,n2,n3,b,n5,n8,n9,n10,n11,n12,n13,n14,lm,tb,e,h4⟩
  ·exact absurd h G4
noncomputable def fnsB(K:DN):List (Nat×Bool×List Str)->Bool
 |[]=>G6
 |(a,lm,tb)::r=>(match zU a fnT with|some fn=>fnB K fn lm tb a|none=>G7) && fnsB K r
end G
namespace G
def attB(K:DN):Bool:=ownT.all λp=>p.2.all λf=>attOk K p.1 (attr f)
def mthB(K:DN):Bool:=mthT.all λp=>(fnA p.2.2).isSome && mthOk K p.1 (meth p.2.1) p.2.2
def gloB(K:DN):Bool:=globT.all λp=>((fnA p.1).isSome ||(clsA p.1).isSome) && KU K p.2 p.1
def clsB(K:DN):Bool:=initT.all λp=>makesIn K p.1 && (I8 K (.ref p.1) (G0 "__init__")==G3 (G3 (.ref p.2))) && isFn K (.ref p.2) && (fnA p.2).isSome && (zU p.1 fnT).isNone
def xiB(K:DN)(a:Nat):Bool:=match K.lookup a with
 |some ⟨_,_,.func fd,_⟩=>(match fd.body with
  |.stmts b=>Gi fd.globals Dy && none? fd.closure && Gi fd.builtins I9 && xiChk K fd.qualname fd.params b fd.scope fd.defaults fd.code
  |_=>G7)
 |_=>G7
def xcB(K:DN)(C fI:Nat):Bool:=
 (match clsIn K C with|some cd=>Jw cd.mro && cd.hasDict|none=>G7) && I8 K (.ref C) "__setattr__"==G3 (G3 (.builtin "object.__setattr__")) && I8 K (.ref C) "what"==G3 Gb && I8 K (.ref C) "at"==G3 Gb && mroIn K C (.type "Exception")==G3 G6 && xiB K fI && xcIn K C &&
 (mroIn K C (.type "BaseException")==G3 G6 && mroIn K C (.type "object")==G3 G6 && mroIn K C (.type "type")==G3 G7 && typeIn K (.ref C)==G3 (.type "type") && I8 K (.ref C) "__init__"==G3 (G3 (.ref fI)) && typeIn K (.ref fI)==G3 (.type "function"))
def excB(K:DN):Bool:=excT.all λp=>xcB K p.1 p.2 && (zU p.1 fnT).isNone && (zU p.1 initT).isNone
end G
theorem ok{A B:Prop}(a:A)(e:A=B):B:=e▸a
def retIs(f:Fl)(v:V):Prop:=match f with|.ret u=>u=v|.next=>V.none=v|.brk=>False
def fnS(P:Prg)(w:Nat)(C:Orc)(f:Nat)(vs:List V)(H:Hp)(as:As)(v:V)(H':Hp):Prop:=
 ifS (P.fn f) λfn=>gd (!P.frm f) (ifS (Zl fn vs) λL=>exS P C w fn.body L H as λfl _ H₁ _=>retIs fl v/\H₁=H')
theorem zr{P:Prg}{w n f:Nat}{vs:List V}{H H':Hp}{as:As}{v:V}(h:fnS P w (zb P w n) f vs H as v H'):Call (zb P w (n+1)) f vs H v H':=by
 refine⟨λQ X q=>?_⟩;obtain⟨fn,e,h⟩:=zq h;obtain⟨e2,h⟩:=gd_iff.mp h;obtain⟨L,e3,h⟩:=zq h;have e2:P.frm f=G7:=by
  rcases hf:P.frm f with _|_
  ·rfl
  ·rw[hf] at e2;cases e2
 show(match P.fn f with
  |some fn=>ite2 (P.frm f) _ (yM P w (zb P w n) fn f vs H Q X)
  |none=>_)
 rw[e];show ite2 (P.frm f) _ (yM P w (zb P w n) fn f vs H Q X);rw[e2];show ifS (Zl fn vs) _;refine Zp e3 (YP P (zb P w n) w fn.body h λfl _ H₁ _ h=>?_);rcases fl with _|_|u
 ·rw[h.2];rw[←h.1] at q;exact q
 ·exact h.1.elim
 ·rw[h.2,show u=v from h.1];exact q
def fnX(P:Prg)(w:Nat)(C:Orc)(f:Nat)(vs:List V)(H:Hp)(as:As)(k:Nat)(H':Hp):Prop:=
 ifS (P.fn f) λfn=>gd (!P.frm f) (ifS (Zl fn vs) λL=>exY P C (λk' H₁=>k'=k/\H₁=H') w fn.body L H as λ_ _ _ _=>False)
theorem zv{P:Prg}{w n f:Nat}{vs:List V}{H H':Hp}{as:As}{k:Nat}(h:fnX P w (zb P w n) f vs H as k H'):yc (zb P w (n+1)) f vs H k H':=by
 intro Q X y;obtain⟨fn,e,h⟩:=zq h;obtain⟨e2,h⟩:=gd_iff.mp h;obtain⟨L,e3,h⟩:=zq h;have e2:P.frm f=G7:=by
  rcases hf:P.frm f with _|_
  ·rfl
  ·rw[hf] at e2;cases e2
 show(match P.fn f with
  |some fn=>ite2 (P.frm f) _ (yM P w (zb P w n) fn f vs H Q X)
  |none=>_)
 rw[e];show ite2 (P.frm f) _ (yM P w (zb P w n) fn f vs H Q X);rw[e2];show ifS (Zl fn vs) _;exact Zp e3 (u9 P (zb P w n) (λk' H₁=>k'=k/\H₁=H') w fn.body (λk' H₁ h=>by obtain⟨rfl,rfl⟩:=h;exact y) h λ_ _ _ _ h=>h.elim)
theorem finX(k:Nat)(H:Hp):k=k/\H=H:=Ic rfl rfl
def Cb(ns:List Int)(b f:Nat)(vs:List V)(H:Hp)(v:V)(H':Hp):Prop:=∀m,b<=m->Call (zb (G.P ns) 60 m) f vs H v H'
def Dp(_:List Int)(b m:Nat):Prop:=b<=m
theorem zW{ns:List Int}{b f:Nat}{vs:List V}{H H':Hp}{v:V}(as:As)(h:∀m,Dp ns b m->fnS (G.P ns) 60 (zb (G.P ns) 60 m) f vs H as v H'):Cb ns (b+1) f vs H v H':=by
 intro m hm;rcases m with _|m
 ·exact absurd hm (Dj _)
 ·exact zr (h m (Dm hm))
theorem Cb.at{ns:List Int}{b c f m:Nat}{vs:List V}{H H':Hp}{v:V}(h:Cb ns b f vs H v H')(hm:Dp ns c m)(hb:Gj b c=G6:=by rfl):Call (zb (G.P ns) 60 m) f vs H v H':=h m (Ga (G5 hb) hm)
theorem cb_of{ns:List Int}{b f:Nat}{vs:List V}{H H':Hp}{v:V}(h:∀{m},Dp ns b m->∃as,fnS (G.P ns) 60 (zb (G.P ns) 60 m) f vs H as v H'):Cb ns (b+1) f vs H v H':=by
 intro m hm;rcases m with _|m
 ·exact absurd hm (Dj _)
 ·exact Gf (h (Dm hm)) λ_ h=>zr h
theorem I{a b:Prop}(x:a)(y:b):a/\b:=Ic x y
theorem fin(v:V)(H:Hp):v=v/\H=H:=Ic rfl rfl
theorem yP{ns:List Int}{b f i:Nat}{vs:List V}{H H':Hp}(e:zU f G.fnT=Gb)(e2:zU f G.initT=G3 i)(h:Cb ns b i (.obj H.length::vs) (H++[.inst f []]) .none H'):Cb ns (b+1) f vs H (.obj H.length) H':=by
 intro m hm;refine⟨λQ X q=>?_⟩;rcases m with _|m
 ·exact absurd hm (Dj _)
 show(match zU f G.fnT with
  |some fn=>ite2 _ _ _
  |none=>(match zU f G.initT with
   |some i=>zb (G.P ns) 60 m i (.obj H.length::vs) (H++[.inst f []]) (λv H₁=>ym v (Q (.obj H.length) H₁)) (λ_ _=>False)
   |none=>_))
 rw[e];show(match zU f G.initT with
   |some i=>zb (G.P ns) 60 m i (.obj H.length::vs) (H++[.inst f []]) (λv H₁=>ym v (Q (.obj H.length) H₁)) (λ_ _=>False)
   |none=>_)
 rw[e2];exact(h m (Dm hm)).out _ (λ_ _=>False) q
theorem fin3(f:Fl)(L:Lc)(H:Hp):f=f/\L=L/\H=H:=Ic rfl (Ic rfl rfl)
theorem Xo{H:Hp}{i:Nat}{o:O}(h:H[i]?=G3 o):i < H.length:=by
 rcases Ip i H.length with h1|h1
 ·exact h1
 ·rw[List.getElem?_eq_none h1] at h;cases h
theorem zd{H N:Hp}{i:Nat}{o:O}(h:H[i]?=G3 o):(H++N)[i]?=G3 o:=by rw[List.getElem?_append_left (Xo h)];exact h
theorem ze{H:Hp}{o:O}:(H++[o])[H.length]?=G3 o:=by rw[List.getElem?_append_right (GI _),Nat.sub_self];rfl
theorem zV{H:Hp}{i:Nat}{o x:O}(h:H[i]?=G3 o):(H.set i x)[i]?=G3 x:=List.getElem?_set_self (Xo h)
theorem zw{H:Hp}{i j:Nat}{o x:O}(h:H[i]?=G3 o)(n:j≠i):(H.set j x)[i]?=G3 o:=by rw[List.getElem?_set_ne n];exact h
theorem Yk{H:Hp}{o x:O}:(H++[o]).set H.length x=H++[x]:=by rw[List.set_append_right _ _ (GI _),Nat.sub_self];rfl
def Ex(H H':Hp):Prop:=∀(i:Nat) (o:O),H[i]?=G3 o->H'[i]?=G3 o
theorem Ex.refl(H:Hp):Ex H H:=λ_ _ h=>h
theorem Ex.app{H:Hp}(N:Hp):Ex H (H++N):=λ_ _ h=>zd h
theorem Ex.trans{H₁ H₂ U5:Hp}(a:Ex H₁ H₂)(b:Ex H₂ U5):Ex H₁ U5:=λ_ _ h=>b _ _ (a _ _ h)
theorem Ex.set{H H':Hp}(a:Ex H H'){p:Nat}(n:H[p]?=Gb)(x:O):Ex H (H'.set p x):=λi o h=>zw (a _ _ h) λe=>by rw[←e,n] at h;cases h
theorem yH{H:Hp}:H[H.length]?=Gb:=List.getElem?_eq_none (GI _)
theorem Xk{H:Hp}{i:Nat}(h:H.length<=i):H[i]?=Gb:=List.getElem?_eq_none h
theorem Ex.no{H H':Hp}(a:Ex H H'){p:Nat}(n:H'[p]?=Gb):H[p]?=Gb:=by
 rcases h:H[p]? with _|o
 ·rfl
 ·rw[a _ _ h] at n;cases n
theorem ne_of{H:Hp}{i j:Nat}{o:O}(h:H[i]?=G3 o)(n:H[j]?=Gb):j≠i:=λe=>by rw[e,h] at n;cases n
section
variable {P:Prg} {C:Orc} {w:Nat} {b:S} {ks:List Nat} {one:Bool} {it:It} {L L':Lc} {H H':Hp} {f:Fl}
theorem yq:ForR P C w b ks one it [] L H .next L H:=λ_ _ q=>q
theorem zX{v:V}{r:List V}{L₁ Uh:Lc}{H₂:Hp}{as:As}(e:ZY ks (zJ one v) L=G3 L₁)(h:exS P C w b L₁ H as λg L' H' _=>g= .next/\L'=Uh/\H'=H₂)(s:it.stands H₂=G6)(k:ForR P C w b ks one it r Uh H₂ f L' H') :
  ForR P C w b ks one it (v::r) L H f L' H':=λX Q q=>
 Zp e (YP P C w b h λg L H _ h=>by
  obtain⟨rfl,rfl,rfl⟩:=h;exact gd_iff.mpr ⟨s,k X Q q⟩)
theorem jQ{v:V}{r:List V}{L₁:Lc}{as:As}(e:ZY ks (zJ one v) L=G3 L₁)(h:exS P C w b L₁ H as λg Uh H₂ _=>flP g False (f= .next/\Uh=L'/\H₂=H') λu=>f= .ret u/\Uh=L'/\H₂=H') :
  ForR P C w b ks one it (v::r) L H f L' H':=λX Q q=>
 Zp e (YP P C w b h λg L H _ h=>by
  rcases g with _|_|u
  ·exact h.elim
  ·obtain⟨rfl,rfl,rfl⟩:=h;exact q
  ·obtain⟨rfl,rfl,rfl⟩:=h;exact q)
def Fo(P:Prg)(C:Orc)(w:Nat)(b:S)(ks:List Nat)(one:Bool)(it:It)(as:List V)(L:Lc)(H:Hp)(L':Lc)(H':Hp):Prop:=∀(X:QX) (Q:KS) (bs:List V),forL (ex P C X w b) ks one it bs L' H' Q->forL (ex P C X w b) ks one it (as++bs) L H Q
theorem Fo.nil:Fo P C w b ks one it [] L H L H:=λ_ _ _ q=>q
theorem Fo.cons{v:V}{r:List V}{L₁ Uh:Lc}{H₂:Hp}{as:As}(e:ZY ks (zJ one v) L=G3 L₁)(h:exS P C w b L₁ H as λg L' H' _=>g= .next/\L'=Uh/\H'=H₂)(s:it.stands H₂=G6)(k:Fo P C w b ks one it r Uh H₂ L' H') :
  Fo P C w b ks one it (v::r) L H L' H':=λX Q bs q=>
 Zp e (YP P C w b h λg L H _ h=>by
  obtain⟨rfl,rfl,rfl⟩:=h;exact gd_iff.mpr ⟨s,k X Q bs q⟩)
theorem Fo.R{as:List V}(h:Fo P C w b ks one it as L H L' H'):ForR P C w b ks one it as L H .next L' H':=λX Q q=>by have:=h X Q [] q;rw[D5] at this;exact this
theorem Fo.X{as bs:List V}{k:Nat}{H'':Hp}(h:Fo P C w b ks one it as L H L' H')(q:ForX P C w b ks one it bs L' H' k H''):ForX P C w b ks one it (as++bs) L H k H'':=λX Q y=>h X Q bs (q X Q y)
theorem forBrk{v:V}{r:List V}{L₁:Lc}{as:As}(e:ZY ks (zJ one v) L=G3 L₁)(h:exS P C w b L₁ H as λg Uh H₂ _=>g= .brk/\Uh=L'/\H₂=H'):ForR P C w b ks one it (v::r) L H .next L' H':=λX Q q=>
 Zp e (YP P C w b h λg L H _ h=>by obtain⟨rfl,rfl,rfl⟩:=h;exact q)
theorem Xs{v:V}{r:List V}{L₁:Lc}{as:As}{k:Nat}(e:ZY ks (zJ one v) L=G3 L₁)(h:exY P C (λk' H₁=>k'=k/\H₁=H') w b L₁ H as λ_ _ _ _=>False):ForX P C w b ks one it (v::r) L H k H':=λX Q y=>
 Zp e (u9 P C (λk' H₁=>k'=k/\H₁=H') w b (λk' H₁ h=>by obtain⟨rfl,rfl⟩:=h;exact y) h λ_ _ _ _ h=>h.elim)
theorem whEnd{c:E}{n:Nat}{as:As}(h:evS P C c L H as λu H₁ as=>trS u H₁ as λt _=>t=G7/\H₁=H'):WhR P C w c b (n+1) L H .next L H':=λX Q q=>
 jf P C c h λu H₁ as h=>ZD h λt _ h=>by obtain⟨rfl,rfl⟩:=h;exact q
theorem whTurn{c:E}{n:Nat}{as as':As}{Uh:Lc}{H₁ H₂:Hp}(h:evS P C c L H as λu H' as=>trS u H' as λt _=>t=G6/\H'=H₁)(hb:exS P C w b L H₁ as' λg L' H' _=>g= .next/\L'=Uh/\H'=H₂)(k:WhR P C w c b n Uh H₂ f L' H'):WhR P C w c b (n+1) L H f L' H':=λX Q q=>
 jf P C c h λu H₁ as h=>ZD h λt _ h=>by
  obtain⟨rfl,rfl⟩:=h;exact YP P C w b hb λg L H _ h=>by obtain⟨rfl,rfl,rfl⟩:=h;exact k X Q q
end
section
variable {P:Prg} {C:Orc} {n:Nat} {cap:Lc} {it:It} {elt cond:E} {acc vs us:List V} {H H':Hp}
abbrev cnd(P:Prg)(C:Orc)(cond:E):Lc->Hp->(Bool->Hp->Prop)->Prop:=λl H q=>ev P C cond X0 l H λv H'=>ifS (yD v H') λb=>q b H'
theorem kj:ZA (ev P C elt X0) (cnd P C cond) n cap it [] acc H acc.reverse H:=λ_ q=>q
theorem cpIn{v:V}{H₁ H₂:Hp}{u:V}{as as':As}(e:Gi (zJ (Gi n 1) v++cap).length (n+cap.length)=G6)
  (hc:evS P C cond (zJ (Gi n 1) v++cap) H as λx H' as=>trS x H' as λt _=>t=G6/\H'=H₁)
  (he:evS P C elt (zJ (Gi n 1) v++cap) H₁ as' λx H' _=>x=u/\H'=H₂) (s:it.stands H₂=G6)
  (k:ZA (ev P C elt X0) (cnd P C cond) n cap it vs (u::acc) H₂ us H'):ZA (ev P C elt X0) (cnd P C cond) n cap it (v::vs) acc H us H':=λQ q=>
 gd_iff.mpr ⟨e,jf P C cond hc λx H' as h=>ZD h λt _ h=>by
  obtain⟨rfl,rfl⟩:=h;exact jf P C elt he λx H' _ h=>by
   obtain⟨rfl,rfl⟩:=h;exact gd_iff.mpr ⟨s,k Q q⟩⟩
theorem cpOut{v:V}{H₁:Hp}{as:As}(e:Gi (zJ (Gi n 1) v++cap).length (n+cap.length)=G6)
  (hc:evS P C cond (zJ (Gi n 1) v++cap) H as λx H' as=>trS x H' as λt _=>t=G7/\H'=H₁) (s:it.stands H₁=G6)
  (k:ZA (ev P C elt X0) (cnd P C cond) n cap it vs acc H₁ us H'):ZA (ev P C elt X0) (cnd P C cond) n cap it (v::vs) acc H us H':=λQ q=>
 gd_iff.mpr ⟨e,jf P C cond hc λx H' as h=>ZD h λt _ h=>by
  obtain⟨rfl,rfl⟩:=h;exact gd_iff.mpr ⟨s,k Q q⟩⟩
end
theorem objs_eq:∀as:List Nat,Yj (as.map .obj) (as.map .obj)=G6:=by
 intro as
 induction as with
 |nil=>exact rfl
 |cons a r ih=>show(Gi a a && Yj (r.map .obj) (r.map .obj))=G6;rw[Nat.beq_refl,ih];rfl
theorem zl{i:Nat}{as:List Nat}{H:Hp}(h:H[i]?=G3 (.list (as.map .obj))):(It.lst i (as.map .obj)).stands H=G6:=by show(match H[i]? with|some (.list us)=>Yj us (as.map .obj)|_=>G7)=G6;rw[h];exact objs_eq as
theorem zi{i:Nat}{vs:List V}{H:Hp}(h:H[i]?=G3 (.list vs)):yC (.obj i) H=G3 (.lst i vs):=by show(match H[i]? with|some (.list vs)=>G3 (It.lst i vs)|some (.dict es)=>G3 (.keys i es)|_=>Gb)=_;rw[h]
section
namespace G
open Mn
structure Oc where
 low:Nat
 dep:Option (List Nat)
 key:Option (Bool×List Nat)
 ix:Option (List Nat)
structure D where
 name:List Nat
 often:Nat
 oc:Option Oc
 usage:List Nat
 leaf:Option (List Nat×Bool)
 upon:List Nat
 size:Nat
structure SI where
 d:D
 level:Nat
 par:Option Nat
 kl:Nat
 cl:Nat
 oc:Nat
 kids:List Nat
 base:List Nat
 off:Nat
noncomputable def Zn:List Nat:=[103,114,111,117,112]
noncomputable def yk:List Nat:=[108,101,97,100,105,110,103]
noncomputable def zm:List Nat:=[116,114,97,105,108,105,110,103]
noncomputable def ZW:List Nat:=[112,97,99,107,101,100]
noncomputable def yr:List Nat:=[98,105,110,97,114,121]
noncomputable def zo:List Nat:=[100,105,115,112,108,97,121]
noncomputable def parV(p:Option Nat):V:=match p with|some a=>.obj a|none=>.none
noncomputable def picV(l:Option (List Nat×Bool)):V:=match l with|some (t,_)=>.str t|none=>.none
noncomputable def sepB(l:Option (List Nat×Bool)):Bool:=match l with|some (_,s)=>s|none=>G7
def signS(l:Option (List Nat×Bool)):List Nat:=match sepB l with|true=>yk|false=>[]
noncomputable def occV(c:Option Oc)(oc:Nat):V:=match c with|none=>.none|some _=>.obj oc
def zG(s:SI)(oc pr:V)(b:List Nat)(o z:Nat)(sh:V):O:=.inst 148 [(23,.int (.ofNat s.level)),(22,.str s.d.name),(21,picV s.d.leaf),(20,.str s.d.usage),(19,.str (signS s.d.leaf)),(18,.bool (sepB s.d.leaf)),(17,oc),(16,.str s.d.upon),(15,.none),(14,.bool G7),(13,.bool G7),(12,.obj s.cl),(11,.obj s.kl),(10,pr),(9,.none),(8,.str b),(7,.int (.ofNat o)),(6,.int (.ofNat z)),(5,sh)]
def zc(s:SI)(b:List Nat)(o z:Nat)(sh:V):O:=zG s (occV s.d.oc s.oc) (parV s.par) b o z sh
noncomputable def depV(o:Option (List Nat)):V:=match o with|none=>.none|some n=>.tup [.str [114,101,102],.str n,.tup [],.tup [],.none]
noncomputable def keyV(o:Option (Bool×List Nat)):V:=match o with|none=>.tup []|some (b,n)=>.tup [.tup [.bool b,.str n]]
noncomputable def ixV(o:Option (List Nat)):V:=match o with|none=>.tup []|some n=>.tup [.str n]
def occO(c:Oc)(n:Nat):O:=.inst 101 [(4,.int (.ofNat c.low)),(3,.int (.ofNat n)),(2,depV c.dep),(1,keyV c.key),(0,ixV c.ix)]
theorem occ_no{c:Option Oc}{oc:Nat}(h:c=Gb):occV c oc= .none:=by rw[h];rfl
theorem occ_ob{c:Option Oc}{x:Oc}{oc:Nat}(h:c=G3 x):occV c oc= .obj oc:=by rw[h];rfl
structure Side (s:SI) (H:Hp):Prop where
 kids:H[s.kl]?=G3 (.list (s.kids.map .obj))
 occ:s.d.oc=Gb/\s.d.often=1∨∃c,s.d.oc=G3 c/\H[s.oc]?=G3 (occO c s.d.often)
abbrev St:=Nat->Option SI
def Inv(T:St)(H:Hp):Prop:=∀(a:Nat) (s:SI),T a=G3 s->(∃b o z sh,H[a]?=G3 (zc s b o z sh))/\Side s H
def SzOk(T:St)(H:Hp)(a:Nat):Prop:=∃s b o p fs c,T a=G3 s/\H[a]?=G3 (zc s b o s.d.size (.obj p))/\H[p]?=G3 (.inst 528 fs)/\getF 6 fs=G3 (.int (.ofNat s.d.size))/\getF 31 fs=G3 (.str c)/\eqS c Zn=s.d.leaf.isNone
def OfOk(T:St)(H:Hp)(a:Nat):Prop:=∃s z sh,T a=G3 s/\H[a]?=G3 (zc s s.base s.off z sh)
structure Le (T:St) (H H':Hp):Prop where
 old:∀(i:Nat) (o:O),H[i]?=G3 o->T i=Gb->H'[i]?=G3 o
 sz:∀a,SzOk T H a->SzOk T H' a
 of:∀a,OfOk T H a->OfOk T H' a
 inv:Inv T H->Inv T H'
theorem Le.refl(T:St)(H:Hp):Le T H H:=⟨λ_ _ h _=>h,λ_ h=>h,λ_ h=>h,λh=>h⟩
theorem Le.trans{T:St}{H₁ H₂ U5:Hp}(a:Le T H₁ H₂)(b:Le T H₂ U5):Le T H₁ U5:=⟨λi o h n=>b.old i o (a.old i o h n) n,λ_ h=>b.sz _ (a.sz _ h),λ_ h=>b.of _ (a.of _ h),λh=>b.inv (a.inv h)⟩
theorem Side.ex{s:SI}{H H':Hp}(h:Side s H)(e:Ex H H'):Side s H':=⟨e _ _ h.kids,h.occ.elim .inl λh=>h.elim λc h=>.inr ⟨c,h.1,e _ _ h.2⟩⟩
theorem Le.ex{T:St}{H H':Hp}(e:Ex H H'):Le T H H':=⟨λi o h _=>e i o h,λ_ ⟨s,b,o,p,fs,c,h1,h2,h3,h4⟩=>⟨s,b,o,p,fs,c,h1,e _ _ h2,e _ _ h3,h4⟩,λ_ ⟨s,z,sh,h1,h2⟩=>⟨s,z,sh,h1,e _ _ h2⟩,
 λh a s t=>⟨(h a s t).1.elim λb h=>h.elim λo h=>h.elim λz h=>h.elim λsh h=>⟨b,o,z,sh,e _ _ h⟩,(h a s t).2.ex e⟩⟩
theorem Le.app{T:St}{H:Hp}(N:Hp):Le T H (H++N):=Le.ex (Ex.app N)
end G
end
section
namespace G
open Mn
section
variable {ns:List Int} {H:Hp} {a:Nat} {s:SI} {b:List Nat} {o z:Nat} {sh:V}
theorem YM{H:Hp}(h:H[a]?=G3 (zc s b o z sh))(e:s.d.oc=Gb):H[a]?=G3 (zG s .none (parV s.par) b o z sh):=by rw[h,←occ_no (oc:=s.oc) e];rfl
theorem yJ{H:Hp}{c:Oc}(h:H[a]?=G3 (zc s b o z sh))(e:s.d.oc=G3 c):H[a]?=G3 (zG s (.obj s.oc) (parV s.par) b o z sh):=by rw[h,←occ_ob (oc:=s.oc) e];rfl
theorem Ja(h:H[a]?=G3 (zc s b o z sh))(k:Side s H):Cb ns 1 133 [.obj a] H (.int (.ofNat s.d.often)) H:=by
 rcases k.occ with⟨e,e1⟩|⟨c,e,e1⟩
 ·exact zW (.o (zG s .none (parV s.par) b o z sh) .nil) λm _=>ok (I (YM h e) (I (congrArg (λn=>V.int (.ofNat n)) e1.symm) (rfl:H=H))) (by kernel_rfl)
 ·have h:=yJ h e;exact zW (.o (zG s (.obj s.oc) (parV s.par) b o z sh) (.o (zG s (.obj s.oc) (parV s.par) b o z sh) (.o (occO c s.d.often) .nil))) λm _=>ok (I h (I h (I e1 (fin (.int (.ofNat s.d.often)) H)))) (by kernel_rfl)
theorem Zg(h:H[a]?=G3 (zc s b o z sh))(k:Side s H)(n1:D0 z 1000000000=G6)(n2:D0 s.d.often 1000000000=G6):Cb ns 2 622 [.obj a] H (.int (.ofNat (z*s.d.often))) H:=
 zW (.o (zc s b o z sh) (.o (zc s b o z sh) (.c (.int (.ofNat s.d.often)) H (.g .nil)))) λm hm=>
  ok (I h (I h (I ((Ja h k).at hm) (I (decide_eq_true (Ic (G5 n1) (G5 n2))) (fin (.int (.ofNat (z*s.d.often))) H))))) (by kernel_rfl)
end
end G
end
section
namespace G
open Mn
noncomputable def subF:S->List S
 |.seq a b=>subF a++subF b
 |.ifs _ a b=>subF a++subF b
 |.whl _ b=>b::subF b
 |.for_ _ _ b=>b::subF b
 |.forT _ _ b=>b::subF b
 |_=>[]
def bd(f:Fn)(i:Nat):S:=match (subF f.body)[i]? with|some s=>s|none=>.bad
noncomputable def nb(as:List Nat):Bool:=match as with|[]=>G7|_::_=>G6
def Kn(T:St)(as:List Nat):Prop:=∀k,k∈as->∃s,T k=G3 s/\Gi s.level 66=G7
section
variable (ns:List Int) {T:St} {H:Hp}
theorem jj{n k:Nat}(h:Gi n k=G7):eqI (.ofNat n) (.ofNat k)=G7:=decide_eq_false λe=>by rw[Int.ofNat.inj e,Nat.beq_refl] at h;cases h
theorem Ko{C:Orc}{it:It}(iv:Inv T H)(st:it.stands H=G6):∀(as:List Nat) (acc:List V),Kn T as->
  ZA (ev (P ns) C (.l 0) X0) (cnd (P ns) C (.cmp .ne (.a (.l 0) 23) (.g 0 (.int 66)))) 1 [] it (as.map .obj) acc H (acc.reverse++as.map .obj) H:=by
 intro as
 induction as with
 |nil=>
  intro acc y2;exact by rw[show acc.reverse++([]:List Nat).map V.obj=acc.reverse from D5 _];exact kj
 |cons k r ih=>intro acc h;refine za (h k (.head _)) λs t l=>?_;obtain⟨⟨b,o,z,sh,h1⟩,_⟩:=iv k s t;have ih:=ih (.obj k::acc) λq hq=>h q (.tail _ hq);rw[show acc.reverse++(k::r).map V.obj=(V.obj k::acc).reverse++r.map V.obj by rw[Dq,Gw];rfl];refine cpIn (H₁:=H) (as:=.o (zc s b o z sh) (.b G6 .nil)) (as':=.nil) rfl (ok (I h1 (I (congrArg (λq=>G3 (!q)) (jj l):(G3 (!eqI (.ofNat s.level) (.ofNat 66)))=G3 G6) (I (rfl:G6=G6) (rfl:H=H)))) (by kernel_rfl)) (ok (I (rfl:V.obj k=V.obj k) (rfl:H=H)) (by kernel_rfl)) st ih
variable {ns}
theorem XA{a:Nat}{s:SI}(iv:Inv T H)(t:T a=G3 s)(kn:Kn T s.kids)(n:Gj (s.kids.map V.obj).length 1000=G6):Cb ns 1 228 [.obj a] H (.obj H.length) (H++[.list (s.kids.map .obj)]):=by
 obtain⟨⟨b,o,z,sh,h1⟩,h2⟩:=iv a s t;exact zW (.o (zc s b o z sh) (.it (.lst s.kl (s.kids.map .obj)) (.m (s.kids.map .obj) H (.g .nil)))) λm hm=>
  ok (I h1 (I (zi h2.kids) (I (Ko ns (C:=zb (P ns) 60 m) iv (zl h2.kids) s.kids [] kn) (I n (fin (.obj H.length) (H++[.list (s.kids.map .obj)])))))) (by kernel_rfl)
theorem Kt{i j:Nat}{as:List Nat}(h:H[i]?=G3 (.list (as.map .obj)))(h2:H[j]?=G3 (.list [])):yg .ne (.obj i) (.obj j) H=G3 (nb as):=by
 show((match H[i]? with|some (.list vs)=>(match H[j]? with|some (.list us)=>(match Gi vs.length us.length with|true=>eqFs vs us|false=>G3 G7)|_=>Gb)|_=>Gb).map (!·))=_;rw[h,h2];rcases as with _|⟨a,r⟩<;>rfl
theorem ne_new(H:Hp)(as:List Nat):yg .ne (.obj H.length) (.obj (H++[O.list (as.map .obj)]).length) (H++[O.list (as.map .obj)]++[O.list []])=G3 (nb as):=Kt (zd ze) ze
theorem ZP{a:Nat}{s:SI}(iv:Inv T H)(t:T a=G3 s)(kn:Kn T s.kids)(n:Gj (s.kids.map V.obj).length 1000=G6):Cb ns 1 223 [.obj a] H (.bool (nb s.kids)) (H++[.list (s.kids.map .obj)]++[.list []]):=by
 obtain⟨⟨b,o,z,sh,h1⟩,h2⟩:=iv a s t;exact zW (.o (zc s b o z sh) (.it (.lst s.kl (s.kids.map .obj)) (.m (s.kids.map .obj) H (.g (.b (nb s.kids) .nil))))) λm hm=>
  ok (I h1 (I (zi h2.kids) (I (Ko ns (C:=zb (P ns) 60 m) iv (zl h2.kids) s.kids [] kn) (I n (I (ne_new H s.kids) (fin (.bool (nb s.kids)) (H++[.list (s.kids.map .obj)]++[.list []]))))))) (by kernel_rfl)
end
end G
end
section
namespace G
open Mn
noncomputable def yj(T:St):List Nat->Prop
 |[]=>True
 |p::r=>(∃s,T p=G3 s/\s.par=r.head?/\sepB s.d.leaf=G7)/\yj T r
theorem zQ{b:Bm}{i:Nat}{vs:List V}{H:Hp}(h:H[i]?=G3 (.list vs))(e:∀u H,jn b u H=isLB u H:=by intros;rfl):jn b (.obj i) H=G6:=by rw[e];show(match H[i]? with|some (.list _)=>G6|_=>G7)=G6;rw[h]
theorem Xn(as:List Nat)(a:Nat):as.map V.obj++[V.obj a]=(as++[a]).map V.obj:=by rw[GB];rfl
theorem set_snoc(H:Hp)(as:List Nat)(a:Nat):(H++[O.list (as.map .obj)]).set H.length (.list (as.map V.obj++[V.obj a]))=H++[O.list ((as++[a]).map .obj)]:=by rw[Xn];exact Yk
theorem Zc{as:List Nat}{n:Nat}(h:as.length < n):D0 (as.map V.obj).length n=G6:=by rw[Gs];exact Gk h
section
variable (ns:List Int) {T:St} {H:Hp}
theorem ar_loop{C:Orc}(iv:Inv T H)(a:Nat):∀(anc done:List Nat) (n:Nat),yj T anc->done.length+anc.length < 100->
  WhR (P ns) C 60 (.cmp .isnot (.l 2) (.c .none)) (bd f206 0) (n+anc.length+1) [.obj a,.obj H.length,parV anc.head?] (H++[.list (done.map .obj)]) .next [.obj a,.obj H.length,.none] (H++[.list ((done++anc).map .obj)]):=by
 intro anc
 induction anc with
 |nil=>intro done n y3 y4;rw[D5];exact whEnd (as:=.nil) (ok (I (rfl:G7=G7) (rfl:H++[O.list (done.map .obj)]=H++[O.list (done.map .obj)])) (by kernel_rfl))
 |cons p r ih=>
  intro done n ch l;obtain⟨⟨s,t,e,_⟩,ch⟩:=ch;obtain⟨⟨b,o,z,sh,h1⟩,_⟩:=iv p s t;have l':(done++[p]).length+r.length < 100:=by rw[Gr];simp only[GO,D3] at l ⊢;exact om84 l
  have ih:=ih (done++[p]) n ch l';rw[show done++p::r=done++[p]++r by rw[Gw];rfl];refine whTurn (H₁:=H++[O.list (done.map .obj)]) (as:=.nil) (as':=.g (.o (.list (done.map .obj)) (.g (.h (H++[.list ((done++[p]).map .obj)]) (.o (zc s b o z sh) .nil)))))
   (ok (I (rfl:G6=G6) (rfl:H++[O.list (done.map .obj)]=H++[O.list (done.map .obj)])) (by kernel_rfl))
   (ok (I (zQ (b:=.append) (ze (H:=H) (o:=.list (done.map .obj)))) (I (ze (H:=H) (o:=.list (done.map .obj))) (I (Zc (as:=done) (n:=1000) (om85 l)) (I (set_snoc H done p) (I (zd (N:=[.list ((done++[p]).map .obj)]) h1)
    (I (rfl:Fl.next=Fl.next) (I (congrArg (λx=>[V.obj a,V.obj H.length,parV x]) e) (rfl:H++[O.list ((done++[p]).map .obj)]=H++[O.list ((done++[p]).map .obj)])))))))) (by kernel_rfl)) ih
theorem ZQ{ns}{a:Nat}{s:SI}{anc:List Nat}(iv:Inv T H)(t:T a=G3 s)(e:s.par=anc.head?)(ch:yj T anc)(l:anc.length < 50):Cb ns 1 206 [.obj a] H (.obj H.length) (H++[.list (anc.map .obj)]):=by
 obtain⟨⟨b,o,z,sh,h1⟩,h2⟩:=iv a s t;have w:∀C,WhR (P ns) C 60 (.cmp .isnot (.l 2) (.c .none)) (bd f206 0) 60 [.obj a,.obj H.length,parV s.par] (H++[.list []]) .next [.obj a,.obj H.length,.none] (H++[.list (anc.map .obj)]):=λC=>by rw[e,show(60:Nat)=(59 - anc.length)+anc.length+1 by exact om87 l];exact ar_loop ns iv a anc [] _ ch (by simp only[D3];exact om88 l)
 exact zW (.o (zc s b o z sh) (.l .next [.obj a,.obj H.length,.none] (H++[.list (anc.map .obj)]) .nil)) λm hm=>
  ok (I (zd (N:=[.list []]) h1) (I (w (zb (P ns) 60 m)) (fin (.obj H.length) (H++[.list (anc.map .obj)])))) (by kernel_rfl)
end
end G
end
section
namespace G
open Mn
noncomputable def Eff(T:St):List Nat->List Nat->Prop
 |[],e=>e=[]
 |p::r,e=>∃s,T p=G3 s/\(s.d.usage=[]/\Eff T r e∨eqS s.d.usage []=G7/\e=s.d.usage)
def disp(e:List Nat):List Nat:=match e with|[]=>zo|_=>e
section
variable {ns:List Int} {T:St} {H:Hp}
theorem cb_lam{k:Nat}{s:SI}{b:List Nat}{o z:Nat}{sh:V}(h:H[k]?=G3 (zc s b o z sh)):Cb ns 1 1 [.obj k] H (.str s.d.usage) H:=
 zW (.o (zc s b o z sh) .nil) λ_ _=>ok (I h (fin (.str s.d.usage) H)) (by kernel_rfl)
theorem ne_e{e:List Nat}(h:eqS e []=G7):G3 (!eqS e [])=G3 G6:=by rw[h];rfl
theorem tu_loop{m i:Nat}(hm:Dp ns 1 m)(iv:Inv T H):∀(as vs:List Nat) (e:List Nat) (x:V) (a:Nat),(It.lst i (vs.map .obj)).stands H=G6->Eff T as e->
  ∃f L',ForR (P ns) (zb (P ns) 60 m) 60 (bd f235 0) [2] G6 (.lst i (vs.map .obj)) (as.map .obj) [.obj a,.fn 1,x] H f L' H/\(f= .next/\e=[]∨f= .ret (.str e)/\eqS e []=G7):=by
 intro as
 induction as with
 |nil=>intro vs e x a st h;exact⟨_,_,yq,.inl ⟨rfl,h⟩⟩
 |cons p r ih=>
  intro vs e x a st h;refine za (h) ?_;clear h;intro s t h;obtain⟨⟨b,o,z,sh,h1⟩,_⟩:=iv p s t;have c:=(cb_lam (ns:=ns) h1).at hm;rcases h with⟨u,h⟩|⟨u,rfl⟩
  ·refine zf (ih vs e (.obj p) a st h) λf L' k q=>?_;rw[u] at c;exact⟨f,L',zX (as:=.c (.str []) H .nil) rfl (ok (I c (I (rfl:Fl.next=Fl.next) (I (rfl:[V.obj a,.fn 1,.obj p]=[.obj a,.fn 1,.obj p]) (rfl:H=H)))) (by kernel_rfl)) st k,q⟩
  ·exact⟨.ret (.str s.d.usage),[.obj a,.fn 1,.obj p],jQ (as:=.c (.str s.d.usage) H (.b G6 (.c (.str s.d.usage) H .nil))) rfl (ok (I c (I (ne_e u) (I c (I (rfl:Fl.ret (.str s.d.usage)= .ret (.str s.d.usage)) (I (rfl:[V.obj a,.fn 1,.obj p]=[.obj a,.fn 1,.obj p]) (rfl:H=H)))))) (by kernel_rfl)),.inr ⟨rfl,u⟩⟩
noncomputable def upH(H:Hp)(a:Nat)(anc:List Nat):Hp:=H++[.list [.obj a]]++[.list (anc.map .obj)]++[.list ((a::anc).map .obj)]
theorem upEx(H:Hp)(a:Nat)(anc:List Nat):Ex H (upH H a anc):=((Ex.app _).trans (Ex.app _)).trans (Ex.app _)
theorem ZU(H:Hp)(a:Nat)(anc:List Nat):(upH H a anc)[(H++[O.list [V.obj a]]++[O.list (anc.map .obj)]).length]?=G3 (.list ((a::anc).map .obj)):=ze
theorem cb_told{a:Nat}{s:SI}{anc:List Nat}{e:List Nat}(iv:Inv T H)(t:T a=G3 s)(pe:s.par=anc.head?)(ch:yj T anc)(l:anc.length < 50)(h:Eff T (a::anc) e):Cb ns 2 235 [.obj a,.fn 1] H (.str e) (upH H a anc):=by
 have ex1:Ex H (H++[O.list [V.obj a]]):=Ex.app _;have c:=ZQ (ns:=ns) ((Le.ex ex1).inv iv) t pe ch l;have iv':=(Le.ex (upEx H a anc)).inv iv;have g:∀{m},Dp ns 1 m->∃as,fnS (P ns) 60 (zb (P ns) 60 m) 235 [.obj a,.fn 1] H as (.str e) (upH H a anc):=λ{m} hm=>by
  refine zf (tu_loop (i:=(H++[O.list [V.obj a]]++[O.list (anc.map .obj)]).length) hm iv' (a::anc) (a::anc) e .bad a (zl (ZU H a anc)) h) λf L' k q=>?_;have gl:Gj ([V.obj a].length+(anc.map V.obj).length) 1000=G6:=by rw[Gs];exact Gk (show 1+anc.length<=1000 by exact om86 l)
  have l1:(H++[O.list [V.obj a]]++[O.list (anc.map .obj)])[H.length]?=G3 (.list [V.obj a]):=zd ze;rcases q with⟨rfl,rfl⟩|⟨rfl,q⟩
  ·exact⟨.c (.obj (H++[O.list [V.obj a]]).length) (H++[O.list [V.obj a]]++[O.list (anc.map .obj)]) (.o (.list [.obj a]) (.o (.list (anc.map .obj)) (.g (.it (.lst (H++[O.list [V.obj a]]++[O.list (anc.map .obj)]).length ((a::anc).map .obj)) (.l .next L' (upH H a anc) .nil))))),
    ok (I (c.at hm) (I l1 (I (ze (H:=H++[O.list [V.obj a]]) (o:=O.list (anc.map .obj))) (I gl (I (zi (ZU H a anc)) (I k (fin (.str []) (upH H a anc)))))))) (by kernel_rfl)⟩
  ·exact⟨.c (.obj (H++[O.list [V.obj a]]).length) (H++[O.list [V.obj a]]++[O.list (anc.map .obj)]) (.o (.list [.obj a]) (.o (.list (anc.map .obj)) (.g (.it (.lst (H++[O.list [V.obj a]]++[O.list (anc.map .obj)]).length ((a::anc).map .obj)) (.l (.ret (.str e)) L' (upH H a anc) .nil))))),
    ok (I (c.at hm) (I l1 (I (ze (H:=H++[O.list [V.obj a]]) (o:=O.list (anc.map .obj))) (I gl (I (zi (ZU H a anc)) (I k (fin (.str e) (upH H a anc)))))))) (by kernel_rfl)⟩
 exact cb_of g
end
end G
end
section
namespace G
open Mn
theorem uc:∀x:List Nat,eqS x x=G6:=by
 intro x
 induction x with
 |nil=>exact rfl
 |cons a r ih=>show(match Gi a a with|true=>eqS r r|false=>G7)=G6;rw[Nat.beq_refl];exact ih
section
variable {ns:List Int} {T:St} {H:Hp}
theorem yR{a:Nat}{s:SI}{anc:List Nat}{e:List Nat}(iv:Inv T H)(t:T a=G3 s)(pe:s.par=anc.head?)(ch:yj T anc)(l:anc.length < 50)(h:Eff T (a::anc) e):Cb ns 3 242 [.obj a] H (.str (disp e)) (upH H a anc):=by
 have c:=cb_told (ns:=ns) iv t pe ch l h;rcases e with _|⟨x,r⟩
 ·exact zW (.c (.str []) (upH H a anc) .nil) λ_ hm=>ok (I (c.at hm) (fin (.str zo) (upH H a anc))) (by kernel_rfl)
 ·exact zW (.c (.str (x::r)) (upH H a anc) .nil) λ_ hm=>ok (I (c.at hm) (fin (.str (x::r)) (upH H a anc))) (by kernel_rfl)
theorem cb_sign{a:Nat}{s:SI}{anc:List Nat}{tx:List Nat}(iv:Inv T H)(t:T a=G3 s)(pe:s.par=anc.head?)(ch:yj T anc)(l:anc.length < 50)(h:s.d.leaf=G3 (tx,G6)):Cb ns 2 249 [.obj a] H (.tup [.str yk,.bool G6]) (upH H a anc):=by
 have ex1:Ex H (H++[O.list [V.obj a]]):=Ex.app _;have c:=ZQ (ns:=ns) ((Le.ex ex1).inv iv) t pe ch l;obtain⟨⟨b,o,z,sh,h1⟩,_⟩:=(Le.ex (upEx H a anc)).inv iv a s t;have gl:Gj ([V.obj a].length+(anc.map V.obj).length) 1000=G6:=by rw[Gs];exact Gk (show 1+anc.length<=1000 by exact om86 l)
 have l1:(H++[O.list [V.obj a]]++[O.list (anc.map .obj)])[H.length]?=G3 (.list [V.obj a]):=zd ze;have e1:G3 (!eqS (signS s.d.leaf) [])=G3 G6:=by rw[h];rfl
 have e2:[V.str (signS s.d.leaf),V.bool (sepB s.d.leaf)]=[.str yk,.bool G6]:=by rw[h];rfl
 refine zW (.c (.obj (H++[O.list [V.obj a]]).length) (H++[O.list [V.obj a]]++[O.list (anc.map .obj)]) (.o (.list [.obj a]) (.o (.list (anc.map .obj)) (.g (.it (.lst (H++[O.list [V.obj a]]++[O.list (anc.map .obj)]).length ((a::anc).map .obj)) (.l (.ret (.tup [.str yk,.bool G6])) [.obj a,.obj a] (upH H a anc) .nil))))))
  λm hm=>ok (I (c.at hm) (I l1 (I (ze (H:=H++[O.list [V.obj a]]) (o:=O.list (anc.map .obj))) (I gl (I (zi (ZU H a anc)) (I (?_:ForR (P ns) (zb (P ns) 60 m) 60 (bd f249 0) [1] G6 (.lst (H++[O.list [V.obj a]]++[O.list (anc.map .obj)]).length ((a::anc).map .obj)) (V.obj a::anc.map .obj) [.obj a,.bad] (upH H a anc) (.ret (.tup [.str yk,.bool G6])) [.obj a,.obj a] (upH H a anc)) (fin (.tup [.str yk,.bool G6]) (upH H a anc)))))))) (by kernel_rfl)
 exact jQ (as:=.o (zc s b o z sh) (.b G6 (.o (zc s b o z sh) (.o (zc s b o z sh) .nil)))) rfl (ok (I h1 (I e1 (I h1 (I h1 (I (congrArg (λx=>Fl.ret (.tup x)) e2.symm) (I (rfl:[V.obj a,V.obj a]=[.obj a,.obj a]) (rfl:upH H a anc=upH H a anc))))))) (by kernel_rfl))
theorem sg_loop{C:Orc}{it:It}(iv:Inv T H)(a:Nat)(st:it.stands H=G6):∀(as:List Nat) (x:V),yj T as->∃x',Fo (P ns) C 60 (bd f249 0) [1] G6 it (as.map .obj) [.obj a,x] H [.obj a,x'] H:=by
 intro as
 induction as with
 |nil=>intro x _;exact⟨x,.nil⟩
 |cons k r ih=>intro x h;obtain⟨⟨s,t,_,e⟩,h⟩:=h;obtain⟨⟨b,o,z,sh,h1⟩,_⟩:=iv k s t;exact Gf (ih (.obj k) h) λx' w=>⟨x',.cons (as:=.o (zc s b o z sh) <|.b G7 .nil) rfl (ok (I h1 <|I (show G3 (!eqS (match sepB s.d.leaf with|true=>yk|false=>[]) [])=G3 G7 by rw[e];rfl) <|fin3 .next [.obj a,.obj k] H) (by kernel_rfl)) st w⟩
theorem cb_sign0{a:Nat}{s:SI}{anc:List Nat}(iv:Inv T H)(t:T a=G3 s)(pe:s.par=anc.head?)(ch:yj T anc)(l:anc.length < 50)(h:sepB s.d.leaf=G7):Cb ns 2 249 [.obj a] H (.tup [.str zm,.bool G7]) (upH H a anc):=by
 have ex1:Ex H (H++[O.list [V.obj a]]):=Ex.app _;have c:=ZQ (ns:=ns) ((Le.ex ex1).inv iv) t pe ch l;have iv2:=(Le.ex (upEx H a anc)).inv iv;have gl:Gj ([V.obj a].length+(anc.map V.obj).length) 1000=G6:=by rw[Gs];exact Gk (show 1+anc.length<=1000 by exact om86 l)
 have l1:(H++[O.list [V.obj a]]++[O.list (anc.map .obj)])[H.length]?=G3 (.list [V.obj a]):=zd ze;have g:∀{m},Dp ns 1 m->∃as,fnS (P ns) 60 (zb (P ns) 60 m) 249 [.obj a] H as (.tup [.str zm,.bool G7]) (upH H a anc):=λ{m} hm=>
  Gf (sg_loop (ns:=ns) (C:=zb (P ns) 60 m) iv2 a (zl (ZU H a anc)) (a::anc) .bad ⟨⟨s,t,pe,h⟩,ch⟩) λx' w=>
   ⟨.c (.obj (H++[O.list [V.obj a]]).length) (H++[O.list [V.obj a]]++[O.list (anc.map .obj)]) (.o (.list [.obj a]) (.o (.list (anc.map .obj)) (.g (.it (.lst (H++[O.list [V.obj a]]++[O.list (anc.map .obj)]).length ((a::anc).map .obj)) (.l .next [.obj a,x'] (upH H a anc) .nil))))),
    ok (I (c.at hm) (I l1 (I (ze (H:=H++[O.list [V.obj a]]) (o:=O.list (anc.map .obj))) (I gl (I (zi (ZU H a anc)) (I w.R (fin (.tup [.str zm,.bool G7]) (upH H a anc)))))))) (by kernel_rfl)⟩
 exact cb_of g
def Us(T:St)(nm:List Nat)(us:List Nat):Prop:=∀u,u∈us->∃s,T u=G3 s/\s.d.upon=nm/\eqS s.d.name nm=G7
theorem rd_loop{C:Orc}{k g ap:Nat}{sk sg:SI}{it:It}(iv:Inv T H)(st:it.stands H=G6)(tk:T k=G3 sk)(tg:T g=G3 sg)(eg:sg.d.name=sk.d.upon)(og:sg.d.oc=Gb)(pre:List V):∀(us:List Nat) (x:V),Us T sk.d.upon us->ForR (P ns) C 60 (bd f629 0) [2] G6 it (us.map V.obj++.obj g::pre) [.obj k,.obj ap,x] H (.ret (.obj g)) [.obj k,.obj ap,.obj g] H:=by
 intro us
 induction us with
 |nil=>
  intro x y2;obtain⟨⟨b,o,z,sh,h1⟩,_⟩:=iv k sk tk;obtain⟨⟨b',o',z',sh',h2⟩,_⟩:=iv g sg tg;exact jQ (as:=.o (zc sg b' o' z' sh') (.o (zc sk b o z sh) (.b G6 (.o (zG sg .none (parV sg.par) b' o' z' sh') .nil)))) rfl
   (ok (I h2 (I h1 (I (show G3 (eqS sg.d.name sk.d.upon)=G3 G6 by rw[eg,uc]) (I (YM h2 og) (fin3 (.ret (.obj g)) [.obj k,.obj ap,.obj g] H))))) (by kernel_rfl))
 |cons u us ih=>
  intro x h;refine yK (h u (.head _)) λsu tu eu nu=>?_;obtain⟨⟨b,o,z,sh,h1⟩,_⟩:=iv k sk tk;obtain⟨⟨b',o',z',sh',h2⟩,_⟩:=iv u su tu;exact zX (as:=.o (zc su b' o' z' sh') (.o (zc sk b o z sh) (.b G7 (.o (zc su b' o' z' sh') (.o (zc sk b o z sh) (.b G7 .nil)))))) rfl
   (ok (I h2 (I h1 (I (congrArg G3 nu) (I h2 (I h1 (I (show G3 (!eqS su.d.upon sk.d.upon)=G3 G7 by rw[eu,uc];rfl) (fin3 .next [.obj k,.obj ap,.obj u] H))))))) (by kernel_rfl)) st
   (ih (.obj u) λq hq=>h q (.tail _ hq))
theorem yY{k g ap:Nat}{sk sg:SI}{us pre:List Nat}(iv:Inv T H)(tk:T k=G3 sk)(tg:T g=G3 sg)(eg:sg.d.name=sk.d.upon)(og:sg.d.oc=Gb)(hu:Us T sk.d.upon us)
  (h:H[ap]?=G3 (.list ((us++g::pre).reverse.map V.obj))):Cb ns 1 629 [.obj k,.obj ap] H (.obj g) (H++[.list ((us++g::pre).map V.obj)]):=by
 have e:((us++g::pre).reverse.map V.obj).reverse=(us++g::pre).map V.obj:=by rw[FQ,FF]
 have st:=zl (H:=H++[O.list ((us++g::pre).map V.obj)]) ze;have e2:(us++g::pre).map V.obj=us.map V.obj++.obj g::pre.map V.obj:=by rw[GB];rfl
 have lp:∀C,ForR (P ns) C 60 (bd f629 0) [2] G6 (.lst H.length ((us++g::pre).map V.obj)) ((us++g::pre).map V.obj) [.obj k,.obj ap,.bad] (H++[.list ((us++g::pre).map V.obj)]) (.ret (.obj g)) [.obj k,.obj ap,.obj g] (H++[.list ((us++g::pre).map V.obj)]):=λC=>by have q:=rd_loop (ns:=ns) (C:=C) (ap:=ap) ((Le.app _).inv iv) st tk tg eg og (pre.map V.obj) us .bad hu;rw[←e2] at q;exact q
 refine zW (.o (.list ((us++g::pre).reverse.map V.obj)) (.it (.lst H.length ((us++g::pre).map V.obj)) (.l (.ret (.obj g)) [.obj k,.obj ap,.obj g] (H++[.list ((us++g::pre).map V.obj)]) .nil))) λm _=>?_;have it:yC (.obj H.length) (H++[O.list ((us++g::pre).reverse.map V.obj).reverse])=G3 (.lst H.length ((us++g::pre).map V.obj)):=by rw[e];exact zi ze
 have lp':ForR (P ns) (zb (P ns) 60 m) 60 (bd f629 0) [2] G6 (.lst H.length ((us++g::pre).map V.obj)) ((us++g::pre).map V.obj) [.obj k,.obj ap,.bad] (H++[.list ((us++g::pre).reverse.map V.obj).reverse]) (.ret (.obj g)) [.obj k,.obj ap,.obj g] (H++[.list ((us++g::pre).map V.obj)]):=by rw[e];exact lp _
 exact ok (I h (I it (I lp' (fin (.obj g) (H++[.list ((us++g::pre).map V.obj)]))))) (by kernel_rfl)
end
end G
end
section
namespace G
open Mn
noncomputable def yS(g:O->Hp)(c:Nat)(fs:List (Nat×V)):Nat->Nat->As->As
 |_,0,r=>r
 |k,n+1,r=>.o (.inst c (fs.take k)) (.h (g (.inst c (fs.take (k+1)))) (yS g c fs (k+1) n r))
noncomputable def obSet(g:O->Hp)(i c:Nat)(fs:List (Nat×V))(R:Prop):Nat->Nat->Prop
 |_,0=>R
 |k,n+1=>(g (.inst c (fs.take k)))[i]?=G3 (.inst c (fs.take k))/\(g (.inst c (fs.take k))).set i (.inst c (fs.take (k+1)))=g (.inst c (fs.take (k+1)))/\obSet g i c fs R (k+1) n
theorem yd{g:O->Hp}{i:Nat}(c:Nat)(fs:List (Nat×V)){R:Prop}(h1:∀x,(g x)[i]?=G3 x)(h2:∀x y,(g x).set i y=g y)(h:R):∀n k,obSet g i c fs R k n:=by
 intro n
 induction n with
 |zero=>intro y1;exact h
 |succ n ih=>intro k;exact⟨h1 _,h2 _ _,ih (k+1)⟩
noncomputable def g0(H:Hp)(x:O):Hp:=H++[x]
noncomputable def g1(H:Hp)(l:O)(x:O):Hp:=H++[x]++[l]
noncomputable def g2(H:Hp)(l m:O)(x:O):Hp:=H++[x]++[l]++[m]
theorem Yz{H N:Hp}{i:Nat}{x:O}(h:i < H.length):(H++N).set i x=H.set i x++N:=List.set_append_left _ _ h
theorem len1(H:Hp)(x:O):(H++[x]).length=H.length+1:=by rw[Gr];rfl
theorem jP(H:Hp)(x:O):(g0 H x)[H.length]?=G3 x:=ze
theorem YO(H:Hp)(x y:O):(g0 H x).set H.length y=g0 H y:=Yk
theorem g1_at(H:Hp)(l x:O):(g1 H l x)[H.length]?=G3 x:=zd ze
theorem g1_set(H:Hp)(l x y:O):(g1 H l x).set H.length y=g1 H l y:=by show(H++[x]++[l]).set _ _=H++[y]++[l];rw[Yz (Xo (ze (o:=x))),Yk]
theorem g2_at(H:Hp)(l m x:O):(g2 H l m x)[H.length]?=G3 x:=zd (zd ze)
theorem g2_set(H:Hp)(l m x y:O):(g2 H l m x).set H.length y=g2 H l m y:=by show(g1 H l x++[m]).set _ _=g1 H l y++[m];rw[Yz (Xo (g1_at H l x)),g1_set]
section
variable {ns:List Int}
theorem uy(H:Hp)(lo n:Nat):Cb ns 2 101 [.int (.ofNat lo),.int (.ofNat n)] H (.obj H.length) (H++[occO ⟨lo,Gb,Gb,Gb⟩ n]):=
 yP rfl rfl (zW (yS (g0 H) 101 [(4,.int (.ofNat lo)),(3,.int (.ofNat n)),(2,.none),(1,.tup []),(0,.tup [])] 0 5 .nil) λ_ _=>
  ok (yd 101 [(4,.int (.ofNat lo)),(3,.int (.ofNat n)),(2,.none),(1,.tup []),(0,.tup [])] (jP H) (YO H) (fin .none (H++[occO ⟨lo,Gb,Gb,Gb⟩ n])) 5 0) (by kernel_rfl))
def occL(c:Oc)(n:Nat):List (Nat×V):=[(4,.int (.ofNat c.low)),(3,.int (.ofNat n)),(2,depV c.dep),(1,keyV c.key),(0,ixV c.ix)]
theorem cb_occ(H:Hp)(n:Nat)(c:Oc):Cb ns 2 101 [.int (.ofNat c.low),.int (.ofNat n),depV c.dep,keyV c.key,ixV c.ix] H (.obj H.length) (H++[occO c n]):=by
 obtain⟨lo,dp,ky,ix⟩:=c;have ob:=λc=>yd 101 (occL c n) (jP H) (YO H) (fin .none (H++[occO c n])) 5 0;rcases dp with _|d<;>rcases ky with _|⟨b,k⟩<;>rcases ix with _|x
 ·exact yP rfl rfl (zW (yS (g0 H) 101 (occL ⟨lo,Gb,Gb,Gb⟩ n) 0 5 .nil) λ_ _=>ok (ob ⟨lo,Gb,Gb,Gb⟩) (by kernel_rfl))
 ·exact yP rfl rfl (zW (yS (g0 H) 101 (occL ⟨lo,Gb,Gb,G3 x⟩ n) 0 5 .nil) λ_ _=>ok (ob ⟨lo,Gb,Gb,G3 x⟩) (by kernel_rfl))
 ·exact yP rfl rfl (zW (yS (g0 H) 101 (occL ⟨lo,Gb,G3 (b,k),Gb⟩ n) 0 5 .nil) λ_ _=>ok (ob ⟨lo,Gb,G3 (b,k),Gb⟩) (by kernel_rfl))
 ·exact yP rfl rfl (zW (yS (g0 H) 101 (occL ⟨lo,Gb,G3 (b,k),G3 x⟩ n) 0 5 .nil) λ_ _=>ok (ob ⟨lo,Gb,G3 (b,k),G3 x⟩) (by kernel_rfl))
 ·exact yP rfl rfl (zW (yS (g0 H) 101 (occL ⟨lo,G3 d,Gb,Gb⟩ n) 0 5 .nil) λ_ _=>ok (ob ⟨lo,G3 d,Gb,Gb⟩) (by kernel_rfl))
 ·exact yP rfl rfl (zW (yS (g0 H) 101 (occL ⟨lo,G3 d,Gb,G3 x⟩ n) 0 5 .nil) λ_ _=>ok (ob ⟨lo,G3 d,Gb,G3 x⟩) (by kernel_rfl))
 ·exact yP rfl rfl (zW (yS (g0 H) 101 (occL ⟨lo,G3 d,G3 (b,k),Gb⟩ n) 0 5 .nil) λ_ _=>ok (ob ⟨lo,G3 d,G3 (b,k),Gb⟩) (by kernel_rfl))
 ·exact yP rfl rfl (zW (yS (g0 H) 101 (occL ⟨lo,G3 d,G3 (b,k),G3 x⟩ n) 0 5 .nil) λ_ _=>ok (ob ⟨lo,G3 d,G3 (b,k),G3 x⟩) (by kernel_rfl))
def grpF(z:Nat):List (Nat×V):=[(31,.str Zn),(6,.int (.ofNat z)),(51,.none),(20,.str zo),(19,.str zm),(18,.bool G7),(14,.bool G7),(13,.bool G7),(30,.int 0),(29,.int 0),(28,.bool G7)]
theorem cb_grp(H:Hp)(z:Nat):Cb ns 3 587 [.int (.ofNat z)] H (.obj H.length) (H++[.inst 528 (grpF z)]):=by
 have c:Cb ns 2 528 [.str Zn,.int (.ofNat z)] H (.obj H.length) (H++[.inst 528 (grpF z)]):=
  yP rfl rfl (zW (yS (g0 H) 528 (grpF z) 0 11 .nil) λ_ _=>ok (yd 528 (grpF z) (jP H) (YO H) (fin .none (H++[.inst 528 (grpF z)])) 11 0) (by kernel_rfl))
 exact zW (.c (.obj H.length) (H++[.inst 528 (grpF z)]) .nil) λ_ hm=>ok (I (c.at hm) (fin (.obj H.length) (H++[.inst 528 (grpF z)]))) (by kernel_rfl)
end
end G
end
section
namespace G
open Mn
def eqO(a:Option V)(b:V):Bool:=match a with|some x=>beqV x b|none=>G7
theorem eqO_eq{a:Option V}{s:V}(h:eqO a s=G6):a=G3 s:=by
 rcases a with _|v
 ·cases h
 ·exact congrArg G3 (uJ h)
noncomputable def picL(cat:List Nat)(dg sc:Nat)(sg:Bool)(sz:Nat):List (Nat×V):=[(31,.str cat),(30,.int (.ofNat dg)),(29,.int (.ofNat sc)),(28,.bool sg),(6,.int (.ofNat sz))]
def picF(l:List (Nat×V))(fs:List (Nat×V)):Bool:=l.all λp=>eqO (getF p.1 fs) p.2
def picB(l:List (Nat×V))(v:V)(H:Hp):Bool:=match v with
 |.obj i=>(match H[i]? with|some (.inst d fs)=>Gi d 285 && picF l fs|_=>G7)
 |_=>G7
noncomputable def zx:List Nat:=[97,108,112,104,97,110,117,109,101,114,105,99]
noncomputable def zO:List Nat:=[110,117,109,101,114,105,99]
def PicOk(t cat:List Nat)(dg sc:Nat)(sg:Bool)(sz:Nat):Prop:=∀(ns:List Int) (n:Nat),yM (P ns) 60 (zb (P ns) 60 (n+5)) f496 496 [.str t] [] (λv H=>picB (picL cat dg sc sg sz) v H=G6) X0=(G6=G6)
def Pic(H:Hp)(p:Nat)(l:List (Nat×V)):Prop:=∃fs,H[p]?=G3 (.inst 285 fs)/\∀q,q∈l->getF q.1 fs=G3 q.2
theorem Pic.ex{H H':Hp}{p:Nat}{l:List (Nat×V)}(h:Pic H p l)(e:Ex H H'):Pic H' p l:=Gf h λfs h=>⟨fs,e _ _ h.1,h.2⟩
theorem getF_sh(n f:Nat):∀fs:List (Nat×V),getF f (fs.map λp=>(p.1,shV n p.2))=(getF f fs).map (shV n):=by
 intro fs
 induction fs with
 |nil=>exact rfl
 |cons hdp r ih=>
  obtain⟨k,v⟩:=hdp;show(match Gi k f with|true=>G3 (shV n v)|false=>getF f (r.map λp=>(p.1,shV n p.2)))=(match Gi k f with|true=>G3 v|false=>getF f r).map (shV n);rcases Gi k f with _|_
  ·exact ih
  ·rfl
set_option tactic.hygienic true in
theorem picB_to{l:List (Nat×V)}{v:V}{H:Hp}(h:picB l v H=G6):∃i fs,v= .obj i/\H[i]?=G3 (.inst 285 fs)/\picF l fs=G6:=by
 rcases v<;>first|exact absurd h G4|skip
 rename_i i;refine(?_:(match H[i]? with|some (.inst d fs)=>Gi d 285 && picF l fs|_=>G7)=G6->_) h;rcases e:H[i]? with _|o
 ·exact λh=>absurd h G4
 ·rcases o with⟨d,fs⟩|_|_|_<;>first|exact λh=>absurd h G4|skip
  exact λh=>⟨i,fs,rfl,by rw[e,GE (GC.mp h).1],(GC.mp h).2⟩
theorem flat_sh{n:Nat}{v:V}(h:Yg v=G6):shV n v=v:=by rcases v<;>first|rfl|exact absurd h G4
theorem pic_sh{H' H:Hp}{v:V}{l:List (Nat×V)}(hl:l.all (λq=>Yg q.2)=G6)(h:picB l v H'=G6):∃p,shV H.length v= .obj p/\Pic (H++H'.map (shO H.length)) p l:=by
 refine zF (picB_to h) λi fs e1 e2 e3=>⟨H.length+i,by rw[e1];rfl,fs.map λp=>(p.1,shV H.length p.2),?_,λq hq=>?_⟩
 ·rw[List.getElem?_append_right (Db _ _),Dx,List.getElem?_map,e2];rfl
 ·rw[getF_sh,eqO_eq (Gz.mp e3 q hq)];exact congrArg G3 (flat_sh (Gz.mp hl q hq))
theorem Y4{t cat:List Nat}{dg sc:Nat}{sg:Bool}{sz:Nat}(h:PicOk t cat dg sc sg sz){ns:List Int}{m:Nat}(hm:Dp ns 6 m)(H:Hp){Gl:Prop}(kG:∀p H',(Call (zb (P ns) 60 m) 496 [.str t] H (.obj p) H')->(Ex H H')->(Pic H' p (picL cat dg sc sg sz))->Gl):Gl:=by refine Gf (GP hm) λn e=>?_;subst e;refine zf (Yo (ZR (P ns) 60 (n+5)) f496 496 [.str t] [] (λv H=>picB (picL cat dg sc sg sz) v H=G6) (Eq.mpr (h ns n) rfl)) λv H' q r=>za (pic_sh (H:=H) rfl q) λp e q=>kG p (H++H'.map (shO H.length)) ⟨λQ X k=>?_⟩ (Ex.app _) q;rw[←e] at k;exact r (λv H'=>Q (shV H.length v) (H++H'.map (shO H.length))) (λ_ _=>False) k
end G
end
section
namespace G
open Mn
noncomputable def bw(n:Nat):Nat:=match Gj n 4 with|true=>2|false=>match Gj n 9 with|true=>4|false=>8
inductive LeafOk:List Nat->List Nat->Bool->Nat->Prop
 |txt (t:List Nat) (z:Nat):PicOk t zx 0 0 G7 z->LeafOk [] t G7 z
 |num (t:List Nat) (dg sc z:Nat):PicOk t zO dg sc G7 z->LeafOk [] t G7 z
 |sgt (t:List Nat) (dg sc z:Nat):PicOk t zO dg sc G6 z->LeafOk [] t G7 z
 |bin (t:List Nat) (dg sc z:Nat) (sg:Bool):PicOk t zO dg sc sg z->1<=dg->dg<=18->LeafOk yr t G7 (bw dg)
def usL:List V:=(yF [100,105,115,112,108,97,121,32,112,97,99,107,101,100,32,98,105,110,97,114,121,32,105,110,100,101,120]).map .str
theorem usIn(u:List Nat)(h:inVs u usL=G3 G6)(H:Hp):yg .notin (.str u) (.obj H.length) (H++[.list usL])=G3 G7:=by show(match (H++[O.list usL])[H.length]? with|some (.list vs)=>inVs u vs|some (.dict es)=>G3 (getD u es).isSome|_=>Gb).map (!·)=_;rw[ze];show(inVs u usL).map (!·)=_;rw[h];rfl
theorem leN{a b:Nat}(H:Hp)(h:a<=b):yg .le (.int (.ofNat a)) (.int (.ofNat b)) H=G3 G6:=congrArg G3 (decide_eq_true (DA.mpr h))
theorem gtN{a b:Nat}(H:Hp)(h:b < a):yg .le (.int (.ofNat a)) (.int (.ofNat b)) H=G3 G7:=congrArg G3 (decide_eq_false λe=>Nat.not_le_of_lt h (DA.mp e))
section
variable {ns:List Int} {H:Hp} {p dg sc z:Nat} {sg:Bool} {cat:List Nat}
theorem m1{cat:List Nat}{dg sc:Nat}{sg:Bool}{z:Nat}:(31,V.str cat)∈picL cat dg sc sg z:=.head _
theorem m2{cat:List Nat}{dg sc:Nat}{sg:Bool}{z:Nat}:(30,V.int (.ofNat dg))∈picL cat dg sc sg z:=.tail _ (.head _)
theorem m3{cat:List Nat}{dg sc:Nat}{sg:Bool}{z:Nat}:(29,V.int (.ofNat sc))∈picL cat dg sc sg z:=.tail _ (.tail _ (.head _))
theorem m4{cat:List Nat}{dg sc:Nat}{sg:Bool}{z:Nat}:(28,V.bool sg)∈picL cat dg sc sg z:=.tail _ (.tail _ (.tail _ (.head _)))
theorem m5{cat:List Nat}{dg sc:Nat}{sg:Bool}{z:Nat}:(6,V.int (.ofNat z))∈picL cat dg sc sg z:=.tail _ (.tail _ (.tail _ (.tail _ (.head _))))
theorem XB(H:Hp)(p:Nat):Cb ns 1 560 [.obj p,.str zo] H .none (H++[.list usL]):=
 zW (.b G7 .nil) λ_ _=>ok (I (usIn zo rfl H) (fin .none (H++[.list usL]))) (by kernel_rfl)
theorem cb_chkB(h:Pic H p (picL zO dg sc sg z)):Cb ns 1 560 [.obj p,.str yr] H .none (H++[.list usL]):=
 Gf h λfs h=>zW (.b G7 (.o (.inst 285 fs) (.w (.str zO) .nil))) λ_ _=>ok (I (usIn yr rfl H) (I (zd (N:=[.list usL]) h.1) (I (h.2 _ m1) (fin .none (H++[.list usL]))))) (by kernel_rfl)
theorem JE(H:Hp)(p:Nat)(u:List Nat):Cb ns 1 567 [.obj p,.str u,.str zm,.bool G7] H .none H:=zW .nil λ_ _=>ok (fin .none H) (by kernel_rfl)
theorem cb_cls(H:Hp)(p:Nat):Cb ns 1 572 [.obj p,.bool G7,.bool G7] H .none H:=zW .nil λ_ _=>ok (fin .none H) (by kernel_rfl)
theorem cb_bw(H:Hp)(h1:1<=dg)(h2:dg<=18):Cb ns 1 539 [.int (.ofNat dg)] H (.int (.ofNat (bw dg))) H:=by
 unfold bw;rcases e:Gj dg 4 with _|_
 ·have l1:4 < dg:=Nat.lt_of_not_le λh=>by rw[Gk h] at e;cases e
  rcases e:Gj dg 9 with _|_
  ·have l2:9 < dg:=Nat.lt_of_not_le λh=>by rw[Gk h] at e;cases e
   exact zW (.b G6 (.b G6 (.b G7 (.b G7 (.b G7 (.b G7 .nil)))))) λ_ _=>ok (I (leN H h1) (I (leN H h2) (I (rfl:G7=G7) (I (gtN H l1) (I (rfl:G7=G7) (I (gtN H l2) (fin (.int 8) H))))))) (by kernel_rfl)
  ·exact zW (.b G6 (.b G6 (.b G7 (.b G7 (.b G7 (.b G6 .nil)))))) λ_ _=>ok (I (leN H h1) (I (leN H h2) (I (rfl:G7=G7) (I (gtN H l1) (I (rfl:G7=G7) (I (leN H (G5 e)) (fin (.int 4) H))))))) (by kernel_rfl)
 ·exact zW (.b G6 (.b G6 (.b G7 (.b G6 .nil)))) λ_ _=>ok (I (leN H h1) (I (leN H h2) (I (rfl:G7=G7) (I (leN H (G5 e)) (fin (.int 2) H))))) (by kernel_rfl)
theorem ux(h:Pic H p (picL cat dg sc sg z)):Cb ns 2 553 [.obj p,.str zo,.bool G7] H (.int (.ofNat z)) H:=
 Gf h λfs h=>zW (.o (.inst 285 fs) (.w (.int (.ofNat z)) .nil)) λ_ _=>ok (I h.1 (I (h.2 _ m5) (fin (.int (.ofNat z)) H))) (by kernel_rfl)
theorem cb_szB(h:Pic H p (picL cat dg sc sg z))(h1:1<=dg)(h2:dg<=18):Cb ns 2 553 [.obj p,.str yr,.bool G7] H (.int (.ofNat (bw dg))) H:=
 Gf h λfs h=>zW (.o (.inst 285 fs) (.w (.int (.ofNat dg)) (.c (.int (.ofNat (bw dg))) H .nil))) λ_ hm=>ok (I h.1 (I (h.2 _ m2) (I ((cb_bw (ns:=ns) H h1 h2).at hm) (fin (.int (.ofNat (bw dg))) H)))) (by kernel_rfl)
noncomputable def shpL(cat u sn:List Nat)(sep:Bool)(p z:Nat):List (Nat×V):=[(31,.str cat),(6,.int (.ofNat z)),(51,.obj p),(20,.str u),(19,.str sn),(18,.bool sep),(14,.bool G7),(13,.bool G7),(30,.int 0),(29,.int 0),(28,.bool G7)]
def ShpAt(H:Hp)(p z:Nat):Prop:=∃fs c,H[p]?=G3 (.inst 528 fs)/\getF 6 fs=G3 (.int (.ofNat z))/\getF 31 fs=G3 (.str c)/\eqS c Zn=G7
theorem cb_mkT{u sn:List Nat}{sep:Bool}{zz:Nat}:Cb ns 2 528 [.str zx,.int (.ofNat zz),.obj p,.str u,.str sn,.bool sep,.bool G7,.bool G7] H (.obj H.length) (H++[.inst 528 (shpL zx u sn sep p zz)]):=
 yP rfl (i:=511) rfl (zW (yS (g0 H) 528 (shpL zx u sn sep p zz) 0 11 .nil) λ_ _=>ok (yd 528 (shpL zx u sn sep p zz) (jP H) (YO H) (fin .none (H++[.inst 528 (shpL zx u sn sep p zz)])) 11 0) (by kernel_rfl))
def shpN(u sn:List Nat)(sep:Bool)(p z dg sc:Nat)(sg:Bool)(k:Nat):O:=.inst 528 (match k with
 |0=>shpL zO u sn sep p z
 |1=>setF 30 (.int (.ofNat dg)) (shpL zO u sn sep p z)
 |2=>setF 29 (.int (.ofNat sc)) (setF 30 (.int (.ofNat dg)) (shpL zO u sn sep p z))
 |_=>setF 28 (.bool sg) (setF 29 (.int (.ofNat sc)) (setF 30 (.int (.ofNat dg)) (shpL zO u sn sep p z))))
theorem uz{u sn:List Nat}{sep:Bool}{zz:Nat}(h:Pic H p (picL zO dg sc sg z)):Cb ns 2 528 [.str zO,.int (.ofNat zz),.obj p,.str u,.str sn,.bool sep,.bool G7,.bool G7] H (.obj H.length) (H++[shpN u sn sep p zz dg sc sg 3]):=by
 refine Gf h λfs h=>?_;have hp:∀k,(H++[shpN u sn sep p zz dg sc sg k])[p]?=G3 (.inst 285 fs):=λk=>zd h.1;have ha:∀k,(H++[shpN u sn sep p zz dg sc sg k])[H.length]?=G3 (shpN u sn sep p zz dg sc sg k):=λk=>ze;have hs:∀k,(H++[shpN u sn sep p zz dg sc sg k]).set H.length (shpN u sn sep p zz dg sc sg (k+1))=H++[shpN u sn sep p zz dg sc sg (k+1)]:=λk=>Yk;exact yP rfl (i:=511) rfl (zW (yS (g0 H) 528 (shpL zO u sn sep p zz) 0 11
  (.o (.inst 285 fs) <|.w (.int (.ofNat dg)) <|.o (shpN u sn sep p zz dg sc sg 0) <|.h (H++[shpN u sn sep p zz dg sc sg 1]) <|
   .o (.inst 285 fs) <|.w (.int (.ofNat sc)) <|.o (shpN u sn sep p zz dg sc sg 1) <|.h (H++[shpN u sn sep p zz dg sc sg 2]) <|
   .o (.inst 285 fs) <|.w (.bool sg) <|.o (shpN u sn sep p zz dg sc sg 2) <|.h (H++[shpN u sn sep p zz dg sc sg 3]) .nil)) λ_ _=>
  ok (yd 528 (shpL zO u sn sep p zz) (jP H) (YO H)
   (I (hp 0) <|I (h.2 _ m2) <|I (ha 0) <|I (hs 0) <|I (hp 1) <|I (h.2 _ m3) <|I (ha 1) <|I (hs 1) <|I (hp 2) <|I (h.2 _ m4) <|I (ha 2) <|I (hs 2) <|fin .none (H++[shpN u sn sep p zz dg sc sg 3])) 11 0) (by kernel_rfl))
theorem Yn{u sn:List Nat}{sep:Bool}{zz:Nat}(h:Pic H p (picL cat dg sc sg z))(hu:Cb ns 1 560 [.obj p,.str u] H .none (H++[.list usL]))(hs:∀H,Pic H p (picL cat dg sc sg z)->Cb ns 1 567 [.obj p,.str u,.str sn,.bool sep] H .none H)
  (hz:∀H,Pic H p (picL cat dg sc sg z)->Cb ns 2 553 [.obj p,.str u,.bool sep] H (.int (.ofNat zz)) H)
  {H':Hp} (hc:Cb ns 2 528 [.str cat,.int (.ofNat zz),.obj p,.str u,.str sn,.bool sep,.bool G7,.bool G7] (H++[.list usL]) (.obj (H++[O.list usL]).length) H') :
  Cb ns 3 580 [.obj p,.str u,.str sn,.bool sep,.bool G7,.bool G7] H (.obj (H++[O.list usL]).length) H':=by
 have h':=h.ex (Ex.app [O.list usL]);refine Gf h' λfs q=>zW (.c .none (H++[.list usL]) (.c .none (H++[.list usL]) (.c .none (H++[.list usL]) (.c (.int (.ofNat zz)) (H++[.list usL]) (.o (.inst 285 fs) (.w (.str cat) (.c (.obj (H++[O.list usL]).length) H' .nil))))))) λ_ hm=>
  ok (I (hu.at hm) (I ((hs _ h').at hm) (I ((cb_cls (ns:=ns) (H++[.list usL]) p).at hm) (I ((hz _ h').at hm) (I q.1 (I (q.2 _ m1) (I (hc.at hm) (fin (.obj (H++[O.list usL]).length) H')))))))) (by kernel_rfl)
end
end G
end
section
namespace G
open Mn
section
variable {ns:List Int} {T:St} {H:Hp}
theorem k6{s:SI}{t:List Nat}{sep:Bool}(hl:s.d.leaf=G3 (t,sep))(H:Hp):yg .is (picV s.d.leaf) .none H=G3 G7:=by rw[hl];rfl
theorem sgNe{s:SI}{t:List Nat}{sep:Bool}(hl:s.d.leaf=G3 (t,sep)):G3 (!eqS (signS s.d.leaf) [])=G3 sep:=by rw[hl];rcases sep with _|_<;>rfl
theorem shpAtT{H:Hp}{u sn:List Nat}{sep:Bool}{p z:Nat}:ShpAt (H++[.inst 528 (shpL zx u sn sep p z)]) H.length z:=⟨shpL zx u sn sep p z,zx,ze,rfl,rfl,rfl⟩
theorem Kd{H:Hp}{u sn:List Nat}{sep sg:Bool}{p z dg sc:Nat}:ShpAt (H++[shpN u sn sep p z dg sc sg 3]) H.length z:=⟨setF 28 (.bool sg) (setF 29 (.int (.ofNat sc)) (setF 30 (.int (.ofNat dg)) (shpL zO u sn sep p z))),zO,ze,rfl,rfl,rfl⟩
def Xa(ns:List Int)(m a z:Nat)(H:Hp):Prop:=∃p H',Call (zb (P ns) 60 m) 615 [.obj a] H (.obj p) H'/\Ex H H'/\ShpAt H' p z
theorem Ji{m a z:Nat}{as:As}{p:Nat}{H':Hp}(h:fnS (P ns) 60 (zb (P ns) 60 m) 615 [.obj a] H as (.obj p) H')(e:Ex H H')(q:ShpAt H' p z):Xa ns (m+1) a z H:=⟨p,H',zr h,e,q⟩
theorem leaf_txt{m a:Nat}{s:SI}{anc t:List Nat}{dg sc z:Nat}(hm:Dp ns 6 m)(iv:Inv T H)(ta:T a=G3 s)(pe:s.par=anc.head?)(ch:yj T anc)(l:anc.length < 50)(hl:s.d.leaf=G3 (t,G7))(h:Eff T (a::anc) [])(hp:PicOk t zx 0 0 G7 z):Xa ns (m+1) a z H:=by
 have c1:=yR (ns:=ns) iv ta pe ch l h;refine Y4 hp hm (upH H a anc) ?_;intro p H2 c2 x2 hq;have x1:=upEx H a anc;have c2:Call (zb (P ns) 60 m) 496 [picV s.d.leaf] (upH H a anc) (.obj p) H2:=by rw[hl];exact c2
 obtain⟨⟨b,o,z0,sh,h0⟩,_⟩:=iv a s ta;have h1:=x1 _ _ h0;have h2:=x2 _ _ h1;refine zj (hq) ?_;clear hq;intro fs hq;have pq:Pic H2 p (picL zx 0 0 G7 z):=⟨fs,hq⟩;have c4:Cb ns 3 580 [.obj p,.str zo,.str zm,.bool G7,.bool G7,.bool G7] H2 (.obj (H2++[O.list usL]).length) (H2++[O.list usL]++[.inst 528 (shpL zx zo zm G7 p z)]):=Yn pq (XB _ _) (λH _=>JE H p zo) (λ_ q=>ux q) cb_mkT;exact Ji (p:=(H2++[O.list usL]).length) (H':=(H2++[O.list usL]++[.inst 528 (shpL zx zo zm G7 p z)])) (as:=.c (.str zo) (upH H a anc) <|.o (zc s b o z0 sh) <|.b G7 <|.o (zc s b o z0 sh) <|.c (.obj p) H2 <|.o (.inst 285 fs) <|.w (.str zx) <|.o (zc s b o z0 sh) <|.b G7 <|.o (zc s b o z0 sh) <|.o (zc s b o z0 sh) <|.c (.obj (H2++[O.list usL]).length) (H2++[O.list usL]++[.inst 528 (shpL zx zo zm G7 p z)]) .nil)
  (ok (I (c1.at hm) <|I h1 <|I (k6 hl (upH H a anc)) <|I h1 <|I c2 <|I hq.1 <|I (hq.2 _ m1) <|I h2 <|I (sgNe hl) <|I h2 <|I h2 <|I (c4.at hm) <|fin (.obj (H2++[O.list usL]).length) (H2++[O.list usL]++[.inst 528 (shpL zx zo zm G7 p z)])) (by kernel_rfl))
  ((x1.trans x2).trans ((Ex.app _).trans (Ex.app _))) shpAtT
theorem leaf_num{m a:Nat}{s:SI}{anc t:List Nat}{dg sc z:Nat}(hm:Dp ns 6 m)(iv:Inv T H)(ta:T a=G3 s)(pe:s.par=anc.head?)(ch:yj T anc)(l:anc.length < 50)(hl:s.d.leaf=G3 (t,G7))(h:Eff T (a::anc) [])(hp:PicOk t zO dg sc G7 z):Xa ns (m+1) a z H:=by
 have c1:=yR (ns:=ns) iv ta pe ch l h;refine Y4 hp hm (upH H a anc) ?_;intro p H2 c2 x2 hq;have x1:=upEx H a anc;have c2:Call (zb (P ns) 60 m) 496 [picV s.d.leaf] (upH H a anc) (.obj p) H2:=by rw[hl];exact c2
 obtain⟨⟨b,o,z0,sh,h0⟩,_⟩:=iv a s ta;have h1:=x1 _ _ h0;have h2:=x2 _ _ h1;refine zj (hq) ?_;clear hq;intro fs hq;have pq:Pic H2 p (picL zO dg sc G7 z):=⟨fs,hq⟩;have c4:Cb ns 3 580 [.obj p,.str zo,.str zm,.bool G7,.bool G7,.bool G7] H2 (.obj (H2++[O.list usL]).length) (H2++[O.list usL]++[shpN zo zm G7 p z dg sc G7 3]):=Yn pq (XB _ _) (λH _=>JE H p zo) (λ_ q=>ux q) (uz (pq.ex (Ex.app _)));exact Ji (p:=(H2++[O.list usL]).length) (H':=(H2++[O.list usL]++[shpN zo zm G7 p z dg sc G7 3])) (as:=.c (.str zo) (upH H a anc) <|.o (zc s b o z0 sh) <|.b G7 <|.o (zc s b o z0 sh) <|.c (.obj p) H2 <|.o (.inst 285 fs) <|.w (.str zO) <|.o (.inst 285 fs) <|.w (.bool G7) <|.o (zc s b o z0 sh) <|.b G7 <|.o (zc s b o z0 sh) <|.o (zc s b o z0 sh) <|.c (.obj (H2++[O.list usL]).length) (H2++[O.list usL]++[shpN zo zm G7 p z dg sc G7 3]) .nil)
  (ok (I (c1.at hm) <|I h1 <|I (k6 hl (upH H a anc)) <|I h1 <|I c2 <|I hq.1 <|I (hq.2 _ m1) <|I hq.1 <|I (hq.2 _ m4) <|I h2 <|I (sgNe hl) <|I h2 <|I h2 <|I (c4.at hm) <|fin (.obj (H2++[O.list usL]).length) (H2++[O.list usL]++[shpN zo zm G7 p z dg sc G7 3])) (by kernel_rfl))
  ((x1.trans x2).trans ((Ex.app _).trans (Ex.app _))) Kd
theorem leaf_sgt{m a:Nat}{s:SI}{anc t:List Nat}{dg sc z:Nat}(hm:Dp ns 6 m)(iv:Inv T H)(ta:T a=G3 s)(pe:s.par=anc.head?)(ch:yj T anc)(l:anc.length < 50)(hl:s.d.leaf=G3 (t,G7))(h:Eff T (a::anc) [])(hp:PicOk t zO dg sc G6 z):Xa ns (m+1) a z H:=by
 have c1:=yR (ns:=ns) iv ta pe ch l h;refine Y4 hp hm (upH H a anc) ?_;intro p H2 c2 x2 hq;have x1:=upEx H a anc;have c2:Call (zb (P ns) 60 m) 496 [picV s.d.leaf] (upH H a anc) (.obj p) H2:=by rw[hl];exact c2
 obtain⟨⟨b,o,z0,sh,h0⟩,_⟩:=iv a s ta;have h1:=x1 _ _ h0;have h2:=x2 _ _ h1;refine zj (hq) ?_;clear hq;intro fs hq;have pq:Pic H2 p (picL zO dg sc G6 z):=⟨fs,hq⟩;have iv2:=(Le.ex (x1.trans x2)).inv iv;have c3:=cb_sign0 (ns:=ns) iv2 ta pe ch l (by rw[hl];rfl);have x3:=upEx H2 a anc;have h3:=x3 _ _ h2;have pq:=pq.ex x3;have c4:Cb ns 3 580 [.obj p,.str zo,.str zm,.bool G7,.bool G7,.bool G7] (upH H2 a anc) (.obj ((upH H2 a anc)++[O.list usL]).length) ((upH H2 a anc)++[O.list usL]++[shpN zo zm G7 p z dg sc G6 3]):=Yn pq (XB _ _) (λH _=>JE H p zo) (λ_ q=>ux q) (uz (pq.ex (Ex.app _)));exact Ji (p:=((upH H2 a anc)++[O.list usL]).length) (H':=((upH H2 a anc)++[O.list usL]++[shpN zo zm G7 p z dg sc G6 3])) (as:=.c (.str zo) (upH H a anc) <|.o (zc s b o z0 sh) <|.b G7 <|.o (zc s b o z0 sh) <|.c (.obj p) H2 <|.o (.inst 285 fs) <|.w (.str zO) <|.o (.inst 285 fs) <|.w (.bool G6) <|.o (zc s b o z0 sh) <|.b G7 <|.c (.tup [.str zm,.bool G7]) (upH H2 a anc) <|.o (zc s b o z0 sh) <|.o (zc s b o z0 sh) <|.c (.obj ((upH H2 a anc)++[O.list usL]).length) ((upH H2 a anc)++[O.list usL]++[shpN zo zm G7 p z dg sc G6 3]) .nil)
  (ok (I (c1.at hm) <|I h1 <|I (k6 hl (upH H a anc)) <|I h1 <|I c2 <|I hq.1 <|I (hq.2 _ m1) <|I hq.1 <|I (hq.2 _ m4) <|I h2 <|I (sgNe hl) <|I (c3.at hm) <|I h3 <|I h3 <|I (c4.at hm) <|fin (.obj ((upH H2 a anc)++[O.list usL]).length) ((upH H2 a anc)++[O.list usL]++[shpN zo zm G7 p z dg sc G6 3])) (by kernel_rfl))
  (((x1.trans x2).trans x3).trans ((Ex.app _).trans (Ex.app _))) Kd
theorem leaf_bin{m a:Nat}{s:SI}{anc t:List Nat}{dg sc z:Nat}{sg:Bool}(hm:Dp ns 6 m)(iv:Inv T H)(ta:T a=G3 s)(pe:s.par=anc.head?)(ch:yj T anc)(l:anc.length < 50)(hl:s.d.leaf=G3 (t,G7))(h:Eff T (a::anc) yr)(hp:PicOk t zO dg sc sg z)(d1:1<=dg)(d2:dg<=18):Xa ns (m+1) a (bw dg) H:=by
 have c1:=yR (ns:=ns) iv ta pe ch l h;refine Y4 hp hm (upH H a anc) ?_;intro p H2 c2 x2 hq;have x1:=upEx H a anc;have c2:Call (zb (P ns) 60 m) 496 [picV s.d.leaf] (upH H a anc) (.obj p) H2:=by rw[hl];exact c2
 obtain⟨⟨b,o,z0,sh,h0⟩,_⟩:=iv a s ta;have h1:=x1 _ _ h0;have h2:=x2 _ _ h1;refine zj (hq) ?_;clear hq;intro fs hq;have pq:Pic H2 p (picL zO dg sc sg z):=⟨fs,hq⟩;have c4:Cb ns 3 580 [.obj p,.str yr,.str zm,.bool G7,.bool G7,.bool G7] H2 (.obj (H2++[O.list usL]).length) (H2++[O.list usL]++[shpN yr zm G7 p (bw dg) dg sc sg 3]):=Yn pq (cb_chkB pq) (λH _=>JE H p yr) (λ_ q=>cb_szB q d1 d2) (uz (pq.ex (Ex.app _)));exact Ji (p:=(H2++[O.list usL]).length) (H':=(H2++[O.list usL]++[shpN yr zm G7 p (bw dg) dg sc sg 3])) (as:=.c (.str yr) (upH H a anc) <|.o (zc s b o z0 sh) <|.b G7 <|.o (zc s b o z0 sh) <|.c (.obj p) H2 <|.o (zc s b o z0 sh) <|.b G7 <|.o (zc s b o z0 sh) <|.o (zc s b o z0 sh) <|.c (.obj (H2++[O.list usL]).length) (H2++[O.list usL]++[shpN yr zm G7 p (bw dg) dg sc sg 3]) .nil)
  (ok (I (c1.at hm) <|I h1 <|I (k6 hl (upH H a anc)) <|I h1 <|I c2 <|I h2 <|I (sgNe hl) <|I h2 <|I h2 <|I (c4.at hm) <|fin (.obj (H2++[O.list usL]).length) (H2++[O.list usL]++[shpN yr zm G7 p (bw dg) dg sc sg 3])) (by kernel_rfl))
  ((x1.trans x2).trans ((Ex.app _).trans (Ex.app _))) Kd
theorem leaf_to{m a:Nat}{s:SI}{anc t e:List Nat}{sep:Bool}{z:Nat}(hm:Dp ns 6 m)(iv:Inv T H)(ta:T a=G3 s)(pe:s.par=anc.head?)(ch:yj T anc)(l:anc.length < 50)(hl:s.d.leaf=G3 (t,sep))(h:Eff T (a::anc) e)(k:LeafOk e t sep z):Xa ns (m+1) a z H:=by
 rcases k with⟨_,_,q⟩|⟨_,dg,sc,_,q⟩|⟨_,dg,sc,_,q⟩|⟨_,dg,sc,_,sg,q,d1,d2⟩
 ·exact leaf_txt (dg:=0) (sc:=0) hm iv ta pe ch l hl h q
 ·exact leaf_num hm iv ta pe ch l hl h q
 ·exact leaf_sgt hm iv ta pe ch l hl h q
 ·exact leaf_bin hm iv ta pe ch l hl h q d1 d2
end
end G
end
section
namespace G
open Mn
theorem zp{H:Hp}{i j:Nat}{o p:O}(h:H[i]?=G3 o)(k:H[j]?=G3 p)(n:o≠p):j≠i:=λe=>n (by rw[e,h] at k;exact Gm k)
theorem Inv.no{T:St}{H:Hp}(iv:Inv T H){p:Nat}(n:H[p]?=Gb):T p=Gb:=by
 rcases e:T p with _|s
 ·rfl
 ·refine Gf (iv p s e).1 λb h=>Gf h λo h=>Gf h λz h=>Gf h λsh h=>?_;rw[n] at h;cases h
structure LeA (T:St) (ap:Nat) (H H':Hp):Prop where
 old:∀(i:Nat) (o:O),H[i]?=G3 o->T i=Gb->i≠ap->H'[i]?=G3 o
 sz:∀a,SzOk T H a->SzOk T H' a
 of:∀a,OfOk T H a->OfOk T H' a
 inv:Inv T H->Inv T H'
theorem LeA.refl{T:St}{ap:Nat}{H:Hp}:LeA T ap H H:=⟨λ_ _ h _ _=>h,λ_ h=>h,λ_ h=>h,λh=>h⟩
theorem LeA.trans{T:St}{ap:Nat}{H₁ H₂ U5:Hp}(a:LeA T ap H₁ H₂)(b:LeA T ap H₂ U5):LeA T ap H₁ U5:=⟨λi o h n m=>b.old i o (a.old i o h n m) n m,λ_ h=>b.sz _ (a.sz _ h),λ_ h=>b.of _ (a.of _ h),λh=>b.inv (a.inv h)⟩
theorem Le.toA{T:St}{ap:Nat}{H H':Hp}(a:Le T H H'):LeA T ap H H':=⟨λi o h n _=>a.old i o h n,a.sz,a.of,a.inv⟩
theorem LeA.to{T:St}{ap:Nat}{H H':Hp}(a:LeA T ap H H')(n:H[ap]?=Gb):Le T H H':=⟨λi o h m=>a.old i o h m (ne_of h n).symm,a.sz,a.of,a.inv⟩
theorem LeA.list{T:St}{H:Hp}{p:Nat}{vs us:List V}(h:H[p]?=G3 (.list vs))(k:∀a s,T a=G3 s->s.kl≠p):LeA T p H (H.set p (.list us)) where
 old i o q _ m:=zw q m.symm
 sz a q:=by refine xe6c4 (q) ?_;clear q;intro s b o r fs c h1 h2 h3 h4;exact⟨s,b,o,r,fs,c,h1,zw h2 (zp h2 h nofun),zw h3 (zp h3 h nofun),h4⟩
 of a q:=by refine zA (q) ?_;clear q;intro s z sh h1 h2;exact⟨s,z,sh,h1,zw h2 (zp h2 h nofun)⟩
 inv q a s t:=by obtain⟨⟨b,o,z,sh,h1⟩,h2,h3⟩:=q a s t;exact⟨⟨b,o,z,sh,zw h1 (zp h1 h nofun)⟩,zw h2 (k a s t).symm,h3.imp id λh3=>h3.elim λc h3=>⟨c,h3.1,zw h3.2 (zp h3.2 h λe=>by cases e)⟩⟩
def ShOk(H:Hp)(s:SI)(sh:V):Prop:=∃p fs c,sh= .obj p/\H[p]?=G3 (.inst 528 fs)/\getF 6 fs=G3 (.int (.ofNat s.d.size))/\getF 31 fs=G3 (.str c)/\eqS c Zn=s.d.leaf.isNone
def fldO(f:Nat)(o:O):V:=match o with|.inst _ fs=>(getF f fs).getD .bad|_=>.bad
theorem Jm{s:SI}{b b':List Nat}{o o' z z':Nat}{sh sh':V}(h:zc s b o z sh=zc s b' o' z' sh'):b=b'/\o=o'/\z=z'/\sh=sh':=
 ⟨V.noConfusion (congrArg (fldO 8) h) id,V.noConfusion (congrArg (fldO 7) h) Int.ofNat.inj,V.noConfusion (congrArg (fldO 6) h) Int.ofNat.inj,congrArg (fldO 5) h⟩
theorem Le.item{T:St}{H:Hp}{a:Nat}{s:SI}{b b':List Nat}{o o' z z':Nat}{sh sh':V}(t:T a=G3 s)(h:H[a]?=G3 (zc s b o z sh))(hz:z'=z∨z'=s.d.size)(hs:sh'=sh∨ShOk H s sh')(hb:b'=b∨b'=s.base)(ho:o'=o∨o'=s.off) :
  Le T H (H.set a (zc s b' o' z' sh')) where
 old i x q n:=zw q λe=>by rw[e,n] at t;cases t
 sz c q:=by
  refine xe6c4 (q) ?_;clear q;intro s2 b2 o2 r fs k h1 h2 h3 h4;have h3':(H.set a (zc s b' o' z' sh'))[r]?=G3 (.inst 528 fs):=zw h3 (zp h3 h λe=>by cases e)
  by_cases e:a=c
  ·subst e;cases t.symm.trans h1;refine ZB (Jm (Gm (h.symm.trans h2))) λ_ _ e3 e4=>?_;have e5:z'=s.d.size:=hz.elim (λq=>q.trans e3) id;rcases hs with hs|⟨p,fs',c,hs,k1,k2⟩
   ·exact⟨s,b',o',r,fs,k,t,by rw[zV h,e5,hs,e4],h3',h4⟩
   ·exact⟨s,b',o',p,fs',c,t,by rw[zV h,e5,hs],zw k1 (zp k1 h λe=>by cases e),k2⟩
  ·exact⟨s2,b2,o2,r,fs,k,h1,zw h2 e,h3',h4⟩
 of c q:=by
  refine zA (q) ?_;clear q;intro s2 z2 sh2 h1 h2
  by_cases e:a=c
  ·subst e;cases t.symm.trans h1;refine ZB (Jm (Gm (h.symm.trans h2))) λe1 e2 _ _=>?_;exact⟨s,z',sh',t,by rw[zV h,hb.elim (λq=>q.trans e1) id,ho.elim (λq=>q.trans e2) id]⟩
  ·exact⟨s2,z2,sh2,h1,zw h2 e⟩
 inv q c s2 t2:=by
  obtain⟨⟨b2,o2,z2,sh2,h1⟩,h2,h3⟩:=q c s2 t2;refine⟨?_,zw h2 (zp h2 h nofun),h3.imp id λh3=>h3.elim λc h3=>⟨c,h3.1,zw h3.2 (zp h3.2 h λe=>by cases e)⟩⟩
  by_cases e:a=c
  ·subst e;cases t.symm.trans t2;exact⟨b',o',z',sh',zV h⟩
  ·exact⟨b2,o2,z2,sh2,zw h1 e⟩
inductive F where
 |nil
 |node (d:D) (kids rest:F)
noncomputable def mulS(d:D):Nat:=d.size*d.often
noncomputable def fre(d:D):Bool:=match d.upon with|[]=>G6|_::_=>G7
noncomputable def ifN(b:Bool)(x y:Nat):Nat:=match b with|true=>x|false=>y
noncomputable def gsz:F->Nat
 |.nil=>0
 |.node d _ rest=>ifN (fre d) (mulS d) 0+gsz rest
noncomputable def effD(e:List Nat)(d:D):List Nat:=match d.usage with|[]=>e|u=>u
structure Nd (e:List Nat) (d:D) (kids:F):Prop where
 of1:1<=d.often
 of3:d.often<=3
 sz:d.size<=2000
 is:(∃t sep,d.leaf=G3 (t,sep)/\kids= .nil/\LeafOk (effD e d) t sep d.size)∨d.leaf=Gb/\kids≠.nil/\d.size=gsz kids
structure Up (l:Option D) (d:D) (x:D):Prop where
 is:l=G3 x
 name:x.name=d.upon
 often:x.often=1
 oc:x.oc=Gb
 own:eqS d.name d.upon=G7
 size:mulS d<=x.size
 bd:x.size<=2000
noncomputable def Wf:List Nat->Option D->F->Prop
 |_,_,.nil=>True
 |e,l,.node d kids rest=>Nd e d kids/\Wf (effD e d) Gb kids/\(match fre d with|true=>Wf e (G3 d) rest|false=>(∃x,Up l d x)/\Wf e l rest)
noncomputable def lvOf(anc:List Nat):Nat:=match anc with|[]=>1|_::_=>5
structure Node (T:St) (base:List Nat) (anc:List Nat) (off:Nat) (d:D) (a:Nat) (s:SI):Prop where
 t:T a=G3 s
 d:s.d=d
 lv:s.level=lvOf anc
 par:s.par=anc.head?∨s.par=Gb/\s.d.leaf.isSome=G6/\Eff T anc []
 base:s.base=base
 off:s.off=off
noncomputable def Des(T:St)(base:List Nat):List Nat->Nat->Nat->F->List Nat->Prop
 |_,_,_,.nil,as=>as=[]
 |anc,here,last,.node d kids rest,as=>∃a r s,as=a::r/\Node T base anc (ifN (fre d) here last) d a s/\Des T base (a::anc) (ifN (fre d) here last) 0 kids s.kids/\Des T base anc (ifN (fre d) (here+mulS d) here) (ifN (fre d) here last) rest r
noncomputable def SzAll(T:St)(H:Hp):F->List Nat->Prop
 |.nil,_=>True
 |.node _ kids rest,as=>∃a r s,as=a::r/\T a=G3 s/\SzOk T H a/\SzAll T H kids s.kids/\SzAll T H rest r
theorem SzAll.mono{T:St}{H H':Hp}(m:∀a,SzOk T H a->SzOk T H' a):∀(f:F) (as:List Nat),SzAll T H f as->SzAll T H' f as:=by
 intro f
 induction f with
 |nil=>intro y1 y2;exact trivial
 |node z0 k r ihk ihr=>intro y1 h;refine XM (h) ?_;clear h;intro a q s h1 h2 h3 h4 h5;exact⟨a,q,s,h1,h2,m a h3,ihk _ h4,ihr _ h5⟩
noncomputable def OfAll(T:St)(H:Hp):F->List Nat->Prop
 |.nil,_=>True
 |.node _ kids rest,as=>∃a r s,as=a::r/\T a=G3 s/\OfOk T H a/\OfAll T H kids s.kids/\OfAll T H rest r
theorem OfAll.mono{T:St}{H H':Hp}(m:∀a,OfOk T H a->OfOk T H' a):∀(f:F) (as:List Nat),OfAll T H f as->OfAll T H' f as:=by
 intro f
 induction f with
 |nil=>intro y1 y2;exact trivial
 |node z0 k r ihk ihr=>intro y1 h;refine XM (h) ?_;clear h;intro a q s h1 h2 h3 h4 h5;exact⟨a,q,s,h1,h2,m a h3,ihk _ h4,ihr _ h5⟩
theorem Node.no66{T:St}{base anc:List Nat}{off a:Nat}{d:D}{s:SI}(h:Node T base anc off d a s):Gi s.level 66=G7:=by rw[h.lv];rcases anc<;>rfl
theorem Des.kn{T:St}{base:List Nat}: ∀(f:F) (anc:List Nat) (h l:Nat) (as:List Nat),Des T base anc h l f as->Kn T as:=by
 intro f
 induction f with
 |nil=>intro y0 y1 y2 as q;have e:as=[]:=q;subst e;exact λ_ h=>nomatch h
 |node d k r ihk ihr=>
  intro anc h l as q;refine XN (q) ?_;clear q;intro a rs s rq3 h1 _ h3;subst rq3;intro x hx;rcases hx with _|⟨_,hx⟩
  ·exact⟨s,h1.t,h1.no66⟩
  ·exact ihr _ _ _ _ h3 x hx
end G
end
section
namespace G
open Mn
noncomputable def tl(s:S):S:=match s with|.seq _ b=>b|s=>s
section
variable {ns:List Int} {T:St} {H:Hp}
theorem JV{a b:Nat}(H:Hp)(h:a<=b):yg .gt (.int (.ofNat a)) (.int (.ofNat b)) H=G3 G7:=congrArg G3 (decide_eq_false λe=>DT h (F0.mp e))
theorem notLt{a b:Nat}(H:Hp)(h:b<=a):yg .lt (.int (.ofNat a)) (.int (.ofNat b)) H=G3 G7:=congrArg G3 (decide_eq_false λe=>DT h (F0.mp e))
theorem eqNo{a b:Nat}(H:Hp)(h:Gi a b=G7):yg .eq (.int (.ofNat a)) (.int (.ofNat b)) H=G3 G7:=congrArg G3 (jj h)
theorem isnN(H:Hp):yg .isnot .none .none H=G3 G7:=rfl
theorem isnO(i:Nat)(H:Hp):yg .isnot (.obj i) .none H=G3 G6:=rfl
theorem XU{Y:QX}{C:Orc}{a dp:Nat}{s:SI}{v:V}{H1:Hp}{r:As}{Q:KA}(iv:Inv T H)(t:T a=G3 s)(d:dp<=20)(lv:∀c,s.d.oc=G3 c->Gi s.level 1=G7)(l7:Gi s.level 77=G7)(o1:1<=s.d.often)
  (h:exY (P ns) C Y 60 (tl (tl f636.body)) [.obj a,.int (.ofNat dp)] H (.c v H1 r) Q):∃as,exY (P ns) C Y 60 f636.body [.obj a,.int (.ofNat dp)] H as Q:=by
 obtain⟨⟨b,o,z,sh,h0⟩,_,h1⟩:=iv a s t;rcases h1 with⟨e,_⟩|⟨c,e,h1⟩
 ·refine⟨.b G7 <|.o (zG s .none (parV s.par) b o z sh) <|.b G7 <|.c v H1 r,ok (I (JV H d) <|I (YM h0 e) <|I (isnN H) h) (by kernel_rfl)⟩
 ·have k:=yJ h0 e;exact⟨.b G7 <|.o (zG s (.obj s.oc) (parV s.par) b o z sh) <|.b G6 <|.o (zG s (.obj s.oc) (parV s.par) b o z sh) <|.b G7 <|.o (zG s (.obj s.oc) (parV s.par) b o z sh) <|.b G7 <|.o (zG s (.obj s.oc) (parV s.par) b o z sh) <|.o (occO c s.d.often) <|.b G7 <|.c v H1 r,
   ok (I (JV H d) <|I k <|I (isnO s.oc H) <|I k <|I (eqNo H (lv c e)) <|I k <|I (eqNo H l7) <|I k <|I h1 <|I (notLt H o1) h) (by kernel_rfl)⟩
theorem jB{m a dp:Nat}{s:SI}{anc t e:List Nat}{sep:Bool}(hm:Dp ns 6 m)(iv:Inv T H)(ta:T a=G3 s)(pe:s.par=anc.head?)(ch:yj T anc)(l:anc.length < 50)(hl:s.d.leaf=G3 (t,sep))(h:Eff T (a::anc) e)(k:LeafOk e t sep s.d.size)
  (d:dp<=20) (lv:∀c,s.d.oc=G3 c->Gi s.level 1=G7) (l7:Gi s.level 77=G7) (o1:1<=s.d.often) (kd:s.kids=[]):∃H',Call (zb (P ns) 60 (m+2)) 636 [.obj a,.int (.ofNat dp)] H .none H'/\Le T H H'/\SzOk T H' a:=by
 have kn:Kn T s.kids:=by rw[kd];exact λ_ h=>nomatch h
 have nn:Gj (s.kids.map V.obj).length 1000=G6:=by rw[kd];rfl
 have c1:=ZP (ns:=ns) iv ta kn nn;have x1:Le T H (H++[O.list (s.kids.map V.obj)]++[O.list []]):=Le.ex ((Ex.app _).trans (Ex.app _));have c1:Cb ns 1 223 [.obj a] H (.bool G7) (H++[O.list (s.kids.map V.obj)]++[O.list []]):=by rw[kd] at c1 ⊢;exact c1
 refine zF (leaf_to hm (x1.inv iv) ta pe ch l hl h k) λp H2 c2 x2 hp=>?_;have x2:=x1.trans (Le.ex x2);obtain⟨⟨b,o,z,sh,h0⟩,_⟩:=x2.inv iv a s ta;refine yz (hp) ?_;clear hp;intro fs c p1 p2 p3 p4;have p7:eqS c Zn=s.d.leaf.isNone:=by rw[p4,hl];rfl
 have so:ShOk H2 s (.obj p):=⟨p,fs,c,rfl,p1,p2,p3,p7⟩;have x3:=Le.item (z':=z) (b':=b) (o':=o) ta h0 (.inl rfl) (.inr so) (.inl rfl) (.inl rfl);have h3:(H2.set a (zc s b o z (.obj p)))[a]?=G3 (zc s b o z (.obj p)):=zV h0;have p5:(H2.set a (zc s b o z (.obj p)))[p]?=G3 (.inst 528 fs):=zw p1 (zp p1 h0 λe=>by cases e);have x4:=Le.item (z':=s.d.size) (b':=b) (o':=o) (sh':=.obj p) ta h3 (.inr rfl) (.inl rfl) (.inl rfl) (.inl rfl);have h4:((H2.set a (zc s b o z (.obj p))).set a (zc s b o s.d.size (.obj p)))[a]?=G3 (zc s b o s.d.size (.obj p)):=zV h3;have p6:((H2.set a (zc s b o z (.obj p))).set a (zc s b o s.d.size (.obj p)))[p]?=G3 (.inst 528 fs):=zw p5 (zp p5 h3 λe=>by cases e);obtain⟨as,ho⟩:=XU (ns:=ns) (Y:=X0) (C:=zb (P ns) 60 (m+1)) (v:=.bool G7) (H1:=H++[O.list (s.kids.map V.obj)]++[O.list []]) (r:=.c (.obj p) H2 <|.o (zc s b o z sh) <|.h (H2.set a (zc s b o z (.obj p))) <|.o (zc s b o z (.obj p)) <|.o (.inst 528 fs) <|.w (.int (.ofNat s.d.size)) <|.o (zc s b o z (.obj p)) <|.h ((H2.set a (zc s b o z (.obj p))).set a (zc s b o s.d.size (.obj p))) .nil)
  (Q:=λfl _ H₁ _=>retIs fl .none/\H₁=(H2.set a (zc s b o z (.obj p))).set a (zc s b o s.d.size (.obj p))) iv ta d lv l7 o1
  (ok (I (c1.at (GF 1 m:Dp ns 1 (m+1))) <|I c2 <|I h0 <|I (rfl:H2.set a (zc s b o z (.obj p))=H2.set a (zc s b o z (.obj p))) <|I h3 <|I p5 <|I p2 <|I h3 <|I (rfl:(H2.set a (zc s b o z (.obj p))).set a (zc s b o s.d.size (.obj p))=(H2.set a (zc s b o z (.obj p))).set a (zc s b o s.d.size (.obj p))) <|
   fin .none ((H2.set a (zc s b o z (.obj p))).set a (zc s b o s.d.size (.obj p)))) (by kernel_rfl))
 exact⟨_,zr (as:=as) (ok ho (by kernel_rfl)),(x2.trans x3).trans x4,s,b,o,p,fs,c,ta,h4,p6,p2,p3,p7⟩
end
end G
end
section
namespace G
open Mn
section
variable {ns:List Int} {T:St} {H:Hp}
theorem noPic{s:SI}(hl:s.d.leaf=Gb)(H:Hp):yg .isnot (picV s.d.leaf) .none H=G3 G7:=by rw[hl];rfl
theorem ss_grp{m a dp:Nat}{s:SI}{kids:F}(hm:Dp ns 4 m)(iv:Inv T H)(ta:T a=G3 s)(hl:s.d.leaf=Gb)(kn:Kn T s.kids)(kd:nb s.kids=G6)(kl:Gj (s.kids.map V.obj).length 1000=G6)
  (hg:∀H,Inv T H->∃H',Call (zb (P ns) 60 (m+1)) 643 [.obj a,.int (.ofNat dp)] H (.int (.ofNat s.d.size)) H'/\Le T H H'/\SzAll T H' kids s.kids)
  (d:dp<=20) (lv:∀c,s.d.oc=G3 c->Gi s.level 1=G7) (l7:Gi s.level 77=G7) (o1:1<=s.d.often):∃H',Call (zb (P ns) 60 (m+2)) 636 [.obj a,.int (.ofNat dp)] H .none H'/\Le T H H'/\SzOk T H' a/\SzAll T H' kids s.kids:=by
 have c1:=ZP (ns:=ns) iv ta kn kl;rw[kd] at c1;have x1:Le T H (H++[O.list (s.kids.map V.obj)]++[O.list []]):=Le.ex ((Ex.app _).trans (Ex.app _));obtain⟨⟨b,o,z,sh,h0⟩,_⟩:=x1.inv iv a s ta;refine yK (hg _ (x1.inv iv)) λH2 c2 x2 q2=>?_;obtain⟨⟨b',o',z',sh',h2⟩,_⟩:=x2.inv (x1.inv iv) a s ta;have x3:=Le.item (z':=s.d.size) (b':=b') (o':=o') (sh':=sh') ta h2 (.inr rfl) (.inl rfl) (.inl rfl) (.inl rfl);have h3:(H2.set a (zc s b' o' s.d.size sh'))[a]?=G3 (zc s b' o' s.d.size sh'):=zV h2;have c4:=cb_grp (ns:=ns) (H2.set a (zc s b' o' s.d.size sh')) s.d.size;have x4:Le T (H2.set a (zc s b' o' s.d.size sh')) (H2.set a (zc s b' o' s.d.size sh')++[O.inst 528 (grpF s.d.size)]):=Le.app _;have h4:(H2.set a (zc s b' o' s.d.size sh')++[O.inst 528 (grpF s.d.size)])[a]?=G3 (zc s b' o' s.d.size sh'):=zd h3;have p4:(H2.set a (zc s b' o' s.d.size sh')++[O.inst 528 (grpF s.d.size)])[(H2.set a (zc s b' o' s.d.size sh')).length]?=G3 (.inst 528 (grpF s.d.size)):=ze;have p7:eqS Zn Zn=s.d.leaf.isNone:=by rw[hl];rfl
 have x5:=Le.item (z':=s.d.size) (b':=b') (o':=o') (sh':=.obj (H2.set a (zc s b' o' s.d.size sh')).length) ta h4 (.inl rfl) (.inr ⟨_,grpF s.d.size,Zn,rfl,p4,rfl,rfl,p7⟩) (.inl rfl) (.inl rfl);have h5:=zV (x:=zc s b' o' s.d.size (.obj (H2.set a (zc s b' o' s.d.size sh')).length)) h4;have p5:=zw (x:=zc s b' o' s.d.size (.obj (H2.set a (zc s b' o' s.d.size sh')).length)) p4 (zp p4 h4 λe=>by cases e);have xx:=(x3.trans x4).trans x5;refine Gf (XU (ns:=ns) (Y:=X0) (C:=zb (P ns) 60 (m+1)) (v:=.bool G6) (H1:=H++[O.list (s.kids.map V.obj)]++[O.list []])
  (r:=.o (zc s b o z sh) <|.b G7 <|.c (.int (.ofNat s.d.size)) H2 <|.o (zc s b' o' z' sh') <|.h (H2.set a (zc s b' o' s.d.size sh')) <|.o (zc s b' o' s.d.size sh') <|.c (.obj (H2.set a (zc s b' o' s.d.size sh')).length) (H2.set a (zc s b' o' s.d.size sh')++[O.inst 528 (grpF s.d.size)]) <|.o (zc s b' o' s.d.size sh') <|
   .h ((H2.set a (zc s b' o' s.d.size sh')++[O.inst 528 (grpF s.d.size)]).set a (zc s b' o' s.d.size (.obj (H2.set a (zc s b' o' s.d.size sh')).length))) .nil)
  (Q:=λfl _ H₁ _=>retIs fl .none/\H₁=(H2.set a (zc s b' o' s.d.size sh')++[O.inst 528 (grpF s.d.size)]).set a (zc s b' o' s.d.size (.obj (H2.set a (zc s b' o' s.d.size sh')).length))) iv ta d lv l7 o1
  (ok (I (c1.at (GF 1 m:Dp ns 1 (m+1))) <|I h0 <|I (noPic hl (H++[O.list (s.kids.map V.obj)]++[O.list []])) <|I c2 <|I h2 <|I (rfl:H2.set a (zc s b' o' s.d.size sh')=H2.set a (zc s b' o' s.d.size sh')) <|I h3 <|I (c4.at (GU hm:Dp ns 4 (m+1))) <|I h4 <|
   I (rfl:(H2.set a (zc s b' o' s.d.size sh')++[O.inst 528 (grpF s.d.size)]).set a (zc s b' o' s.d.size (.obj (H2.set a (zc s b' o' s.d.size sh')).length))=(H2.set a (zc s b' o' s.d.size sh')++[O.inst 528 (grpF s.d.size)]).set a (zc s b' o' s.d.size (.obj (H2.set a (zc s b' o' s.d.size sh')).length))) <|
   fin .none ((H2.set a (zc s b' o' s.d.size sh')++[O.inst 528 (grpF s.d.size)]).set a (zc s b' o' s.d.size (.obj (H2.set a (zc s b' o' s.d.size sh')).length)))) (by kernel_rfl))) λas ho=>?_
 exact⟨_,zr (as:=as) (ok ho (by kernel_rfl)),(x1.trans x2).trans xx,⟨s,b',o',_,grpF s.d.size,Zn,ta,h5,p5,rfl,rfl,p7⟩,SzAll.mono xx.sz _ _ q2⟩
end
end G
end
section
namespace G
open Mn
noncomputable def bl:F->Nat
 |.nil=>8
 |.node _ k r=>max (bl k+2) (bl r)
noncomputable def ht:F->Nat
 |.nil=>0
 |.node _ k r=>max (ht k+1) (ht r)
noncomputable def nc:F->Nat
 |.nil=>0
 |.node _ k r=>1+nc k+nc r
theorem Des.nc{T:St}{base:List Nat}: ∀(f:F) (anc:List Nat) (h l:Nat) (as:List Nat),Des T base anc h l f as->as.length<=nc f:=by
 intro f
 induction f with
 |nil=>intro y0 y1 y2 as q;have e:as=[]:=q;subst e;exact GI _
 |node d k r ihk ihr=>intro anc h l as q;refine XN (q) ?_;clear q;intro a rs s rq3 _ _ h3;subst rq3;have:=ihr _ _ _ _ h3;show rs.length+1<=1+Mn.G.nc k+Mn.G.nc r;exact om89 this
def RvOk(T:St)(p:Nat->Prop)(l:Option D)(rv:List Nat):Prop:=∀x,l=G3 x->∃us g pre sg,rv=us++g::pre/\T g=G3 sg/\sg.d=x/\p g/\Us T x.name us
theorem RvOk.mono{T:St}{p q:Nat->Prop}{l:Option D}{rv:List Nat}(h:RvOk T p l rv)(m:∀g,p g->q g):RvOk T q l rv:=λx e=>by refine XL (h x e) λus g pre sg h1 h2 h3 h4 h5=>?_;exact⟨us,g,pre,sg,h1,h2,h3,m g h4,h5⟩
theorem RvOk.none{T:St}{p:Nat->Prop}{rv:List Nat}:RvOk T p Gb rv:=λ_ h=>nomatch h
theorem RvOk.free{T:St}{p:Nat->Prop}{a:Nat}{s:SI}{rv:List Nat}(t:T a=G3 s)(h:p a):RvOk T p (G3 s.d) (a::rv):=λx e=>by cases e;exact⟨[],a,rv,s,rfl,t,rfl,h,λ_ h=>nomatch h⟩
theorem RvOk.up{T:St}{p:Nat->Prop}{l:Option D}{a:Nat}{s:SI}{x:D}{rv:List Nat}(h:RvOk T p l rv)(t:T a=G3 s)(u:Up l s.d x):RvOk T p l (a::rv):=λy e=>by
 refine XL (h y e) λus g pre sg h1 h2 h3 h4 h5=>?_;cases u.is.symm.trans e;refine⟨a::us,g,pre,sg,by rw[h1];rfl,h2,h3,h4,λv hv=>?_⟩;rcases hv with _|⟨_,hv⟩
 ·exact⟨s,t,u.name.symm,by rw[u.name];exact u.own⟩
 ·exact h5 v hv
theorem X5{u:List Nat}:eqS u []=(match u with|[]=>G6|_::_=>G7):=by rcases u with _|_<;>rfl
theorem Zh(rv:List Nat)(a:Nat):rv.reverse.map V.obj++[V.obj a]=(a::rv).reverse.map V.obj:=by rw[Dq];exact Xn _ _
section
variable {ns:List Int} {T:St}
def uL(ns:List Int)(T:St)(f:F):Prop:=∀(base e anc:List Nat) (here last:Nat) (l:Option D) (as:List Nat) (pa dp sz ap ip:Nat) (all rv:List Nat) (x:V) (H:Hp) (m:Nat),
 Dp ns (bl f) m->Inv T H->(∀a s,T a=G3 s->s.kl≠ap)->T ap=Gb->T ip=Gb->ap≠ip->H[ap]?=G3 (.list (rv.reverse.map .obj))->H[ip]?=G3 (.list (all.map .obj))->
 Des T base anc here last f as->Wf e l f->Eff T anc e->yj T anc->anc.length+ht f<=9->anc.length=dp+1->rv.length+nc f<=900->RvOk T (SzOk T H) l rv->
 ∀{Gl:Prop},(∀H' x',(Fo (P ns) (zb (P ns) 60 m) 60 (bd f643 0) [4] G6 (.lst ip (all.map .obj)) (as.map .obj) [.obj pa,.int (.ofNat dp),.int (.ofNat sz),.obj ap,x] H [.obj pa,.int (.ofNat dp),.int (.ofNat (sz+gsz f)),.obj ap,x'] H')->(H'[ap]?=G3 (.list ((rv.reverse++as).map .obj)))->(LeA T ap H H')->(SzAll T H' f as)->Gl)->Gl
theorem Des.len{T:St}{base:List Nat}{d:D}{k r:F}{anc:List Nat}{h l:Nat}{as:List Nat}(q:Des T base anc h l (.node d k r) as):nb as=G6:=by obtain⟨a,r,s,rfl,_⟩:=q;rfl
theorem gs_call{kids:F}(IH:uL ns T kids){H:Hp}{m a dp:Nat}{s:SI}{base e anc:List Nat}{off:Nat}(hm:Dp ns (bl kids) m)(iv:Inv T H)(ta:T a=G3 s)(ds:Des T base (a::anc) off 0 kids s.kids)(wf:Wf e Gb kids)(ef:Eff T (a::anc) e)(ch:yj T (a::anc))
  (hh:anc.length+1+ht kids<=9) (hd:anc.length=dp) (lk:nc kids<=900) (z:s.d.size=gsz kids) (z2:s.d.size<=2000) (o3:s.d.often<=3) (b1:1<=bl kids):∃H',Call (zb (P ns) 60 (m+1)) 643 [.obj a,.int (.ofNat dp)] H (.int (.ofNat s.d.size)) H'/\Le T H H'/\SzAll T H' kids s.kids:=by
 have x1:Le T H (H++[O.list []]):=Le.app _;have ap:(H++[O.list []])[H.length]?=G3 (.list []):=ze;have kn:=ds.kn;have lk':=Ga ds.nc lk;have c1:=XA (ns:=ns) (x1.inv iv) ta kn (Gk (by rw[Gs];exact Ga lk' (by decide)));have n0:H[(H++[O.list []]).length]?=Gb:=Xk (by rw[len1];exact F5 _);have n1:H[H.length]?=Gb:=yH;have x2:Le T (H++[O.list []]) (H++[O.list []]++[O.list (s.kids.map .obj)]):=Le.app _;have iv2:=x2.inv (x1.inv iv);refine IH base e (a::anc) off 0 Gb s.kids a dp 0 H.length (H++[O.list []]).length s.kids [] .bad _ m hm iv2 (λc s t e=>by rw[←e,(iv c s t).2.kids] at n1;cases n1)
  (iv.no n1) (iv.no n0) (by rw[len1];exact D9 (Da _)) (zd ap) ze ds wf ef ch (by rw[GO];exact hh) (by rw[GO,hd]) (by rw[D3,GZ];exact lk) RvOk.none ?_
 intro H3 x' lp _ x3 q;have xx:Le T H H3:=((x1.trans x2).toA.trans x3).to n1;obtain⟨⟨b,o,z0,sh,h0⟩,sd⟩:=xx.inv iv a s ta;have c3:=Ja (ns:=ns) h0 sd;rw[GZ,←z] at lp;have hs1:s.d.size*s.d.often<=1000000:=Ga (Nat.mul_le_mul z2 o3) (by decide);refine⟨H3,zr (as:=.c (.obj (H++[O.list []]).length) (H++[O.list []]++[O.list (s.kids.map .obj)]) <|.it (.lst (H++[O.list []]).length (s.kids.map .obj)) <|.l .next [.obj a,.int (.ofNat dp),.int (.ofNat s.d.size),.obj H.length,x'] H3 <|.o (zc s b o z0 sh) <|.c (.int (.ofNat s.d.often)) H3 <|.g <|.b G7 .nil)
  (ok (I (c1.at (Ga b1 hm:Dp ns 1 m)) <|I (zi (ze (H:=H++[O.list []]) (o:=O.list (s.kids.map .obj)))) <|I lp.R <|I h0 <|I (c3.at (Ga b1 hm:Dp ns 1 m)) <|I (decide_eq_true (Ic (GT z2 (by decide)) (GT o3 (by decide))):decide (s.d.size < 1000000000/\s.d.often < 1000000000)=G6) <|
   I (JV H3 hs1) <|fin (.int (.ofNat s.d.size)) H3) (by kernel_rfl)),xx,q⟩
end
end G
end
section
namespace G
open Mn
theorem bl_ge:∀f:F,8<=bl f:=by
 intro f
 induction f with
 |nil=>exact GI _
 |node z0 z1 r ihk ihr=>exact Ga (ihr) (DW _ _)
section
variable {ns:List Int} {T:St}
theorem Eff.one{T:St}:∀{as e f:List Nat},Eff T as e->Eff T as f->e=f:=by
 intro as
 induction as with
 |nil=>intro e f h k;exact(show e=[] from h).trans (show f=[] from k).symm
 |cons p r ih=>
  intro e f h k;obtain⟨s,t,h⟩:=h;obtain⟨s',t',k⟩:=k;cases t.symm.trans t';rcases h with⟨u,h⟩|⟨u,h⟩<;>rcases k with⟨v,k⟩|⟨v,k⟩
  ·exact ih h k
  ·rw[u] at v;cases v
  ·rw[v] at u;cases u
  ·rw[h,k]
theorem kW{kids:F}(IH:uL ns T kids){H:Hp}{m a:Nat}{s:SI}{base e anc:List Nat}{off:Nat}(hm:Dp ns (bl kids) m)(iv:Inv T H)(nd:Node T base anc off s.d a s)(sn:Nd e s.d kids)(ds:Des T base (a::anc) off 0 kids s.kids)(wf:Wf (effD e s.d) Gb kids)(ef:Eff T anc e)(ch:yj T anc)
  (hh:anc.length+1+ht kids<=9) (lk:nc kids<=900) (hr:anc=[]->s.d.oc=Gb):∃H',Call (zb (P ns) 60 (m+2)) 636 [.obj a,.int (.ofNat anc.length)] H .none H'/\Le T H H'/\SzOk T H' a/\SzAll T H' kids s.kids:=by
 have ef2:Eff T (a::anc) (effD e s.d):=by
  refine⟨s,nd.t,?_⟩;unfold effD;rcases h:s.d.usage with _|⟨u,r⟩
  ·exact .inl ⟨rfl,ef⟩
  ·exact .inr ⟨rfl,rfl⟩
 have d:anc.length<=20:=by exact om90 hh
 have l5:anc.length < 50:=by exact om91 d
 have l7:Gi s.level 77=G7:=by rw[nd.lv];rcases anc<;>rfl
 have lv:∀c,s.d.oc=G3 c->Gi s.level 1=G7:=λc h=>by
  rw[nd.lv];rcases anc with _|_
  ·rw[hr rfl] at h;cases h
  ·rfl
 rcases sn.is with⟨t,sep,hl,hk,k⟩|⟨hl,hk,z⟩
 ·subst hk;have kd:s.kids=[]:=ds;rcases nd.par with pr|⟨pr,_,en⟩
  ·obtain⟨H',c,x,q⟩:=jB (dp:=anc.length) (Ga (by decide) hm:Dp ns 6 m) iv nd.t pr ch l5 hl ef2 k d lv l7 sn.of1 kd;exact⟨H',c,x,q,trivial⟩
  ·obtain rfl:=ef.one en;have ef3:Eff T [a] (effD [] s.d):=by
    refine⟨s,nd.t,?_⟩;unfold effD;rcases h:s.d.usage with _|⟨u,r⟩
    ·exact .inl ⟨rfl,rfl⟩
    ·exact .inr ⟨rfl,rfl⟩
   obtain⟨H',c,x,q⟩:=jB (dp:=anc.length) (anc:=[]) (Ga (by decide) hm:Dp ns 6 m) iv nd.t pr trivial (by decide) hl ef3 k d lv l7 sn.of1 kd;exact⟨H',c,x,q,trivial⟩
 ·have kd:nb s.kids=G6:=by
   rcases kids with _|⟨d',k',r'⟩
   ·exact absurd rfl hk
   ·exact ds.len
  have pr:s.par=anc.head?:=nd.par.resolve_right λh=>by rw[hl] at h;exact absurd h.2.1 G4
  have ch2:yj T (a::anc):=⟨⟨s,nd.t,pr,by rw[hl];rfl⟩,ch⟩;have b1:=bl_ge kids;exact ss_grp (Ga (Ga (by decide) b1) hm:Dp ns 4 m) iv nd.t hl ds.kn kd (Gk (by rw[Gs];exact Ga (Ga ds.nc lk) (by decide)))
   (λH iv=>gs_call IH hm iv nd.t ds wf ef2 ch2 hh rfl lk z sn.sz sn.of3 (Ga (by decide) b1)) d lv l7 sn.of1
theorem szBd{d:D}{e:List Nat}{k:F}(h:Nd e d k):D0 d.size 1000000000=G6/\D0 d.often 1000000000=G6:=⟨Gk (De (GT h.sz (by decide))),Gk (De (GT h.of3 (by decide)))⟩
theorem rv_app{o:Option O}{rv as:List Nat}{a:Nat}(h:o=G3 (.list (((a::rv).reverse++as).map .obj))):o=G3 (.list ((rv.reverse++a::as).map .obj)):=by rw[h,Dq,Gw];rfl
theorem gs_all(f:F):uL ns T f:=by
 induction f with
 |nil=>intro base e anc here last l as pa dp sz ap ip all rv x H m hm iv k1 ta ti ne ha hi ds wf ef ch hh hd hl ro Gl kG;have e:as=[]:=ds;subst e;exact kG H x .nil (by rw[D5];exact ha) LeA.refl trivial
 |node d kids rest IHk IHr=>
  intro base e anc here last l as pa dp sz ap ip all rv x H m hm iv k1 ta ti ne ha hi ds wf ef ch hh hd hl ro Gl kG;refine XN (ds) ?_;clear ds;intro a r s rq3 nd dk dr;subst rq3;refine zP (wf) ?_;clear wf;intro sn wk wr;obtain rfl:=nd.d;have hm2:bl kids+2<=m:=Ga (Nat.le_max_left _ _) hm;refine zj (GP (Ga (GF 2 _) hm2)) λm' rq1=>?_;subst rq1;have hk:Dp ns (bl kids) m':=FH hm2;have h9:anc.length+1+ht kids<=9:=Ga (by rw[Fu,Fh 1];exact DM (Nat.le_max_left _ _) _) hh;have h9r:anc.length+ht rest<=9:=Ga (DM (DW _ _) _) hh;have hl:rv.length+(1+nc kids+nc rest)<=900:=hl;have hlk:nc kids<=900:=by exact om92 hl
  have hlr:(a::rv).length+nc rest<=900:=by rw[GO];exact om93 hl
  have hb:rv.reverse.length < 1000:=by rw[DC];exact on3 (by assumption)
  obtain⟨H1,c1,x1,q1,k2⟩:=kW (IHk) hk iv nd sn dk wk ef ch h9 hlk (λe=>by rw[e] at hd;cases hd);have iv1:=x1.inv iv;have ha1:=x1.old _ _ ha ta;have hi1:=x1.old _ _ hi ti;have q1':=q1;refine XJ (q1') ?_;clear q1';intro s' b o p _ _ t' h1 _;cases nd.t.symm.trans t';have c2:=Zg (ns:=ns) h1 (iv1 a s nd.t).2 (szBd sn).1 (szBd sn).2;have d2:Dp ns 2 (m'+ 2):=GF _ _;rw[hd] at c1;have x2:∀(H2:Hp) (us:List V),H2[ap]?=G3 (.list us)->LeA T ap H2 (H2.set ap (.list ((a::rv).reverse.map .obj))):=λH2 us h=>LeA.list h k1;rcases fr:fre s.d with _|_
  ·rw[fr] at wr dr;obtain⟨⟨y,u⟩,wr⟩:=wr;refine XL ((ro.mono x1.sz) y u.is) λus g pre sg e1 tg e2 z2 hu=>?_;have z2':=z2;refine XJ (z2') ?_;clear z2';intro sg' bg og pg _ _ tg' hg _;cases tg.symm.trans tg';rw[←e2] at u;have hu':Us T s.d.upon us:=by rw[←u.name,e2];exact hu
   have c3:=yY (ns:=ns) iv1 nd.t tg u.name u.oc hu' (by rw[←e1];exact ha1);rw[←e1] at c3;have e3:sz+gsz (.node s.d kids rest)=sz+gsz rest:=by show sz+(ifN (fre s.d) (mulS s.d) 0+gsz rest)=_;rw[fr];exact congrArg _ (GZ _)
   have xa:Ex H1 (H1++[O.list (rv.map V.obj)]):=Ex.app _;have c4:=Zg (ns:=ns) (xa _ _ hg) ((iv1 g sg tg).2.ex xa) (Gk (De (GT u.bd (by decide)))) (by rw[u.often];rfl);have x2':=x2 _ _ (xa _ _ ha1);have x3:=((x1.trans (Le.ex xa)).toA (ap:=ap)).trans x2';refine IHr base e anc _ _ l r pa dp sz ap ip all (a::rv) (.obj a) _ (m'+ 2) (Ga (DW _ _) hm:Dp ns (bl rest) _) (x3.inv iv) k1 ta ti ne (zV (xa _ _ ha1)) (zw (xa _ _ hi1) ne) dr wr ef ch h9r hd hlr
    ((ro.mono x3.sz).up nd.t (e2▸u)) ?_
   intro H' x' lp hz x4 q;refine kG H' x' (.cons (as:=.c .none H1 <|.o (zc s b o s.d.size (.obj p)) <|.b G7 <|.c (.int (.ofNat (s.d.size*s.d.often))) H1 <|.c (.obj g) (H1++[O.list (rv.map V.obj)]) <|.c (.int (.ofNat (sg.d.size*sg.d.often))) (H1++[O.list (rv.map V.obj)]) <|.b G7 <|.g <|.o (.list (rv.reverse.map V.obj)) <|.g <|.h ((H1++[O.list (rv.map V.obj)]).set ap (.list ((a::rv).reverse.map .obj))) .nil) rfl
    (ok (I c1 <|I h1 <|I (by rw[X5];exact congrArg G3 fr:G3 (eqS s.d.upon [])=G3 G7) <|I (c2.at d2) <|I (c3.at d2) <|I (c4.at d2) <|I (JV (a:=s.d.size*s.d.often) (b:=sg.d.size*sg.d.often) (H1++[O.list (rv.map V.obj)]) (by rw[u.often,Dv];exact u.size)) <|I (zQ (b:=.append) (xa _ _ ha1)) <|I (xa _ _ ha1) <|I (Zc hb) <|I (by rw[Zh]:(H1++[O.list (rv.map V.obj)]).set ap (.list (rv.reverse.map V.obj++[V.obj a]))=(H1++[O.list (rv.map V.obj)]).set ap (.list ((a::rv).reverse.map .obj))) <|
     fin3 .next [.obj pa,.int (.ofNat dp),.int (.ofNat sz),.obj ap,.obj a] ((H1++[O.list (rv.map V.obj)]).set ap (.list ((a::rv).reverse.map .obj)))) (by kernel_rfl)) (zl (zw (xa _ _ hi1) ne)) (e3▸lp)) (rv_app hz) (x3.trans x4) ⟨a,r,s,rfl,nd.t,x4.sz _ (x2'.sz _ ((Le.ex xa).sz _ q1)),SzAll.mono (λc h=>x4.sz _ (x2'.sz _ ((Le.ex xa).sz _ h))) _ _ k2,q⟩
  ·rw[fr] at wr dr;have e3:sz+gsz (.node s.d kids rest)=sz+s.d.size*s.d.often+gsz rest:=by show sz+(ifN (fre s.d) (mulS s.d) 0+gsz rest)=_;rw[fr,Fu];rfl
   have x2':=x2 _ _ ha1;have x3:=(x1.toA (ap:=ap)).trans x2';refine IHr base e anc _ _ _ r pa dp (sz+s.d.size*s.d.often) ap ip all (a::rv) (.obj a) _ (m'+ 2) (Ga (DW _ _) hm:Dp ns (bl rest) _) (x3.inv iv) k1 ta ti ne (zV ha1) (zw hi1 ne) dr wr ef ch h9r hd hlr
    (.free nd.t (x2'.sz _ q1)) ?_
   intro H' x' lp hz x4 q;refine kG H' x' (.cons (as:=.c .none H1 <|.o (zc s b o s.d.size (.obj p)) <|.b G6 <|.c (.int (.ofNat (s.d.size*s.d.often))) H1 <|.g <|.o (.list (rv.reverse.map V.obj)) <|.g <|.h (H1.set ap (.list ((a::rv).reverse.map .obj))) .nil) rfl
    (ok (I c1 <|I h1 <|I (by rw[X5];exact congrArg G3 fr:G3 (eqS s.d.upon [])=G3 G6) <|I (c2.at d2) <|I (zQ (b:=.append) ha1) <|I ha1 <|I (Zc hb) <|I (by rw[Zh]:H1.set ap (.list (rv.reverse.map V.obj++[V.obj a]))=H1.set ap (.list ((a::rv).reverse.map .obj))) <|
     fin3 .next [.obj pa,.int (.ofNat dp),.int (.ofNat (sz+s.d.size*s.d.often)),.obj ap,.obj a] (H1.set ap (.list ((a::rv).reverse.map .obj)))) (by kernel_rfl)) (zl (zw hi1 ne)) (e3▸lp)) (rv_app hz) (x3.trans x4) ⟨a,r,s,rfl,nd.t,x4.sz _ (x2'.sz _ q1),SzAll.mono (λc h=>x4.sz _ (x2'.sz _ h)) _ _ k2,q⟩
end
end G
end
section
namespace G
open Mn
noncomputable def bo:F->Nat
 |.nil=>3
 |.node _ k r=>max (bo k+1) (bo r)
theorem bo_ge:∀f:F,3<=bo f:=by
 intro f
 induction f with
 |nil=>exact GI _
 |node z0 z1 r ihk ihr=>exact Ga (ihr) (DW _ _)
section
variable {ns:List Int} {T:St}
def At(T:St)(last:Nat)(H:Hp)(g:Nat):Prop:=OfOk T H g/\∃sg,T g=G3 sg/\sg.off=last
def OsLoop(ns:List Int)(T:St)(f:F):Prop:=∀(base e anc:List Nat) (here last:Nat) (l:Option D) (as:List Nat) (pa of ap ip:Nat) (all rv:List Nat) (x:V) (H:Hp) (m:Nat),
 Dp ns (bo f) m->Inv T H->(∀a s,T a=G3 s->s.kl≠ap)->T ap=Gb->T ip=Gb->ap≠ip->H[ap]?=G3 (.list (rv.reverse.map .obj))->H[ip]?=G3 (.list (all.map .obj))->
 Des T base anc here last f as->Wf e l f->SzAll T H f as->rv.length+nc f<=900->RvOk T (At T last H) l rv->
 ∀{Gl:Prop},(∀H' L',(ForR (P ns) (zb (P ns) 60 m) 60 (bd f650 0) [5] G6 (.lst ip (all.map .obj)) (as.map .obj) [.obj pa,.int (.ofNat of),.str base,.int (.ofNat here),.obj ap,x] H .next L' H')->(LeA T ap H H')->(OfAll T H' f as)->Gl)->Gl
theorem jE{kids:F}(IH:OsLoop ns T kids){H:Hp}{m a:Nat}{s:SI}{base e anc:List Nat}{off:Nat}(hm:Dp ns (bo kids) m)(iv:Inv T H)(nd:Node T base anc off s.d a s)(ds:Des T base (a::anc) off 0 kids s.kids)(wf:Wf e Gb kids)
  (sz:SzAll T H kids s.kids) (lk:nc kids<=900) {Gl:Prop} (kk:∀H',(Call (zb (P ns) 60 (m+1)) 650 [.obj a,.int (.ofNat off),.str base] H .none H')->(Le T H H')->(OfOk T H' a)->(OfAll T H' kids s.kids)->Gl):Gl:=by
 obtain⟨⟨b,o,z,sh,h0⟩,_⟩:=iv a s nd.t;have x1:=Le.item (z':=z) (b':=b) (o':=off) (sh':=sh) nd.t h0 (.inl rfl) (.inl rfl) (.inl rfl) (.inr nd.off.symm);have h1:=zV (x:=zc s b off z sh) h0;have x2:=Le.item (z':=z) (b':=base) (o':=off) (sh':=sh) nd.t h1 (.inl rfl) (.inl rfl) (.inr nd.base.symm) (.inl rfl);have h2:=zV (x:=zc s base off z sh) h1;obtain⟨H2,e2⟩:∃X,X=(H.set a (zc s b off z sh)).set a (zc s base off z sh):=⟨_,rfl⟩;rw[←e2] at x2 h2;have x2:=x1.trans x2;have ofk:OfOk T H2 a:=⟨s,z,sh,nd.t,by rw[nd.base,nd.off];exact h2⟩;have iv2:=x2.inv iv;have x3:Le T H2 (H2++[O.list []]):=Le.app _;have ap:(H2++[O.list []])[H2.length]?=G3 (.list []):=ze;have lk':=Ga ds.nc lk;have c1:=XA (ns:=ns) (x3.inv iv2) nd.t ds.kn (Gk (by rw[Gs];exact Ga lk' (by decide)));have n0:H2[(H2++[O.list []]).length]?=Gb:=Xk (by rw[len1];exact F5 _);have n1:H2[H2.length]?=Gb:=yH;have x4:Le T (H2++[O.list []]) (H2++[O.list []]++[O.list (s.kids.map .obj)]):=Le.app _;have x34:=x3.trans x4;refine IH base e (a::anc) off 0 Gb s.kids a off H2.length (H2++[O.list []]).length s.kids [] .bad _ m hm (x34.inv iv2) (λc s t e=>by rw[←e,(iv2 c s t).2.kids] at n1;cases n1)
  (iv2.no n1) (iv2.no n0) (by rw[len1];exact D9 (Da _)) (zd ap) ze ds wf (SzAll.mono (λc h=>x34.sz _ (x2.sz _ h)) _ _ sz) (by rw[D3,GZ];exact lk) RvOk.none ?_
 intro H3 L' lp x5 q;have xx:Le T H2 H3:=(x34.toA.trans x5).to n1;exact kk H3 (zr (as:=.o (zc s b o z sh) <|.h (H.set a (zc s b off z sh)) <|.o (zc s b off z sh) <|.h H2 <|.c (.obj (H2++[O.list []]).length) (H2++[O.list []]++[O.list (s.kids.map .obj)]) <|.it (.lst (H2++[O.list []]).length (s.kids.map .obj)) <|.l .next L' H3 .nil)
  (ok (I h0 <|I (rfl:H.set a (zc s b off z sh)=H.set a (zc s b off z sh)) <|I h1 <|I e2.symm <|I (c1.at (Ga (Ga (by decide) (bo_ge kids)) hm:Dp ns 1 m)) <|I (zi (ze (H:=H2++[O.list []]) (o:=O.list (s.kids.map .obj)))) <|I lp <|fin .none H3) (by kernel_rfl))) (x2.trans xx) (xx.of _ ofk) q
theorem os_all(f:F):OsLoop ns T f:=by
 induction f with
 |nil=>intro base e anc here last l as pa of ap ip all rv x H m hm iv k1 ta ti ne ha hi ds wf sz hl ro Gl kG;have e:as=[]:=ds;subst e;exact kG H _ yq LeA.refl trivial
 |node d kids rest IHk IHr=>
  intro base e anc here last l as pa of ap ip all rv x H m hm iv k1 ta ti ne ha hi ds wf sz hl ro Gl kG;refine XN (ds) ?_;clear ds;intro a r s rq3 nd dk dr;subst rq3;refine XM (sz) ?_;clear sz;intro _ _ _ ea ts sa sk sr;cases ea;cases nd.t.symm.trans ts;refine zP (wf) ?_;clear wf;intro sn wk wr;obtain rfl:=nd.d;have hm2:bo kids+1<=m:=Ga (Nat.le_max_left _ _) hm;refine zj (GP (Ga (GF 1 _) hm2)) λm' rq1=>?_;subst rq1;have hk:Dp ns (bo kids) m':=FH hm2;have hl:rv.length+(1+nc kids+nc rest)<=900:=hl;have hlk:nc kids<=900:=by exact om92 hl
  have hlr:(a::rv).length+nc rest<=900:=by rw[GO];exact om93 hl
  have hb:rv.reverse.length < 1000:=by rw[DC];exact on3 (by assumption)
  obtain⟨⟨b0,o0,z0,sh0,h0⟩,_⟩:=iv a s nd.t;have d2:Dp ns 2 (m'+ 1):=DE (Ga (Ga (by decide) (bo_ge kids)) hk);have x2:∀(H2:Hp) (us:List V),H2[ap]?=G3 (.list us)->LeA T ap H2 (H2.set ap (.list ((a::rv).reverse.map .obj))):=λH2 us h=>LeA.list h k1;rcases fr:fre s.d with _|_
  ·rw[fr] at wr dr nd dk;obtain⟨⟨y,u⟩,wr⟩:=wr;obtain⟨us,g,pre,sg,e1,tg,e2,⟨z2,sg2,tg2,lg⟩,hu⟩:=ro y u.is;cases tg.symm.trans tg2;have z2':=z2;refine zA (z2') ?_;clear z2';intro sg' zg shg tg' hg;cases tg.symm.trans tg';rw[←e2] at u;have hu':Us T s.d.upon us:=by rw[←u.name,e2];exact hu
   have c3:=yY (ns:=ns) iv nd.t tg u.name u.oc hu' (by rw[←e1];exact ha);rw[←e1] at c3;have xa:Ex H (H++[O.list (rv.map V.obj)]):=Ex.app _;have la:Le T H (H++[O.list (rv.map V.obj)]):=Le.ex xa;have hg:=xa _ _ hg;rw[lg] at hg;refine jE (IHk) hk (la.inv iv) nd dk wk (SzAll.mono la.sz _ _ sk) hlk ?_;intro H1 c1 x1 q1 k2;have ha1:=x1.old _ _ (xa _ _ ha) ta;have hi1:=x1.old _ _ (xa _ _ hi) ti;have x2':=x2 _ _ ha1;have x3:=((la.trans x1).toA (ap:=ap)).trans x2';refine IHr base e anc _ _ l r pa of ap ip all (a::rv) (.obj a) _ (m'+ 1) (Ga (DW _ _) hm:Dp ns (bo rest) _) (x3.inv iv) k1 ta ti ne (zV ha1) (zw hi1 ne) dr wr (SzAll.mono x3.sz _ _ sr) hlr
    ((ro.mono λg h=>⟨x3.of _ h.1,h.2⟩).up nd.t (e2▸u)) ?_
   intro H' L' lp x4 q;exact kG H' L' (zX (as:=.o (zc s b0 o0 z0 sh0) <|.b G7 <|.c (.obj g) (H++[O.list (rv.map V.obj)]) <|.o (zc sg sg.base last zg shg) <|.c .none H1 <|.g <|.o (.list (rv.reverse.map V.obj)) <|.g <|.h (H1.set ap (.list ((a::rv).reverse.map .obj))) .nil) rfl
    (ok (I h0 <|I (by rw[X5];exact congrArg G3 fr:G3 (eqS s.d.upon [])=G3 G7) <|I (c3.at d2) <|I hg <|I c1 <|I (zQ (b:=.append) ha1) <|I ha1 <|I (Zc hb) <|I (by rw[Zh]:H1.set ap (.list (rv.reverse.map V.obj++[V.obj a]))=H1.set ap (.list ((a::rv).reverse.map .obj))) <|
     fin3 .next [.obj pa,.int (.ofNat of),.str base,.int (.ofNat here),.obj ap,.obj a] (H1.set ap (.list ((a::rv).reverse.map .obj)))) (by kernel_rfl)) (zl (zw hi1 ne)) lp) (x3.trans x4) ⟨a,r,s,rfl,nd.t,x4.of _ (x2'.of _ q1),OfAll.mono (λc h=>x4.of _ (x2'.of _ h)) _ _ k2,q⟩
  ·rw[fr] at wr dr nd dk;refine jE (IHk) hk iv nd dk wk sk hlk ?_;intro H1 c1 x1 q1 k2;have ha1:=x1.old _ _ ha ta;have hi1:=x1.old _ _ hi ti;have iv1:=x1.inv iv;refine XJ (x1.sz _ sa) λs' b o p _ _ t' h1 _=>?_;cases nd.t.symm.trans t';have c2:=Zg (ns:=ns) h1 (iv1 a s nd.t).2 (szBd sn).1 (szBd sn).2;have x2':=x2 _ _ ha1;have x3:=(x1.toA (ap:=ap)).trans x2';refine IHr base e anc _ _ _ r pa of ap ip all (a::rv) (.obj a) _ (m'+ 1) (Ga (DW _ _) hm:Dp ns (bo rest) _) (x3.inv iv) k1 ta ti ne (zV ha1) (zw hi1 ne) dr wr (SzAll.mono x3.sz _ _ sr) hlr
    (.free nd.t ⟨x2'.of _ q1,s,nd.t,nd.off⟩) ?_
   intro H' L' lp x4 q;exact kG H' L' (zX (as:=.o (zc s b0 o0 z0 sh0) <|.b G6 <|.c .none H1 <|.c (.int (.ofNat (s.d.size*s.d.often))) H1 <|.g <|.o (.list (rv.reverse.map V.obj)) <|.g <|.h (H1.set ap (.list ((a::rv).reverse.map .obj))) .nil) rfl
    (ok (I h0 <|I (by rw[X5];exact congrArg G3 fr:G3 (eqS s.d.upon [])=G3 G6) <|I c1 <|I (c2.at d2) <|I (zQ (b:=.append) ha1) <|I ha1 <|I (Zc hb) <|I (by rw[Zh]:H1.set ap (.list (rv.reverse.map V.obj++[V.obj a]))=H1.set ap (.list ((a::rv).reverse.map .obj))) <|
     fin3 .next [.obj pa,.int (.ofNat of),.str base,.int (.ofNat (here+s.d.size*s.d.often)),.obj ap,.obj a] (H1.set ap (.list ((a::rv).reverse.map .obj)))) (by kernel_rfl)) (zl (zw hi1 ne)) lp) (x3.trans x4) ⟨a,r,s,rfl,nd.t,x4.of _ (x2'.of _ q1),OfAll.mono (λc h=>x4.of _ (x2'.of _ h)) _ _ k2,q⟩
end
end G
end
section
namespace G
open Mn
structure Root (T:St) (base:List Nat) (off:Nat) (d:D) (kids:F) (a:Nat) (s:SI):Prop where
 node:Node T base [] off d a s
 des:Des T base [a] off 0 kids s.kids
 nd:Nd [] d kids
 wf:Wf (effD [] d) Gb kids
 one:d.oc=Gb
 h:1+ht kids<=9
 n:nc kids<=900
 b1:bl kids<=12
 b2:bo kids<=12
structure Done (T:St) (H:Hp) (kids:F) (a:Nat) (s:SI):Prop where
 sz:SzOk T H a
 sk:SzAll T H kids s.kids
 of:OfOk T H a
 ok:OfAll T H kids s.kids
theorem Done.mono{T:St}{H H':Hp}{kids:F}{a ap:Nat}{s:SI}(h:Done T H kids a s)(x:LeA T ap H H'):Done T H' kids a s:=⟨x.sz _ h.sz,SzAll.mono x.sz _ _ h.sk,x.of _ h.of,OfAll.mono x.of _ _ h.ok⟩
section
variable {ns:List Int} {T:St} {H:Hp}
theorem sr_loop{C:Orc}{it:It}(iv:Inv T H)(st:it.stands H=G6)(a o:Nat)(b:List Nat):∀(as:List Nat) (x:V),Kn T as->∃L',ForR (P ns) C 60 (bd f669 0) [3] G6 it (as.map .obj) [.obj a,.int (.ofNat o),.str b,x] H .next L' H:=by
 intro as
 induction as with
 |nil=>intro x y2;exact⟨_,yq⟩
 |cons k r ih=>intro x h;refine za (h k (.head _)) λs t l=>?_;obtain⟨⟨b',o',z,sh,h1⟩,_⟩:=iv k s t;refine Gf (ih (.obj k) λq hq=>h q (.tail _ hq)) λL' w=>⟨L',zX (as:=.o (zc s b' o' z sh) <|.b G7 .nil) rfl (ok (I h1 <|I (eqNo H l) <|fin3 .next [.obj a,.int (.ofNat o),.str b,.obj k] H) (by kernel_rfl)) st w⟩
theorem kX{base:List Nat}{off:Nat}{d:D}{kids:F}{a:Nat}{s:SI}{m:Nat}(hm:Dp ns 14 m)(iv:Inv T H)(r:Root T base off d kids a s){Gl:Prop}(kG:∀H',(Call (zb (P ns) 60 (m+1)) 669 [.obj a,.int (.ofNat off),.str base] H .none H')->(Le T H H')->(Done T H' kids a s)->Gl):Gl:=by
 obtain⟨nd,ds,sn,wf,one,h9,n9,b1,b2⟩:=r;obtain rfl:=nd.d;refine zj (GP (Ga (by decide:2<=14) hm)) λm rq1=>?_;subst rq1;have hm:12+2<=m+2:=hm;have hm:12<=m:=FH hm;refine XO (kW (gs_all (ns:=ns) kids) (Ga b1 hm) iv nd sn ds wf (e:=[]) (anc:=[]) rfl trivial (by rw[D3,GZ];exact h9) n9 λ_=>one) λH1 c1 x1 q1 k1=>?_;refine jE (os_all (ns:=ns) kids) (m:=m+1) (GU (Ga b2 hm)) (x1.inv iv) nd ds wf k1 n9 ?_;intro H2 c2 x2 q2 k2;have iv2:=x2.inv (x1.inv iv);obtain⟨⟨b,o,z,sh,h0⟩,sd⟩:=iv2 a s nd.t;refine Gf (sr_loop (ns:=ns) (C:=zb (P ns) 60 (m+2)) iv2 (zl sd.kids) a off base s.kids .bad ds.kn) λL' w=>kG H2 (zr (as:=.c .none H1 <|.c .none H2 <|.o (zc s b o z sh) <|.it (.lst s.kl (s.kids.map .obj)) <|.l .next L' H2 .nil)
  (ok (I c1 <|I c2 <|I h0 <|I (zi sd.kids) <|I w <|fin .none H2) (by kernel_rfl))) (x1.trans x2) ⟨x2.sz _ q1,SzAll.mono x2.sz _ _ k1,q2,k2⟩
end
noncomputable def Pre(T:St):F->List Nat->List Nat->Prop
 |.nil,as,res=>as=[]/\res=[]
 |.node _ k r,as,res=>∃a rs s x y,as=a::rs/\T a=G3 s/\Pre T k s.kids x/\Pre T r rs y/\res=a::(x++y)
theorem Pre.len{T:St}: ∀(f:F) (as res:List Nat),Pre T f as res->as.length<=nc f/\res.length=nc f:=by
 intro f
 induction f with
 |nil=>
  intro as res h;exact by rw[h.1,h.2];exact⟨GI _,rfl⟩
 |node d k r ihk ihr=>intro as res h;refine kD (h) ?_;clear h;intro a rs s x y rq5 _ h1 h2 rq9;subst rq5;subst rq9;have l1:=ihk _ _ h1;have l2:=ihr _ _ h2;show rs.length+1<=1+nc k+nc r/\(x++y).length+1=1+nc k+nc r;rw[Gr];exact om95 l1 l2
theorem pop_rev(S:List Nat):(S.reverse.map V.obj).reverse=S.map V.obj:=by rw[FQ,FF]
theorem Kj(S:List Nat):(S.map V.obj).reverse=S.reverse.map V.obj:=(FQ ..).symm
theorem ext_rev(k S:List Nat):S.reverse.map V.obj++(k.map V.obj).reverse=(k++S).reverse.map V.obj:=by rw[Kj,←GB,←List.reverse_append]
theorem nb_rev(a:Nat)(S:List Nat):nb (a::S).reverse=G6:=by
 rcases e:(a::S).reverse with _|⟨x,y⟩
 ·rw[List.reverse_eq_nil_iff] at e;cases e
 ·rfl
section
variable {ns:List Int} {T:St} {U4:Hp}
noncomputable abbrev uC:E:=.cmp .ne (.l 2) (.lst .nil)
theorem iu_turn{C:Orc}{a0 fp lp a:Nat}{s:SI}{S Dn:List Nat}{H:Hp}(iv:Inv T U4)(nf:U4[fp]?=Gb)(nl:U4[lp]?=Gb)(ne:fp≠lp)(ex:Ex U4 H)(hf:H[fp]?=G3 (.list (Dn.map .obj)))(hl:H[lp]?=G3 (.list ((a::S).reverse.map .obj)))(t:T a=G3 s)(b1:Dn.length < 1000)(b2:S.length+s.kids.length<=1000)(x:V){Gl:Prop}(kk:∀H₂,(Ex U4 H₂)->(H₂[fp]?=G3 (.list ((Dn++[a]).map .obj)))->(H₂[lp]?=G3 (.list ((s.kids++S).reverse.map .obj)))->(∀n g L' H',WhR (P ns) C 60 uC (bd f192 0) n [.obj a0,.obj fp,.obj lp,.obj a] H₂ g L' H'->WhR (P ns) C 60 uC (bd f192 0) (n+1) [.obj a0,.obj fp,.obj lp,x] H g L' H')->Gl):Gl:=by
 have f1:=zd (N:=[O.list []]) hf;have l1:=zd (N:=[O.list []]) hl;have e1:=ex.trans (Ex.app [O.list []]);have c0:=Kt (zd hl) (ze (H:=H) (o:=.list []));rw[nb_rev] at c0;obtain⟨H1,q1⟩:∃X,X=H++[O.list []]:=⟨_,rfl⟩;rw[←q1] at f1 l1 e1 c0;obtain⟨H2,q2⟩:∃X,X=H1.set lp (.list (S.reverse.map .obj)):=⟨_,rfl⟩;have e2:=e1.set nl (.list (S.reverse.map .obj));have f2:=zw (x:=.list (S.reverse.map .obj)) f1 ne.symm;have l2:=zV (x:=.list (S.reverse.map .obj)) l1;rw[←q2] at e2 f2 l2;obtain⟨H3,q3⟩:∃X,X=H2.set fp (.list ((Dn++[a]).map .obj)):=⟨_,rfl⟩;have e3:=e2.set nf (.list ((Dn++[a]).map .obj));have f3:=zV (x:=.list ((Dn++[a]).map .obj)) f2;have l3:=zw (x:=.list ((Dn++[a]).map .obj)) l2 ne;rw[←q3] at e3 f3 l3;obtain⟨⟨b,o,z,sh,h0⟩,sd⟩:=iv a s t;have e4:=e3.trans (Ex.app [O.list (s.kids.map V.obj).reverse]);have f4:=zd (N:=[O.list (s.kids.map V.obj).reverse]) f3;have l4:=zd (N:=[O.list (s.kids.map V.obj).reverse]) l3;have e5:=e4.set nl (.list ((s.kids++S).reverse.map .obj));have f5:=zw (x:=.list ((s.kids++S).reverse.map .obj)) f4 ne.symm;have l5:=zV (x:=.list ((s.kids++S).reverse.map .obj)) l4;have gd:Gj ((S.reverse.map V.obj).length+(s.kids.map V.obj).reverse.length) 1000=G6:=by rw[Gs,DC,DC,Gs];exact Gk b2
 refine kk _ e5 f5 l5 (λn g L' H' k=>whTurn (H₁:=H1) (as:=.b G6 .nil) (as':=.g <|.o (.list ((a::S).reverse.map .obj)) <|.u ((a::S).map .obj) <|.h H2 <|.g <|.o (.list (Dn.map .obj)) <|.g <|.h H3 <|.g <|.o (zc s b o z sh) <|.o (.list (s.kids.map .obj)) <|.o (.list (S.reverse.map .obj)) <|.o (.list (s.kids.map V.obj).reverse) <|.g <|.h ((H3++[O.list (s.kids.map V.obj).reverse]).set lp (.list ((s.kids++S).reverse.map .obj))) .nil)
  (ok (by rw[q1];rw[q1] at c0;exact I c0 <|I (rfl:G6=G6) (rfl:H++[O.list []]=H++[O.list []]):yg .ne (.obj lp) (.obj H.length) (H++[O.list []])=G3 G6/\G6=G6/\H++[O.list []]=H1) (by kernel_rfl))
  (ok (I (zQ (b:=.pop) l1) <|I l1 <|I (pop_rev (a::S)) <|I (by rw[q2,Kj]:H1.set lp (.list (S.map V.obj).reverse)=H2) <|I (zQ (b:=.append) f2) <|I f2 <|I (Zc b1) <|I (by rw[q3,Xn]:H2.set fp (.list (Dn.map V.obj++[V.obj a]))=H3) <|
   I (zQ (b:=.extend) l3) <|I (e3 _ _ h0) <|I (e3 _ _ sd.kids) <|I l4 <|I (ze (H:=H3) (o:=.list (s.kids.map V.obj).reverse)) <|I gd <|I (by rw[ext_rev]:(H3++[O.list (s.kids.map V.obj).reverse]).set lp (.list (S.reverse.map V.obj++(s.kids.map V.obj).reverse))=(H3++[O.list (s.kids.map V.obj).reverse]).set lp (.list ((s.kids++S).reverse.map .obj))) <|
   fin3 .next [.obj a0,.obj fp,.obj lp,.obj a] ((H3++[O.list (s.kids.map V.obj).reverse]).set lp (.list ((s.kids++S).reverse.map .obj)))) (by kernel_rfl)) k)
theorem iu_loop{C:Orc}{a0 fp lp:Nat}(iv:Inv T U4)(nf:U4[fp]?=Gb)(nl:U4[lp]?=Gb)(ne:fp≠lp):∀(f:F) (as Y Dn res:List Nat) (H:Hp) (x:V),Ex U4 H->H[fp]?=G3 (.list (Dn.map .obj))->H[lp]?=G3 (.list ((as++Y).reverse.map .obj))->Pre T f as res->
  Dn.length+nc f<=900->Y.length+nc f<=900->
  ∃H₂ Wg,Ex U4 H₂/\H₂[fp]?=G3 (.list ((Dn++res).map .obj))/\H₂[lp]?=G3 (.list (Y.reverse.map .obj))/\∀n g L' H',WhR (P ns) C 60 uC (bd f192 0) n [.obj a0,.obj fp,.obj lp,Wg] H₂ g L' H'->WhR (P ns) C 60 uC (bd f192 0) (n+nc f) [.obj a0,.obj fp,.obj lp,x] H g L' H':=by
 intro f
 induction f with
 |nil=>intro as Y Dn res H x ex hf hl pr b1 b2;rw[pr.1] at hl;rw[pr.2,D5];exact⟨H,x,ex,hf,hl,λ_ _ _ _ h=>h⟩
 |node d k r ihk ihr=>intro as Y Dn res H x ex hf hl pr b1 b2;refine kD (pr) ?_;clear pr;intro a rs s u v rq5 t pk pq rq9;subst rq5;subst rq9;have n1:=pk.len;have n2:=pq.len;have b1:Dn.length+(1+nc k+nc r)<=900:=b1;have b2:Y.length+(1+nc k+nc r)<=900:=b2;refine iu_turn (ns:=ns) (C:=C) (a0:=a0) (S:=rs++Y) iv nf nl ne ex hf hl t (by exact on3 (by assumption)) (by rw[Gr];exact om97 n1 n2 b2) x ?_;intro H2 e2 f2 l2 w2;refine yz (ihk s.kids (rs++Y) (Dn++[a]) u H2 (.obj a) e2 f2 l2 pk (by rw[Gr,DZ];exact om98 b1) (by rw[Gr];exact om99 n2 b2)) λH3 x3 e3 f3 l3 w3=>?_;refine yz (ihr rs Y (Dn++[a]++u) v H3 x3 e3 f3 l3 pq (by rw[Gr,Gr,DZ];exact om100 n1 b1) (om101 b2)) λH4 x4 e4 f4 l4 w4=>?_;rw[show Dn++[a]++u++v=Dn++a::(u++v) by rw[Gw,Gw];rfl] at f4;refine⟨H4,x4,e4,f4,l4,λn g L' H' h=>?_⟩;rw[show n+nc (.node d k r)=n+nc r+nc k+1 by show n+(1+nc k+nc r)=_;exact om102];exact w2 _ _ _ _ (w3 _ _ _ _ (w4 _ _ _ _ h))
end
end G
end
section
namespace G
open Mn
def ExA(ap:Nat)(H H':Hp):Prop:=∀(i:Nat) (o:O),H[i]?=G3 o->i≠ap->H'[i]?=G3 o
theorem ExA.of{ap:Nat}{H H':Hp}(e:Ex H H'):ExA ap H H':=λi o h _=>e i o h
theorem ExA.trans{ap:Nat}{H₁ H₂ U5:Hp}(a:ExA ap H₁ H₂)(b:ExA ap H₂ U5):ExA ap H₁ U5:=λi o h n=>b i o (a i o h n) n
theorem ExA.set{ap:Nat}{H:Hp}(x:O):ExA ap H (H.set ap x):=λ_ _ h n=>zw h n.symm
section
variable {ns:List Int} {T:St} {H:Hp}
theorem KH{m a:Nat}{f:F}{res:List Nat}(iv:Inv T H)(pr:Pre T f [a] res)(b:nc f<=50){Gl:Prop}(kk:∀H',(Call (zb (P ns) 60 (m+1)) 192 [.obj a] H (.obj H.length) H')->(Ex H H')->(H'[H.length]?=G3 (.list (res.map .obj)))->Gl):Gl:=by
 have e0:Ex H (H++[O.list []]++[O.list [V.obj a]]):=(Ex.app _).trans (Ex.app _);have n1:H[(H++[O.list []]).length]?=Gb:=Xk (by rw[len1];exact F5 _);have ne:H.length≠(H++[O.list []]).length:=by rw[len1];exact D9 (Da _)
 have b1:([]:List Nat).length+nc f<=900:=by rw[D3,GZ];exact Ga b (by decide)
 refine yz (iu_loop (ns:=ns) (C:=zb (P ns) 60 m) (a0:=a) iv yH n1 ne f [a] [] [] res (H++[O.list []]++[O.list [V.obj a]]) .bad e0 (zd ze) ze pr b1 b1) λH2 x2 e2 f2 l2 w=>?_;have w:=w (60 - nc f) .next [.obj a,.obj H.length,.obj (H++[O.list []]).length,x2] (H2++[O.list []])
  (by
   rw[show 60 - nc f=59 - nc f+1 by exact om94 b];exact whEnd (as:=.b G7 .nil) (ok (I (Kt (as:=[]) (zd l2) (ze (H:=H2) (o:=.list []))) <|I (rfl:G7=G7) (rfl:H2++[O.list []]=H2++[O.list []])) (by kernel_rfl)))
 rw[show 60 - nc f+nc f=60 by exact om96 b] at w;exact kk (H2++[O.list []]) (zr (as:=.l .next [.obj a,.obj H.length,.obj (H++[O.list []]).length,x2] (H2++[O.list []]) .nil) (ok (I w <|fin (.obj H.length) (H2++[O.list []])) (by kernel_rfl))) (e2.trans (Ex.app _)) (zd f2)
noncomputable def datO(wl ll fd sl z ix:Nat):O:=.inst 174 [(27,.obj wl),(26,.obj ll),(25,.obj fd),(24,.obj sl),(6,.int (.ofNat z)),(0,.obj ix)]
structure Dat (H:Hp) (wl ll fd:Nat) (es:List (List Nat×V)) (fs ws ls:List Nat):Prop where
 fd:H[fd]?=G3 (.dict es)
 fl:es=[]/\fs=[]∨∃fl,es=[([70],.obj fl)]/\H[fl]?=G3 (.list (fs.map .obj))
 wl:H[wl]?=G3 (.list (ws.map .obj))
 ll:H[ll]?=G3 (.list (ls.map .obj))
theorem Dat.ex{H H':Hp}{wl ll fd:Nat}{es:List (List Nat×V)}{fs ws ls:List Nat}(h:Dat H wl ll fd es fs ws ls)(e:Ex H H'):Dat H' wl ll fd es fs ws ls:=⟨e _ _ h.fd,h.fl.imp id λ⟨x,a,b⟩=>⟨x,a,e _ _ b⟩,e _ _ h.wl,e _ _ h.ll⟩
theorem eqKs_rf:∀es:List (List Nat×V),eqKs es es=G6:=by
 intro es
 induction es with
 |nil=>exact rfl
 |cons a r ih=>show(eqS a.1 a.1 && eqKs r r)=G6;rw[uc,ih];rfl
theorem jA{i:Nat}{es:List (List Nat×V)}{H:Hp}(h:H[i]?=G3 (.dict es)):(It.keys i es).stands H=G6:=by show(match H[i]? with|some (.dict us)=>eqKs us es|_=>G7)=G6;rw[h];exact eqKs_rf es
theorem yV{i:Nat}{es:List (List Nat×V)}{H:Hp}(h:H[i]?=G3 (.dict es)):yC (.obj i) H=G3 (.keys i es):=by show(match H[i]? with|some (.list vs)=>G3 (It.lst i vs)|some (.dict es)=>G3 (.keys i es)|_=>Gb)=_;rw[h]
theorem Zw(as bs:List Nat):as.map V.obj++bs.map V.obj=(as++bs).map V.obj:=GB.symm
theorem XC{as bs:List Nat}{n:Nat}(h:as.length+bs.length<=n):Gj ((as.map V.obj).length+(bs.map V.obj).length) n=G6:=by rw[Gs,Gs];exact Gk h
theorem rec_call{m da wl ll fd sl z ix:Nat}{es:List (List Nat×V)}{fs ws ls:List Nat}(hd:H[da]?=G3 (datO wl ll fd sl z ix))(k:Dat H wl ll fd es fs ws ls)(b:fs.length+ws.length+ls.length<=900){Gl:Prop}(kk:∀p H',(Call (zb (P ns) 60 (m+1)) 185 [.obj da] H (.obj p) H')->(Ex H H')->(H[p]?=Gb)->(H'[p]?=G3 (.list ((fs++ws++ls).map .obj)))->Gl):Gl:=by
 have lp:∃L' H1,ForR (P ns) (zb (P ns) 60 m) 60 (bd f185 0) [2] G6 (.keys fd es) (es.map λe=>.str e.1) [.obj da,.obj H.length,.bad] (H++[O.list []]) .next (.obj da::.obj H.length::L') H1/\Ex H H1/\H1[H.length]?=G3 (.list (fs.map .obj)):=by
  rcases k.fl with⟨rfl,rfl⟩|⟨fl,rfl,hl⟩
  ·exact⟨_,_,yq,Ex.app _,ze⟩
  ·have hf:(H++[O.list []])[H.length]?=G3 (.list (([]:List Nat).map .obj)):=ze;have b':([]:List Nat).length+fs.length<=1000:=by rw[D3];exact om103 b
   refine⟨[.str [70]],(H++[O.list []]).set H.length (.list (fs.map .obj)),zX (as:=.g <|.o (datO wl ll fd sl z ix) <|.o (.dict [([70],.obj fl)]) <|.o (.list []) <|.o (.list (fs.map .obj)) <|.g <|.h ((H++[O.list []]).set H.length (.list (fs.map .obj))) .nil) rfl
    (ok (I (zQ (b:=.extend) hf) <|I (zd (N:=[O.list []]) hd) <|I (zd (N:=[O.list []]) k.fd) <|I hf <|I (zd (N:=[O.list []]) hl) <|I (XC b') <|I (rfl:(H++[O.list []]).set H.length (.list (fs.map .obj))=(H++[O.list []]).set H.length (.list (fs.map .obj))) <|
     fin3 .next [.obj da,.obj H.length,.str [70]] ((H++[O.list []]).set H.length (.list (fs.map .obj)))) (by kernel_rfl)) (jA (zw (zd k.fd) λe=>?_)) yq,(Ex.app _).set yH _,zV ze⟩
   have q:=k.fd;rw[←e,yH] at q;cases q
 refine zF (lp) ?_;clear lp;intro L' H1 w e1 f1;have k1:=k.ex e1;have e2:=e1.trans (Ex.app [O.list ((fs++ws).map .obj)]);have k2:=k.ex e2;have b1:fs.length+ws.length<=1000:=by exact om105 b
 have b2:(fs++ws).length+ls.length<=1000:=by rw[Gr];exact om107 b
 refine kk ((H1++[O.list ((fs++ws).map .obj)]).length) (H1++[O.list ((fs++ws).map .obj)]++[O.list ((fs++ws++ls).map .obj)]) (zr (as:=.o (datO wl ll fd sl z ix) <|.it (.keys fd es) <|.l .next (.obj da::.obj H.length::L') H1 <|.o (datO wl ll fd sl z ix) <|.o (.list (fs.map .obj)) <|.o (.list (ws.map .obj)) <|.g <|.o (datO wl ll fd sl z ix) <|.o (.list ((fs++ws).map .obj)) <|.o (.list (ls.map .obj)) <|.g .nil)
  (ok (I (zd (N:=[O.list []]) hd) <|I (yV (zd (N:=[O.list []]) k.fd)) <|I w <|I (e1 _ _ hd) <|I f1 <|I k1.wl <|I (XC b1) <|I (by rw[Zw];exact e2 _ _ hd:(H1++[O.list (fs.map V.obj++ws.map V.obj)])[da]?=G3 (datO wl ll fd sl z ix)) <|I (by rw[Zw];exact ze:(H1++[O.list (fs.map V.obj++ws.map V.obj)])[H1.length]?=G3 (.list ((fs++ws).map .obj))) <|
   I (by rw[Zw];exact k2.ll:(H1++[O.list (fs.map V.obj++ws.map V.obj)])[ll]?=G3 (.list (ls.map .obj))) <|I (XC b2) <|I (by rw[Zw]:V.obj (H1++[O.list (fs.map V.obj++ws.map V.obj)]).length=V.obj (H1++[O.list ((fs++ws).map V.obj)]).length) (by rw[Zw,Zw]:H1++[O.list (fs.map V.obj++ws.map V.obj)]++[O.list ((fs++ws).map V.obj++ls.map V.obj)]=H1++[O.list ((fs++ws).map .obj)]++[O.list ((fs++ws++ls).map .obj)])) (by kernel_rfl))) (e2.trans (Ex.app _)) (e2.no yH) ze
noncomputable def RPre(T:St):List Nat->List Nat->Prop
 |[],all=>all=[]
 |a::r,all=>∃f x y,Pre T f [a] x/\nc f<=50/\RPre T r y/\all=x++y
theorem ai_loop{m ip fp da:Nat}{rs:List Nat}(n0:H[fp]?=Gb)(iv:Inv T H)(ni:ip≠fp):∀(as all Dn:List Nat) (H1:Hp) (x:V),Ex H H1->H1[ip]?=G3 (.list (rs.map .obj))->H1[fp]?=G3 (.list (Dn.map .obj))->RPre T as all->Dn.length+all.length<=900->
  ∃L' H2,ForR (P ns) (zb (P ns) 60 (m+1)) 60 (bd f199 0) [2] G6 (.lst ip (rs.map .obj)) (as.map .obj) [.obj da,.obj fp,x] H1 .next (.obj da::.obj fp::L') H2/\Ex H H2/\H2[fp]?=G3 (.list ((Dn++all).map .obj)):=by
 intro as
 induction as with
 |nil=>intro all Dn H1 x e hi hf pr b;have q:all=[]:=pr;rw[q,D5];exact⟨_,_,yq,e,hf⟩
 |cons a r ih=>
  intro all Dn H1 x e hi hf pr b;refine XN (pr) ?_;clear pr;intro f u v p1 p2 p3 rq6;subst rq6;rw[Gr] at b;refine KH (ns:=ns) (m:=m) ((Le.ex e).inv iv) p1 p2 ?_;intro H2 c e2 q;have hf2:=e2 _ _ hf;have hi2:=e2 _ _ hi;have b':Dn.length+u.length<=1000:=by exact om104 b
  obtain⟨L',H3,w,e3,q3⟩:=ih v (Dn++u) (H2.set fp (.list ((Dn++u).map .obj))) (.obj a) ((e.trans e2).set n0 _) (zw hi2 ni.symm) (zV hf2) p3 (by rw[Gr];exact om106 b);rw[Gw] at q3;exact⟨L',H3,zX (as:=.g <|.c (.obj H1.length) H2 <|.o (.list (Dn.map .obj)) <|.o (.list (u.map .obj)) <|.g <|.h (H2.set fp (.list ((Dn++u).map .obj))) .nil) rfl
   (ok (I (zQ (b:=.extend) hf) <|I c <|I hf2 <|I q <|I (XC b') <|I (by rw[Zw]:H2.set fp (.list (Dn.map V.obj++u.map V.obj))=H2.set fp (.list ((Dn++u).map .obj))) <|fin3 .next [.obj da,.obj fp,.obj a] (H2.set fp (.list ((Dn++u).map .obj)))) (by kernel_rfl)) (zl (zw hi2 ni.symm)) w,e3,q3⟩
theorem XH{m da wl ll fd sl z ix:Nat}{es:List (List Nat×V)}{fs ws ls all:List Nat}(hd:H[da]?=G3 (datO wl ll fd sl z ix))(k:Dat H wl ll fd es fs ws ls)(b:fs.length+ws.length+ls.length<=900)(iv:Inv T H)(pr:RPre T (fs++ws++ls) all)(b2:all.length<=900){Gl:Prop}(kk:∀H',(Call (zb (P ns) 60 (m+2)) 199 [.obj da] H (.obj H.length) H')->(Ex H H')->(H'[H.length]?=G3 (.list (all.map .obj)))->Gl):Gl:=by
 have e0:Ex H (H++[O.list []]):=Ex.app _;refine rec_call (ns:=ns) (m:=m) (e0 _ _ hd) (k.ex e0) b ?_;intro p H1 c1 e1 np hp;have hf:H1[H.length]?=G3 (.list (([]:List Nat).map .obj)):=e1 _ _ ze;have ni:p≠H.length:=λe=>by rw[e] at np;rw[ze] at np;cases np
 refine zF (ai_loop (ns:=ns) (m:=m) (da:=da) yH iv ni (fs++ws++ls) all [] H1 .bad (e0.trans e1) hp hf pr (by rw[D3,GZ];exact b2)) λL' H2 w e2 q=>?_;exact kk H2 (zr (as:=.c (.obj p) H1 <|.it (.lst p ((fs++ws++ls).map .obj)) <|.l .next (.obj da::.obj H.length::L') H2 .nil) (ok (I c1 <|I (zi hp) <|I w <|fin (.obj H.length) H2) (by kernel_rfl))) e2 q
end
end G
end
section
namespace G
open Mn
noncomputable def nmV(T:St)(a:Nat):V:=match T a with|some s=>.str s.d.name|none=>.bad
def mt(T:St)(nm:List Nat)(a:Nat):Bool:=match T a with|some s=>eqS s.d.name nm|none=>G7
def CAll(T:St)(as:List Nat):Prop:=∀a,a∈as->∃s anc,T a=G3 s/\s.par=anc.head?/\yj T anc/\anc.length < 50
section
variable {ns:List Int} {T:St} {H:Hp}
theorem YI{a:Nat}{s:SI}(t:T a=G3 s):nmV T a= .str s.d.name:=by show(match T a with|some s=>V.str s.d.name|none=>.bad)=_;rw[t]
theorem mt_eq{a:Nat}{s:SI}{nm:List Nat}(t:T a=G3 s):mt T nm a=eqS s.d.name nm:=by show(match T a with|some s=>eqS s.d.name nm|none=>G7)=_;rw[t]
theorem nm_comp{C:Orc}{it:It}(iv:Inv T H)(st:it.stands H=G6):∀(as:List Nat) (acc:List V),(∀a,a∈as->∃s,T a=G3 s)->
  ZA (ev (P ns) C (.a (.l 0) 22) X0) (cnd (P ns) C (.c (.bool G6))) 1 [] it (as.map .obj) acc H (acc.reverse++as.map (nmV T)) H:=by
 intro as
 induction as with
 |nil=>
  intro acc y2;exact by rw[show acc.reverse++([]:List Nat).map (nmV T)=acc.reverse from D5 _];exact kj
 |cons k r ih=>intro acc h;refine zj (h k (.head _)) λs t=>?_;obtain⟨⟨b,o,z,sh,h1⟩,_⟩:=iv k s t;have ih:=ih (nmV T k::acc) λq hq=>h q (.tail _ hq);rw[show acc.reverse++(k::r).map (nmV T)=(nmV T k::acc).reverse++r.map (nmV T) by rw[Dq,Gw];rfl];exact cpIn (H₁:=H) (as:=.nil) (as':=.o (zc s b o z sh) .nil) rfl (ok (I (rfl:G6=G6) (rfl:H=H)) (by kernel_rfl)) (ok (I h1 <|I (YI t).symm (rfl:H=H)) (by kernel_rfl)) st ih
theorem Pre.mem{T:St}: ∀(f:F) (as res:List Nat),Pre T f as res->∀a,a∈res->∃s,T a=G3 s:=by
 intro f
 induction f with
 |nil=>
  intro y0 y1 h y3 m;exact by rw[h.2] at m;cases m
 |node d k r ihk ihr=>
  intro y0 y1 h a m;refine kD (h) ?_;clear h;intro a' rs s x y rq5 t h1 h2 rq9;subst rq5;subst rq9;rcases Gp.mp m with rfl|m
  ·exact⟨s,t⟩
  ·exact(GL.mp m).elim (ihk _ _ h1 a) (ihr _ _ h2 a)
noncomputable abbrev tFil:List Nat:=[70,73,76,76,69,82]
theorem na_comp{C:Orc}{it:It}(iv:Inv T H)(st:it.stands H=G6):∀(as:List Nat) (acc:List V),yj T as->
  ∃us,us.length<=acc.length+as.length/\ZA (ev (P ns) C (.a (.l 0) 22) X0) (cnd (P ns) C (.cmp .ne (.a (.l 0) 22) (.g 15 (.str tFil)))) 1 [] it (as.map .obj) acc H us H:=by
 intro as
 induction as with
 |nil=>intro acc _;exact⟨acc.reverse,by rw[DC];exact GI _,kj⟩
 |cons k r ih=>
  intro acc ch;obtain⟨⟨s,t,_,_⟩,ch⟩:=ch;obtain⟨⟨b,o,z,sh,h1⟩,_⟩:=iv k s t;rcases q:eqS s.d.name tFil with _|_
  ·refine Gf (ih (.str s.d.name::acc) ch) λus w=>⟨us,?_,cpIn (H₁:=H) (as:=.o (zc s b o z sh) <|.b G6 .nil) (as':=.o (zc s b o z sh) .nil) rfl
    (ok (I h1 <|I (show G3 (!eqS s.d.name tFil)=G3 G6 by rw[q];rfl) <|I (rfl:G6=G6) (rfl:H=H)) (by kernel_rfl)) (ok (I h1 <|I (rfl:V.str s.d.name=V.str s.d.name) (rfl:H=H)) (by kernel_rfl)) st w.2⟩
   have l:=w.1;rw[GO] at l;rw[GO,←Fu,Nat.add_right_comm];exact l
  ·refine Gf (ih acc ch) λus w=>⟨us,Ga w.1 (DM (F5 _) _),cpOut (H₁:=H) (as:=.o (zc s b o z sh) <|.b G7 .nil) rfl
    (ok (I h1 <|I (show G3 (!eqS s.d.name tFil)=G3 G7 by rw[q];rfl) <|I (rfl:G7=G7) (rfl:H=H)) (by kernel_rfl)) st w.2⟩
theorem nr_call{m a:Nat}{s:SI}{anc:List Nat}(hm:Dp ns 1 m)(iv:Inv T H)(t:T a=G3 s)(pe:s.par=anc.head?)(ch:yj T anc)(l:anc.length < 50){Gl:Prop}(kk:∀p H',Call (zb (P ns) 60 (m+1)) 218 [.obj a] H (.obj p) H'->Ex H H'->Gl):Gl:=by
 have c:=ZQ (ns:=ns) iv t pe ch l;have e1:Ex H (H++[O.list (anc.map .obj)]):=Ex.app _;refine Gf (na_comp (ns:=ns) (C:=zb (P ns) 60 m) (it:=.lst H.length (anc.map .obj)) ((Le.ex e1).inv iv) (zl ze) anc [] ch) λus w=>?_;have g:Gj us.length 1000=G6:=Gk (Ga w.1 (Ga (Ii (GZ _)) (Ga (DO l) (by decide))));exact kk (H++[O.list (anc.map V.obj)]).length (H++[O.list (anc.map V.obj)]++[O.list us]) (zr (as:=.c (.obj H.length) (H++[O.list (anc.map V.obj)]) <|.it (.lst H.length (anc.map .obj)) <|.m us (H++[O.list (anc.map V.obj)]) <|.g .nil)
  (ok (I (c.at hm) <|I (zi (ze (H:=H) (o:=.list (anc.map .obj)))) <|I w.2 <|I g <|fin (.obj (H++[O.list (anc.map V.obj)]).length) (H++[O.list (anc.map V.obj)]++[O.list us])) (by kernel_rfl))) (e1.trans (Ex.app _))
theorem mn_call{m k:Nat}{s:SI}{anc:List Nat}(nm:List Nat)(hm:Dp ns 2 m)(iv:Inv T H)(t:T k=G3 s)(pe:s.par=anc.head?)(ch:yj T anc)(l:anc.length < 50){Gl:Prop}(kk:∀H',Call (zb (P ns) 60 (m+1)) 256 [.obj k,.str nm,.tup []] H (.bool (eqS s.d.name nm)) H'->Ex H H'->Gl):Gl:=by
 obtain⟨⟨b,o,z,sh,h1⟩,_⟩:=iv k s t;rcases q:eqS s.d.name nm with _|_<;>rw[q] at kk
 ·exact kk H (zr (as:=.o (zc s b o z sh) <|.b G6 .nil) (ok (I h1 <|I (show G3 (!eqS s.d.name nm)=G3 G6 by rw[q];rfl) <|fin (.bool G7) H) (by kernel_rfl))) (Ex.refl H)
 ·refine zj (GP (Ga (by decide:1<=2) hm)) λm' rq1=>?_;subst rq1;refine nr_call (ns:=ns) (m:=m') (Dm hm) iv t pe ch l ?_;intro p H' c e;exact kk H' (zr (as:=.o (zc s b o z sh) <|.b G7 <|.c (.obj p) H' <|.l .next [.obj k,.str nm,.tup [],.obj p,.bad] H' .nil)
   (ok (I h1 <|I (show G3 (!eqS s.d.name nm)=G3 G7 by rw[q];rfl) <|I c <|I (yq (P:=P ns) (C:=zb (P ns) 60 (m'+ 1)) (w:=60) (b:=bd f256 0) (ks:=[4]) (one:=G6) (it:=.vals []) (L:=[.obj k,.str nm,.tup [],.obj p,.bad]) (H:=H')) <|fin (.bool G6) H') (by kernel_rfl))) e
noncomputable abbrev wntV(nm:List Nat):V:=.tup [.str [114,101,102],.str nm,.tup [],.tup [],.none]
theorem fm_comp{m ip:Nat}{nm:List Nat}{all:List Nat}(hm:Dp ns 3 m)(iv:Inv T H)(hi:H[ip]?=G3 (.list (all.map .obj))):∀(as:List Nat) (acc:List V) (H1:Hp),Ex H H1->CAll T as->
  ∃H2,Ex H H2/\ZA (ev (P ns) (zb (P ns) 60 m) (.l 0) X0) (cnd (P ns) (zb (P ns) 60 m) (.call 256 (.cons K0 (.cons (.idx K1 K4) (.cons (.idx K1 K23) .nil))))) 1 [wntV nm] (.lst ip (all.map .obj)) (as.map .obj) acc H1 (acc.reverse++(as.filter (mt T nm)).map .obj) H2:=by
 refine zj (GP (Ga (by decide:1<=3) hm)) λm rq1=>?_;subst rq1;have hm:Dp ns 2 m:=Dm hm;intro as
 induction as with
 |nil=>intro acc H1 e _;exact⟨H1,e,by rw[show acc.reverse++(([]:List Nat).filter (mt T nm)).map V.obj=acc.reverse from D5 _];exact kj⟩
 |cons k r ih=>
  intro acc H1 e ca;refine yz (ca k (.head _)) λs anc t pe ch l=>?_;refine mn_call (ns:=ns) (m:=m) nm hm ((Le.ex e).inv iv) t pe ch l ?_;intro H2 c e2;have e3:=e.trans e2;have st:=zl (e3 _ _ hi);have ca:=λq hq=>ca q (.tail _ hq);rcases q:eqS s.d.name nm with _|_<;>rw[q] at c
  ·rw[show(k::r).filter (mt T nm)=r.filter (mt T nm) from Ff (by rw[mt_eq t,q];exact G4)];exact Gf (ih acc H2 e3 ca) λH3 w=>⟨H3,w.1,cpOut (H₁:=H2) (as:=.c (.bool G7) H2 .nil) rfl (ok (I c <|I (rfl:G7=G7) (rfl:H2=H2)) (by kernel_rfl)) st w.2⟩
  ·rw[show(k::r).filter (mt T nm)=k::r.filter (mt T nm) from Fe (by rw[mt_eq t,q])];have ih:=ih (.obj k::acc) H2 e3 ca;rw[show acc.reverse++(k::r.filter (mt T nm)).map V.obj=(V.obj k::acc).reverse++(r.filter (mt T nm)).map .obj by rw[Dq,Gw];rfl];exact Gf ih λH3 w=>⟨H3,w.1,cpIn (H₁:=H2) (H₂:=H2) (u:=.obj k) (as:=.c (.bool G6) H2 .nil) (as':=.nil) rfl (ok (I c <|I (rfl:G6=G6) (rfl:H2=H2)) (by kernel_rfl)) (ok (I (rfl:V.obj k=V.obj k) (rfl:H2=H2)) (by kernel_rfl)) st w.2⟩
theorem eq_nil{i j:Nat}{as:List Nat}{H:Hp}(h:H[i]?=G3 (.list (as.map .obj)))(h2:H[j]?=G3 (.list [])):yg .eq (.obj i) (.obj j) H=G3 (!nb as):=by
 show(match H[i]? with|some (.list vs)=>(match H[j]? with|some (.list us)=>(match Gi vs.length us.length with|true=>eqFs vs us|false=>G3 G7)|_=>Gb)|_=>Gb)=_;rw[h,h2];rcases as with _|⟨a,r⟩<;>rfl
theorem ZI{i:Nat}{x:List Nat}{vs:List V}{H:Hp}(h:H[i]?=G3 (.list vs)):isin (.str x) (.obj i) H=inVs x vs:=by show(match H[i]? with|some (.list vs)=>inVs x vs|some (.dict es)=>G3 (getD x es).isSome|_=>Gb)=_;rw[h]
theorem jb{i:Nat}{x:List Nat}{es:List (List Nat×V)}{H:Hp}(h:H[i]?=G3 (.dict es)):isin (.str x) (.obj i) H=G3 (getD x es).isSome:=by show(match H[i]? with|some (.list vs)=>inVs x vs|some (.dict es)=>G3 (getD x es).isSome|_=>Gb)=_;rw[h]
theorem JZ(p:Nat->Bool)(as:List Nat){n:Nat}(h:as.length<=n):Gj ((as.filter p).map V.obj).length n=G6:=by rw[Gs];exact Gk (Ga (List.length_filter_le _ _) h)
theorem uu{m a:Nat}{s:SI}{c:Oc}{f:F}{x:List Nat}(iv:Inv T H)(t:T a=G3 s)(pr:Pre T f [a] x)(b:nc f<=50)(oc:s.d.oc=G3 c){Gl:Prop}
  (kk:∀H1 b o z sh,Call (zb (P ns) 60 (m+1)) 192 [.obj a] H (.obj H.length) H1->H1[H.length]?=G3 (.list (x.map .obj))->
   (∀C,ZA (ev (P ns) C (.a (.l 0) 22) X0) (cnd (P ns) C (.c (.bool G6))) 1 [] (.lst H.length (x.map .obj)) (x.map .obj) [] H1 (x.map (nmV T)) H1)->Gj (x.map (nmV T)).length 1000=G6->
   Ex H (H1++[O.list (x.map (nmV T))])->(H1++[O.list (x.map (nmV T))])[a]?=G3 (zG s (.obj s.oc) (parV s.par) b o z sh)->(H1++[O.list (x.map (nmV T))])[s.oc]?=G3 (occO c s.d.often)->Gl):Gl:=by
 refine KH (ns:=ns) (m:=m) iv pr b ?_;intro H1 c1 e1 q;have iv1:=(Le.ex e1).inv iv;have e2:=e1.trans (Ex.app [O.list (x.map (nmV T))]);obtain⟨⟨b0,o,z,sh,h0⟩,sd⟩:=(Le.ex e2).inv iv a s t;have h1:=yJ h0 oc;have h2:(H1++[O.list (x.map (nmV T))])[s.oc]?=G3 (occO c s.d.often):=by
  rcases sd.occ with⟨e,_⟩|⟨c',e,h⟩
  ·rw[e] at oc;cases oc
  ·rw[oc] at e;cases e;exact h
 have bx:Gj (x.map (nmV T)).length 1000=G6:=by rw[Gs,(pr.len).2];exact Gk (Ga b (by decide))
 exact kk H1 b0 o z sh c1 q (λC=>nm_comp (ns:=ns) iv1 (zl q) x [] (Pre.mem _ _ _ pr)) bx e2 h1 h2
theorem co_no{m a da lo:Nat}{ix:Option (List Nat)}{s:SI}{f:F}{x:List Nat}(iv:Inv T H)(t:T a=G3 s)(pr:Pre T f [a] x)(b:nc f<=50)(oc:s.d.oc=G3 ⟨lo,Gb,Gb,ix⟩){Gl:Prop}(kk:∀H',(Call (zb (P ns) 60 (m+2)) 695 [.obj da,.obj a] H .none H')->(Ex H H')->Gl):Gl:=by
 refine uu (ns:=ns) (m:=m) iv t pr b oc ?_;intro H1 b0 o z sh c q w bx e2 h1 h2;exact kk _ (zr (as:=.c (.obj H.length) H1 <|.it (.lst H.length (x.map .obj)) <|.m (x.map (nmV T)) H1 <|.g <|.o (zG s (.obj s.oc) (parV s.par) b0 o z sh) <|.o (occO ⟨lo,Gb,Gb,ix⟩ s.d.often) <|.o (zG s (.obj s.oc) (parV s.par) b0 o z sh) <|.o (occO ⟨lo,Gb,Gb,ix⟩ s.d.often) <|.l .next [.obj da,.obj a,.obj H1.length,.bad,.bad,.bad] (H1++[O.list (x.map (nmV T))]) .nil)
  (ok (I c <|I (zi q) <|I (w (zb (P ns) 60 (m+1))) <|I bx <|I h1 <|I h2 <|I h1 <|I h2 <|I (yq (P:=P ns) (C:=zb (P ns) 60 (m+1)) (w:=60) (b:=bd f695 0) (ks:=[4,5]) (one:=G7) (it:=.vals []) (L:=[.obj da,.obj a,.obj H1.length,.bad,.bad,.bad]) (H:=H1++[O.list (x.map (nmV T))])) <|fin .none (H1++[O.list (x.map (nmV T))])) (by kernel_rfl))) e2
theorem co_keyX{m a da lo n:Nat}{kb:Bool}{ky:List Nat}{ix:Option (List Nat)}{s:SI}{f:F}{x:List Nat}(iv:Inv T H)(t:T a=G3 s)(pr:Pre T f [a] x)(b:nc f<=50)(oc:s.d.oc=G3 ⟨lo,Gb,G3 (kb,ky),ix⟩)(nk:inVs ky (x.map (nmV T))=G3 G7)(lk:ky.length=n)(ln:n<=100)(hn:s.d.name.length<=100):∃H',yc (zb (P ns) 60 (m+2)) 695 [.obj da,.obj a] H 72 H'/\Ex H H':=by
 refine uu (ns:=ns) (m:=m) iv t pr b oc ?_;intro H1 b0 o z sh c q w bx e2 h1 h2;have nH:(H1++[O.list (x.map (nmV T))])[H1.length]?=G3 (.list (x.map (nmV T))):=ze;have lp:ForX (P ns) (zb (P ns) 60 (m+1)) 60 (bd f695 0) [4,5] G7 (.vals [.tup [.bool kb,.str ky]]) [.tup [.bool kb,.str ky]] [.obj da,.obj a,.obj H1.length,.bad,.bad,.bad] (H1++[O.list (x.map (nmV T))]) 72 (H1++[O.list (x.map (nmV T))]):=
  Xs (L₁:=[.obj da,.obj a,.obj H1.length,.bad,.bool kb,.str ky]) (as:=.b G6 <|.g <|.g <|.o (zG s (.obj s.oc) (parV s.par) b0 o z sh) <|.g .nil) rfl
   (ok (I (show(isin (.str ky) (.obj H1.length) (H1++[O.list (x.map (nmV T))])).map (!·)=G3 G6 by rw[ZI nH,nk];rfl) <|I (Gk (by rw[lk];omega):Gj (31+ky.length) 1000=G6) <|I (Gk (by rw[Gr,lk];simp only[GO,D3];omega):Gj (([97,32,107,101,121,32,116,104,97,116,32,105,115,32,110,111,116,32,105,110,32,116,104,101,32,116,97,98,108,101,32]++ky).length+2) 1000=G6) <|I h1 <|
    I (Gk (by rw[Gr,Gr,lk];simp only[GO,D3];omega):Gj (([97,32,107,101,121,32,116,104,97,116,32,105,115,32,110,111,116,32,105,110,32,116,104,101,32,116,97,98,108,101,32]++ky++[58,32]).length+s.d.name.length) 1000=G6) <|finX 72 (H1++[O.list (x.map (nmV T))])) (by kernel_rfl))
 exact⟨_,zv (as:=.c (.obj H.length) H1 <|.it (.lst H.length (x.map .obj)) <|.m (x.map (nmV T)) H1 <|.g <|.o (zG s (.obj s.oc) (parV s.par) b0 o z sh) <|.o (occO ⟨lo,Gb,G3 (kb,ky),ix⟩ s.d.often) <|.o (zG s (.obj s.oc) (parV s.par) b0 o z sh) <|.o (occO ⟨lo,Gb,G3 (kb,ky),ix⟩ s.d.often) <|.x 72 (H1++[O.list (x.map (nmV T))]))
  (ok (I c <|I (zi q) <|I (w (zb (P ns) 60 (m+1))) <|I bx <|I h1 <|I h2 <|I h1 <|I h2 <|I lp <|finX 72 (H1++[O.list (x.map (nmV T))])) (by kernel_rfl)),e2⟩
theorem co_dep{m a da wl ll fd sl z0 ixa:Nat}{es:List (List Nat×V)}{fs ws ls all:List Nat}{s:SI}{c:Oc}{f:F}{x nm:List Nat}(hd:H[da]?=G3 (datO wl ll fd sl z0 ixa))(k:Dat H wl ll fd es fs ws ls)(bb:fs.length+ws.length+ls.length<=900)(pr2:RPre T (fs++ws++ls) all)(b2:all.length<=900)(ca:CAll T all)
  (iv:Inv T H) (t:T a=G3 s) (pr:Pre T f [a] x) (b:nc f<=50) (oc:s.d.oc=G3 c) {Gl:Prop}
  (kk:∀H1 H2 H3 H4 b0 o z sh b1 o1 z1 sh1,H2=H1++[O.list (x.map (nmV T))]->Call (zb (P ns) 60 (m+4)) 192 [.obj a] H (.obj H.length) H1->H1[H.length]?=G3 (.list (x.map .obj))->
   ZA (ev (P ns) (zb (P ns) 60 (m+4)) (.a (.l 0) 22) X0) (cnd (P ns) (zb (P ns) 60 (m+4)) (.c (.bool G6))) 1 [] (.lst H.length (x.map .obj)) (x.map .obj) [] H1 (x.map (nmV T)) H1->Gj (x.map (nmV T)).length 1000=G6->
   H2[a]?=G3 (zG s (.obj s.oc) (parV s.par) b0 o z sh)->H2[s.oc]?=G3 (occO c s.d.often)->
   Call (zb (P ns) 60 (m+4)) 199 [.obj da] H2 (.obj H2.length) H3->H3[H2.length]?=G3 (.list (all.map .obj))->
   ZA (ev (P ns) (zb (P ns) 60 (m+4)) (.l 0) X0) (cnd (P ns) (zb (P ns) 60 (m+4)) (.call 256 (.cons K0 (.cons (.idx K1 K4) (.cons (.idx K1 K23) .nil))))) 1 [wntV nm] (.lst H2.length (all.map .obj)) (all.map .obj) [] H3 ((all.filter (mt T nm)).map .obj) H4->
   Gj ((all.filter (mt T nm)).map V.obj).length 1000=G6->
   yg .eq (.obj H4.length) (.obj (H4++[O.list ((all.filter (mt T nm)).map .obj)]).length) (H4++[O.list ((all.filter (mt T nm)).map .obj)]++[O.list []])=G3 (!nb (all.filter (mt T nm)))->
   Ex H (H4++[O.list ((all.filter (mt T nm)).map .obj)]++[O.list []])->(H4++[O.list ((all.filter (mt T nm)).map .obj)]++[O.list []])[a]?=G3 (zG s (.obj s.oc) (parV s.par) b1 o1 z1 sh1)->(H4++[O.list ((all.filter (mt T nm)).map .obj)]++[O.list []])[s.oc]?=G3 (occO c s.d.often)->
   (H4++[O.list ((all.filter (mt T nm)).map .obj)]++[O.list []])[H1.length]?=G3 (.list (x.map (nmV T)))->Gl):Gl:=by
 refine uu (ns:=ns) (m:=m+3) iv t pr b oc ?_;intro H1 b0 o z sh c1 q w bx e2 h1 h2;obtain⟨H2,q2⟩:∃X,X=H1++[O.list (x.map (nmV T))]:=⟨_,rfl⟩;have nH:(H1++[O.list (x.map (nmV T))])[H1.length]?=G3 (.list (x.map (nmV T))):=ze;rw[←q2] at e2 h1 h2 nH;have iv2:=(Le.ex e2).inv iv;refine XH (ns:=ns) (m:=m+2) (e2 _ _ hd) (k.ex e2) bb iv2 pr2 b2 ?_;intro H3 c3 e3 q3;have iv3:=(Le.ex e3).inv iv2;refine za (fm_comp (ns:=ns) (m:=m+4) (nm:=nm) (GF 3 (m+1)) iv3 q3 all [] H3 (Ex.refl _) ca) λH4 e4 w4=>?_;have e6:Ex H4 (H4++[O.list ((all.filter (mt T nm)).map .obj)]++[O.list []]):=(Ex.app _).trans (Ex.app _);have e26:=(e3.trans e4).trans e6;exact kk H1 H2 H3 H4 b0 o z sh b0 o z sh q2 c1 q (w _) bx h1 h2 c3 q3 w4 (JZ _ _ (Ga b2 (by decide))) (eq_nil (zd ze) ze) (e2.trans e26) (e26 _ _ h1) (e26 _ _ h2) (e26 _ _ nH)
theorem co_yes{m a da wl ll fd sl z0 ixa lo:Nat}{es:List (List Nat×V)}{fs ws ls all:List Nat}{s:SI}{kb:Bool}{f:F}{x nm ky:List Nat}{ix:Option (List Nat)}(hd:H[da]?=G3 (datO wl ll fd sl z0 ixa))(k:Dat H wl ll fd es fs ws ls)(bb:fs.length+ws.length+ls.length<=900)(pr2:RPre T (fs++ws++ls) all)(b2:all.length<=900)(ca:CAll T all)
  (iv:Inv T H) (t:T a=G3 s) (pr:Pre T f [a] x) (b:nc f<=50) (oc:s.d.oc=G3 ⟨lo,G3 nm,G3 (kb,ky),ix⟩) (n1:nb (all.filter (mt T nm))=G6) (n2:inVs nm (x.map (nmV T))=G3 G7) (n3:inVs ky (x.map (nmV T))=G3 G6) {Gl:Prop} (kG:∀H',(Call (zb (P ns) 60 (m+5)) 695 [.obj da,.obj a] H .none H')->(Ex H H')->Gl):Gl:=by
 refine co_dep (ns:=ns) (m:=m) (nm:=nm) hd k bb pr2 b2 ca iv t pr b oc ?_;intro H1 H2 H3 H4 b0 o z sh b1 o1 z1 sh1 e2 c1 q1 w1 g1 h1 h2 c3 q3 w3 g3 eq x6 h6 o6 n6;obtain⟨H6,e6⟩:∃X,X=H4++[O.list ((all.filter (mt T nm)).map V.obj)]++[O.list []]:=⟨_,rfl⟩;rw[n1] at eq;have lp:ForR (P ns) (zb (P ns) 60 (m+4)) 60 (bd f695 0) [4,5] G7 (.vals [.tup [.bool kb,.str ky]]) [.tup [.bool kb,.str ky]] [.obj da,.obj a,.obj H1.length,wntV nm,.bad,.bad] H6 .next [.obj da,.obj a,.obj H1.length,wntV nm,.bool kb,.str ky] H6:=
  zX (L₁:=[.obj da,.obj a,.obj H1.length,wntV nm,.bool kb,.str ky]) (as:=.b G7 .nil) rfl
   (ok (I (show(isin (.str ky) (.obj H1.length) H6).map (!·)=G3 G7 by rw[e6,ZI n6,n3];rfl) <|fin3 .next [.obj da,.obj a,.obj H1.length,wntV nm,.bool kb,.str ky] H6) (by kernel_rfl)) rfl yq
 subst e2;subst e6;refine kG _ (zr (as:=.c (.obj H.length) H1 <|.it (.lst H.length (x.map .obj)) <|.m (x.map (nmV T)) H1 <|.g <|.o (zG s (.obj s.oc) (parV s.par) b0 o z sh) <|.o (occO ⟨lo,G3 nm,G3 (kb,ky),ix⟩ s.d.often) <|.o (zG s (.obj s.oc) (parV s.par) b0 o z sh) <|.o (occO ⟨lo,G3 nm,G3 (kb,ky),ix⟩ s.d.often) <|
   .c (.obj (H1++[O.list (x.map (nmV T))]).length) H3 <|.it (.lst (H1++[O.list (x.map (nmV T))]).length (all.map .obj)) <|.m ((all.filter (mt T nm)).map .obj) H4 <|.g <|.b G7 <|.w (.str nm) <|.b G7 <|.o (zG s (.obj s.oc) (parV s.par) b1 o1 z1 sh1) <|.o (occO ⟨lo,G3 nm,G3 (kb,ky),ix⟩ s.d.often) <|.l .next [.obj da,.obj a,.obj H1.length,wntV nm,.bool kb,.str ky] (H4++[O.list ((all.filter (mt T nm)).map V.obj)]++[O.list []]) .nil)
  (ok (I c1 <|I (zi q1) <|I w1 <|I g1 <|I h1 <|I h2 <|I h1 <|I h2 <|I c3 <|I (zi q3) <|I w3 <|I g3 <|I eq <|I (rfl:G3 (V.str nm)=G3 (V.str nm)) <|I (show isin (.str nm) (.obj H1.length) (H4++[O.list ((all.filter (mt T nm)).map V.obj)]++[O.list []])=G3 G7 by rw[ZI n6,n2]) <|I h6 <|I o6 <|I lp <|fin .none (H4++[O.list ((all.filter (mt T nm)).map V.obj)]++[O.list []])) (by kernel_rfl))) x6
theorem nmG{s:SI}(n:Nat)(hn:s.d.name.length<=100)(h:Gj n 900=G6:=by rfl):Gj (n+s.d.name.length) 1000=G6:=Gk (Ih (G5 h) hn)
theorem uw{m a da wl ll fd sl z0 ixa lo:Nat}{es:List (List Nat×V)}{fs ws ls all:List Nat}{s:SI}{f:F}{x nm:List Nat}{ky:Option (Bool×List Nat)}{ix:Option (List Nat)}(hd:H[da]?=G3 (datO wl ll fd sl z0 ixa))(k:Dat H wl ll fd es fs ws ls)(bb:fs.length+ws.length+ls.length<=900)(pr2:RPre T (fs++ws++ls) all)(b2:all.length<=900)(ca:CAll T all)
  (iv:Inv T H) (t:T a=G3 s) (pr:Pre T f [a] x) (b:nc f<=50) (oc:s.d.oc=G3 ⟨lo,G3 nm,ky,ix⟩) (nn:nb (all.filter (mt T nm))=G7∨nb (all.filter (mt T nm))=G6/\inVs nm (x.map (nmV T))=G3 G6) (hn:s.d.name.length<=100):∃H',yc (zb (P ns) 60 (m+5)) 695 [.obj da,.obj a] H 72 H'/\Ex H H':=by
 refine co_dep (ns:=ns) (m:=m) (nm:=nm) hd k bb pr2 b2 ca iv t pr b oc ?_;intro H1 H2 H3 H4 b0 o z sh b1 o1 z1 sh1 e2 c1 q1 w1 g1 h1 h2 c3 q3 w3 g3 eq x6 h6 o6 n6;subst e2;rcases nn with n1|⟨n1,n2⟩
 ·rw[n1] at eq;exact⟨_,zv (as:=.c (.obj H.length) H1 <|.it (.lst H.length (x.map .obj)) <|.m (x.map (nmV T)) H1 <|.g <|.o (zG s (.obj s.oc) (parV s.par) b0 o z sh) <|.o (occO ⟨lo,G3 nm,ky,ix⟩ s.d.often) <|.o (zG s (.obj s.oc) (parV s.par) b0 o z sh) <|.o (occO ⟨lo,G3 nm,ky,ix⟩ s.d.often) <|
   .c (.obj (H1++[O.list (x.map (nmV T))]).length) H3 <|.it (.lst (H1++[O.list (x.map (nmV T))]).length (all.map .obj)) <|.m ((all.filter (mt T nm)).map .obj) H4 <|.g <|.b G6 <|.o (zG s (.obj s.oc) (parV s.par) b1 o1 z1 sh1) <|.g .nil)
  (ok (I c1 <|I (zi q1) <|I w1 <|I g1 <|I h1 <|I h2 <|I h1 <|I h2 <|I c3 <|I (zi q3) <|I w3 <|I g3 <|I eq <|I h6 <|I (nmG 22 hn) <|finX 72 (H4++[O.list ((all.filter (mt T nm)).map V.obj)]++[O.list []])) (by kernel_rfl)),x6⟩
 ·rw[n1] at eq;exact⟨_,zv (as:=.c (.obj H.length) H1 <|.it (.lst H.length (x.map .obj)) <|.m (x.map (nmV T)) H1 <|.g <|.o (zG s (.obj s.oc) (parV s.par) b0 o z sh) <|.o (occO ⟨lo,G3 nm,ky,ix⟩ s.d.often) <|.o (zG s (.obj s.oc) (parV s.par) b0 o z sh) <|.o (occO ⟨lo,G3 nm,ky,ix⟩ s.d.often) <|
   .c (.obj (H1++[O.list (x.map (nmV T))]).length) H3 <|.it (.lst (H1++[O.list (x.map (nmV T))]).length (all.map .obj)) <|.m ((all.filter (mt T nm)).map .obj) H4 <|.g <|.b G7 <|.w (.str nm) <|.b G6 <|.b G6 <|.o (zG s (.obj s.oc) (parV s.par) b1 o1 z1 sh1) <|.g .nil)
  (ok (I c1 <|I (zi q1) <|I w1 <|I g1 <|I h1 <|I h2 <|I h1 <|I h2 <|I c3 <|I (zi q3) <|I w3 <|I g3 <|I eq <|I (rfl:G3 (V.str nm)=G3 (V.str nm)) <|I (show isin (.str nm) (.obj H1.length) (H4++[O.list ((all.filter (mt T nm)).map V.obj)]++[O.list []])=G3 G6 by rw[ZI n6,n2]) <|I (rfl:G6=G6) <|I h6 <|I (nmG 27 hn) <|finX 72 (H4++[O.list ((all.filter (mt T nm)).map V.obj)]++[O.list []])) (by kernel_rfl)),x6⟩
theorem Inv.dic{H':Hp}{p:Nat}{es:List (List Nat×V)}(iv:Inv T H)(hd:H[p]?=G3 (.dict es))(e:ExA p H H'):Inv T H':=λa s t=>by obtain⟨⟨b,o,z,sh,h0⟩,h1,h2⟩:=iv a s t;exact⟨⟨b,o,z,sh,e _ _ h0 (zp h0 hd nofun).symm⟩,e _ _ h1 (zp h1 hd nofun).symm,h2.imp id λh2=>h2.elim λc h2=>⟨c,h2.1,e _ _ h2.2 (zp h2.2 hd nofun).symm⟩⟩
theorem Inv.dat{H':Hp}{da wl ll fd sl z ix:Nat}(iv:Inv T H)(hd:H[da]?=G3 (datO wl ll fd sl z ix))(e:ExA da H H'):Inv T H':=λa s t=>by obtain⟨⟨b,o,z,sh,h0⟩,h1,h2⟩:=iv a s t;exact⟨⟨b,o,z,sh,e _ _ h0 (zp h0 hd λe=>by cases e).symm⟩,e _ _ h1 (zp h1 hd nofun).symm,h2.imp id λh2=>h2.elim λc h2=>⟨c,h2.1,e _ _ h2.2 (zp h2.2 hd λe=>by cases e).symm⟩⟩
theorem Dat.dat{H':Hp}{da wl ll fd sl z ix:Nat}{es:List (List Nat×V)}{fs ws ls:List Nat}(k:Dat H wl ll fd es fs ws ls)(hd:H[da]?=G3 (datO wl ll fd sl z ix))(e:ExA da H H'):Dat H' wl ll fd es fs ws ls:=
 ⟨e _ _ k.fd (zp k.fd hd nofun).symm,k.fl.imp id λ⟨x,a,b⟩=>⟨x,a,e _ _ b (zp b hd nofun).symm⟩,e _ _ k.wl (zp k.wl hd nofun).symm,e _ _ k.ll (zp k.ll hd nofun).symm⟩
noncomputable def ixO(o:Option Oc):Option (List Nat):=match o with|some c=>c.ix|none=>Gb
noncomputable def Ix(T:St):List Nat->List (List Nat×V)->List (List Nat×V)->Prop
 |[],es,es'=>es'=es
 |a::r,es,es'=>∃s,T a=G3 s/\(match ixO s.d.oc with
  |none=>Ix T r es es'
  |some nm=>getD nm es=Gb/\es.length < 900/\Ix T r (setD nm (.obj a) es) es')
theorem si_no{C:Orc}{k:Nat}{s:SI}{x y:V}{da:Nat}(iv:Inv T H)(t:T k=G3 s)(e:ixO s.d.oc=Gb){it:It}(st:it.stands H=G6){as:List V}{L':Lc}{H':Hp}(w:Fo (P ns) C 60 (bd f690 0) [1] G6 it as [.obj da,.obj k,y] H L' H'):Fo (P ns) C 60 (bd f690 0) [1] G6 it (.obj k::as) [.obj da,x,y] H L' H':=by
 obtain⟨⟨b,o,z,sh,h0⟩,_,oc⟩:=iv k s t;have fn:ForR (P ns) C 60 (bd f690 1) [2] G6 (.vals []) [] [.obj da,.obj k,y] H .next [.obj da,.obj k,y] H:=yq;rcases oc with⟨e2,_⟩|⟨c,e2,h1⟩
 ·exact .cons (as:=.o (zG s .none (parV s.par) b o z sh) <|.l .next [.obj da,.obj k,y] H .nil) rfl (ok (I (YM h0 e2) <|I fn <|fin3 .next [.obj da,.obj k,y] H) (by kernel_rfl)) st w
 ·have h0:=yJ h0 e2;obtain⟨lo,dp,ky,ix⟩:=c;rw[e2] at e;have e:ix=Gb:=e;subst e;exact .cons (as:=.o (zG s (.obj s.oc) (parV s.par) b o z sh) <|.o (zG s (.obj s.oc) (parV s.par) b o z sh) <|.o (occO ⟨lo,dp,ky,Gb⟩ s.d.often) <|.l .next [.obj da,.obj k,y] H .nil) rfl (ok (I h0 <|I h0 <|I h1 <|I fn <|fin3 .next [.obj da,.obj k,y] H) (by kernel_rfl)) st w
theorem Ka{C:Orc}{ip da ix wl ll fd sl z:Nat}{all:List Nat}:∀(as:List Nat) (es es':List (List Nat×V)) (x y:V) (H:Hp),Inv T H->H[da]?=G3 (datO wl ll fd sl z ix)->H[ix]?=G3 (.dict es)->H[ip]?=G3 (.list (all.map .obj))->Ix T as es es'->
  ∃x' y' H',Fo (P ns) C 60 (bd f690 0) [1] G6 (.lst ip (all.map .obj)) (as.map .obj) [.obj da,x,y] H [.obj da,x',y'] H'/\ExA ix H H'/\H'[ix]?=G3 (.dict es'):=by
 intro as
 induction as with
 |nil=>intro es es' x y H iv hd hx hi q;have q:es'=es:=q;rw[q];exact⟨x,y,H,.nil,λ_ _ h _=>h,hx⟩
 |cons k r ih=>
  intro es es' x y H iv hd hx hi q;refine za q λs t q=>?_;rcases e:ixO s.d.oc with _|nm
  ·rw[e] at q;refine Z3 (ih es es' (.obj k) y H iv hd hx hi q) λx' y' H' w e1 e2=>?_;exact⟨x',y',H',si_no iv t e (zl hi) w,e1,e2⟩
  ·rw[e] at q;obtain⟨n1,n2,q⟩:=q;obtain⟨⟨b,o,z0,sh,h0⟩,_,oc⟩:=iv k s t;rcases oc with⟨e2,_⟩|⟨c,e2,h1⟩
   ·rw[e2] at e;cases e
   ·have h0:=yJ h0 e2;obtain⟨lo,dp,ky,ixc⟩:=c;rw[e2] at e;have e:ixc=G3 nm:=e;subst e;have xA:ExA ix H (H.set ix (.dict (setD nm (.obj k) es))):=ExA.set _;have hi':=xA _ _ hi (zp hi hx nofun).symm;have fn:ForR (P ns) C 60 (bd f690 1) [2] G6 (.vals [.str nm]) [.str nm] [.obj da,.obj k,y] H .next [.obj da,.obj k,.str nm] (H.set ix (.dict (setD nm (.obj k) es))):=
     zX (as:=.o (datO wl ll fd sl z ix) <|.b G7 <|.o (datO wl ll fd sl z ix) <|.o (.dict es) <|.g <|.h (H.set ix (.dict (setD nm (.obj k) es))) .nil) rfl
      (ok (I hd <|I (show isin (.str nm) (.obj ix) H=G3 G7 by rw[jb hx,n1];rfl) <|I hd <|I hx <|I (Gk (De (M0 n2 (by decide))):D0 es.length 1000=G6) <|I (rfl:H.set ix (.dict (setD nm (.obj k) es))=H.set ix (.dict (setD nm (.obj k) es))) <|fin3 .next [.obj da,.obj k,.str nm] (H.set ix (.dict (setD nm (.obj k) es)))) (by kernel_rfl)) rfl yq
    refine Z3 (ih _ es' (.obj k) (.str nm) _ (iv.dic hx xA) (xA _ _ hd (zp hd hx nofun).symm) (zV hx) hi' q) λx' y' H' w e3 e4=>?_;exact⟨x',y',H',.cons (as:=.o (zG s (.obj s.oc) (parV s.par) b o z0 sh) <|.o (zG s (.obj s.oc) (parV s.par) b o z0 sh) <|.o (occO ⟨lo,dp,ky,G3 nm⟩ s.d.often) <|.l .next [.obj da,.obj k,.str nm] (H.set ix (.dict (setD nm (.obj k) es))) .nil) rfl
     (ok (I h0 <|I h0 <|I h1 <|I fn <|fin3 .next [.obj da,.obj k,.str nm] (H.set ix (.dict (setD nm (.obj k) es)))) (by kernel_rfl)) (zl hi') w,xA.trans e3,e4⟩
theorem ExA.old{H H' H'':Hp}{da ix:Nat}(a:ExA da H H')(b:ExA ix H' H'')(n:H[ix]?=Gb):ExA da H H'':=λi o h m=>b i o (a i o h m) λe=>by rw[e,n] at h;cases h
theorem si_pre{m da wl ll fd sl z ix:Nat}{es:List (List Nat×V)}{fs ws ls all:List Nat}(hd:H[da]?=G3 (datO wl ll fd sl z ix))(k:Dat H wl ll fd es fs ws ls)(b:fs.length+ws.length+ls.length<=900)(iv:Inv T H)(pr:RPre T (fs++ws++ls) all)(b2:all.length<=900){Gl:Prop}
  (kk:∀H2 H3,(H++[O.dict []])[da]?=G3 (datO wl ll fd sl z ix)->(H++[O.dict []]).set da (datO wl ll fd sl z H.length)=H2->Call (zb (P ns) 60 (m+2)) 199 [.obj da] H2 (.obj H2.length) H3->H3[H2.length]?=G3 (.list (all.map .obj))->ExA da H H3->Inv T H3->H3[da]?=G3 (datO wl ll fd sl z H.length)->H3[H.length]?=G3 (.dict [])->Gl):Gl:=by
 have h1:=zd (N:=[O.dict []]) hd;have hx:(H++[O.dict []])[H.length]?=G3 (.dict []):=ze;have e2:ExA da H ((H++[O.dict []]).set da (datO wl ll fd sl z H.length)):=(ExA.of (Ex.app _)).trans (ExA.set _);have h2:=zV (x:=datO wl ll fd sl z H.length) h1;have hx2:=(ExA.set (ap:=da) (datO wl ll fd sl z H.length)) _ _ hx (zp hx h1 nofun).symm;obtain⟨H2,q2⟩:∃X,X=(H++[O.dict []]).set da (datO wl ll fd sl z H.length):=⟨_,rfl⟩;rw[←q2] at e2 h2 hx2;have iv2:=iv.dat hd e2;refine XH (ns:=ns) (m:=m) h2 (k.dat hd e2) b iv2 pr b2 ?_;intro H3 c3 e3 q3;exact kk H2 H3 h1 q2.symm c3 q3 (e2.trans (.of e3)) ((Le.ex e3).inv iv2) (e3 _ _ h2) (e3 _ _ hx2)
theorem Kb{m da wl ll fd sl z ix:Nat}{es:List (List Nat×V)}{fs ws ls all:List Nat}{ei:List (List Nat×V)}(hd:H[da]?=G3 (datO wl ll fd sl z ix))(k:Dat H wl ll fd es fs ws ls)(b:fs.length+ws.length+ls.length<=900)(iv:Inv T H)(pr:RPre T (fs++ws++ls) all)(b2:all.length<=900)(xi:Ix T all [] ei) :
  ∃H',Call (zb (P ns) 60 (m+3)) 690 [.obj da] H .none H'/\ExA da H H'/\H'[da]?=G3 (datO wl ll fd sl z H.length)/\H'[H.length]?=G3 (.dict ei):=by
 refine si_pre (ns:=ns) (m:=m) hd k b iv pr b2 ?_;intro H2 H3 h1 q2 c3 q3 e3 iv3 hd3 hx3;refine Z3 (Ka (ns:=ns) (C:=zb (P ns) 60 (m+2)) (ip:=H2.length) (all:=all) all [] ei .bad .bad H3 iv3 hd3 hx3 q3 xi) λx' y' H4 w e4 hx4=>?_;exact⟨H4,zr (as:=.o (datO wl ll fd sl z ix) <|.h H2 <|.c (.obj H2.length) H3 <|.it (.lst H2.length (all.map .obj)) <|.l .next [.obj da,x',y'] H4 .nil)
  (ok (I h1 <|I q2 <|I c3 <|I (zi q3) <|I w.R <|fin .none H4) (by kernel_rfl)),e3.old e4 yH,e4 _ _ hd3 (zp hd3 hx3 nofun).symm,hx4⟩
theorem si_callX{m da wl ll fd sl z ix a:Nat}{es:List (List Nat×V)}{fs ws ls as bs:List Nat}{ei:List (List Nat×V)}{s:SI}{nm:List Nat}{v:V}(hd:H[da]?=G3 (datO wl ll fd sl z ix))(k:Dat H wl ll fd es fs ws ls)(b:fs.length+ws.length+ls.length<=900)(iv:Inv T H)(pr:RPre T (fs++ws++ls) (as++a::bs))(b2:(as++a::bs).length<=900)
  (xi:Ix T as [] ei) (t:T a=G3 s) (e:ixO s.d.oc=G3 nm) (g:getD nm ei=G3 v) (ln:nm.length<=100) (hn:s.d.name.length<=100):∃H',yc (zb (P ns) 60 (m+3)) 690 [.obj da] H 72 H'/\ExA da H H':=by
 refine si_pre (ns:=ns) (m:=m) hd k b iv pr b2 ?_;intro H2 H3 h1 q2 c3 q3 e3 iv3 hd3 hx3;refine Z3 (Ka (ns:=ns) (C:=zb (P ns) 60 (m+2)) (ip:=H2.length) (all:=as++a::bs) as [] ei .bad .bad H3 iv3 hd3 hx3 q3 xi) λx' y' H4 w e4 hx4=>?_;have hd4:=e4 _ _ hd3 (zp hd3 hx3 nofun).symm;obtain⟨⟨b,o,z0,sh,h0⟩,_,oc⟩:=iv3.dic hx3 e4 a s t;rcases oc with⟨e2,_⟩|⟨c,e2,h1'⟩
 ·rw[e2] at e;cases e
 ·have h0:=yJ h0 e2;obtain⟨lo,dp,ky,ixc⟩:=c;rw[e2] at e;have e:ixc=G3 nm:=e;subst e;have fn:ForX (P ns) (zb (P ns) 60 (m+2)) 60 (bd f690 1) [2] G6 (.vals [.str nm]) [.str nm] [.obj da,.obj a,y'] H4 72 H4:=
   Xs (L₁:=[.obj da,.obj a,.str nm]) (as:=.o (datO wl ll fd sl z H.length) <|.b G6 <|.g <|.g <|.o (zG s (.obj s.oc) (parV s.par) b o z0 sh) <|.g .nil) rfl
    (ok (I hd4 <|I (show isin (.str nm) (.obj H.length) H4=G3 G6 by rw[jb hx4,g];rfl) <|I (Gk (Ga (DM ln 23) (by decide)):Gj (23+nm.length) 1000=G6) <|I (Gk (by rw[Gr];simp only[GO,D3];omega):Gj (([97,110,32,105,110,100,101,120,32,111,102,32,116,119,111,32,116,97,98,108,101,115,32]++nm).length+2) 1000=G6) <|I h0 <|
     I (Gk (by rw[Gr,Gr];simp only[GO,D3];omega):Gj (([97,110,32,105,110,100,101,120,32,111,102,32,116,119,111,32,116,97,98,108,101,115,32]++nm++[58,32]).length+s.d.name.length) 1000=G6) <|finX 72 H4) (by kernel_rfl))
  have lp:ForX (P ns) (zb (P ns) 60 (m+2)) 60 (bd f690 0) [1] G6 (.lst H2.length ((as++a::bs).map .obj)) (V.obj a::bs.map .obj) [.obj da,x',y'] H4 72 H4:=
   Xs (L₁:=[.obj da,.obj a,y']) (as:=.o (zG s (.obj s.oc) (parV s.par) b o z0 sh) <|.o (zG s (.obj s.oc) (parV s.par) b o z0 sh) <|.o (occO ⟨lo,dp,ky,G3 nm⟩ s.d.often) <|.x 72 H4) rfl (ok (I h0 <|I h0 <|I h1' <|I fn <|finX 72 H4) (by kernel_rfl))
  have lp:=w.X lp;rw[show as.map V.obj++V.obj a::bs.map V.obj=(as++a::bs).map .obj by rw[GB];rfl] at lp;exact⟨H4,zv (as:=.o (datO wl ll fd sl z ix) <|.h H2 <|.c (.obj H2.length) H3 <|.it (.lst H2.length ((as++a::bs).map .obj)) <|.x 72 H4)
   (ok (I h1 <|I q2 <|I c3 <|I (zi q3) <|I lp <|finX 72 H4) (by kernel_rfl)),e3.old e4 yH⟩
end
end G
end
section
namespace G
open Mn
def DoneL(T:St)(H:Hp)(as:List Nat):Prop:=∀a,a∈as->∃base off d kids s,Root T base off d kids a s/\Done T H kids a s
theorem DoneL.mono{T:St}{H H':Hp}{as:List Nat}{ap:Nat}(h:DoneL T H as)(x:LeA T ap H H'):DoneL T H' as:=λa m=>by refine kE (h a m) λbase off d kids s r q=>?_;exact⟨base,off,d,kids,s,r,q.mono x⟩
theorem DoneL.cons{T:St}{H:Hp}{a:Nat}{as:List Nat}{base:List Nat}{off:Nat}{d:D}{kids:F}{s:SI}(r:Root T base off d kids a s)(q:Done T H kids a s)(h:DoneL T H as):DoneL T H (a::as):=λb m=>by
 rcases m with _|⟨_,m⟩
 ·exact⟨base,off,d,kids,s,r,q⟩
 ·exact h b m
theorem DoneL.nil{T:St}{H:Hp}:DoneL T H []:=λ_ m=>nomatch m
noncomputable def WRl(T:St):Nat->Nat->Option D->List Nat->Nat->Prop
 |e,_,_,[],e'=>e'=e
 |e,last,l,a::r,e'=>∃d kids s,Root T [] (ifN (fre d) e last) d kids a s/\(match fre d with
  |true=>WRl T (max e (e+d.size)) e (G3 d) r e'
  |false=>(∃x,l=G3 x/\x.name=d.upon/\x.oc=Gb/\eqS d.name d.upon=G7)/\WRl T (max e (last+d.size)) last l r e')
theorem maxN(a b:Nat):(max (GX a) (GX b):Int)=GX (max a b):=by
 rcases Nat.le_total a b with h|h
 ·exact(Iy (a:=GX a) (b:=GX b) (DA.mpr h)).trans (congrArg GX (Nat.max_eq_right h).symm)
 ·exact(Int.max_eq_left (a:=GX a) (b:=GX b) (DA.mpr h)).trans (congrArg GX (Nat.max_eq_left h).symm)
section
variable {ns:List Int} {T:St}
theorem RvOk.upw{p:Nat->Prop}{l:Option D}{a:Nat}{s:SI}{x:D}{rv:List Nat}(h:RvOk T p l rv)(t:T a=G3 s)(u1:l=G3 x)(u2:x.name=s.d.upon)(u4:eqS s.d.name s.d.upon=G7):RvOk T p l (a::rv):=λy e=>by
 refine XL (h y e) λus g pre sg h1 h2 h3 h4 h5=>?_;cases u1.symm.trans e;refine⟨a::us,g,pre,sg,by rw[h1];rfl,h2,h3,h4,λv hv=>?_⟩;rcases hv with _|⟨_,hv⟩
 ·exact⟨s,t,u2.symm,by rw[u2];exact u4⟩
 ·exact h5 v hv
theorem lw_loop{m rl off ap:Nat}{rs:List Nat}(hm:Dp ns 14 m)(ti:T rl=Gb)(ta:T ap=Gb)(k1:∀a s,T a=G3 s->s.kl≠ap)(ne:ap≠rl)(as:List Nat):∀(e e' last:Nat) (l:Option D) (rv:List Nat) (x y:V) (H:Hp),Inv T H->H[rl]?=G3 (.list (rs.map .obj))->H[ap]?=G3 (.list (rv.reverse.map .obj))->RvOk T (At T last H) l rv->WRl T e last l as e'->rv.length+as.length<=900->
  ∀{Gl:Prop},(∀L' H',(ForR (P ns) (zb (P ns) 60 (m+1)) 60 (bd f676 0) [4] G6 (.lst rl (rs.map .obj)) (as.map .obj) [.obj rl,.int (.ofNat off),.int (.ofNat e),.obj ap,x,y] H .next (.obj rl::.int (.ofNat off)::.int (.ofNat e')::L') H')->(LeA T ap H H')->(DoneL T H' as)->Gl)->Gl:=by
 induction as with
 |nil=>intro e e' last l rv x y H iv hi ha ro r bd Gl kG;have q:e'=e:=r;subst q;exact kG _ _ yq .refl .nil
 |cons a as IH=>
  intro e e' last l rv x y H iv hi ha ro r bd Gl kG;refine zA (r) ?_;clear r;intro d kids s rt r;obtain rfl:=rt.node.d;obtain⟨⟨b,o,z,sh,h0⟩,_⟩:=iv a s rt.node.t;rw[GO] at bd;have hb:rv.reverse.length < 1000:=by rw[DC];exact om108 bd
  have bd':(a::rv).length+as.length<=900:=by rw[GO];exact om109 bd
  have d1:Dp ns 1 (m+1):=GF _ _;rcases fr:fre s.d with _|_
  ·rw[fr] at r rt;obtain⟨⟨xd,u1,u2,u3,u4⟩,r⟩:=r;obtain⟨us,g,pre,sg,e1,tg,e2,⟨z2,sg2,tg2,lg⟩,hu⟩:=ro xd u1;cases tg.symm.trans tg2;refine zA (z2) ?_;clear z2;intro sg' zg shg tg' hg;cases tg.symm.trans tg';subst e2;have c3:=yY (ns:=ns) iv rt.node.t tg u2 u3 (by rw[←u2];exact hu) (by rw[←e1];exact ha);rw[←e1] at c3;have xa:Ex H (H++[O.list (rv.map V.obj)]):=Ex.app _;have la:Le T H (H++[O.list (rv.map V.obj)]):=Le.ex xa;have hg:=xa _ _ hg;rw[lg] at hg;refine kX hm (la.inv iv) rt ?_;intro H1 c x1 dn;have dn':=dn.sz;refine XJ (dn') ?_;clear dn';intro s' b' o' p _ _ t' h1 _;cases rt.node.t.symm.trans t';have hi1:=x1.old _ _ (xa _ _ hi) ti;have ha1:=x1.old _ _ (xa _ _ ha) ta;have x2:LeA T ap H1 (H1.set ap (.list ((a::rv).reverse.map .obj))):=LeA.list ha1 k1;have x3:=((la.trans x1).toA (ap:=ap)).trans x2;refine IH _ e' last l (a::rv) (.obj a) (.int (.ofNat last)) _ (x3.inv iv) (zw hi1 ne) (zV ha1) ((ro.mono λg h=>⟨x3.of _ h.1,h.2⟩).upw rt.node.t u1 u2 u4) r bd' ?_;intro L' H2 w x4 q;exact kG L' H2 (zX (as:=.o (zc s b o z sh) <|.b G7 <|.c (.obj g) (H++[O.list (rv.map V.obj)]) <|.o (zc sg sg.base last zg shg) <|.c .none H1 <|.o (zc s b' o' s.d.size (.obj p)) <|.g <|.o (.list (rv.reverse.map V.obj)) <|.g <|.h (H1.set ap (.list ((a::rv).reverse.map .obj))) .nil) rfl
    (ok (I h0 <|I (by rw[X5];exact congrArg G3 fr:G3 (eqS s.d.upon [])=G3 G7) <|I (c3.at d1) <|I hg <|I c <|I h1 <|I (zQ (b:=.append) ha1) <|I ha1 <|I (Zc hb) <|I (by rw[Zh]:H1.set ap (.list (rv.reverse.map V.obj++[V.obj a]))=H1.set ap (.list ((a::rv).reverse.map .obj))) <|
     I (rfl:Fl.next=Fl.next) <|I (congrArg (λn=>[V.obj rl,.int (.ofNat off),.int n,.obj ap,.obj a,.int (.ofNat last)]) (maxN e (last+s.d.size))) (rfl:H1.set ap (.list ((a::rv).reverse.map .obj))=H1.set ap (.list ((a::rv).reverse.map .obj)))) (by kernel_rfl)) (zl (zw hi1 ne)) w) (x3.trans x4) (.cons rt ((dn.mono x2).mono x4) q)
  ·rw[fr] at r rt;refine kX hm iv rt ?_;intro H1 c x1 dn;have dn':=dn.sz;refine XJ (dn') ?_;clear dn';intro s' b' o' p _ _ t' h1 _;cases rt.node.t.symm.trans t';have hi1:=x1.old _ _ hi ti;have ha1:=x1.old _ _ ha ta;have x2:LeA T ap H1 (H1.set ap (.list ((a::rv).reverse.map .obj))):=LeA.list ha1 k1;have x3:=(x1.toA (ap:=ap)).trans x2;refine IH _ e' e (G3 s.d) (a::rv) (.obj a) (.int (.ofNat e)) _ (x3.inv iv) (zw hi1 ne) (zV ha1) (.free rt.node.t ⟨x2.of _ dn.of,s,rt.node.t,rt.node.off⟩) r bd' ?_;intro L' H2 w x4 q;exact kG L' H2 (zX (as:=.o (zc s b o z sh) <|.b G6 <|.c .none H1 <|.o (zc s b' o' s.d.size (.obj p)) <|.g <|.o (.list (rv.reverse.map V.obj)) <|.g <|.h (H1.set ap (.list ((a::rv).reverse.map .obj))) .nil) rfl
    (ok (I h0 <|I (by rw[X5];exact congrArg G3 fr:G3 (eqS s.d.upon [])=G3 G6) <|I c <|I h1 <|I (zQ (b:=.append) ha1) <|I ha1 <|I (Zc hb) <|I (by rw[Zh]:H1.set ap (.list (rv.reverse.map V.obj++[V.obj a]))=H1.set ap (.list ((a::rv).reverse.map .obj))) <|
     I (rfl:Fl.next=Fl.next) <|I (congrArg (λn=>[V.obj rl,.int (.ofNat off),.int n,.obj ap,.obj a,.int (.ofNat e)]) (maxN e (e+s.d.size))) (rfl:H1.set ap (.list ((a::rv).reverse.map .obj))=H1.set ap (.list ((a::rv).reverse.map .obj)))) (by kernel_rfl)) (zl (zw hi1 ne)) w) (x3.trans x4) (.cons rt ((dn.mono x2).mono x4) q)
theorem lw_call{m rl off e':Nat}{rs:List Nat}{H:Hp}(hm:Dp ns 14 m)(iv:Inv T H)(tr:T rl=Gb)(hr:H[rl]?=G3 (.list (rs.map .obj)))(r:WRl T off 0 Gb rs e')(b:rs.length<=900){Gl:Prop}(kk:∀H',(Call (zb (P ns) 60 (m+2)) 676 [.obj rl,.int (.ofNat off)] H (.int (.ofNat e')) H')->(Le T H H')->(DoneL T H' rs)->Gl):Gl:=by have x0:Le T H (H++[O.list []]):=Le.app _;have n1:H[H.length]?=Gb:=yH;refine lw_loop (off:=off) hm tr (iv.no n1) (λc s t e=>by rw[←e,(iv c s t).2.kids] at n1;cases n1) (ne_of hr n1) rs off e' 0 Gb [] .bad .bad (H++[O.list []]) (x0.inv iv) (zd hr) ze RvOk.none r (by rw[D3,GZ];exact b) ?_;intro L' H1 w x q;exact kk H1 (zr (as:=.it (.lst rl (rs.map .obj)) <|.l .next (.obj rl::.int (.ofNat off)::.int (.ofNat e')::L') H1 .nil) (ok (I (zi (zd (N:=[O.list []]) hr)) <|I w <|fin (.int (.ofNat e')) H1) (by kernel_rfl))) ((x0.toA.trans x).to n1) q
end
end G
end
section
namespace G
open Mn
section
variable {ns:List Int} {T:St}
theorem LeA.dat{H H':Hp}{da wl ll fd sl z ix:Nat}(hd:H[da]?=G3 (datO wl ll fd sl z ix))(e:ExA da H H'):LeA T da H H' where
 old i o h _ n:=e i o h n
 sz a q:=by refine xe6c4 (q) ?_;clear q;intro s b o r fs c h1 h2 h3 h4;exact⟨s,b,o,r,fs,c,h1,e _ _ h2 (zp h2 hd λe=>by cases e).symm,e _ _ h3 (zp h3 hd λe=>by cases e).symm,h4⟩
 of a q:=by refine zA (q) ?_;clear q;intro s z sh h1 h2;exact⟨s,z,sh,h1,e _ _ h2 (zp h2 hd λe=>by cases e).symm⟩
 inv iv:=iv.dat hd e
def CoOk(T:St)(all:List Nat)(a:Nat):Prop:=∃s,T a=G3 s/\(s.d.oc=Gb∨∃f x,Pre T f [a] x/\nc f<=50/\((∃lo ix,s.d.oc=G3 ⟨lo,Gb,Gb,ix⟩)∨
 ∃lo nm kb ky ix,s.d.oc=G3 ⟨lo,G3 nm,G3 (kb,ky),ix⟩/\nb (all.filter (mt T nm))=G6/\inVs nm (x.map (nmV T))=G3 G7/\inVs ky (x.map (nmV T))=G3 G6))
theorem JM{H:Hp}(iv:Inv T H){i:Nat}{us:List V}(h:H[i]?=G3 (.list us)):T i=Gb:=by
 rcases e:T i with _|s
 ·rfl
 ·obtain⟨⟨b,o,z,sh,h0⟩,_⟩:=iv i s e;rw[h] at h0;cases h0
theorem td_no{H:Hp}(iv:Inv T H){i:Nat}{us:List (List Nat×V)}(h:H[i]?=G3 (.dict us)):T i=Gb:=by
 rcases e:T i with _|s
 ·rfl
 ·obtain⟨⟨b,o,z,sh,h0⟩,_⟩:=iv i s e;rw[h] at h0;cases h0
theorem ta_no{H:Hp}(iv:Inv T H){da wl ll fd sl z ix:Nat}(hd:H[da]?=G3 (datO wl ll fd sl z ix)):T da=Gb:=by
 rcases e:T da with _|s
 ·rfl
 ·obtain⟨⟨b,o,z,sh,h0⟩,_⟩:=iv da s e;rw[hd] at h0;cases h0
section
variable {H:Hp} {m da wl ll fd sl z ix r:Nat}
structure Sol (T:St) (H:Hp) (da wl ll fd sl z ix r:Nat):Prop where
 hd:H[da]?=G3 (datO wl ll fd sl z ix)
 k:Dat H wl ll fd [] [] [r] []
 iv:Inv T H
theorem Sol.ex{H':Hp}(s:Sol T H da wl ll fd sl z ix r)(e:Ex H H'):Sol T H' da wl ll fd sl z ix r:=⟨e _ _ s.hd,s.k.ex e,(Le.ex e).inv s.iv⟩
theorem uv{ip:Nat}{h nm rt:V}{all:List Nat}(s0:Sol T H da wl ll fd sl z ix r)(pr2:RPre T [r] all)(b2:all.length<=900)(ca:CAll T all):∀(as:List Nat) (x:V) (H1:Hp),(∀a,a∈as->CoOk T all a)->Ex H H1->H1[ip]?=G3 (.list (all.map .obj))->
  ∃x' H2,Fo (P ns) (zb (P ns) 60 (m+5)) 60 (bd f702 2) [4] G6 (.lst ip (all.map .obj)) (as.map .obj) [.obj da,h,nm,rt,x] H1 [.obj da,h,nm,rt,x'] H2/\Ex H1 H2:=by
 intro as
 induction as with
 |nil=>intro x H1 pa e hi;exact⟨x,H1,.nil,Ex.refl _⟩
 |cons a as ih=>
  intro x H1 pa e hi;refine za (pa a (.head _)) λs t oc=>?_;have sl1:=s0.ex e;obtain⟨⟨b0,o,z,sh,h0⟩,_⟩:=sl1.iv a s t;have pa':∀q,q∈as->CoOk T all q:=λq hq=>pa q (.tail _ hq);have go:∀H2,Call (zb (P ns) 60 (m+5)) 695 [.obj da,.obj a] H1 .none H2->Ex H1 H2->∀c,s.d.oc=G3 c->∃x' H3,Fo (P ns) (zb (P ns) 60 (m+5)) 60 (bd f702 2) [4] G6 (.lst ip (all.map .obj)) ((a::as).map .obj) [.obj da,h,nm,rt,x] H1 [.obj da,h,nm,rt,x'] H3/\Ex H1 H3:=λH2 c e2 _ oc=>by refine zf (ih (.obj a) H2 pa' (e.trans e2) (e2 _ _ hi)) λx' H3 w e3=>?_;exact⟨x',H3,.cons (as:=.o (zG s (.obj s.oc) (parV s.par) b0 o z sh) <|.c .none H2 .nil) rfl (ok (I (yJ h0 oc) <|I c <|fin3 .next [.obj da,h,nm,rt,.obj a] H2) (by kernel_rfl)) (zl (e2 _ _ hi)) w,e2.trans e3⟩
  rcases oc with oc|⟨f,y,pr,b,⟨lo,ixc,oc⟩|⟨lo,n1,kb,ky,ixc,oc,q1,q2,q3⟩⟩
  ·refine zf (ih (.obj a) H1 pa' e hi) λx' H2 w e2=>?_;exact⟨x',H2,.cons (as:=.o (zG s .none (parV s.par) b0 o z sh) .nil) rfl (ok (I (YM h0 oc) <|fin3 .next [.obj da,h,nm,rt,.obj a] H1) (by kernel_rfl)) (zl hi) w,e2⟩
  ·refine co_no (ns:=ns) (m:=m+3) (da:=da) sl1.iv t pr b oc ?_;intro H2 c e2;exact go H2 c e2 _ oc
  ·refine co_yes (ns:=ns) (m:=m) sl1.hd sl1.k (G5 rfl) pr2 b2 ca sl1.iv t pr b oc q1 q2 q3 ?_;intro H2 c e2;exact go H2 c e2 _ oc
theorem Ky{e2:Nat}(hm:Dp ns 14 m)(s0:Sol T H da wl ll fd sl z ix r)(r2:WRl T 0 0 Gb [r] e2){Gl:Prop}
  (kk:∀H2 H3,Call (zb (P ns) 60 (m+2)) 676 [.obj wl,.int (.ofNat 0)] H (.int (.ofNat e2)) H2->H2[da]?=G3 (datO wl ll fd sl z ix)->H2.set da (datO wl ll fd sl e2 ix)=H3->Sol T H3 da wl ll fd sl e2 ix r->LeA T da H H3->DoneL T H3 [r]->Gl):Gl:=by
 obtain⟨hd,k,iv⟩:=s0;have tda:=ta_no iv hd;refine lw_call hm iv (JM iv k.wl) k.wl r2 (G5 rfl) ?_;intro H2 c2 y2 q2;have iv2:=y2.inv iv;have hd2:=y2.old _ _ hd tda;obtain⟨H3,e3⟩:∃X,X=H2.set da (datO wl ll fd sl e2 ix):=⟨_,rfl⟩;have x3:ExA da H2 (H2.set da (datO wl ll fd sl e2 ix)):=ExA.set _;have hd3:=zV (x:=datO wl ll fd sl e2 ix) hd2;rw[←e3] at x3 hd3;have y3:LeA T da H2 H3:=.dat hd2 x3;have y23:=(y2.toA (ap:=da)).trans y3;have k3:Dat H3 wl ll fd [] [] [r] []:=⟨y23.old _ _ k.fd (td_no iv k.fd) (zp k.fd hd nofun).symm,.inl ⟨rfl,rfl⟩,y23.old _ _ k.wl (JM iv k.wl) (zp k.wl hd nofun).symm,y23.old _ _ k.ll (JM iv k.ll) (zp k.ll hd nofun).symm⟩;exact kk H2 H3 c2 hd2 e3.symm ⟨hd3,k3,y3.inv iv2⟩ y23 (q2.mono y3)
theorem lf_no{C:Orc}{fd:Nat}{H:Hp}:ForR (P ns) C 60 (bd f702 0) [2] G6 (.keys fd []) [] [.obj da,.int (.ofNat 0),.bad,.bad,.bad] H .next [.obj da,.int (.ofNat 0),.bad,.bad,.bad] H:=yq
theorem lr_no{C:Orc}{ll:Nat}{H:Hp}:ForR (P ns) C 60 (bd f702 1) [3] G6 (.lst ll []) [] [.obj da,.int (.ofNat 0),.bad,.bad,.bad] H .next [.obj da,.int (.ofNat 0),.bad,.bad,.bad] H:=yq
theorem Xp{e2:Nat}{all:List Nat}{ei:List (List Nat×V)}(hm:Dp ns 14 m)(s0:Sol T H da wl ll fd sl z ix r)(r2:WRl T 0 0 Gb [r] e2)(pr:RPre T [r] all)(b2:all.length<=900)(ca:CAll T all)(xi:Ix T all [] ei)(co:∀a,a∈all->CoOk T all a) :
  ∃H' ix',Call (zb (P ns) 60 (m+3)) 702 [.obj da] H .none H'/\LeA T da H H'/\H'[da]?=G3 (datO wl ll fd sl e2 ix')/\H'[ix']?=G3 (.dict ei)/\DoneL T H' [r]:=by
 refine Ky hm s0 r2 ?_;intro H2 H3 c2 hd2 e3 s3 y3 q3;refine zj (GP (Ga (by decide:3<=14) hm)) λm' rq1=>?_;subst rq1;refine XO (Kb (ns:=ns) (m:=m'+ 2) s3.hd s3.k (G5 rfl) s3.iv pr b2 xi) λH5 c5 e5 hd5 hx5=>?_;have s5:Sol T H5 da wl ll fd sl e2 H3.length r:=⟨hd5,s3.k.dat s3.hd e5,s3.iv.dat s3.hd e5⟩;refine XH (ns:=ns) (m:=m'+ 3) hd5 s5.k (G5 rfl) s5.iv pr b2 ?_;intro H6 c6 e6 q6;refine zf (uv (ns:=ns) (m:=m') (h:=.int (.ofNat 0)) (nm:=.bad) (rt:=.bad) (s5.ex e6) pr b2 ca all .bad H6 co (Ex.refl _) q6) λx7 H7 w7 e7=>?_;have e57:=e6.trans e7;have y5:LeA T da H3 H5:=.dat s3.hd e5;have y57:=y5.trans (Le.ex (T:=T) e57).toA;have k:=s0.k;exact⟨H7,H3.length,zr (as:=.o (datO wl ll fd sl z ix) <|.it (.keys fd []) <|.l .next [.obj da,.int (.ofNat 0),.bad,.bad,.bad] H <|.o (datO wl ll fd sl z ix) <|.c (.int (.ofNat e2)) H2 <|.o (datO wl ll fd sl z ix) <|.h H3 <|.o (datO wl ll fd sl e2 ix) <|.it (.lst ll []) <|.l .next [.obj da,.int (.ofNat 0),.bad,.bad,.bad] H3 <|.c .none H5 <|.c (.obj H5.length) H6 <|.it (.lst H5.length (all.map .obj)) <|.l .next [.obj da,.int (.ofNat 0),.bad,.bad,x7] H7 .nil)
  (ok (I s0.hd <|I (yV k.fd) <|I (lf_no (ns:=ns) (C:=zb (P ns) 60 (m'+ 5)) (da:=da) (fd:=fd) (H:=H)) <|I s0.hd <|I c2 <|I hd2 <|I e3 <|I s3.hd <|I (zi s3.k.ll) <|I (lr_no (ns:=ns) (C:=zb (P ns) 60 (m'+ 5)) (da:=da) (ll:=ll) (H:=H3)) <|I c5 <|I c6 <|I (zi q6) <|I w7.R <|fin .none H7) (by kernel_rfl)),y3.trans y57,e57 _ _ hd5,e57 _ _ hx5,q3.mono y57⟩
theorem lo_lwX{H2:Hp}(s0:Sol T H da wl ll fd sl z ix r)(h:yc (zb (P ns) 60 m) 676 [.obj wl,.int (.ofNat 0)] H 72 H2):yc (zb (P ns) 60 (m+1)) 702 [.obj da] H 72 H2:=
 zv (as:=.o (datO wl ll fd sl z ix) <|.it (.keys fd []) <|.l .next [.obj da,.int (.ofNat 0),.bad,.bad,.bad] H <|.o (datO wl ll fd sl z ix) <|.x 72 H2) (ok (I s0.hd <|I (yV s0.k.fd) <|I (lf_no (ns:=ns) (C:=zb (P ns) 60 m) (da:=da) (fd:=fd) (H:=H)) <|I s0.hd <|I h <|finX 72 H2) (by kernel_rfl))
theorem lo_siX{e2 a:Nat}{as bs:List Nat}{ei:List (List Nat×V)}{s:SI}{nm:List Nat}{v:V}(hm:Dp ns 14 m)(s0:Sol T H da wl ll fd sl z ix r)(r2:WRl T 0 0 Gb [r] e2)(pr:RPre T [r] (as++a::bs))(b2:(as++a::bs).length<=900)
  (xi:Ix T as [] ei) (t:T a=G3 s) (e:ixO s.d.oc=G3 nm) (g:getD nm ei=G3 v) (ln:nm.length<=100) (hn:s.d.name.length<=100):∃H',yc (zb (P ns) 60 (m+3)) 702 [.obj da] H 72 H'/\LeA T da H H':=by
 refine Ky hm s0 r2 ?_;intro H2 H3 c2 hd2 e3 s3 y3 q3;refine zj (GP (Ga (by decide:1<=14) hm)) λm' rq1=>?_;subst rq1;refine za (si_callX (ns:=ns) (m:=m') s3.hd s3.k (G5 rfl) s3.iv pr b2 xi t e g ln hn) λH5 c5 e5=>?_;have k:=s0.k;exact⟨H5,zv (as:=.o (datO wl ll fd sl z ix) <|.it (.keys fd []) <|.l .next [.obj da,.int (.ofNat 0),.bad,.bad,.bad] H <|.o (datO wl ll fd sl z ix) <|.c (.int (.ofNat e2)) H2 <|.o (datO wl ll fd sl z ix) <|.h H3 <|.o (datO wl ll fd sl e2 ix) <|.it (.lst ll []) <|.l .next [.obj da,.int (.ofNat 0),.bad,.bad,.bad] H3 <|.x 72 H5)
  (ok (I s0.hd <|I (yV k.fd) <|I (lf_no (ns:=ns) (C:=zb (P ns) 60 (m'+ 3)) (da:=da) (fd:=fd) (H:=H)) <|I s0.hd <|I c2 <|I hd2 <|I e3 <|I s3.hd <|I (zi s3.k.ll) <|I (lr_no (ns:=ns) (C:=zb (P ns) 60 (m'+ 3)) (da:=da) (ll:=ll) (H:=H3)) <|I c5 <|finX 72 H5) (by kernel_rfl)),y3.trans (.dat s3.hd e5)⟩
theorem lo_coX{e2 a:Nat}{as bs:List Nat}{ei:List (List Nat×V)}{s:SI}{c:Oc}(hm:Dp ns 14 m)(s0:Sol T H da wl ll fd sl z ix r)(r2:WRl T 0 0 Gb [r] e2)(pr:RPre T [r] (as++a::bs))(b2:(as++a::bs).length<=900)(ca:CAll T (as++a::bs))(xi:Ix T (as++a::bs) [] ei)(co:∀q,q∈as->CoOk T (as++a::bs) q)
  (t:T a=G3 s) (oc:s.d.oc=G3 c) (hx:∀n H z' ix',Sol T H da wl ll fd sl z' ix' r->∃H',yc (zb (P ns) 60 (n+5)) 695 [.obj da,.obj a] H 72 H'/\Ex H H'):∃H',yc (zb (P ns) 60 (m+3)) 702 [.obj da] H 72 H'/\LeA T da H H':=by
 refine Ky hm s0 r2 ?_;intro H2 H3 c2 hd2 e3 s3 y3 q3;refine zj (GP (Ga (by decide:3<=14) hm)) λm' rq1=>?_;subst rq1;refine XO (Kb (ns:=ns) (m:=m'+ 2) s3.hd s3.k (G5 rfl) s3.iv pr b2 xi) λH5 c5 e5 hd5 hx5=>?_;have s5:Sol T H5 da wl ll fd sl e2 H3.length r:=⟨hd5,s3.k.dat s3.hd e5,s3.iv.dat s3.hd e5⟩;refine XH (ns:=ns) (m:=m'+ 3) hd5 s5.k (G5 rfl) s5.iv pr b2 ?_;intro H6 c6 e6 q6;refine zf (uv (ns:=ns) (m:=m') (h:=.int (.ofNat 0)) (nm:=.bad) (rt:=.bad) (s5.ex e6) pr b2 ca as .bad H6 co (Ex.refl _) q6) λx7 H7 w7 e7=>?_;have e57:=e6.trans e7;have s7:=s5.ex e57;refine za (hx m' H7 _ _ s7) λH8 c8 e8=>?_;obtain⟨⟨b0,o,z0,sh,h0⟩,_⟩:=s7.iv a s t;have lp:ForX (P ns) (zb (P ns) 60 (m'+ 5)) 60 (bd f702 2) [4] G6 (.lst H5.length ((as++a::bs).map .obj)) (V.obj a::bs.map .obj) [.obj da,.int (.ofNat 0),.bad,.bad,x7] H7 72 H8:=
  Xs (L₁:=[.obj da,.int (.ofNat 0),.bad,.bad,.obj a]) (as:=.o (zG s (.obj s.oc) (parV s.par) b0 o z0 sh) <|.x 72 H8) rfl (ok (I (yJ h0 oc) <|I c8 <|finX 72 H8) (by kernel_rfl))
 have lp:=w7.X lp;rw[show as.map V.obj++V.obj a::bs.map V.obj=(as++a::bs).map .obj by rw[GB];rfl] at lp;have y5:LeA T da H3 H5:=.dat s3.hd e5;have k:=s0.k;exact⟨H8,zv (as:=.o (datO wl ll fd sl z ix) <|.it (.keys fd []) <|.l .next [.obj da,.int (.ofNat 0),.bad,.bad,.bad] H <|.o (datO wl ll fd sl z ix) <|.c (.int (.ofNat e2)) H2 <|.o (datO wl ll fd sl z ix) <|.h H3 <|.o (datO wl ll fd sl e2 ix) <|.it (.lst ll []) <|.l .next [.obj da,.int (.ofNat 0),.bad,.bad,.bad] H3 <|.c .none H5 <|.c (.obj H5.length) H6 <|.it (.lst H5.length ((as++a::bs).map .obj)) <|.x 72 H8)
  (ok (I s0.hd <|I (yV k.fd) <|I (lf_no (ns:=ns) (C:=zb (P ns) 60 (m'+ 5)) (da:=da) (fd:=fd) (H:=H)) <|I s0.hd <|I c2 <|I hd2 <|I e3 <|I s3.hd <|I (zi s3.k.ll) <|I (lr_no (ns:=ns) (C:=zb (P ns) 60 (m'+ 5)) (da:=da) (ll:=ll) (H:=H3)) <|I c5 <|I c6 <|I (zi q6) <|I lp <|finX 72 H8) (by kernel_rfl)),y3.trans (y5.trans (Le.ex (T:=T) (e57.trans e8)).toA)⟩
end
end
end G
end
section
namespace G
open Mn
noncomputable def kS:List Nat:=[105,110,100,101,120]
section
variable {ns:List Int} {T:St} {H:Hp}
def J1(ns:List Int)(m a:Nat)(H:Hp):Prop:=∃H',yc (zb (P ns) 60 m) 615 [.obj a] H 72 H'/\Ex H H'
section
variable {m a:Nat} {s:SI} {anc:List Nat} (hm:Dp ns 6 m) (iv:Inv T H) (ta:T a=G3 s) (pe:s.par=anc.head?) (ch:yj T anc) (l:anc.length < 50) (hn:s.d.name.length<=100)
include hm iv ta pe ch l hn
theorem lx_no(hl:s.d.leaf=Gb)(h:Eff T (a::anc) []):J1 ns (m+1) a H:=by
 have c1:=yR (ns:=ns) iv ta pe ch l h;obtain⟨⟨b,o,z0,sh,h0⟩,_⟩:=iv a s ta;have x1:=upEx H a anc;have h1:=x1 _ _ h0;exact⟨upH H a anc,zv (as:=.c (.str zo) (upH H a anc) <|.o (zc s b o z0 sh) <|.b G6 <|.o (zc s b o z0 sh) <|.g .nil)
  (ok (I (c1.at hm) <|I h1 <|I (by rw[hl];rfl:yg .is (picV s.d.leaf) .none (upH H a anc)=G3 G6) <|I h1 <|I (nmG 22 hn) <|finX 72 (upH H a anc)) (by kernel_rfl)),x1⟩
theorem lx_ix{t:List Nat}{sep:Bool}(hl:s.d.leaf=G3 (t,sep))(h:Eff T (a::anc) kS):J1 ns (m+1) a H:=by
 have c1:=yR (ns:=ns) iv ta pe ch l h;obtain⟨⟨b,o,z0,sh,h0⟩,_⟩:=iv a s ta;have x1:=upEx H a anc;have h1:=x1 _ _ h0;exact⟨upH H a anc,zv (as:=.c (.str kS) (upH H a anc) <|.o (zc s b o z0 sh) <|.b G6 <|.o (zc s b o z0 sh) <|.g .nil)
  (ok (I (c1.at hm) <|I h1 <|I (by rw[hl];rfl:yg .isnot (picV s.d.leaf) .none (upH H a anc)=G3 G6) <|I h1 <|I (nmG 25 hn) <|finX 72 (upH H a anc)) (by kernel_rfl)),x1⟩
theorem lx_us{t:List Nat}{z:Nat}(hl:s.d.leaf=G3 (t,G7))(h:Eff T (a::anc) ZW)(hp:PicOk t zx 0 0 G7 z):J1 ns (m+1) a H:=by
 have c1:=yR (ns:=ns) iv ta pe ch l h;refine Y4 hp hm (upH H a anc) ?_;intro p H2 c2 x2 hq;have x1:=upEx H a anc;have c2:Call (zb (P ns) 60 m) 496 [picV s.d.leaf] (upH H a anc) (.obj p) H2:=by rw[hl];exact c2
 obtain⟨⟨b,o,z0,sh,h0⟩,_⟩:=iv a s ta;have h1:=x1 _ _ h0;have h2:=x2 _ _ h1;refine zj (hq) ?_;clear hq;intro fs hq;refine zj (GP (Ga (by decide:2<=6) hm)) λm' rq1=>?_;subst rq1;have c3:yc (zb (P ns) 60 (m'+ 1)) 560 [.obj p,.str ZW] H2 72 (H2++[.list usL]):=
  zv (as:=.b G7 <|.o (.inst 285 fs) <|.w (.str zx) .nil) (ok (I (usIn ZW rfl H2) <|I (zd (N:=[.list usL]) hq.1) <|I (hq.2 _ m1) <|finX 72 (H2++[O.list usL])) (by kernel_rfl))
 have c4:yc (zb (P ns) 60 (m'+ 2)) 580 [.obj p,.str ZW,.str zm,.bool G7,.bool G7,.bool G7] H2 72 (H2++[.list usL]):=
  zv (as:=.x 72 (H2++[.list usL])) (ok (I c3 <|finX 72 (H2++[O.list usL])) (by kernel_rfl))
 exact⟨H2++[.list usL],zv (as:=.c (.str ZW) (upH H a anc) <|.o (zc s b o z0 sh) <|.b G7 <|.o (zc s b o z0 sh) <|.c (.obj p) H2 <|.o (zc s b o z0 sh) <|.b G7 <|.o (zc s b o z0 sh) <|.o (zc s b o z0 sh) <|.x 72 (H2++[.list usL]))
  (ok (I (c1.at hm) <|I h1 <|I (k6 hl (upH H a anc)) <|I h1 <|I c2 <|I h2 <|I (sgNe hl) <|I h2 <|I h2 <|I c4 <|finX 72 (H2++[O.list usL])) (by kernel_rfl)),(x1.trans x2).trans (Ex.app _)⟩
theorem lx_sg{t:List Nat}{dg sc z:Nat}(hl:s.d.leaf=G3 (t,G6))(h:Eff T (a::anc) [])(hp:PicOk t zO dg sc G7 z):J1 ns (m+1) a H:=by
 have c1:=yR (ns:=ns) iv ta pe ch l h;refine Y4 hp hm (upH H a anc) ?_;intro p H2 c2 x2 hq;have x1:=upEx H a anc;have c2:Call (zb (P ns) 60 m) 496 [picV s.d.leaf] (upH H a anc) (.obj p) H2:=by rw[hl];exact c2
 obtain⟨⟨b,o,z0,sh,h0⟩,_⟩:=iv a s ta;have h1:=x1 _ _ h0;have h2:=x2 _ _ h1;have iv2:=(Le.ex (x1.trans x2)).inv iv;have c3:=cb_sign (ns:=ns) iv2 ta pe ch l hl;have x3:=upEx H2 a anc;have h3:=x3 _ _ h2;refine zj (hq) ?_;clear hq;intro fs hq;have q3:=x3 _ _ hq.1;have q4:=zd (N:=[.list usL]) q3;refine zj (GP (Ga (by decide:2<=6) hm)) λm' rq1=>?_;subst rq1;have c5:yc (zb (P ns) 60 (m'+ 1)) 567 [.obj p,.str zo,.str yk,.bool G6] (upH H2 a anc++[.list usL]) 72 (upH H2 a anc++[.list usL]):=
  zv (as:=.o (.inst 285 fs) <|.w (.str zO) <|.o (.inst 285 fs) <|.w (.bool G7) .nil) (ok (I q4 <|I (hq.2 _ m1) <|I q4 <|I (hq.2 _ m4) <|finX 72 (upH H2 a anc++[O.list usL])) (by kernel_rfl))
 have c4:yc (zb (P ns) 60 (m'+ 2)) 580 [.obj p,.str zo,.str yk,.bool G6,.bool G7,.bool G7] (upH H2 a anc) 72 (upH H2 a anc++[.list usL]):=
  zv (as:=.c .none (upH H2 a anc++[.list usL]) <|.x 72 (upH H2 a anc++[.list usL])) (ok (I ((XB (ns:=ns) (upH H2 a anc) p).at (GF 1 m':Dp ns 1 (m'+ 1))) <|I c5 <|finX 72 (upH H2 a anc++[O.list usL])) (by kernel_rfl))
 exact⟨upH H2 a anc++[.list usL],zv (as:=.c (.str zo) (upH H a anc) <|.o (zc s b o z0 sh) <|.b G7 <|.o (zc s b o z0 sh) <|.c (.obj p) H2 <|.o (.inst 285 fs) <|.w (.str zO) <|.o (.inst 285 fs) <|.w (.bool G7) <|.o (zc s b o z0 sh) <|.b G6 <|.c (.tup [.str yk,.bool G6]) (upH H2 a anc) <|.o (zc s b o z0 sh) <|.o (zc s b o z0 sh) <|.x 72 (upH H2 a anc++[.list usL]))
  (ok (I (c1.at hm) <|I h1 <|I (k6 hl (upH H a anc)) <|I h1 <|I c2 <|I hq.1 <|I (hq.2 _ m1) <|I hq.1 <|I (hq.2 _ m4) <|I h2 <|I (sgNe hl) <|I (c3.at hm) <|I h3 <|I h3 <|I c4 <|finX 72 (upH H2 a anc++[O.list usL])) (by kernel_rfl)),((x1.trans x2).trans x3).trans (Ex.app _)⟩
end
end
end G
end
section
namespace G
open Mn
section
variable {ns:List Int} {T:St}
def Rz(ns:List Int)(T:St)(m f:Nat)(vs:List V):Prop:=∀H,Inv T H->∃H',yc (zb (P ns) 60 m) f vs H 72 H'/\Le T H H'
abbrev Yx(H':Hp):QX:=λk' H₁=>k'=72/\H₁=H'
abbrev KF:KA:=λ_ _ _ _=>False
section
variable {m a dp:Nat} {s:SI} (t:T a=G3 s) (d:dp<=20) (lv:∀c,s.d.oc=G3 c->Gi s.level 1=G7) (l7:Gi s.level 77=G7) (o1:1<=s.d.often) (hn:s.d.name.length<=100)
include t d lv l7 o1
theorem sx_leaf(kd:s.kids=[])(h:∀H,Inv T H->J1 ns (m+1) a H):Rz ns T (m+2) 636 [.obj a,.int (.ofNat dp)]:=λH iv=>by
 have kn:Kn T s.kids:=by rw[kd];exact λ_ h=>nomatch h
 have nn:Gj (s.kids.map V.obj).length 1000=G6:=by rw[kd];rfl
 have c1:=ZP (ns:=ns) iv t kn nn;have x1:Ex H (H++[O.list (s.kids.map V.obj)]++[O.list []]):=(Ex.app _).trans (Ex.app _);have c1:Cb ns 1 223 [.obj a] H (.bool G7) (H++[O.list (s.kids.map V.obj)]++[O.list []]):=by rw[kd] at c1 ⊢;exact c1
 refine za (h _ ((Le.ex x1).inv iv)) λH2 c2 x2=>?_;obtain⟨as,ho⟩:=XU (ns:=ns) (Y:=Yx H2) (C:=zb (P ns) 60 (m+1)) (v:=.bool G7) (H1:=H++[O.list (s.kids.map V.obj)]++[O.list []]) (r:=.x 72 H2) (Q:=KF) iv t d lv l7 o1
  (ok (I (c1.at (GF 1 m:Dp ns 1 (m+1))) <|I c2 <|finX 72 H2) (by kernel_rfl))
 exact⟨H2,zv (as:=as) (ok ho (by kernel_rfl)),Le.ex (x1.trans x2)⟩
theorem sx_pic{tx:List Nat}{sep:Bool}(hl:s.d.leaf=G3 (tx,sep))(kn:Kn T s.kids)(kd:nb s.kids=G6)(kl:Gj (s.kids.map V.obj).length 1000=G6)(hn:s.d.name.length<=100):Rz ns T (m+2) 636 [.obj a,.int (.ofNat dp)]:=λH iv=>by
 have c1:=ZP (ns:=ns) iv t kn kl;rw[kd] at c1;have x1:Ex H (H++[O.list (s.kids.map V.obj)]++[O.list []]):=(Ex.app _).trans (Ex.app _);obtain⟨⟨b,o,z,sh,h0⟩,_⟩:=(Le.ex x1).inv iv a s t;obtain⟨as,ho⟩:=XU (ns:=ns) (Y:=Yx (H++[O.list (s.kids.map V.obj)]++[O.list []])) (C:=zb (P ns) 60 (m+1)) (v:=.bool G6) (H1:=H++[O.list (s.kids.map V.obj)]++[O.list []]) (r:=.o (zc s b o z sh) <|.b G6 <|.o (zc s b o z sh) <|.g .nil) (Q:=KF) iv t d lv l7 o1
  (ok (I (c1.at (GF 1 m:Dp ns 1 (m+1))) <|I h0 <|I (by rw[hl];rfl:yg .isnot (picV s.d.leaf) .none (H++[O.list (s.kids.map V.obj)]++[O.list []])=G3 G6) <|I h0 <|I (nmG 24 hn) <|finX 72 (H++[O.list (s.kids.map V.obj)]++[O.list []])) (by kernel_rfl))
 exact⟨_,zv (as:=as) (ok ho (by kernel_rfl)),Le.ex x1⟩
theorem sx_grp(hl:s.d.leaf=Gb)(kn:Kn T s.kids)(kd:nb s.kids=G6)(kl:Gj (s.kids.map V.obj).length 1000=G6)(h:Rz ns T (m+1) 643 [.obj a,.int (.ofNat dp)]):Rz ns T (m+2) 636 [.obj a,.int (.ofNat dp)]:=λH iv=>by
 have c1:=ZP (ns:=ns) iv t kn kl;rw[kd] at c1;have x1:Ex H (H++[O.list (s.kids.map V.obj)]++[O.list []]):=(Ex.app _).trans (Ex.app _);have iv1:=(Le.ex x1).inv iv;obtain⟨⟨b,o,z,sh,h0⟩,_⟩:=iv1 a s t;refine za (h _ iv1) λH2 c2 x2=>?_;obtain⟨as,ho⟩:=XU (ns:=ns) (Y:=Yx H2) (C:=zb (P ns) 60 (m+1)) (v:=.bool G6) (H1:=H++[O.list (s.kids.map V.obj)]++[O.list []]) (r:=.o (zc s b o z sh) <|.b G7 <|.x 72 H2) (Q:=KF) iv t d lv l7 o1
  (ok (I (c1.at (GF 1 m:Dp ns 1 (m+1))) <|I h0 <|I (noPic hl (H++[O.list (s.kids.map V.obj)]++[O.list []])) <|I c2 <|finX 72 H2) (by kernel_rfl))
 exact⟨H2,zv (as:=as) (ok ho (by kernel_rfl)),(Le.ex x1).trans x2⟩
end
section
variable {m a dp:Nat} {s:SI} {c:Oc} (t:T a=G3 s) (d:dp<=20) (oc:s.d.oc=G3 c) (hn:s.d.name.length<=100)
include t d oc hn
theorem sx_one(lv:s.level=1):Rz ns T (m+1) 636 [.obj a,.int (.ofNat dp)]:=λH iv=>by
 obtain⟨⟨b,o,z,sh,h0⟩,_⟩:=iv a s t;have k:=yJ h0 oc;exact⟨H,zv (as:=.b G7 <|.o (zG s (.obj s.oc) (parV s.par) b o z sh) <|.b G6 <|.o (zG s (.obj s.oc) (parV s.par) b o z sh) <|.b G6 <|.o (zG s (.obj s.oc) (parV s.par) b o z sh) <|.g .nil)
  (ok (I (JV H d) <|I k <|I (isnO s.oc H) <|I k <|I (by rw[lv];rfl:yg .eq (.int (.ofNat s.level)) (.int (.ofNat 1)) H=G3 G6) <|I k <|I (nmG 26 hn) <|finX 72 H) (by kernel_rfl)),Le.refl T H⟩
theorem sx_zero(l1:Gi s.level 1=G7)(l7:Gi s.level 77=G7)(o0:s.d.often=0):Rz ns T (m+1) 636 [.obj a,.int (.ofNat dp)]:=λH iv=>by
 obtain⟨⟨b,o,z,sh,h0⟩,_,h1⟩:=iv a s t;have k:=yJ h0 oc;have h1:H[s.oc]?=G3 (occO c s.d.often):=by
  rcases h1 with⟨e,_⟩|⟨c',e,h⟩
  ·rw[e] at oc;cases oc
  ·rw[oc] at e;cases e;exact h
 exact⟨H,zv (as:=.b G7 <|.o (zG s (.obj s.oc) (parV s.par) b o z sh) <|.b G6 <|.o (zG s (.obj s.oc) (parV s.par) b o z sh) <|.b G7 <|.o (zG s (.obj s.oc) (parV s.par) b o z sh) <|.b G7 <|.o (zG s (.obj s.oc) (parV s.par) b o z sh) <|.o (occO c s.d.often) <|.b G6 <|.o (zG s (.obj s.oc) (parV s.par) b o z sh) <|.g .nil)
  (ok (I (JV H d) <|I k <|I (isnO s.oc H) <|I k <|I (eqNo H l1) <|I k <|I (eqNo H l7) <|I k <|I h1 <|I (by rw[o0];rfl:yg .lt (.int (.ofNat s.d.often)) (.int (.ofNat 1)) H=G3 G6) <|I k <|I (nmG 26 hn) <|finX 72 H) (by kernel_rfl)),Le.refl T H⟩
end
section
variable {H:Hp} {k g ap:Nat} {sk sg:SI} {rv:List Nat} {m:Nat} (iv:Inv T H) (tk:T k=G3 sk) (tg:T g=G3 sg) (h:H[ap]?=G3 (.list ((g::rv).reverse.map V.obj))) (hn:sk.d.name.length<=100)
include iv tk tg h hn
theorem rx_no(e1:eqS sg.d.name sk.d.upon=G7)(e2:eqS sg.d.upon sk.d.upon=G7):yc (zb (P ns) 60 (m+1)) 629 [.obj k,.obj ap] H 72 (H++[.list ((g::rv).map V.obj)]):=by
 have e:((g::rv).reverse.map V.obj).reverse=(g::rv).map V.obj:=by rw[FQ,FF]
 have iv1:=(Le.app (T:=T) [O.list ((g::rv).map V.obj)]).inv iv;obtain⟨⟨b,o,z,sh,h1⟩,_⟩:=iv1 k sk tk;obtain⟨⟨b',o',z',sh',h2⟩,_⟩:=iv1 g sg tg;have lp:ForR (P ns) (zb (P ns) 60 m) 60 (bd f629 0) [2] G6 (.lst H.length ((g::rv).map V.obj)) ((g::rv).map V.obj) [.obj k,.obj ap,.bad] (H++[.list ((g::rv).map V.obj)]) .next [.obj k,.obj ap,.obj g] (H++[.list ((g::rv).map V.obj)]):=
  forBrk (as:=.o (zc sg b' o' z' sh') <|.o (zc sk b o z sh) <|.b G7 <|.o (zc sg b' o' z' sh') <|.o (zc sk b o z sh) <|.b G6 .nil) rfl
   (ok (I h2 <|I h1 <|I (congrArg G3 e1) <|I h2 <|I h1 <|I (show G3 (!eqS sg.d.upon sk.d.upon)=G3 G6 by rw[e2];rfl) <|fin3 .brk [.obj k,.obj ap,.obj g] (H++[O.list ((g::rv).map V.obj)])) (by kernel_rfl))
 refine zv (as:=.o (.list ((g::rv).reverse.map V.obj)) <|.it (.lst H.length ((g::rv).map V.obj)) <|.l .next [.obj k,.obj ap,.obj g] (H++[.list ((g::rv).map V.obj)]) <|.o (zc sk b o z sh) <|.g .nil) ?_;have it:yC (.obj H.length) (H++[O.list ((g::rv).reverse.map V.obj).reverse])=G3 (.lst H.length ((g::rv).map V.obj)):=by rw[e];exact zi ze
 have lp':ForR (P ns) (zb (P ns) 60 m) 60 (bd f629 0) [2] G6 (.lst H.length ((g::rv).map V.obj)) ((g::rv).map V.obj) [.obj k,.obj ap,.bad] (H++[O.list ((g::rv).reverse.map V.obj).reverse]) .next [.obj k,.obj ap,.obj g] (H++[.list ((g::rv).map V.obj)]):=by rw[e];exact lp
 exact ok (I h <|I it <|I lp' <|I h1 <|I (nmG 21 hn) <|finX 72 (H++[O.list ((g::rv).map V.obj)])) (by kernel_rfl)
theorem rx_tab{c:Oc}(e1:eqS sg.d.name sk.d.upon=G6)(oc:sg.d.oc=G3 c):yc (zb (P ns) 60 (m+1)) 629 [.obj k,.obj ap] H 72 (H++[.list ((g::rv).map V.obj)]):=by
 have e:((g::rv).reverse.map V.obj).reverse=(g::rv).map V.obj:=by rw[FQ,FF]
 have iv1:=(Le.app (T:=T) [O.list ((g::rv).map V.obj)]).inv iv;obtain⟨⟨b,o,z,sh,h1⟩,_⟩:=iv1 k sk tk;obtain⟨⟨b',o',z',sh',h2⟩,_⟩:=iv1 g sg tg;have lp:ForX (P ns) (zb (P ns) 60 m) 60 (bd f629 0) [2] G6 (.lst H.length ((g::rv).map V.obj)) ((g::rv).map V.obj) [.obj k,.obj ap,.bad] (H++[.list ((g::rv).map V.obj)]) 72 (H++[.list ((g::rv).map V.obj)]):=
  Xs (L₁:=[.obj k,.obj ap,.obj g]) (as:=.o (zc sg b' o' z' sh') <|.o (zc sk b o z sh) <|.b G6 <|.o (zG sg (.obj sg.oc) (parV sg.par) b' o' z' sh') <|.o (zc sk b o z sh) <|.g .nil) rfl
   (ok (I h2 <|I h1 <|I (congrArg G3 e1) <|I (yJ h2 oc) <|I h1 <|I (nmG 30 hn) <|finX 72 (H++[O.list ((g::rv).map V.obj)])) (by kernel_rfl))
 refine zv (as:=.o (.list ((g::rv).reverse.map V.obj)) <|.it (.lst H.length ((g::rv).map V.obj)) <|.x 72 (H++[.list ((g::rv).map V.obj)])) ?_;have it:yC (.obj H.length) (H++[O.list ((g::rv).reverse.map V.obj).reverse])=G3 (.lst H.length ((g::rv).map V.obj)):=by rw[e];exact zi ze
 have lp':ForX (P ns) (zb (P ns) 60 m) 60 (bd f629 0) [2] G6 (.lst H.length ((g::rv).map V.obj)) ((g::rv).map V.obj) [.obj k,.obj ap,.bad] (H++[O.list ((g::rv).reverse.map V.obj).reverse]) 72 (H++[.list ((g::rv).map V.obj)]):=by rw[e];exact lp
 exact ok (I h <|I it <|I lp' <|finX 72 (H++[O.list ((g::rv).map V.obj)])) (by kernel_rfl)
end
end
end G
end
section
namespace G
open Mn
section
variable {ns:List Int} {T:St}
def kA(ns:List Int)(T:St)(m a dp k sz:Nat)(as:List Nat)(f:F):Prop:=∀(ap:Nat) (H:Hp),Inv T H->T ap=Gb->H[ap]?=G3 (.list (as.map .obj))->SzAll T H f as->
 ∃As H',exY (P ns) (zb (P ns) 60 m) (Yx H') 60 (bd f643 0) [.obj a,.int (.ofNat dp),.int (.ofNat sz),.obj ap,.obj k] H As KF/\Le T H H'
theorem KR{f:F}{m a dp k:Nat}{s:SI}{base e anc:List Nat}{off:Nat}{as bs:List Nat}(hm:Dp ns (bl f) m)(t:T a=G3 s)(ks:s.kids=as++k::bs)(kn:Kn T s.kids)(kl:s.kids.length<=900)(ds:Des T base (a::anc) off 0 f as)(wf:Wf e Gb f)(ef:Eff T (a::anc) e)(ch:yj T (a::anc))
  (hh:anc.length+1+ht f<=9) (hd:anc.length=dp) (lk:nc f<=900) (tx:kA ns T m a dp k (gsz f) as f):Rz ns T (m+1) 643 [.obj a,.int (.ofNat dp)]:=λH iv=>by
 have x1:Le T H (H++[O.list []]):=Le.app _;have ap:(H++[O.list []])[H.length]?=G3 (.list []):=ze;have c1:=XA (ns:=ns) (x1.inv iv) t kn (Gk (by rw[Gs];exact Ga kl (by decide)));have n0:H[(H++[O.list []]).length]?=Gb:=Xk (by rw[len1];exact F5 _);have n1:H[H.length]?=Gb:=yH;have x2:Le T (H++[O.list []]) (H++[O.list []]++[O.list (s.kids.map .obj)]):=Le.app _;have iv2:=x2.inv (x1.inv iv);refine gs_all (ns:=ns) f base e (a::anc) off 0 Gb as a dp 0 H.length (H++[O.list []]).length s.kids [] .bad _ m hm iv2 (λc s t e=>by rw[←e,(iv c s t).2.kids] at n1;cases n1)
  (iv.no n1) (iv.no n0) (by rw[len1];exact D9 (Da _)) (zd ap) ze ds wf ef ch (by rw[GO];exact hh) (by rw[GO,hd]) (by rw[D3,GZ];exact lk) RvOk.none ?_
 intro H3 x' lp hz x3 q;have xx:Le T H H3:=((x1.trans x2).toA.trans x3).to n1;rw[GZ] at lp;refine zf (tx H.length H3 (xx.inv iv) (iv.no n1) hz q) λAs H4 w x4=>?_;have lp:=lp.X (Xs (r:=bs.map .obj) (ks:=[4]) (one:=G6) (it:=.lst (H++[O.list []]).length (s.kids.map .obj)) (L:=[.obj a,.int (.ofNat dp),.int (.ofNat (gsz f)),.obj H.length,x']) (v:=.obj k) rfl w);rw[show as.map V.obj++V.obj k::bs.map V.obj=s.kids.map V.obj by rw[ks,GB];rfl] at lp;have b1:=bl_ge f;exact⟨H4,zv (as:=.c (.obj (H++[O.list []]).length) (H++[O.list []]++[O.list (s.kids.map .obj)]) <|.it (.lst (H++[O.list []]).length (s.kids.map .obj)) <|.x 72 H4)
  (ok (I (c1.at (Ga (Ga (by decide) b1) hm:Dp ns 1 m)) <|I (zi (ze (H:=H++[O.list []]) (o:=O.list (s.kids.map .obj)))) <|I lp <|finX 72 H4) (by kernel_rfl)),xx.trans x4⟩
section
variable {m a dp k sz:Nat} {as:List Nat} {f:F}
theorem tx_ss(h:Rz ns T m 636 [.obj k,.int (.ofNat (dp+1))]):kA ns T m a dp k sz as f:=λap H iv _ _ _=>by refine za (h H iv) λH' c x=>?_;exact⟨.x 72 H',H',ok (I c <|finX 72 H') (by kernel_rfl),x⟩
def SsOk(ns:List Int)(T:St)(m dp k:Nat):Prop:=∀H,Inv T H->∃H',Call (zb (P ns) 60 m) 636 [.obj k,.int (.ofNat dp)] H .none H'/\Le T H H'/\SzOk T H' k
section
variable {sk:SI} (hm:Dp ns 2 m) (tk:T k=G3 sk) (h:SsOk ns T m (dp+1) k) (fr:eqS sk.d.upon []=G7) (b1:sk.d.size<=2000) (b3:sk.d.often<=3)
include hm tk h fr b1 b3
theorem tx_rd{g:Nat}{sg:SI}{rv:List Nat}(tg:T g=G3 sg)(ea:as=(g::rv).reverse)(hr:∀H ap,Inv T H->H[ap]?=G3 (.list ((g::rv).reverse.map V.obj))->yc (zb (P ns) 60 m) 629 [.obj k,.obj ap] H 72 (H++[.list ((g::rv).map V.obj)])):kA ns T m a dp k sz as f:=λap H iv ta ha _=>by
 refine yK (h H iv) λH1 c1 x1 z1=>?_;have iv1:=x1.inv iv;have ha1:=x1.old _ _ ha ta;rw[ea] at ha1;refine XJ z1 λs' b o p _ _ t' h1 _=>?_;cases tk.symm.trans t';have c2:=Zg (ns:=ns) h1 (iv1 k sk tk).2 (Gk (De (GT b1 (by decide)))) (Gk (De (GT b3 (by decide))));have c3:=hr H1 ap iv1 ha1;exact⟨.c .none H1 <|.o (zc sk b o sk.d.size (.obj p)) <|.b G7 <|.c (.int (.ofNat (sk.d.size*sk.d.often))) H1 <|.x 72 (H1++[.list ((g::rv).map V.obj)]),H1++[.list ((g::rv).map V.obj)],
  ok (I c1 <|I h1 <|I (congrArg G3 fr:G3 (eqS sk.d.upon [])=G3 G7) <|I (c2.at hm) <|I c3 <|finX 72 (H1++[O.list ((g::rv).map V.obj)])) (by kernel_rfl),x1.trans (Le.app _)⟩
theorem tx_long{g:Nat}{sg:SI}(tg:T g=G3 sg)(ea:as=[g])(e1:sg.d.name=sk.d.upon)(oc:sg.d.oc=Gb)(og:sg.d.often=1)(b2:sg.d.size<=2000)(lt:sg.d.size*sg.d.often < sk.d.size*sk.d.often)(hn:sk.d.name.length<=100)(hg:∀H,SzAll T H f as->SzOk T H g):kA ns T m a dp k sz as f:=λap H iv ta ha q=>by
 refine yK (h H iv) λH1 c1 x1 z1=>?_;have iv1:=x1.inv iv;have ha1:=x1.old _ _ ha ta;rw[ea] at ha1;have zg:=x1.sz _ (hg H q);refine XJ z1 λs' b o p _ _ t' h1 _=>?_;cases tk.symm.trans t';refine XJ zg λs' b' o' p' _ _ t' h2 _=>?_;cases tg.symm.trans t';have c2:=Zg (ns:=ns) h1 (iv1 k sk tk).2 (Gk (De (GT b1 (by decide)))) (Gk (De (GT b3 (by decide))));have c3:=yY (ns:=ns) (us:=[]) (pre:=[]) iv1 tk tg e1 oc (λ_ h=>nomatch h) ha1;have xa:Ex H1 (H1++[O.list [V.obj g]]):=Ex.app _;have h3:=xa _ _ h1;have c4:=Zg (ns:=ns) (xa _ _ h2) ((iv1 g sg tg).2.ex xa) (Gk (De (GT b2 (by decide)))) (by rw[og];rfl);exact⟨.c .none H1 <|.o (zc sk b o sk.d.size (.obj p)) <|.b G7 <|.c (.int (.ofNat (sk.d.size*sk.d.often))) H1 <|.c (.obj g) (H1++[O.list [V.obj g]]) <|.c (.int (.ofNat (sg.d.size*sg.d.often))) (H1++[O.list [V.obj g]]) <|.b G6 <|.o (zc sk b o sk.d.size (.obj p)) <|.g .nil,H1++[O.list [V.obj g]],
  ok (I c1 <|I h1 <|I (congrArg G3 fr:G3 (eqS sk.d.upon [])=G3 G7) <|I (c2.at hm) <|I (c3.at (Ga (by decide) hm:Dp ns 1 m)) <|I (c4.at hm) <|I (congrArg G3 (decide_eq_true (F0.mpr lt)):yg .gt (.int (.ofNat (sk.d.size*sk.d.often))) (.int (.ofNat (sg.d.size*sg.d.often))) (H1++[O.list [V.obj g]])=G3 G6) <|I h3 <|I (nmG 28 hn) <|finX 72 (H1++[O.list [V.obj g]])) (by kernel_rfl),x1.trans (Le.app _)⟩
end
end
theorem sx_rec{m a off:Nat}{base:List Nat}(h:Rz ns T m 636 [.obj a,.int (.ofNat 0)]):Rz ns T (m+1) 669 [.obj a,.int (.ofNat off),.str base]:=λH iv=>by refine za (h H iv) λH' c x=>?_;exact⟨H',zv (as:=.x 72 H') (ok (I c <|finX 72 H') (by kernel_rfl)),x⟩
theorem lx_wk{m wl r:Nat}{s:SI}{H:Hp}(h:Rz ns T m 669 [.obj r,.int (.ofNat 0),.str []])(t:T r=G3 s)(fr:eqS s.d.upon []=G6)(iv:Inv T H)(hw:H[wl]?=G3 (.list [.obj r])):∃H',yc (zb (P ns) 60 (m+1)) 676 [.obj wl,.int (.ofNat 0)] H 72 H'/\Le T H H':=by
 have x1:Le T H (H++[O.list []]):=Le.app _;have iv1:=x1.inv iv;obtain⟨⟨b,o,z,sh,h0⟩,_⟩:=iv1 r s t;refine za (h _ iv1) λH' c x=>?_;have lp:ForX (P ns) (zb (P ns) 60 m) 60 (bd f676 0) [4] G6 (.lst wl [.obj r]) [.obj r] [.obj wl,.int (.ofNat 0),.int (.ofNat 0),.obj H.length,.bad,.bad] (H++[.list []]) 72 H':=
  Xs (L₁:=[.obj wl,.int (.ofNat 0),.int (.ofNat 0),.obj H.length,.obj r,.bad]) (as:=.o (zc s b o z sh) <|.b G6 <|.x 72 H') rfl (ok (I h0 <|I (congrArg G3 fr:G3 (eqS s.d.upon [])=G3 G6) <|I c <|finX 72 H') (by kernel_rfl))
 exact⟨H',zv (as:=.it (.lst wl [.obj r]) <|.x 72 H') (ok (I (zi (zd (N:=[.list []]) hw)) <|I lp <|finX 72 H') (by kernel_rfl)),x1.trans x⟩
theorem lx_out{m da wl ll fd sl z ix r:Nat}{s:SI}{H:Hp}(s0:Sol T H da wl ll fd sl z ix r)(h:Rz ns T m 636 [.obj r,.int (.ofNat 0)])(t:T r=G3 s)(fr:eqS s.d.upon []=G6):∃H',yc (zb (P ns) 60 (m+3)) 702 [.obj da] H 72 H'/\LeA T da H H':=by refine za (lx_wk (sx_rec h) t fr s0.iv s0.k.wl) λH' c x=>?_;exact⟨H',lo_lwX s0 c,x.toA⟩
theorem lx_file{m da wl ll fd sl z ix fl k:Nat}{s:SI}{H:Hp}(hd:H[da]?=G3 (datO wl ll fd sl z ix))(hf:H[fd]?=G3 (.dict [([70],.obj fl)]))(hl:H[fl]?=G3 (.list [.obj k]))(iv:Inv T H)(t:T k=G3 s)(fr:eqS s.d.upon []=G7)(hn:s.d.name.length<=100):yc (zb (P ns) 60 (m+2)) 702 [.obj da] H 72 H:=by
 obtain⟨⟨b,o,z',sh,h0⟩,_⟩:=iv k s t;have lp:ForX (P ns) (zb (P ns) 60 m) 60 (bd f683 0) [3] G6 (.lst fl [.obj k]) [.obj k] [.obj fl,.int (.ofNat 0),.int (.ofNat 0),.bad] H 72 H:=
  Xs (L₁:=[.obj fl,.int (.ofNat 0),.int (.ofNat 0),.obj k]) (as:=.o (zc s b o z' sh) <|.b G6 <|.o (zc s b o z' sh) <|.g .nil) rfl (ok (I h0 <|I (show G3 (!eqS s.d.upon [])=G3 G6 by rw[fr];rfl) <|I h0 <|I (nmG 32 hn) <|finX 72 H) (by kernel_rfl))
 have c:yc (zb (P ns) 60 (m+1)) 683 [.obj fl,.int (.ofNat 0)] H 72 H:=zv (as:=.it (.lst fl [.obj k]) <|.x 72 H) (ok (I (zi hl) <|I lp <|finX 72 H) (by kernel_rfl));have lp2:ForX (P ns) (zb (P ns) 60 (m+1)) 60 (bd f702 0) [2] G6 (.keys fd [([70],.obj fl)]) [.str [70]] [.obj da,.int (.ofNat 0),.bad,.bad,.bad] H 72 H:=
  Xs (L₁:=[.obj da,.int (.ofNat 0),.str [70],.bad,.bad]) (as:=.o (datO wl ll fd sl z ix) <|.o (.dict [([70],.obj fl)]) <|.x 72 H) rfl (ok (I hd <|I hf <|I c <|finX 72 H) (by kernel_rfl))
 exact zv (as:=.o (datO wl ll fd sl z ix) <|.it (.keys fd [([70],.obj fl)]) <|.x 72 H) (ok (I hd <|I (yV hf) <|I lp2 <|finX 72 H) (by kernel_rfl))
end
end G
end
section
namespace G
open Mn
structure Src (H:Hp) (so ce:Nat) (cs:List Int) (k:Nat):Prop where
 s:H[so]?=G3 (.list [.obj ce,.int (.ofNat k)])
 c:H[ce]?=G3 (.list (cs.map .int))
 p:0 < cs.length
 l:cs.length<=60
theorem fmodN(a b:Nat):IJ (.ofNat a) (.ofNat b)= .ofNat (a % b):=by
 rcases a with _|a
 ·rw[Nat.zero_mod];rfl
 ·rfl
theorem fdivN'(a b:Nat):MA (.ofNat a) (.ofNat b)= .ofNat (a / b):=by
 rcases a with _|a
 ·rw[Nat.zero_div];rfl
 ·rfl
theorem drawn(i:Int){l:Nat}(h:0 < l){Gl:Prop}(kk:∀r,(r < l)->(IJ i (.ofNat l)= .ofNat r)->Gl):Gl:=by
 have h0:(0:Int) < (l:Int):=Int.natCast_pos.mpr h;refine kk ((IJ i (.ofNat l)).toNat) ?_ ?_
 ·have:=Int.fmod_lt_of_pos i h0;have h1:=Int.fmod_nonneg_of_pos i h0;show(IJ i (l:Int)).toNat < l;exact om111 this h1
 ·exact(Int.toNat_of_nonneg (Int.fmod_nonneg_of_pos i h0)).symm
theorem at_int{cs:List Int}{i:Nat}(h:i < cs.length):∃x,atV (cs.map .int) (.ofNat i)=G3 (.int x):=⟨cs[i],by
 show(cs.map V.int)[i]?=_;rw[List.getElem?_map,List.getElem?_eq_getElem h];rfl⟩
noncomputable def drH(H:Hp)(so ce k:Nat):Hp:=H.set so (.list [.obj ce,.int (.ofNat k)])
section
variable {ns:List Int} {H:Hp} {so ce k:Nat} {cs:List Int}
theorem Src.to(s:Src H so ce cs k)(j:Nat):Src (drH H so ce j) so ce cs j:=⟨zV s.s,zw s.c (zp s.c s.s λe=>by
 have p:=s.p;rcases cs with _|⟨c,r⟩
 ·exact DH _ p
 ·cases e),s.p,s.l⟩
theorem jT(s:Src H so ce cs k){l m:Nat}(hl:0 < l)(hk:k < 1000000){Gl:Prop}(kk:∀r,(r < l)->(Call (zb (P ns) 60 (m+1)) 709 [.obj so,.int (.ofNat l)] H (.int (.ofNat r)) (drH H so ce (k+1)))->Gl):Gl:=by
 have s2:=s.to (k+1);refine zj (at_int (cs:=cs) (Nat.mod_lt k s.p)) λx hx=>?_;have g1:(V.int (IJ (.ofNat k) ((cs.map V.int).length:Int)))= .int (.ofNat (k % cs.length)):=by rw[Gs];exact congrArg V.int (fmodN k cs.length)
 have g2:MA (.ofNat k) ((cs.map V.int).length:Int)= .ofNat (k / cs.length):=by rw[Gs];exact fdivN' k cs.length
 have lz:((cs.map V.int).length:Int)=(cs.length:Int):=by rw[Gs]
 have p1:(0:Int) < (cs.length:Int):=Int.natCast_pos.mpr s.p;have p2:(cs.length:Int) < 1000000000:=by have:=s.l;exact om112 this
 have p3:k / cs.length < 1000000000:=GT (Nat.div_le_self _ _) (om113 hk);have hx':atV (cs.map V.int) (IJ (.ofNat k) ((cs.map V.int).length:Int))=G3 (.int x):=by rw[Gs];rw[show IJ (.ofNat k) (cs.length:Int)= .ofNat (k % cs.length) from fmodN k cs.length];exact hx
 refine drawn (x+11*MA (.ofNat k) ((cs.map V.int).length:Int)) hl ?_;intro r hr e;refine kk r hr (zr (as:=.o (.list [.obj ce,.int (.ofNat k)]) <|.o (.list [.obj ce,.int (.ofNat k)]) <|.o (.list [.obj ce,.int (.ofNat k)]) <|.h (drH H so ce (k+1)) <|.o (.list (cs.map .int)) <|.g <|.o (.list (cs.map .int)) <|.w (.int x) <|.o (.list (cs.map .int)) <|.g <|.g <|.g .nil)
  (ok (I s.s <|I s.s <|I s.s <|I (rfl:drH H so ce (k+1)=drH H so ce (k+1)) <|I s2.c <|I (decide_eq_true (by rw[lz];exact p1):decide (0 < ((cs.map V.int).length:Int))=G6) <|I s2.c <|I hx' <|I s2.c <|I (decide_eq_true (by rw[lz];exact⟨p1,p2⟩):decide (0 < ((cs.map V.int).length:Int)/\((cs.map V.int).length:Int) < 1000000000)=G6) <|
   I (decide_eq_true (by rw[g2];exact⟨by decide,p3⟩):decide ((11:Int).natAbs < 1000000000/\(MA (.ofNat k) ((cs.map V.int).length:Int)).natAbs < 1000000000)=G6) <|I (decide_eq_true (Int.natCast_pos.mpr hl):decide (0 < GX l)=G6) <|I (congrArg V.int e) (rfl:drH H so ce (k+1)=drH H so ce (k+1))) (by kernel_rfl)))
end
theorem ints_eq:∀is:List Int,Yj (is.map .int) (is.map .int)=G6:=by
 intro is
 induction is with
 |nil=>exact rfl
 |cons a r ih=>show(decide (a=a) && Yj (r.map .int) (r.map .int))=G6;rw[decide_eq_true rfl,ih];rfl
theorem kU{i:Nat}{vs:List V}{H:Hp}(h:H[i]?=G3 (.list vs))(e:Yj vs vs=G6):(It.lst i vs).stands H=G6:=by show(match H[i]? with|some (.list us)=>Yj us vs|_=>G7)=G6;rw[h];exact e
theorem Src.ex{H H':Hp}{so ce k:Nat}{cs:List Int}(s:Src H so ce cs k)(e:Ex H H'):Src H' so ce cs k:=⟨e _ _ s.s,e _ _ s.c,s.p,s.l⟩
section
variable {ns:List Int}
theorem ok_ints{C:Orc}{it:It}{H:Hp}(st:it.stands H=G6):∀(is:List Int) (acc:List V),ZA (ev (P ns) C (.bf .int (.cons (.l 0) .nil)) X0) (cnd (P ns) C (.c (.bool G6))) 1 [] it (is.map .int) acc H (acc.reverse++is.map .int) H:=by
 intro is
 induction is with
 |nil=>
  intro acc;exact by rw[show acc.reverse++([]:List Int).map V.int=acc.reverse from D5 _];exact kj
 |cons i r ih=>intro acc;have ih:=ih (.int i::acc);rw[show acc.reverse++(i::r).map V.int=(V.int i::acc).reverse++r.map V.int by rw[Dq,Gw];rfl];exact cpIn (H₁:=H) (as:=.nil) (as':=.nil) rfl (ok (I (rfl:G6=G6) (rfl:H=H)) (by kernel_rfl)) (ok (I (rfl:V.int i=V.int i) (rfl:H=H)) (by kernel_rfl)) st ih
noncomputable def hdS(s:S):S:=match s with|.seq a _=>a|s=>s
noncomputable def tls:Nat->S->S
 |0,s=>s
 |n+1,s=>tls n (tl s)
abbrev CT(ns:List Int):Orc:=callT (P ns) 60 18
theorem ct{f:Nat}{vs:List V}{H H':Hp}{v:V}(h:Call (zb (P ns) 60 18) f vs H v H')(e:(zU f fnT).bind Yv=Gb):Call (CT ns) f vs H v H':=⟨λQ X q=>by
 show(match (zU f fnT).bind Yv with
  |some (g,k)=>arg1 vs λ_=>gd ((P ns).exc k) (zb (P ns) 60 18 g vs H (λv H₁=>ym v (Q (.bool G6) H₁)) λc H₁=>gd (Gi c k) (Q (.bool G7) H₁))
  |none=>zb (P ns) 60 18 f vs H Q X)
 rw[e];exact h.out Q X q⟩
theorem Jg{a:Nat}{H H':Hp}(h:Call (zb (P ns) 60 18) 702 [.obj a] H .none H'):Call (CT ns) 745 [.obj a] H (.bool G6) H':=⟨λQ X q=>by
 show(match (zU 745 fnT).bind Yv with
  |some (g,k)=>arg1 [V.obj a] λ_=>gd ((P ns).exc k) (zb (P ns) 60 18 g [.obj a] H (λv H₁=>ym v (Q (.bool G6) H₁)) λc H₁=>gd (Gi c k) (Q (.bool G7) H₁))
  |none=>zb (P ns) 60 18 745 [.obj a] H Q X)
 rw[show(zU 745 fnT).bind Yv=G3 (702,72) by kernel_rfl];show gd ((P ns).exc 72) (zb (P ns) 60 18 702 [.obj a] H (λv H₁=>ym v (Q (.bool G6) H₁)) λc H₁=>gd (Gi c 72) (Q (.bool G7) H₁));exact gd_iff.mpr ⟨rfl,h.out _ _ q⟩⟩
theorem lies_no{a:Nat}{H H':Hp}(h:yc (zb (P ns) 60 18) 702 [.obj a] H 72 H'):Call (CT ns) 745 [.obj a] H (.bool G7) H':=⟨λQ X q=>by
 show(match (zU 745 fnT).bind Yv with
  |some (g,k)=>arg1 [V.obj a] λ_=>gd ((P ns).exc k) (zb (P ns) 60 18 g [.obj a] H (λv H₁=>ym v (Q (.bool G6) H₁)) λc H₁=>gd (Gi c k) (Q (.bool G7) H₁))
  |none=>zb (P ns) 60 18 745 [.obj a] H Q X)
 rw[show(zU 745 fnT).bind Yv=G3 (702,72) by kernel_rfl];show gd ((P ns).exc 72) (zb (P ns) 60 18 702 [.obj a] H (λv H₁=>ym v (Q (.bool G6) H₁)) λc H₁=>gd (Gi c 72) (Q (.bool G7) H₁));exact gd_iff.mpr ⟨rfl,h _ _ (gd_iff.mpr ⟨rfl,q⟩)⟩⟩
theorem lw_src{C:Orc}{Gl:Prop}(kk:∀so ce cs H,(Src H so ce cs 0)->(∀{rest:S} {r:As} {Q:KA},exS (P ns) C 60 rest [.scr,.obj 1,.obj so,.bad,.bad,.bad,.bad,.bad,.bad] H r Q->
  ∃as,exS (P ns) C 60 (.seq (hdS lawS) (.seq (hdS (tl lawS)) rest)) [.scr,.bad,.bad,.bad,.bad,.bad,.bad,.bad,.bad] [] as Q)->Gl):Gl:=by
 have l60:(ns.take 60).length<=60:=by rw[FP];exact Nat.min_le_left _ _
 have st:(It.lst 0 ((ns.take 60).map .int)).stands [O.list ((ns.take 60).map .int)]=G6:=kU (H:=[O.list ((ns.take 60).map .int)]) rfl (ints_eq _);have cm:=ok_ints (ns:=ns) (C:=C) st (ns.take 60) [];have g:Gj ((ns.take 60).map V.int).length 1000=G6:=by rw[Gs];exact Gk (Ga l60 (by decide))
 rcases e:ns.take 60 with _|⟨x,xs⟩
 ·have tb:(match (ns.take 60).map V.int with|[]=>G7|_=>G6)=G7:=by rw[e];rfl
  exact kk 3 2 ([0]) ([.list ((ns.take 60).map .int),.list ((ns.take 60).map .int),.list [.int 0],.list [.obj 2,.int 0]]) ⟨rfl,rfl,by decide,by decide⟩ (λ{rest r Q} h=>⟨.m ((ns.take 60).map .int) [O.list ((ns.take 60).map .int)] <|.g <|.b G7 r,ok (I cm <|I g <|I tb h) (by kernel_rfl)⟩)
 ·have tb:(match (ns.take 60).map V.int with|[]=>G7|_=>G6)=G6:=by rw[e];rfl
  exact kk 2 1 (ns.take 60) ([.list ((ns.take 60).map .int),.list ((ns.take 60).map .int),.list [.obj 1,.int 0]]) ⟨rfl,rfl,by rw[e];exact Nat.succ_pos _,l60⟩ (λ{rest r Q} h=>⟨.m ((ns.take 60).map .int) [O.list ((ns.take 60).map .int)] <|.g <|.b G6 r,ok (I cm <|I g <|I tb h) (by kernel_rfl)⟩)
end
end G
end
section
set_option Elab.async false
namespace G
open Mn
def txX(k:Nat):List Nat:=[88,40]++Yw (.ofNat k)++[41]
theorem PicOk.to{t t' cat:List Nat}{dg sc:Nat}{sg:Bool}{z:Nat}(h:PicOk t cat dg sc sg z)(e:t'=t):PicOk t' cat dg sc sg z:=by rw[e];exact h
noncomputable def AllTo(p:Nat->Prop):Nat->Prop
 |0=>True
 |n+1=>AllTo p n/\p (n+1)
theorem AllTo.get{p:Nat->Prop}: ∀{n k:Nat},AllTo p n->1<=k->k<=n->p k:=by
 intro n
 induction n with
 |zero=>intro y0 y1 h1 h2;exact absurd (Ga h1 h2) (Dj 0)
 |succ n ih=>
  intro k h h1 h2;rcases Ip n k with l|l
  ·rw[Dr h2 l];exact h.2
  ·exact ih h.1 h1 l
theorem pX1:PicOk [88,40,49,41] zx 0 0 G7 1:=λns n=>by kernel_rfl
theorem pX2:PicOk [88,40,50,41] zx 0 0 G7 2:=λns n=>by kernel_rfl
theorem pX3:PicOk [88,40,51,41] zx 0 0 G7 3:=λns n=>by kernel_rfl
theorem pX4:PicOk [88,40,52,41] zx 0 0 G7 4:=λns n=>by kernel_rfl
theorem pX5:PicOk [88,40,53,41] zx 0 0 G7 5:=λns n=>by kernel_rfl
theorem pX6:PicOk [88,40,54,41] zx 0 0 G7 6:=λns n=>by kernel_rfl
theorem pX7:PicOk [88,40,55,41] zx 0 0 G7 7:=λns n=>by kernel_rfl
theorem pX8:PicOk [88,40,56,41] zx 0 0 G7 8:=λns n=>by kernel_rfl
theorem pX9:PicOk [88,40,57,41] zx 0 0 G7 9:=λns n=>by kernel_rfl
theorem pX10:PicOk [88,40,49,48,41] zx 0 0 G7 10:=λns n=>by kernel_rfl
theorem pX11:PicOk [88,40,49,49,41] zx 0 0 G7 11:=λns n=>by kernel_rfl
theorem pX12:PicOk [88,40,49,50,41] zx 0 0 G7 12:=λns n=>by kernel_rfl
theorem pX13:PicOk [88,40,49,51,41] zx 0 0 G7 13:=λns n=>by kernel_rfl
theorem pX14:PicOk [88,40,49,52,41] zx 0 0 G7 14:=λns n=>by kernel_rfl
theorem pX15:PicOk [88,40,49,53,41] zx 0 0 G7 15:=λns n=>by kernel_rfl
theorem pX16:PicOk [88,40,49,54,41] zx 0 0 G7 16:=λns n=>by kernel_rfl
theorem pX17:PicOk [88,40,49,55,41] zx 0 0 G7 17:=λns n=>by kernel_rfl
theorem pX18:PicOk [88,40,49,56,41] zx 0 0 G7 18:=λns n=>by kernel_rfl
theorem pX19:PicOk [88,40,49,57,41] zx 0 0 G7 19:=λns n=>by kernel_rfl
theorem pX20:PicOk [88,40,50,48,41] zx 0 0 G7 20:=λns n=>by kernel_rfl
theorem pX21:PicOk [88,40,50,49,41] zx 0 0 G7 21:=λns n=>by kernel_rfl
theorem pX:PicOk [88] zx 0 0 G7 1:=λns n=>by kernel_rfl
theorem pN4:PicOk [57,40,52,41] zO 4 0 G7 4:=λns n=>by kernel_rfl
theorem pN5:PicOk [57,40,53,41] zO 5 0 G7 5:=λns n=>by kernel_rfl
theorem pS3:PicOk [83,57,40,51,41] zO 3 0 G6 3:=λns n=>by kernel_rfl
theorem qX1:txX 1=[88,40,49,41]:=by kernel_rfl
theorem qX2:txX 2=[88,40,50,41]:=by kernel_rfl
theorem qX3:txX 3=[88,40,51,41]:=by kernel_rfl
theorem qX4:txX 4=[88,40,52,41]:=by kernel_rfl
theorem qX5:txX 5=[88,40,53,41]:=by kernel_rfl
theorem qX6:txX 6=[88,40,54,41]:=by kernel_rfl
theorem qX7:txX 7=[88,40,55,41]:=by kernel_rfl
theorem qX8:txX 8=[88,40,56,41]:=by kernel_rfl
theorem qX9:txX 9=[88,40,57,41]:=by kernel_rfl
theorem qX10:txX 10=[88,40,49,48,41]:=by kernel_rfl
theorem qX11:txX 11=[88,40,49,49,41]:=by kernel_rfl
theorem qX12:txX 12=[88,40,49,50,41]:=by kernel_rfl
theorem qX13:txX 13=[88,40,49,51,41]:=by kernel_rfl
theorem qX14:txX 14=[88,40,49,52,41]:=by kernel_rfl
theorem qX15:txX 15=[88,40,49,53,41]:=by kernel_rfl
theorem qX16:txX 16=[88,40,49,54,41]:=by kernel_rfl
theorem qX17:txX 17=[88,40,49,55,41]:=by kernel_rfl
theorem qX18:txX 18=[88,40,49,56,41]:=by kernel_rfl
theorem qX19:txX 19=[88,40,49,57,41]:=by kernel_rfl
theorem qX20:txX 20=[88,40,50,48,41]:=by kernel_rfl
theorem qX21:txX 21=[88,40,50,49,41]:=by kernel_rfl
theorem allX:AllTo (λk=>PicOk (txX k) zx 0 0 G7 k) 21:=⟨⟨⟨⟨⟨⟨⟨⟨⟨⟨⟨⟨⟨⟨⟨⟨⟨⟨⟨⟨⟨trivial,pX1.to qX1⟩,pX2.to qX2⟩,pX3.to qX3⟩,pX4.to qX4⟩,pX5.to qX5⟩,pX6.to qX6⟩,pX7.to qX7⟩,pX8.to qX8⟩,pX9.to qX9⟩,pX10.to qX10⟩,pX11.to qX11⟩,pX12.to qX12⟩,pX13.to qX13⟩,pX14.to qX14⟩,pX15.to qX15⟩,pX16.to qX16⟩,pX17.to qX17⟩,pX18.to qX18⟩,pX19.to qX19⟩,pX20.to qX20⟩,pX21.to qX21⟩
end G
end
section
namespace G
open Mn
structure It0 where
 i:Nat
 lvl:Nat
 d:D
 par:Option Nat
 kids:List Nat
 oc:Nat
 off:Nat
noncomputable def It0.si(p:Nat)(e:It0):SI:=⟨e.d,e.lvl,e.par.map (p+ ·),p+(e.i+2),p+(e.i+1),p+e.oc,e.kids.map (p+ ·),[],e.off⟩
def It0.objs(p:Nat)(e:It0):Hp:=[zc (e.si p) [] 0 0 .none,.list [],.list ((e.si p).kids.map .obj)]
noncomputable def zt(j:Nat):List It0->Option It0
 |[]=>Gb
 |e::r=>match Gi e.i j with|true=>G3 e|false=>zt j r
def stOf(p:Nat)(es:List It0):St:=λa=>match Gj p a with|true=>(zt (a - p) es).map (It0.si p)|false=>Gb
theorem st_at{p i:Nat}{es:List It0}:stOf p es (p+i)=(zt i es).map (It0.si p):=by show(match Gj p (p+i) with|true=>(zt (p+i - p) es).map (It0.si p)|false=>Gb)=_;rw[Gk (Db p i),Dx]
theorem st_to{p a:Nat}{es:List It0}{s:SI}(h:stOf p es a=G3 s):∃i e,a=p+i/\zt i es=G3 e/\s=e.si p:=by
 have h:(match Gj p a with|true=>(zt (a - p) es).map (It0.si p)|false=>Gb)=G3 s:=h;rcases b:Gj p a with _|_
 ·rw[b] at h;cases h
 ·rw[b] at h;refine Gf (GK.mp h) λe h=>⟨a - p,e,?_,h.1,h.2.symm⟩;exact(Nat.add_sub_cancel' (G5 b)).symm
theorem findE_i{j:Nat}{e:It0}:∀{es:List It0},zt j es=G3 e->e.i=j/\e∈es:=by
 intro es
 induction es with
 |nil=>intro h;cases h
 |cons x r ih=>
  intro h;have h:(match Gi x.i j with|true=>G3 x|false=>zt j r)=G3 e:=h;rcases b:Gi x.i j with _|_
  ·rw[b] at h;exact⟨(ih h).1,.tail _ (ih h).2⟩
  ·rw[b] at h;cases h;exact⟨GE b,.head _⟩
noncomputable def It0.gives(B:Hp)(e:It0):List (Option O):=[B[e.i]?,B[e.i+2]?,match e.d.oc with|none=>Gb|some _=>B[e.oc]?]
def It0.wants(p:Nat)(e:It0):List (Option O):=[G3 (zc (e.si p) [] 0 0 .none),G3 (.list ((e.si p).kids.map .obj)),match e.d.oc with|none=>Gb|some c=>G3 (occO c e.d.often)]
noncomputable def It0.fine(e:It0):Bool:=match e.d.oc with|none=>Gi e.d.often 1|some _=>G6
section
variable {X B:Hp} {i:Nat}
theorem at_{o:O}(h:B[i]?=G3 o):(X++B)[X.length+i]?=G3 o:=by rw[List.getElem?_append_right (Db _ _),Dx];exact h
theorem set_{o:O}{B':Hp}(h:B.set i o=B'):(X++B).set (X.length+i) o=X++B':=by rw[List.set_append_right _ _ (Db _ _),Dx,h]
end
theorem map_l{α β:Type}{f g:α->β}{x:α}:∀{l:List α},l.map f=l.map g->x∈l->f x=g x:=by
 intro l
 induction l with
 |nil=>intro _ m;cases m
 |cons a r ih=>
  intro h m;have h:=Fv h;rcases m with _|⟨_,m⟩
  ·exact h.1
  ·exact ih h.2 m
theorem yp{X B:Hp}{es:List It0}(h:es.map (It0.gives B)=es.map (It0.wants X.length))(f:es.all It0.fine=G6):Inv (stOf X.length es) (X++B):=λa s t=>by
 obtain⟨i,e,rfl,he,rfl⟩:=st_to t;obtain⟨rfl,m⟩:=findE_i he;have q:=map_l h m;have q1:B[e.i]?=G3 (zc (e.si X.length) [] 0 0 .none):=(Fv q).1;have q:=(Fv q).2;have q2:B[e.i+2]?=G3 (.list ((e.si X.length).kids.map .obj)):=(Fv q).1;have q3:(match e.d.oc with|none=>Gb|some _=>B[e.oc]?)=(match e.d.oc with|none=>Gb|some c=>G3 (occO c e.d.often)):=(Fv (Fv q).2).1;have ff:(match e.d.oc with|none=>Gi e.d.often 1|some _=>G6)=G6:=Gz.mp f e m;refine⟨⟨[],0,0,.none,at_ q1⟩,at_ q2,?_⟩;rcases oc:e.d.oc with _|c
 ·rw[oc] at ff;exact .inl ⟨oc,GE ff⟩
 ·rw[oc] at q3;exact .inr ⟨c,oc,at_ q3⟩
def mt0(es:List It0)(nm:List Nat)(i:Nat):Bool:=match zt i es with|some e=>eqS e.d.name nm|none=>G7
theorem Ku{p:Nat}{es:List It0}{nm:List Nat}:∀is:List Nat,(is.map (p+ ·)).filter (mt (stOf p es) nm)=(is.filter (mt0 es nm)).map (p+ ·):=by
 intro is
 induction is with
 |nil=>exact rfl
 |cons i r ih=>
  have e:mt (stOf p es) nm (p+i)=mt0 es nm i:=by
   show(match stOf p es (p+i) with|some s=>eqS s.d.name nm|none=>G7)=(match zt i es with|some e=>eqS e.d.name nm|none=>G7);rw[st_at];rcases zt i es<;>rfl
  show((p+i)::r.map (p+ ·)).filter _=_;rcases q:mt0 es nm i with _|_
  ·rw[Ff (by rw[e,q];exact G4),Ff (by rw[q];exact G4),ih]
  ·rw[Fe (by rw[e,q]),Fe (by rw[q]),ih];rfl
theorem Jf{p:Nat}{is:List Nat}{b:Bool}(h:nb is=b):nb (is.map (p+ ·))=b:=by
 rcases is<;>exact h
end G
end
section
set_option Elab.async false
namespace G
open Mn
noncomputable def itF(cl kl lv:Nat)(nm:List Nat)(pic:V)(us up:List Nat)(pr:V):List (Nat×V):=[(23,.int (.ofNat lv)),(22,.str nm),(21,pic),(20,.str us),(19,.str []),(18,.bool G7),(17,.none),(16,.str up),(15,.none),(14,.bool G7),(13,.bool G7),(12,.obj cl),(11,.obj kl),(10,pr),(9,.none),(8,.str []),(7,.int (.ofNat 0)),(6,.int (.ofNat 0)),(5,.none)]
def itm(p lv:Nat)(nm:List Nat)(pic:V)(us up:List Nat)(pr:V):O:=.inst 148 (itF (p+1) (p+2) lv nm pic us up pr)
def it3(p lv:Nat)(nm:List Nat)(pic:V)(us up:List Nat)(pr:V):Hp:=[itm p lv nm pic us up pr,.list [],.list []]
theorem app3(H:Hp)(x y z:O):H++[x]++[y]++[z]=H++[x,y,z]:=by rw[Gw,Gw];rfl
section
variable {ns:List Int}
theorem item_pre(H:Hp)(lv:Nat)(name:List Nat):∃cl kl,cl=H.length+1/\kl=H.length+2/\Cb ns 2 148 [.int (.ofNat lv),.str name] H (.obj H.length) (H++[.inst 148 (itF cl kl lv name .none [] [] .none)]++[O.list []]++[O.list []]):=by
 obtain⟨cl,ec⟩:∃c,c=(H++[O.inst 148 ((itF 0 0 lv name .none [] [] .none).take 11)]).length:=⟨_,rfl⟩;obtain⟨kl,ek⟩:∃c,c=(H++[O.inst 148 ((itF cl 0 lv name .none [] [] .none).take 12)]++[O.list []]).length:=⟨_,rfl⟩;refine⟨cl,kl,by rw[ec,len1],by rw[ek,len1,len1],?_⟩;refine yP rfl (i:=119) rfl (zW (yS (g0 H) 148 (itF cl kl lv name .none [] [] .none) 0 11 <|yS (g1 H (.list [])) 148 (itF cl kl lv name .none [] [] .none) 11 1 <|yS (g2 H (.list []) (.list [])) 148 (itF cl kl lv name .none [] [] .none) 12 7 .nil) λ_ _=>?_);exact ok (yd 148 (itF cl kl lv name .none [] [] .none) (jP H) (YO H) (yd 148 (itF cl kl lv name .none [] [] .none) (g1_at H (.list [])) (g1_set H (.list [])) (yd 148 (itF cl kl lv name .none [] [] .none) (g2_at H (.list []) (.list [])) (g2_set H (.list []) (.list []))
  (fin .none (H++[.inst 148 (itF cl kl lv name .none [] [] .none)]++[O.list []]++[O.list []])) 7 12) 1 11) 11 0) (by rw[ek,ec];kernel_rfl)
theorem KJ(H:Hp)(lv:Nat)(nm:List Nat):Cb ns 2 148 [.int (.ofNat lv),.str nm] H (.obj H.length) (H++it3 H.length lv nm .none [] [] .none):=by obtain⟨cl,kl,rfl,rfl,c⟩:=item_pre (ns:=ns) H lv nm;rw[app3] at c;exact c
theorem KB(H:Hp)(nm pic:List Nat):Cb ns 3 717 [.str nm,.str pic] H (.obj H.length) (H++it3 H.length 5 nm (.str pic) [] [] .none):=
 zW (.c (.obj H.length) (H++it3 H.length 5 nm .none [] [] .none) <|.o (itm H.length 5 nm .none [] [] .none) <|.h (H++it3 H.length 5 nm (.str pic) [] [] .none) <|.o (itm H.length 5 nm (.str pic) [] [] .none) <|.h (H++it3 H.length 5 nm (.str pic) [] [] .none) .nil) λ_ hm=>
  ok (I ((KJ H 5 nm).at hm) <|I (at_ (X:=H) (i:=0) (B:=it3 H.length 5 nm .none [] [] .none) rfl) <|I (set_ (X:=H) (i:=0) (B:=it3 H.length 5 nm .none [] [] .none) (o:=itm H.length 5 nm (.str pic) [] [] .none) (B':=it3 H.length 5 nm (.str pic) [] [] .none) rfl) <|I (at_ (X:=H) (i:=0) (B:=it3 H.length 5 nm (.str pic) [] [] .none) rfl) <|I (set_ (X:=H) (i:=0) (B:=it3 H.length 5 nm (.str pic) [] [] .none) (o:=itm H.length 5 nm (.str pic) [] [] .none) (B':=it3 H.length 5 nm (.str pic) [] [] .none) rfl) <|fin (.obj H.length) (H++it3 H.length 5 nm (.str pic) [] [] .none)) (by kernel_rfl)
theorem kN(H:Hp)(nm goal pic:List Nat):Cb ns 4 731 [.str nm,.str goal,.str pic] H (.obj H.length) (H++it3 H.length 5 nm (.str pic) [] goal .none):=
 zW (.c (.obj H.length) (H++it3 H.length 5 nm (.str pic) [] [] .none) <|.o (itm H.length 5 nm (.str pic) [] [] .none) <|.h (H++it3 H.length 5 nm (.str pic) [] goal .none) .nil) λ_ hm=>
  ok (I ((KB H nm pic).at hm) <|I (at_ (X:=H) (i:=0) (B:=it3 H.length 5 nm (.str pic) [] [] .none) rfl) <|I (set_ (X:=H) (i:=0) (B:=it3 H.length 5 nm (.str pic) [] [] .none) (o:=itm H.length 5 nm (.str pic) [] goal .none) (B':=it3 H.length 5 nm (.str pic) [] goal .none) rfl) <|fin (.obj H.length) (H++it3 H.length 5 nm (.str pic) [] goal .none)) (by kernel_rfl)
theorem XI{H H1 H2:Hp}{a k q kl lv:Nat}{fs:List (Nat×V)}{nm:List Nat}{pic:V}{us up:List Nat}{vs:List V}(hx:H[k]?=G3 (itm q lv nm pic us up .none))(e1:H.set k (itm q lv nm pic us up (.obj a))=H1)(ha:H1[a]?=G3 (.inst 148 fs))(hk:getF 11 fs=G3 (.obj kl))(hl:H1[kl]?=G3 (.list vs))(b:vs.length < 1000)(e2:H1.set kl (.list (vs++[.obj k]))=H2) :
  Cb ns 1 126 [.obj a,.obj k] H .none H2:=
 zW (.o (itm q lv nm pic us up .none) <|.h H1 <|.o (.inst 148 fs) <|.w (.obj kl) <|.g <|.o (.list vs) <|.g <|.h H2 .nil) λ_ _=>
  ok (I hx <|I e1 <|I ha <|I hk <|I (show(match H1[kl]? with|some (.list _)=>G6|_=>G7)=G6 by rw[hl]) <|I hl <|I (Gk b:D0 vs.length 1000=G6) <|I e2 <|fin .none H2) (by kernel_rfl)
noncomputable def gA(g:O->Hp)(l:O)(x:O):Hp:=g x++[l]
theorem KV{g:O->Hp}{i:Nat}{l:O}(h:∀x,(g x)[i]?=G3 x)(x:O):(gA g l x)[i]?=G3 x:=zd (h x)
theorem jd{g:O->Hp}{i:Nat}{l:O}(h:∀x,(g x)[i]?=G3 x)(k:∀x y,(g x).set i y=g y)(x y:O):(gA g l x).set i y=gA g l y:=by show(g x++[l]).set i y=g y++[l];rw[Yz (Xo (h x)),k]
theorem Zq{g:O->Hp}{l x:O}:(gA g l x).length=(g x).length+1:=len1 _ _
noncomputable def datF(wl ll fd sl ix:Nat):List (Nat×V):=[(27,.obj wl),(26,.obj ll),(25,.obj fd),(24,.obj sl),(6,.int (.ofNat 0)),(0,.obj ix)]
def dat6(n:Nat)(ws:List V)(es:List (List Nat×V)):Hp:=[datO (n+1) (n+2) (n+3) (n+4) 0 (n+5),.list ws,.list [],.dict es,.list [],.dict []]
theorem YS(H:Hp):Cb ns 2 174 [] H (.obj H.length) (H++dat6 H.length [] []):=by
 obtain⟨wl,e1⟩:∃c,c=(g0 H (.inst 174 [])).length:=⟨_,rfl⟩;obtain⟨ll,e2⟩:∃c,c=(gA (g0 H) (.list []) (.inst 174 ((datF wl 0 0 0 0).take 1))).length:=⟨_,rfl⟩;obtain⟨fd,e3⟩:∃c,c=(gA (gA (g0 H) (.list [])) (.list []) (.inst 174 ((datF wl ll 0 0 0).take 2))).length:=⟨_,rfl⟩;obtain⟨sl,e4⟩:∃c,c=(gA (gA (gA (g0 H) (.list [])) (.list [])) (.dict []) (.inst 174 ((datF wl ll fd 0 0).take 3))).length:=⟨_,rfl⟩;obtain⟨ix,e5⟩:∃c,c=(gA (gA (gA (gA (g0 H) (.list [])) (.list [])) (.dict [])) (.list []) (.inst 174 ((datF wl ll fd sl 0).take 5))).length:=⟨_,rfl⟩;have l0:∀x,(g0 H x).length=H.length+1:=λx=>len1 _ _;have a0:=jP H;have s0:=YO H;have a1:∀x,(gA (g0 H) (.list []) x)[H.length]?=G3 x:=KV a0;have s1:∀x y,(gA (g0 H) (.list []) x).set H.length y=gA (g0 H) (.list []) y:=jd a0 s0;have a2:∀x,(gA (gA (g0 H) (.list [])) (.list []) x)[H.length]?=G3 x:=KV a1;have s2:∀x y,(gA (gA (g0 H) (.list [])) (.list []) x).set H.length y=gA (gA (g0 H) (.list [])) (.list []) y:=jd a1 s1;have a3:∀x,(gA (gA (gA (g0 H) (.list [])) (.list [])) (.dict []) x)[H.length]?=G3 x:=KV a2;have s3:∀x y,(gA (gA (gA (g0 H) (.list [])) (.list [])) (.dict []) x).set H.length y=gA (gA (gA (g0 H) (.list [])) (.list [])) (.dict []) y:=jd a2 s2;have a4:∀x,(gA (gA (gA (gA (g0 H) (.list [])) (.list [])) (.dict [])) (.list []) x)[H.length]?=G3 x:=KV a3;have s4:∀x y,(gA (gA (gA (gA (g0 H) (.list [])) (.list [])) (.dict [])) (.list []) x).set H.length y=gA (gA (gA (gA (g0 H) (.list [])) (.list [])) (.dict [])) (.list []) y:=jd a3 s3;have a5:∀x,(gA (gA (gA (gA (gA (g0 H) (.list [])) (.list [])) (.dict [])) (.list [])) (.dict []) x)[H.length]?=G3 x:=KV a4;have s5:∀x y,(gA (gA (gA (gA (gA (g0 H) (.list [])) (.list [])) (.dict [])) (.list [])) (.dict []) x).set H.length y=gA (gA (gA (gA (gA (g0 H) (.list [])) (.list [])) (.dict [])) (.list [])) (.dict []) y:=jd a4 s4;have L1:wl=H.length+1:=by rw[e1,l0]
 have L2:ll=H.length+2:=by rw[e2,Zq,l0]
 have L3:fd=H.length+3:=by rw[e3,Zq,Zq,l0]
 have L4:sl=H.length+4:=by rw[e4,Zq,Zq,Zq,l0]
 have L5:ix=H.length+5:=by rw[e5,Zq,Zq,Zq,Zq,l0]
 have c:Cb ns 2 174 [] H (.obj H.length) (gA (gA (gA (gA (gA (g0 H) (.list [])) (.list [])) (.dict [])) (.list [])) (.dict []) (.inst 174 (datF wl ll fd sl ix))):=by refine yP rfl (i:=166) rfl (zW (yS (gA (g0 H) (.list [])) 174 (datF wl ll fd sl ix) 0 1 <|yS (gA (gA (g0 H) (.list [])) (.list [])) 174 (datF wl ll fd sl ix) 1 1 <|yS (gA (gA (gA (g0 H) (.list [])) (.list [])) (.dict [])) 174 (datF wl ll fd sl ix) 2 1 <|yS (gA (gA (gA (gA (g0 H) (.list [])) (.list [])) (.dict [])) (.list [])) 174 (datF wl ll fd sl ix) 3 2 <|yS (gA (gA (gA (gA (gA (g0 H) (.list [])) (.list [])) (.dict [])) (.list [])) (.dict [])) 174 (datF wl ll fd sl ix) 5 1 .nil) λ_ _=>?_);refine ok (yd 174 (datF wl ll fd sl ix) a1 s1 (yd 174 (datF wl ll fd sl ix) a2 s2 (yd 174 (datF wl ll fd sl ix) a3 s3 (yd 174 (datF wl ll fd sl ix) a4 s4 (yd 174 (datF wl ll fd sl ix) a5 s5 (fin .none (gA (gA (gA (gA (gA (g0 H) (.list [])) (.list [])) (.dict [])) (.list [])) (.dict []) (.inst 174 (datF wl ll fd sl ix)))) 1 5) 2 3) 1 2) 1 1) 1 0) ?_;clear L1 L2 L3 L4 L5;subst e5;subst e4;subst e3;subst e2;subst e1;kernel_rfl
 rw[L1,L2,L3,L4,L5] at c;have e:gA (gA (gA (gA (gA (g0 H) (.list [])) (.list [])) (.dict [])) (.list [])) (.dict []) (.inst 174 (datF (H.length+1) (H.length+2) (H.length+3) (H.length+4) (H.length+5)))=H++dat6 H.length [] []:=by show H++[_]++[_]++[_]++[_]++[_]++[_]=_;simp only[Gw];rfl
 rw[e] at c;exact c
end
end G
end
section
set_option Elab.async false
namespace G
open Mn
def dA(k:Nat):D:=⟨[65],1,Gb,[],G3 (txX k,G7),[],k⟩
noncomputable def dB:D:=⟨[66],1,Gb,[],G3 ([83,57,40,51,41],G7),[],3⟩
def dC:D:=⟨[67],1,Gb,yr,G3 ([57,40,53,41],G7),[],bw 5⟩
def fG:F:=.node dB .nil (.node dC .nil .nil)
noncomputable def dG:D:=⟨[71],1,Gb,[],Gb,[],7⟩
noncomputable def dN:D:=⟨[78],1,Gb,[],G3 ([57,40,52,41],G7),[],4⟩
noncomputable def dK:D:=⟨[75],1,Gb,[],G3 ([88],G7),[],1⟩
def fT:F:=.node dK .nil .nil
noncomputable def ocT:Oc:=⟨1,G3 [78],G3 (G6,[75]),G3 [73]⟩
noncomputable def dT(c:Oc):D:=⟨[84],3,G3 c,[],Gb,[],1⟩
def fX(c:Oc):F:=.node dG fG (.node dN .nil (.node (dT c) fT .nil))
def dR(f:F):D:=⟨[82],1,Gb,[],Gb,[],gsz f⟩
def oG(a:D):Nat:=0+mulS a
def oN(a:D):Nat:=oG a+mulS dG
def oT(a:D):Nat:=oN a+mulS dN
noncomputable def eR(d:D)(ks:List Nat):It0:=⟨0,1,d,Gb,ks,0,0⟩
def eG(a:D):It0:=⟨3,5,dG,G3 0,[16,19],0,oG a⟩
def eTo(a:D)(c:Oc)(o:Nat):It0:=⟨6,5,dT c,G3 0,[22],o,oT a⟩
abbrev eT(a:D)(c:Oc):It0:=eTo a c 9
noncomputable def eA(a:D):It0:=⟨10,5,a,G3 0,[],25,0⟩
def eN(a:D):It0:=⟨13,5,dN,G3 0,[],0,oN a⟩
def eB(a:D):It0:=⟨16,5,dB,G3 3,[],0,oG a⟩
def eC(a:D):It0:=⟨19,5,dC,G3 3,[],0,oG a+mulS dB⟩
def eK(a:D):It0:=⟨22,5,dK,G3 6,[],0,oT a⟩
def mkR(p:Nat)(r g t:It0)(c:Oc)(a n b k x:It0):Hp:=r.objs p++g.objs p++t.objs p++[occO c 3]++a.objs p++n.objs p++b.objs p++k.objs p++x.objs p
noncomputable def rK:List Nat:=[10,3,13,6]
def fA(a:D)(c:Oc):F:=.node a .nil (fX c)
def mk0(p k:Nat):Hp:=mkR p (eR (dR (fA (dA k) ocT)) rK) (eG (dA k)) (eT (dA k) ocT) ocT (eA (dA k)) (eN (dA k)) (eB (dA k)) (eC (dA k)) (eK (dA k))
theorem mk0_sh(p k:Nat):(mk0 0 k).map (shO p)=mk0 p k:=by kernel_rfl
def Y6(k:Nat)(v:V)(H:Hp):Prop:=v= .obj 0/\H=mk0 0 k
theorem recPost{k:Nat}:Y6 k (.obj 0) (mk0 0 k):=Ic rfl rfl
def FrmOk(P:Prg)(w n f:Nat)(fn:Fn)(as:List V)(post:V->Hp->Prop)(r:Prop):Prop:=yM P w (zb P w n) fn f as [] post X0=r
def yN(k:Nat):Prop:=∀(ns:List Int) (n:Nat),FrmOk (P ns) 60 (n+4) 724 f724 [.int (.ofNat k)] (Y6 k) (Y6 k (.obj 0) (mk0 0 k))
theorem fo{P:Prg}{w n f:Nat}{fn:Fn}{as:List V}{post:V->Hp->Prop}{r:Prop}(h:yM P w (zb P w n) fn f as [] post X0=r):FrmOk P w n f fn as post r:=h
theorem r1:yN 1:=λns n=>fo (by kernel_rfl)
theorem r2:yN 2:=λns n=>fo (by kernel_rfl)
theorem r3:yN 3:=λns n=>fo (by kernel_rfl)
theorem r4:yN 4:=λns n=>fo (by kernel_rfl)
theorem r5:yN 5:=λns n=>fo (by kernel_rfl)
theorem r6:yN 6:=λns n=>fo (by kernel_rfl)
theorem r7:yN 7:=λns n=>fo (by kernel_rfl)
theorem r8:yN 8:=λns n=>fo (by kernel_rfl)
theorem r9:yN 9:=λns n=>fo (by kernel_rfl)
theorem r10:yN 10:=λns n=>fo (by kernel_rfl)
theorem r11:yN 11:=λns n=>fo (by kernel_rfl)
theorem r12:yN 12:=λns n=>fo (by kernel_rfl)
theorem r13:yN 13:=λns n=>fo (by kernel_rfl)
theorem r14:yN 14:=λns n=>fo (by kernel_rfl)
theorem r15:yN 15:=λns n=>fo (by kernel_rfl)
theorem r16:yN 16:=λns n=>fo (by kernel_rfl)
theorem r17:yN 17:=λns n=>fo (by kernel_rfl)
theorem r18:yN 18:=λns n=>fo (by kernel_rfl)
theorem r19:yN 19:=λns n=>fo (by kernel_rfl)
theorem r20:yN 20:=λns n=>fo (by kernel_rfl)
theorem allR:AllTo yN 20:=⟨⟨⟨⟨⟨⟨⟨⟨⟨⟨⟨⟨⟨⟨⟨⟨⟨⟨⟨⟨trivial,r1⟩,r2⟩,r3⟩,r4⟩,r5⟩,r6⟩,r7⟩,r8⟩,r9⟩,r10⟩,r11⟩,r12⟩,r13⟩,r14⟩,r15⟩,r16⟩,r17⟩,r18⟩,r19⟩,r20⟩
theorem frm_call{P:Prg}{w n f:Nat}{fn:Fn}{as:List V}{post:V->Hp->Prop}{r:Prop}{v0:V}{H0:Hp}(hf:P.fn f=G3 fn)(fr:P.frm f=G6)(fl:as.all Yg=G6)(e:FrmOk P w n f fn as post r)(q:r)(hv:∀v H,post v H->v=v0/\H=H0)(X:Hp) :
  Call (zb P w (n+1)) f as X (shV X.length v0) (X++H0.map (shO X.length)):=by
 refine⟨λQ X' y=>?_⟩;show(match P.fn f with
  |some fn=>ite2 (P.frm f) (gd (as.all Yg) (yM P w (zb P w n) fn f as [] (λv H'=>Q (shV X.length v) (X++H'.map (shO X.length))) λ_ _=>False)) (yM P w (zb P w n) fn f as X Q X')
  |none=>_)
 rw[hf];show ite2 (P.frm f) (gd (as.all Yg) (yM P w (zb P w n) fn f as [] (λv H'=>Q (shV X.length v) (X++H'.map (shO X.length))) λ_ _=>False)) (yM P w (zb P w n) fn f as X Q X');rw[fr];show gd (as.all Yg) (yM P w (zb P w n) fn f as [] (λv H'=>Q (shV X.length v) (X++H'.map (shO X.length))) λ_ _=>False);refine gd_iff.mpr ⟨fl,?_⟩;refine zf (Yo (ZR P w n) fn f as [] post (Eq.mpr e q)) λv H' p k=>?_;obtain⟨rfl,rfl⟩:=hv v H' p;exact k _ _ y
theorem rec_fn(ns:List Int):(P ns).fn 724=G3 f724:=by kernel_rfl
theorem rec_fr(ns:List Int):(P ns).frm 724=G6:=by kernel_rfl
theorem rec_post(k:Nat)(v:V)(H:Hp)(h:Y6 k v H):v= .obj 0/\H=mk0 0 k:=h
theorem uA{C C':Orc}{f:Nat}{as:List V}{X:Hp}{v v':V}{H H':Hp}(c:Call C f as X v H)(e1:C=C')(e2:v=v')(e3:H=H'):Call C' f as X v' H':=by subst e1;subst e2;subst e3;exact c
theorem sh_0(n:Nat):shV n (.obj 0)= .obj n:=by kernel_rfl
theorem rec_gen{P:Prg}{fn:Fn}{k n m:Nat}(hf:P.fn 724=G3 fn)(fr:P.frm 724=G6)(e:FrmOk P 60 (n+4) 724 fn [.int (.ofNat k)] (Y6 k) (Y6 k (.obj 0) (mk0 0 k)))(em:m=n+4+1)(X:Hp):Call (zb P 60 m) 724 [.int (.ofNat k)] X (.obj X.length) (X++mk0 X.length k):=
 uA (frm_call hf fr rfl e recPost (rec_post k) X) (congrArg (zb P 60) em.symm) (sh_0 _) (congrArg (X++·) (mk0_sh X.length k))
theorem YB{ns:List Int}{k m:Nat}(h1:1<=k)(h2:k<=20)(hm:5<=m)(X:Hp):Call (zb (P ns) 60 m) 724 [.int (.ofNat k)] X (.obj X.length) (X++mk0 X.length k):=
 Gf (GP hm) λn e=>rec_gen (rec_fn ns) (rec_fr ns) (AllTo.get (p:=yN) allR h1 h2 ns n) e X
end G
end
section
namespace G
open Mn
section
variable {T:St} {base anc:List Nat} {here last:Nat} {d:D} {k r:F} {a:Nat} {s:SI} {as:List Nat}
theorem JB(f:fre d=G6)(n:Node T base anc here d a s)(x:Des T base (a::anc) here 0 k s.kids)(y:Des T base anc (here+mulS d) here r as):Des T base anc here last (.node d k r) (a::as):=by
 refine⟨a,as,s,rfl,?_,?_,?_⟩<;>rw[f]<;>assumption
theorem des_up(f:fre d=G7)(n:Node T base anc last d a s)(x:Des T base (a::anc) last 0 k s.kids)(y:Des T base anc here last r as):Des T base anc here last (.node d k r) (a::as):=by
 refine⟨a,as,s,rfl,?_,?_,?_⟩<;>rw[f]<;>assumption
theorem ZL(f:fre d=G6)(n:Node T base anc here d a s)(ks:s.kids=[])(y:Des T base anc (here+mulS d) here r as):Des T base anc here last (.node d .nil r) (a::as):=JB f n ks y
theorem X7(f:fre d=G7)(n:Node T base anc last d a s)(ks:s.kids=[])(y:Des T base anc here last r as):Des T base anc here last (.node d .nil r) (a::as):=des_up f n ks y
theorem Zb:Des T base anc here last .nil []:=rfl
theorem ZT{e:List Nat}{l:Option D}(f:fre d=G6)(n:Nd e d k)(x:Wf (effD e d) Gb k)(y:Wf e (G3 d) r):Wf e l (.node d k r):=by refine⟨n,x,?_⟩;rw[f];exact y
theorem wf_up{e:List Nat}{l:Option D}{u:D}(f:fre d=G7)(n:Nd e d k)(x:Wf (effD e d) Gb k)(v:Up l d u)(y:Wf e l r):Wf e l (.node d k r):=by refine⟨n,x,?_⟩;rw[f];exact⟨⟨u,v⟩,y⟩
end
theorem yT{p i:Nat}{es:List It0}{anc:List Nat}{e:It0}(h:zt i es=G3 e)(lv:e.lvl=lvOf anc)(pr:e.par.map (p+ ·)=anc.head?):Node (stOf p es) [] anc e.off e.d (p+i) (e.si p):=
 ⟨by rw[st_at,h];rfl,rfl,lv,.inl pr,rfl,rfl⟩
theorem tOf{p i:Nat}{es:List It0}{e:It0}(h:zt i es=G3 e):stOf p es (p+i)=G3 (e.si p):=by rw[st_at,h];rfl
theorem ndB:Nd [] dB .nil:=⟨by decide,by decide,by decide,.inl ⟨_,_,rfl,rfl,.sgt _ 3 0 3 pS3⟩⟩
theorem ndC:Nd [] dC .nil:=⟨by decide,by decide,by decide,.inl ⟨_,_,rfl,rfl,.bin _ 5 0 5 G7 pN5 (by decide) (by decide)⟩⟩
theorem ndG:Nd [] dG fG:=⟨by decide,by decide,by decide,.inr ⟨rfl,nofun,rfl⟩⟩
theorem ndN:Nd [] dN .nil:=⟨by decide,by decide,by decide,.inl ⟨_,_,rfl,rfl,.num _ 4 0 4 pN4⟩⟩
theorem ndK:Nd [] dK .nil:=⟨by decide,by decide,by decide,.inl ⟨_,_,rfl,rfl,.txt _ 1 pX⟩⟩
theorem ndT(c:Oc):Nd [] (dT c) fT:=⟨G5 rfl,G5 rfl,G5 rfl,.inr ⟨rfl,nofun,rfl⟩⟩
def dX(nm:List Nat)(n:Nat)(oc:Option Oc)(up:List Nat)(k:Nat):D:=⟨nm,n,oc,[],G3 (txX k,G7),up,k⟩
theorem ndX{nm up:List Nat}{n k:Nat}{oc:Option Oc}(n1:1<=n)(n3:n<=3)(h1:1<=k)(h2:k<=21):Nd [] (dX nm n oc up k) .nil:=⟨n1,n3,Ga h2 (by decide),.inl ⟨_,_,rfl,rfl,.txt _ k (allX.get h1 h2)⟩⟩
theorem wfG:Wf [] Gb fG:=ZT rfl ndB trivial (ZT rfl ndC trivial trivial)
theorem wfT:Wf [] Gb fT:=ZT rfl ndK trivial trivial
theorem wfX(c:Oc)(l:Option D):Wf [] l (fX c):=ZT rfl ndG wfG (ZT rfl ndN trivial (ZT rfl (ndT c) wfT trivial))
structure Tab (es:List It0) (a:D) (c:Oc) (o:Nat):Prop where
 g:zt 3 es=G3 (eG a)
 t:zt 6 es=G3 (eTo a c o)
 n:zt 13 es=G3 (eN a)
 b:zt 16 es=G3 (eB a)
 c:zt 19 es=G3 (eC a)
 k:zt 22 es=G3 (eK a)
 aa:zt 10 es=G3 (eA a)
section
variable {es:List It0} {a:D} {c:Oc} {p o:Nat}
theorem dsG(h:Tab es a c o):Des (stOf p es) [] [p+3,p] (oG a) 0 fG [p+16,p+19]:=
 ZL rfl (yT h.b rfl rfl) rfl (ZL rfl (yT h.c rfl rfl) rfl Zb)
theorem dsT(h:Tab es a c o):Des (stOf p es) [] [p+6,p] (oT a) 0 fT [p+22]:=ZL rfl (yT h.k rfl rfl) rfl Zb
theorem dsX(h:Tab es a c o)(last:Nat):Des (stOf p es) [] [p] (oG a) last (fX c) [p+3,p+13,p+6]:=
 JB rfl (yT h.g rfl rfl) (dsG h) (ZL rfl (yT h.n rfl rfl) rfl (JB rfl (yT h.t rfl rfl) (dsT h) Zb))
theorem dsA(h:Tab es a c o)(fr:fre a=G6){f:F}{as:List Nat}(x:Des (stOf p es) [] [p] (oG a) 0 f as):Des (stOf p es) [] [p] 0 0 (.node a .nil f) ((p+10)::as):=ZL fr (yT h.aa rfl rfl) rfl x
theorem pre1{T:St}{d:D}{x:Nat}{s:SI}{r:F}{rs y:List Nat}(t:T x=G3 s)(ks:s.kids=[])(h:Pre T r rs y):Pre T (.node d .nil r) (x::rs) (x::y):=⟨x,rs,s,[],y,rfl,t,⟨ks,rfl⟩,h,rfl⟩
theorem pre2{T:St}{d:D}{x:Nat}{s:SI}{k r:F}{rs y z res:List Nat}(t:T x=G3 s)(q:Pre T k s.kids z)(h:Pre T r rs y)(e:res=x::(z++y)):Pre T (.node d k r) (x::rs) res:=⟨x,rs,s,z,y,rfl,t,q,h,e⟩
theorem preT(h:Tab es a c o):Pre (stOf p es) (.node (dT c) fT .nil) [p+6] [p+6,p+22]:=pre2 (z:=[p+22]) (y:=[]) (tOf h.t) (pre1 (tOf h.k) rfl ⟨rfl,rfl⟩) ⟨rfl,rfl⟩ rfl
theorem preX(h:Tab es a c o):Pre (stOf p es) (fX c) [p+3,p+13,p+6] [p+3,p+16,p+19,p+13,p+6,p+22]:=
 pre2 (z:=[p+16,p+19]) (y:=[p+13,p+6,p+22]) (tOf h.g) (pre1 (tOf h.b) rfl (pre1 (tOf h.c) rfl ⟨rfl,rfl⟩)) (pre1 (tOf h.n) rfl (preT h)) rfl
theorem zE{T:St}{x:Nat}{as anc:List Nat}{s:SI}(t:T x=G3 s)(pr:s.par=anc.head?)(ch:yj T anc)(l:anc.length < 50)(h:CAll T as):CAll T (x::as):=λy m=>by
 rcases m with _|⟨_,m⟩
 ·exact⟨s,anc,t,pr,ch,l⟩
 ·exact h y m
theorem chR{d:D}{ks:List Nat}(h:zt 0 es=G3 (eR d ks))(e:sepB d.leaf=G7):yj (stOf p es) [p]:=⟨⟨_,tOf (i:=0) h,rfl,e⟩,trivial⟩
theorem chG(h:Tab es a c o){d:D}{ks:List Nat}(h0:zt 0 es=G3 (eR d ks))(e:sepB d.leaf=G7):yj (stOf p es) [p+3,p]:=⟨⟨_,tOf h.g,rfl,rfl⟩,chR h0 e⟩
theorem chT_(h:Tab es a c o){d:D}{ks:List Nat}(h0:zt 0 es=G3 (eR d ks))(e:sepB d.leaf=G7):yj (stOf p es) [p+6,p]:=⟨⟨_,tOf h.t,rfl,rfl⟩,chR h0 e⟩
theorem caX(h:Tab es a c o){d:D}{ks:List Nat}(h0:zt 0 es=G3 (eR d ks))(e:sepB d.leaf=G7):CAll (stOf p es) [p+3,p+16,p+19,p+13,p+6,p+22]:=
 zE (anc:=[p]) (tOf h.g) rfl (chR h0 e) (by show 1 < 50;decide) <|zE (anc:=[p+3,p]) (tOf h.b) rfl (chG h h0 e) (by show 2 < 50;decide) <|zE (anc:=[p+3,p]) (tOf h.c) rfl (chG h h0 e) (by show 2 < 50;decide) <|
 zE (anc:=[p]) (tOf h.n) rfl (chR h0 e) (by show 1 < 50;decide) <|zE (anc:=[p]) (tOf h.t) rfl (chR h0 e) (by show 1 < 50;decide) <|zE (anc:=[p+6,p]) (tOf h.k) rfl (chT_ h h0 e) (by show 2 < 50;decide) λ_ m=>nomatch m
end
end G
end
section
set_option Elab.async false
namespace G
open Mn
structure DtX (X:Hp) (n:Nat):Prop where
 da:X[n]?=G3 (datO (n+1) (n+2) (n+3) (n+4) 0 (n+5))
 wl:X[n+1]?=G3 (.list [.obj X.length])
 ll:X[n+2]?=G3 (.list [])
 fd:X[n+3]?=G3 (.dict [])
theorem zR{i:Nat}{vs:List V}{H:Hp}(h:H[i]?=G3 (.list vs)):kP (.obj i) H=G3 vs:=by show(match H[i]? with|some (.list vs)=>G3 vs|_=>Gb)=_;rw[h]
theorem ln_{X B:Hp}{m:Nat}(h:B.length=m):(X++B).length=X.length+m:=by rw[Gr,h]
def It0.o(e:It0)(p:Nat):O:=zc (e.si p) [] 0 0 .none
section
variable {ns:List Int}
theorem occ_at{X B:Hp}{m lo n:Nat}(h:B.length=m):Cb ns 2 101 [.int (.ofNat lo),.int (.ofNat n)] (X++B) (.obj (X.length+m)) (X++(B++[occO ⟨lo,Gb,Gb,Gb⟩ n])):=by have c:=uy (ns:=ns) (X++B) lo n;rw[ln_ h,Gw] at c;exact c
theorem Xh{X B:Hp}{m n:Nat}(c:Oc)(h:B.length=m):Cb ns 2 101 [.int (.ofNat c.low),.int (.ofNat n),depV c.dep,keyV c.key,ixV c.ix] (X++B) (.obj (X.length+m)) (X++(B++[occO c n])):=by have c:=cb_occ (ns:=ns) (X++B) n c;rw[ln_ h,Gw] at c;exact c
theorem Z5{X B:Hp}{m:Nat}(nm goal pic:List Nat)(h:B.length=m):Cb ns 4 731 [.str nm,.str goal,.str pic] (X++B) (.obj (X.length+m)) (X++(B++it3 (X.length+m) 5 nm (.str pic) [] goal .none)):=by have c:=kN (ns:=ns) (X++B) nm goal pic;rw[ln_ h,Gw] at c;exact c
end
def hR(k:Nat):It0:=eR (dR (fA (dA k) ocT)) rK
noncomputable def ocN(lo:Nat)(ix:Option (List Nat)):Oc:=⟨lo,Gb,Gb,ix⟩
noncomputable def tZ:List Nat:=[90]
def dZ(up t:List Nat)(z:Nat):D:=⟨tZ,1,Gb,[],G3 (t,G7),up,z⟩
def eZ(q:Nat)(up t:List Nat)(z off:Nat):It0:=⟨25,5,dZ up t z,G3 q,[],0,off⟩
def eG0(k:Nat):It0:=⟨3,5,⟨[71],1,Gb,[],G3 ([88],G7),[],7⟩,G3 0,[16,19],0,oG (dA k)⟩
def eG5(k:Nat):It0:=⟨3,5,dG,G3 0,[16,19,25],0,oG (dA k)⟩
noncomputable def dA1(k:Nat):D:=⟨[65],1,Gb,[],Gb,[],k⟩
def dA3(k:Nat):D:=⟨[65],0,G3 (ocN 0 Gb),[],G3 (txX k,G7),[],k⟩
def dA8(k:Nat):D:=⟨[65],1,Gb,ZW,G3 (txX k,G7),[],k⟩
def dA15(k:Nat):D:=⟨[65],1,Gb,kS,G3 (txX k,G7),[],k⟩
def dA10(k:Nat):D:=⟨[65],2,G3 (ocN 1 (G3 [73])),[],G3 (txX k,G7),[],k⟩
def eN9(k:Nat):It0:=⟨13,5,⟨[78],1,Gb,[],G3 ([57,40,52,41],G6),[],4⟩,G3 0,[],0,oN (dA k)⟩
def eN9a(k:Nat)(p:Nat):O:=.inst 148 (setF 19 (.str yk) (match (eN (dA k)).o p with|.inst _ fs=>fs|_=>[]))
def eR2(k:Nat):It0:=⟨0,1,⟨[82],2,G3 (ocN 1 Gb),[],Gb,[],k+14⟩,Gb,rK,25,0⟩
abbrev eTc(a:D)(c:Oc):It0:=eTo a c 25
noncomputable def oc11:Oc:=⟨1,Gb,G3 (G7,[65]),Gb⟩
noncomputable def oc12:Oc:=⟨1,G3 [81],Gb,Gb⟩
noncomputable def oc13:Oc:=⟨1,G3 [75],Gb,Gb⟩
noncomputable def eS(p:Nat):It0:=⟨25,1,⟨[83],1,Gb,[],G3 ([88],G7),[82],1⟩,Gb,[],0,0⟩
def b0(p k:Nat):Hp:=mkR p (hR k) (eG0 k) (eT (dA k) ocT) ocT (eA (dA k)) (eN (dA k)) (eB (dA k)) (eC (dA k)) (eK (dA k))
def b1(p k:Nat):Hp:=mkR p (hR k) (eG (dA k)) (eT (dA k) ocT) ocT (eA (dA1 k)) (eN (dA k)) (eB (dA k)) (eC (dA k)) (eK (dA k))
def b2(p k:Nat):Hp:=mkR p (eR2 k) (eG (dA k)) (eT (dA k) ocT) ocT (eA (dA k)) (eN (dA k)) (eB (dA k)) (eC (dA k)) (eK (dA k))++[occO (ocN 1 Gb) 2]
def b3(p k:Nat):Hp:=mkR p (hR k) (eG (dA k)) (eT (dA k) ocT) ocT (eA (dA3 k)) (eN (dA k)) (eB (dA k)) (eC (dA k)) (eK (dA k))++[occO (ocN 0 Gb) 0]
def b4(p k:Nat):Hp:=mkR p (eR (dR (fA (dA k) ocT)) [10,3,13,6,25]) (eG (dA k)) (eT (dA k) ocT) ocT (eA (dA k)) (eN (dA k)) (eB (dA k)) (eC (dA k)) (eK (dA k))++(eZ 0 [65] [88] 1 0).objs p
def b5(p k:Nat):Hp:=mkR p (hR k) (eG5 k) (eT (dA k) ocT) ocT (eA (dA k)) (eN (dA k)) (eB (dA k)) (eC (dA k)) (eK (dA k))++(eZ 3 [65] [88] 1 0).objs p
def b6(p k:Nat):Hp:=mkR p (eR (dR (fA (dA k) ocT)) [10,25,3,13,6]) (eG (dA k)) (eT (dA k) ocT) ocT (eA (dA k)) (eN (dA k)) (eB (dA k)) (eC (dA k)) (eK (dA k))++[zc (It0.si p ⟨25,5,dZ [65] (txX (k+1)) (k+1),Gb,[],0,0⟩) [] 0 0 .none,.list [],.list []]
def b7(p k:Nat):Hp:=mkR p (eR (dR (fA (dA k) ocT)) [10,3,13,6,25]) (eG (dA k)) (eT (dA k) ocT) ocT (eA (dA k)) (eN (dA k)) (eB (dA k)) (eC (dA k)) (eK (dA k))++(eZ 0 [84] [88] 1 0).objs p
def b8(p k:Nat):Hp:=mkR p (hR k) (eG (dA k)) (eT (dA k) ocT) ocT (eA (dA8 k)) (eN (dA k)) (eB (dA k)) (eC (dA k)) (eK (dA k))
def b9(p k:Nat):Hp:=mkR p (hR k) (eG (dA k)) (eT (dA k) ocT) ocT (eA (dA k)) (eN9 k) (eB (dA k)) (eC (dA k)) (eK (dA k))
def b10(p k:Nat):Hp:=mkR p (hR k) (eG (dA k)) (eT (dA k) ocT) ocT (eA (dA10 k)) (eN (dA k)) (eB (dA k)) (eC (dA k)) (eK (dA k))++[occO (ocN 1 (G3 [73])) 2]
def b11(p k:Nat):Hp:=mkR p (hR k) (eG (dA k)) (eTc (dA k) oc11) ocT (eA (dA k)) (eN (dA k)) (eB (dA k)) (eC (dA k)) (eK (dA k))++[occO oc11 3]
def b12(p k:Nat):Hp:=mkR p (hR k) (eG (dA k)) (eTc (dA k) oc12) ocT (eA (dA k)) (eN (dA k)) (eB (dA k)) (eC (dA k)) (eK (dA k))++[occO oc12 3]
def b13(p k:Nat):Hp:=mkR p (hR k) (eG (dA k)) (eTc (dA k) oc13) ocT (eA (dA k)) (eN (dA k)) (eB (dA k)) (eC (dA k)) (eK (dA k))++[occO oc13 3]
def b15(p k:Nat):Hp:=mkR p (hR k) (eG (dA k)) (eT (dA k) ocT) ocT (eA (dA15 k)) (eN (dA k)) (eB (dA k)) (eC (dA k)) (eK (dA k))
section
variable {ns:List Int} {X:Hp} {n k m:Nat}
noncomputable abbrev us4(p:Nat):List V:=[.obj (p+10),.obj (p+3),.obj (p+13),.obj (p+6)]
theorem bent_0(d:DtX X n):Call (zb (P ns) 60 (m+5)) 738 [.obj n,.int (.ofNat 0),.int (.ofNat k)] (X++mk0 X.length k) .none (X++b0 X.length k):=
 zr (as:=.o (datO (n+1) (n+2) (n+3) (n+4) 0 (n+5)) <|.o (.list [.obj X.length]) <|.o ((hR k).o X.length) <|.u (us4 X.length) <|.o ((eG (dA k)).o X.length) <|.h (X++b0 X.length k) .nil)
  (ok (I (zd (N:=mk0 X.length k) d.da) <|I (zd (N:=mk0 X.length k) d.wl) <|I (at_ (X:=X) (i:=0) (by kernel_rfl:(mk0 X.length k)[0]?=G3 ((hR k).o X.length))) <|I (zR (at_ (X:=X) (i:=2) (by kernel_rfl:(mk0 X.length k)[2]?=G3 (.list (us4 X.length))))) <|I (at_ (X:=X) (i:=3) (by kernel_rfl:(mk0 X.length k)[3]?=G3 ((eG (dA k)).o X.length))) <|I (set_ (X:=X) (i:=3) (by kernel_rfl:(mk0 X.length k).set 3 ((eG0 k).o X.length)=b0 X.length k)) <|fin .none (X++b0 X.length k)) (by kernel_rfl))
theorem bent_1(d:DtX X n):Call (zb (P ns) 60 (m+5)) 738 [.obj n,.int (.ofNat 1),.int (.ofNat k)] (X++mk0 X.length k) .none (X++b1 X.length k):=
 zr (as:=.o (datO (n+1) (n+2) (n+3) (n+4) 0 (n+5)) <|.o (.list [.obj X.length]) <|.o ((hR k).o X.length) <|.u (us4 X.length) <|.o ((eA (dA k)).o X.length) <|.h (X++b1 X.length k) .nil)
  (ok (I (zd (N:=mk0 X.length k) d.da) <|I (zd (N:=mk0 X.length k) d.wl) <|I (at_ (X:=X) (i:=0) (by kernel_rfl:(mk0 X.length k)[0]?=G3 ((hR k).o X.length))) <|I (zR (at_ (X:=X) (i:=2) (by kernel_rfl:(mk0 X.length k)[2]?=G3 (.list (us4 X.length))))) <|I (at_ (X:=X) (i:=10) (by kernel_rfl:(mk0 X.length k)[10]?=G3 ((eA (dA k)).o X.length))) <|I (set_ (X:=X) (i:=10) (by kernel_rfl:(mk0 X.length k).set 10 ((eA (dA1 k)).o X.length)=b1 X.length k)) <|fin .none (X++b1 X.length k)) (by kernel_rfl))
theorem bent_8(d:DtX X n):Call (zb (P ns) 60 (m+5)) 738 [.obj n,.int (.ofNat 8),.int (.ofNat k)] (X++mk0 X.length k) .none (X++b8 X.length k):=
 zr (as:=.o (datO (n+1) (n+2) (n+3) (n+4) 0 (n+5)) <|.o (.list [.obj X.length]) <|.o ((hR k).o X.length) <|.u (us4 X.length) <|.o ((eA (dA k)).o X.length) <|.h (X++b8 X.length k) .nil)
  (ok (I (zd (N:=mk0 X.length k) d.da) <|I (zd (N:=mk0 X.length k) d.wl) <|I (at_ (X:=X) (i:=0) (by kernel_rfl:(mk0 X.length k)[0]?=G3 ((hR k).o X.length))) <|I (zR (at_ (X:=X) (i:=2) (by kernel_rfl:(mk0 X.length k)[2]?=G3 (.list (us4 X.length))))) <|I (at_ (X:=X) (i:=10) (by kernel_rfl:(mk0 X.length k)[10]?=G3 ((eA (dA k)).o X.length))) <|I (set_ (X:=X) (i:=10) (by kernel_rfl:(mk0 X.length k).set 10 ((eA (dA8 k)).o X.length)=b8 X.length k)) <|fin .none (X++b8 X.length k)) (by kernel_rfl))
theorem bent_15(d:DtX X n):Call (zb (P ns) 60 (m+5)) 738 [.obj n,.int (.ofNat 15),.int (.ofNat k)] (X++mk0 X.length k) .none (X++b15 X.length k):=
 zr (as:=.o (datO (n+1) (n+2) (n+3) (n+4) 0 (n+5)) <|.o (.list [.obj X.length]) <|.o ((hR k).o X.length) <|.u (us4 X.length) <|.o ((eA (dA k)).o X.length) <|.h (X++b15 X.length k) .nil)
  (ok (I (zd (N:=mk0 X.length k) d.da) <|I (zd (N:=mk0 X.length k) d.wl) <|I (at_ (X:=X) (i:=0) (by kernel_rfl:(mk0 X.length k)[0]?=G3 ((hR k).o X.length))) <|I (zR (at_ (X:=X) (i:=2) (by kernel_rfl:(mk0 X.length k)[2]?=G3 (.list (us4 X.length))))) <|I (at_ (X:=X) (i:=10) (by kernel_rfl:(mk0 X.length k)[10]?=G3 ((eA (dA k)).o X.length))) <|I (set_ (X:=X) (i:=10) (by kernel_rfl:(mk0 X.length k).set 10 ((eA (dA15 k)).o X.length)=b15 X.length k)) <|fin .none (X++b15 X.length k)) (by kernel_rfl))
theorem bent_2(d:DtX X n):Call (zb (P ns) 60 (m+5)) 738 [.obj n,.int (.ofNat 2),.int (.ofNat k)] (X++mk0 X.length k) .none (X++b2 X.length k):=
 zr (as:=.o (datO (n+1) (n+2) (n+3) (n+4) 0 (n+5)) <|.o (.list [.obj X.length]) <|.o ((hR k).o X.length) <|.u (us4 X.length) <|.c (.obj (X.length+25)) (X++(mk0 X.length k++[occO ⟨1,Gb,Gb,Gb⟩ 2])) <|.o ((hR k).o X.length) <|.h (X++b2 X.length k) .nil)
  (ok (I (zd (N:=mk0 X.length k) d.da) <|I (zd (N:=mk0 X.length k) d.wl) <|I (at_ (X:=X) (i:=0) (by kernel_rfl:(mk0 X.length k)[0]?=G3 ((hR k).o X.length))) <|I (zR (at_ (X:=X) (i:=2) (by kernel_rfl:(mk0 X.length k)[2]?=G3 (.list (us4 X.length))))) <|I ((occ_at (ns:=ns) (X:=X) (B:=mk0 X.length k) (m:=25) (lo:=1) (n:=2) (by kernel_rfl)).at (GF 4 (m):Dp ns 4 (m+4))) <|I (at_ (X:=X) (i:=0) (by kernel_rfl:(mk0 X.length k++[occO ⟨1,Gb,Gb,Gb⟩ 2])[0]?=G3 ((hR k).o X.length))) <|I (set_ (X:=X) (i:=0) (by kernel_rfl:(mk0 X.length k++[occO ⟨1,Gb,Gb,Gb⟩ 2]).set 0 ((eR2 k).o X.length)=b2 X.length k)) <|fin .none (X++b2 X.length k)) (by kernel_rfl))
theorem bent_3(d:DtX X n):Call (zb (P ns) 60 (m+5)) 738 [.obj n,.int (.ofNat 3),.int (.ofNat k)] (X++mk0 X.length k) .none (X++b3 X.length k):=
 zr (as:=.o (datO (n+1) (n+2) (n+3) (n+4) 0 (n+5)) <|.o (.list [.obj X.length]) <|.o ((hR k).o X.length) <|.u (us4 X.length) <|.c (.obj (X.length+25)) (X++(mk0 X.length k++[occO ⟨0,Gb,Gb,Gb⟩ 0])) <|.o ((eA (dA k)).o X.length) <|.h (X++b3 X.length k) .nil)
  (ok (I (zd (N:=mk0 X.length k) d.da) <|I (zd (N:=mk0 X.length k) d.wl) <|I (at_ (X:=X) (i:=0) (by kernel_rfl:(mk0 X.length k)[0]?=G3 ((hR k).o X.length))) <|I (zR (at_ (X:=X) (i:=2) (by kernel_rfl:(mk0 X.length k)[2]?=G3 (.list (us4 X.length))))) <|I ((occ_at (ns:=ns) (X:=X) (B:=mk0 X.length k) (m:=25) (lo:=0) (n:=0) (by kernel_rfl)).at (GF 4 (m):Dp ns 4 (m+4))) <|I (at_ (X:=X) (i:=10) (by kernel_rfl:(mk0 X.length k++[occO ⟨0,Gb,Gb,Gb⟩ 0])[10]?=G3 ((eA (dA k)).o X.length))) <|I (set_ (X:=X) (i:=10) (by kernel_rfl:(mk0 X.length k++[occO ⟨0,Gb,Gb,Gb⟩ 0]).set 10 ((eA (dA3 k)).o X.length)=b3 X.length k)) <|fin .none (X++b3 X.length k)) (by kernel_rfl))
theorem bent_10(d:DtX X n):Call (zb (P ns) 60 (m+5)) 738 [.obj n,.int (.ofNat 10),.int (.ofNat k)] (X++mk0 X.length k) .none (X++b10 X.length k):=
 zr (as:=.o (datO (n+1) (n+2) (n+3) (n+4) 0 (n+5)) <|.o (.list [.obj X.length]) <|.o ((hR k).o X.length) <|.u (us4 X.length) <|.c (.obj (X.length+25)) (X++(mk0 X.length k++[occO (ocN 1 (G3 [73])) 2])) <|.o ((eA (dA k)).o X.length) <|.h (X++b10 X.length k) .nil)
  (ok (I (zd (N:=mk0 X.length k) d.da) <|I (zd (N:=mk0 X.length k) d.wl) <|I (at_ (X:=X) (i:=0) (by kernel_rfl:(mk0 X.length k)[0]?=G3 ((hR k).o X.length))) <|I (zR (at_ (X:=X) (i:=2) (by kernel_rfl:(mk0 X.length k)[2]?=G3 (.list (us4 X.length))))) <|I ((Xh (ns:=ns) (X:=X) (B:=mk0 X.length k) (m:=25) (n:=2) (ocN 1 (G3 [73])) (by kernel_rfl)).at (GF 4 (m):Dp ns 4 (m+4))) <|I (at_ (X:=X) (i:=10) (by kernel_rfl:(mk0 X.length k++[occO (ocN 1 (G3 [73])) 2])[10]?=G3 ((eA (dA k)).o X.length))) <|I (set_ (X:=X) (i:=10) (by kernel_rfl:(mk0 X.length k++[occO (ocN 1 (G3 [73])) 2]).set 10 ((eA (dA10 k)).o X.length)=b10 X.length k)) <|fin .none (X++b10 X.length k)) (by kernel_rfl))
theorem bent_11(d:DtX X n):Call (zb (P ns) 60 (m+5)) 738 [.obj n,.int (.ofNat 11),.int (.ofNat k)] (X++mk0 X.length k) .none (X++b11 X.length k):=
 zr (as:=.o (datO (n+1) (n+2) (n+3) (n+4) 0 (n+5)) <|.o (.list [.obj X.length]) <|.o ((hR k).o X.length) <|.u (us4 X.length) <|.c (.obj (X.length+25)) (X++(mk0 X.length k++[occO (oc11) 3])) <|.o ((eT (dA k) ocT).o X.length) <|.h (X++b11 X.length k) .nil)
  (ok (I (zd (N:=mk0 X.length k) d.da) <|I (zd (N:=mk0 X.length k) d.wl) <|I (at_ (X:=X) (i:=0) (by kernel_rfl:(mk0 X.length k)[0]?=G3 ((hR k).o X.length))) <|I (zR (at_ (X:=X) (i:=2) (by kernel_rfl:(mk0 X.length k)[2]?=G3 (.list (us4 X.length))))) <|I ((Xh (ns:=ns) (X:=X) (B:=mk0 X.length k) (m:=25) (n:=3) (oc11) (by kernel_rfl)).at (GF 4 (m):Dp ns 4 (m+4))) <|I (at_ (X:=X) (i:=6) (by kernel_rfl:(mk0 X.length k++[occO (oc11) 3])[6]?=G3 ((eT (dA k) ocT).o X.length))) <|I (set_ (X:=X) (i:=6) (by kernel_rfl:(mk0 X.length k++[occO (oc11) 3]).set 6 ((eTc (dA k) oc11).o X.length)=b11 X.length k)) <|fin .none (X++b11 X.length k)) (by kernel_rfl))
theorem bent_12(d:DtX X n):Call (zb (P ns) 60 (m+5)) 738 [.obj n,.int (.ofNat 12),.int (.ofNat k)] (X++mk0 X.length k) .none (X++b12 X.length k):=
 zr (as:=.o (datO (n+1) (n+2) (n+3) (n+4) 0 (n+5)) <|.o (.list [.obj X.length]) <|.o ((hR k).o X.length) <|.u (us4 X.length) <|.c (.obj (X.length+25)) (X++(mk0 X.length k++[occO (oc12) 3])) <|.o ((eT (dA k) ocT).o X.length) <|.h (X++b12 X.length k) .nil)
  (ok (I (zd (N:=mk0 X.length k) d.da) <|I (zd (N:=mk0 X.length k) d.wl) <|I (at_ (X:=X) (i:=0) (by kernel_rfl:(mk0 X.length k)[0]?=G3 ((hR k).o X.length))) <|I (zR (at_ (X:=X) (i:=2) (by kernel_rfl:(mk0 X.length k)[2]?=G3 (.list (us4 X.length))))) <|I ((Xh (ns:=ns) (X:=X) (B:=mk0 X.length k) (m:=25) (n:=3) (oc12) (by kernel_rfl)).at (GF 4 (m):Dp ns 4 (m+4))) <|I (at_ (X:=X) (i:=6) (by kernel_rfl:(mk0 X.length k++[occO (oc12) 3])[6]?=G3 ((eT (dA k) ocT).o X.length))) <|I (set_ (X:=X) (i:=6) (by kernel_rfl:(mk0 X.length k++[occO (oc12) 3]).set 6 ((eTc (dA k) oc12).o X.length)=b12 X.length k)) <|fin .none (X++b12 X.length k)) (by kernel_rfl))
theorem bent_13(d:DtX X n):Call (zb (P ns) 60 (m+5)) 738 [.obj n,.int (.ofNat 13),.int (.ofNat k)] (X++mk0 X.length k) .none (X++b13 X.length k):=
 zr (as:=.o (datO (n+1) (n+2) (n+3) (n+4) 0 (n+5)) <|.o (.list [.obj X.length]) <|.o ((hR k).o X.length) <|.u (us4 X.length) <|.c (.obj (X.length+25)) (X++(mk0 X.length k++[occO (oc13) 3])) <|.o ((eT (dA k) ocT).o X.length) <|.h (X++b13 X.length k) .nil)
  (ok (I (zd (N:=mk0 X.length k) d.da) <|I (zd (N:=mk0 X.length k) d.wl) <|I (at_ (X:=X) (i:=0) (by kernel_rfl:(mk0 X.length k)[0]?=G3 ((hR k).o X.length))) <|I (zR (at_ (X:=X) (i:=2) (by kernel_rfl:(mk0 X.length k)[2]?=G3 (.list (us4 X.length))))) <|I ((Xh (ns:=ns) (X:=X) (B:=mk0 X.length k) (m:=25) (n:=3) (oc13) (by kernel_rfl)).at (GF 4 (m):Dp ns 4 (m+4))) <|I (at_ (X:=X) (i:=6) (by kernel_rfl:(mk0 X.length k++[occO (oc13) 3])[6]?=G3 ((eT (dA k) ocT).o X.length))) <|I (set_ (X:=X) (i:=6) (by kernel_rfl:(mk0 X.length k++[occO (oc13) 3]).set 6 ((eTc (dA k) oc13).o X.length)=b13 X.length k)) <|fin .none (X++b13 X.length k)) (by kernel_rfl))
theorem bent_9(d:DtX X n):Call (zb (P ns) 60 (m+5)) 738 [.obj n,.int (.ofNat 9),.int (.ofNat k)] (X++mk0 X.length k) .none (X++b9 X.length k):=
 zr (as:=.o (datO (n+1) (n+2) (n+3) (n+4) 0 (n+5)) <|.o (.list [.obj X.length]) <|.o ((hR k).o X.length) <|.u (us4 X.length) <|.o ((eN (dA k)).o X.length) <|.h (X++(mk0 X.length k).set 13 (eN9a k X.length)) <|.o (eN9a k X.length) <|.h (X++b9 X.length k) .nil)
  (ok (I (zd (N:=mk0 X.length k) d.da) <|I (zd (N:=mk0 X.length k) d.wl) <|I (at_ (X:=X) (i:=0) (by kernel_rfl:(mk0 X.length k)[0]?=G3 ((hR k).o X.length))) <|I (zR (at_ (X:=X) (i:=2) (by kernel_rfl:(mk0 X.length k)[2]?=G3 (.list (us4 X.length))))) <|I (at_ (X:=X) (i:=13) (by kernel_rfl:(mk0 X.length k)[13]?=G3 ((eN (dA k)).o X.length))) <|I (set_ (X:=X) (i:=13) (by kernel_rfl:(mk0 X.length k).set 13 (eN9a k X.length)=(mk0 X.length k).set 13 (eN9a k X.length))) <|I (at_ (X:=X) (i:=13) (by kernel_rfl:((mk0 X.length k).set 13 (eN9a k X.length))[13]?=G3 (eN9a k X.length))) <|I (set_ (X:=X) (i:=13) (by kernel_rfl:((mk0 X.length k).set 13 (eN9a k X.length)).set 13 ((eN9 k).o X.length)=b9 X.length k)) <|fin .none (X++b9 X.length k)) (by kernel_rfl))
theorem bent_4(d:DtX X n):Call (zb (P ns) 60 (m+5)) 738 [.obj n,.int (.ofNat 4),.int (.ofNat k)] (X++mk0 X.length k) .none (X++b4 X.length k):=
 zr (as:=.o (datO (n+1) (n+2) (n+3) (n+4) 0 (n+5)) <|.o (.list [.obj X.length]) <|.o ((hR k).o X.length) <|.u (us4 X.length) <|.o ((hR k).o X.length) <|.c (.obj (X.length+25)) (X++(mk0 X.length k++it3 (X.length+25) 5 tZ (.str [88]) [] [65] .none)) <|.c .none (X++b4 X.length k) .nil)
  (ok (I (zd (N:=mk0 X.length k) d.da) <|I (zd (N:=mk0 X.length k) d.wl) <|I (at_ (X:=X) (i:=0) (by kernel_rfl:(mk0 X.length k)[0]?=G3 ((hR k).o X.length))) <|I (zR (at_ (X:=X) (i:=2) (by kernel_rfl:(mk0 X.length k)[2]?=G3 (.list (us4 X.length))))) <|I (at_ (X:=X) (i:=0) (by kernel_rfl:(mk0 X.length k)[0]?=G3 ((hR k).o X.length))) <|I ((Z5 (ns:=ns) (X:=X) (B:=mk0 X.length k) (m:=25) tZ [65] [88] (by kernel_rfl)).at (GF 4 (m):Dp ns 4 (m+4))) <|I ((XI (ns:=ns) (a:=X.length) (k:=X.length+25) (q:=X.length+25) (lv:=5) (nm:=tZ) (pic:=.str [88]) (us:=[]) (up:=[65]) (kl:=X.length+2) (vs:=us4 X.length) (H:=X++(mk0 X.length k++it3 (X.length+25) 5 tZ (.str [88]) [] [65] .none)) (H1:=X++((mk0 X.length k++it3 (X.length+25) 5 tZ (.str [88]) [] [65] .none).set 25 (itm (X.length+25) 5 tZ (.str [88]) [] [65] (.obj X.length)))) (H2:=X++b4 X.length k) (at_ (X:=X) (i:=25) (by kernel_rfl:(mk0 X.length k++it3 (X.length+25) 5 tZ (.str [88]) [] [65] .none)[25]?=G3 (itm (X.length+25) 5 tZ (.str [88]) [] [65] .none))) (set_ (X:=X) (i:=25) (by kernel_rfl:(mk0 X.length k++it3 (X.length+25) 5 tZ (.str [88]) [] [65] .none).set 25 (itm (X.length+25) 5 tZ (.str [88]) [] [65] (.obj X.length))=(mk0 X.length k++it3 (X.length+25) 5 tZ (.str [88]) [] [65] .none).set 25 (itm (X.length+25) 5 tZ (.str [88]) [] [65] (.obj X.length)))) (at_ (X:=X) (i:=0) (by kernel_rfl:((mk0 X.length k++it3 (X.length+25) 5 tZ (.str [88]) [] [65] .none).set 25 (itm (X.length+25) 5 tZ (.str [88]) [] [65] (.obj X.length)))[0]?=G3 (.inst 148 (match (hR k).o X.length with|.inst _ fs=>fs|_=>[])))) (by kernel_rfl:getF 11 (match (hR k).o X.length with|.inst _ fs=>fs|_=>[])=G3 (.obj (X.length+2))) (at_ (X:=X) (i:=2) (by kernel_rfl:((mk0 X.length k++it3 (X.length+25) 5 tZ (.str [88]) [] [65] .none).set 25 (itm (X.length+25) 5 tZ (.str [88]) [] [65] (.obj X.length)))[2]?=G3 (.list (us4 X.length)))) (G5 rfl) (set_ (X:=X) (i:=2) (by kernel_rfl:((mk0 X.length k++it3 (X.length+25) 5 tZ (.str [88]) [] [65] .none).set 25 (itm (X.length+25) 5 tZ (.str [88]) [] [65] (.obj X.length))).set 2 (.list (us4 X.length++[.obj (X.length+25)]))=b4 X.length k))).at (GF 1 (m+3):Dp ns 1 (m+4))) <|fin .none (X++b4 X.length k)) (by kernel_rfl))
theorem bent_5(d:DtX X n):Call (zb (P ns) 60 (m+5)) 738 [.obj n,.int (.ofNat 5),.int (.ofNat k)] (X++mk0 X.length k) .none (X++b5 X.length k):=
 zr (as:=.o (datO (n+1) (n+2) (n+3) (n+4) 0 (n+5)) <|.o (.list [.obj X.length]) <|.o ((hR k).o X.length) <|.u (us4 X.length) <|.o ((eG (dA k)).o X.length) <|.c (.obj (X.length+25)) (X++(mk0 X.length k++it3 (X.length+25) 5 tZ (.str [88]) [] [65] .none)) <|.c .none (X++b5 X.length k) .nil)
  (ok (I (zd (N:=mk0 X.length k) d.da) <|I (zd (N:=mk0 X.length k) d.wl) <|I (at_ (X:=X) (i:=0) (by kernel_rfl:(mk0 X.length k)[0]?=G3 ((hR k).o X.length))) <|I (zR (at_ (X:=X) (i:=2) (by kernel_rfl:(mk0 X.length k)[2]?=G3 (.list (us4 X.length))))) <|I (at_ (X:=X) (i:=3) (by kernel_rfl:(mk0 X.length k)[3]?=G3 ((eG (dA k)).o X.length))) <|I ((Z5 (ns:=ns) (X:=X) (B:=mk0 X.length k) (m:=25) tZ [65] [88] (by kernel_rfl)).at (GF 4 (m):Dp ns 4 (m+4))) <|I ((XI (ns:=ns) (a:=(X.length+3)) (k:=X.length+25) (q:=X.length+25) (lv:=5) (nm:=tZ) (pic:=.str [88]) (us:=[]) (up:=[65]) (kl:=X.length+5) (vs:=[V.obj (X.length+16),.obj (X.length+19)]) (H:=X++(mk0 X.length k++it3 (X.length+25) 5 tZ (.str [88]) [] [65] .none)) (H1:=X++((mk0 X.length k++it3 (X.length+25) 5 tZ (.str [88]) [] [65] .none).set 25 (itm (X.length+25) 5 tZ (.str [88]) [] [65] (.obj (X.length+3))))) (H2:=X++b5 X.length k) (at_ (X:=X) (i:=25) (by kernel_rfl:(mk0 X.length k++it3 (X.length+25) 5 tZ (.str [88]) [] [65] .none)[25]?=G3 (itm (X.length+25) 5 tZ (.str [88]) [] [65] .none))) (set_ (X:=X) (i:=25) (by kernel_rfl:(mk0 X.length k++it3 (X.length+25) 5 tZ (.str [88]) [] [65] .none).set 25 (itm (X.length+25) 5 tZ (.str [88]) [] [65] (.obj (X.length+3)))=(mk0 X.length k++it3 (X.length+25) 5 tZ (.str [88]) [] [65] .none).set 25 (itm (X.length+25) 5 tZ (.str [88]) [] [65] (.obj (X.length+3))))) (at_ (X:=X) (i:=3) (by kernel_rfl:((mk0 X.length k++it3 (X.length+25) 5 tZ (.str [88]) [] [65] .none).set 25 (itm (X.length+25) 5 tZ (.str [88]) [] [65] (.obj (X.length+3))))[3]?=G3 (.inst 148 (match (eG (dA k)).o X.length with|.inst _ fs=>fs|_=>[])))) (by kernel_rfl:getF 11 (match (eG (dA k)).o X.length with|.inst _ fs=>fs|_=>[])=G3 (.obj (X.length+5))) (at_ (X:=X) (i:=5) (by kernel_rfl:((mk0 X.length k++it3 (X.length+25) 5 tZ (.str [88]) [] [65] .none).set 25 (itm (X.length+25) 5 tZ (.str [88]) [] [65] (.obj (X.length+3))))[5]?=G3 (.list ([V.obj (X.length+16),.obj (X.length+19)])))) (G5 rfl) (set_ (X:=X) (i:=5) (by kernel_rfl:((mk0 X.length k++it3 (X.length+25) 5 tZ (.str [88]) [] [65] .none).set 25 (itm (X.length+25) 5 tZ (.str [88]) [] [65] (.obj (X.length+3)))).set 5 (.list ([V.obj (X.length+16),.obj (X.length+19)]++[.obj (X.length+25)]))=b5 X.length k))).at (GF 1 (m+3):Dp ns 1 (m+4))) <|fin .none (X++b5 X.length k)) (by kernel_rfl))
theorem bent_7(d:DtX X n):Call (zb (P ns) 60 (m+5)) 738 [.obj n,.int (.ofNat 7),.int (.ofNat k)] (X++mk0 X.length k) .none (X++b7 X.length k):=
 zr (as:=.o (datO (n+1) (n+2) (n+3) (n+4) 0 (n+5)) <|.o (.list [.obj X.length]) <|.o ((hR k).o X.length) <|.u (us4 X.length) <|.o ((hR k).o X.length) <|.c (.obj (X.length+25)) (X++(mk0 X.length k++it3 (X.length+25) 5 tZ (.str [88]) [] [84] .none)) <|.c .none (X++b7 X.length k) .nil)
  (ok (I (zd (N:=mk0 X.length k) d.da) <|I (zd (N:=mk0 X.length k) d.wl) <|I (at_ (X:=X) (i:=0) (by kernel_rfl:(mk0 X.length k)[0]?=G3 ((hR k).o X.length))) <|I (zR (at_ (X:=X) (i:=2) (by kernel_rfl:(mk0 X.length k)[2]?=G3 (.list (us4 X.length))))) <|I (at_ (X:=X) (i:=0) (by kernel_rfl:(mk0 X.length k)[0]?=G3 ((hR k).o X.length))) <|I ((Z5 (ns:=ns) (X:=X) (B:=mk0 X.length k) (m:=25) tZ [84] [88] (by kernel_rfl)).at (GF 4 (m):Dp ns 4 (m+4))) <|I ((XI (ns:=ns) (a:=X.length) (k:=X.length+25) (q:=X.length+25) (lv:=5) (nm:=tZ) (pic:=.str [88]) (us:=[]) (up:=[84]) (kl:=X.length+2) (vs:=us4 X.length) (H:=X++(mk0 X.length k++it3 (X.length+25) 5 tZ (.str [88]) [] [84] .none)) (H1:=X++((mk0 X.length k++it3 (X.length+25) 5 tZ (.str [88]) [] [84] .none).set 25 (itm (X.length+25) 5 tZ (.str [88]) [] [84] (.obj X.length)))) (H2:=X++b7 X.length k) (at_ (X:=X) (i:=25) (by kernel_rfl:(mk0 X.length k++it3 (X.length+25) 5 tZ (.str [88]) [] [84] .none)[25]?=G3 (itm (X.length+25) 5 tZ (.str [88]) [] [84] .none))) (set_ (X:=X) (i:=25) (by kernel_rfl:(mk0 X.length k++it3 (X.length+25) 5 tZ (.str [88]) [] [84] .none).set 25 (itm (X.length+25) 5 tZ (.str [88]) [] [84] (.obj X.length))=(mk0 X.length k++it3 (X.length+25) 5 tZ (.str [88]) [] [84] .none).set 25 (itm (X.length+25) 5 tZ (.str [88]) [] [84] (.obj X.length)))) (at_ (X:=X) (i:=0) (by kernel_rfl:((mk0 X.length k++it3 (X.length+25) 5 tZ (.str [88]) [] [84] .none).set 25 (itm (X.length+25) 5 tZ (.str [88]) [] [84] (.obj X.length)))[0]?=G3 (.inst 148 (match (hR k).o X.length with|.inst _ fs=>fs|_=>[])))) (by kernel_rfl:getF 11 (match (hR k).o X.length with|.inst _ fs=>fs|_=>[])=G3 (.obj (X.length+2))) (at_ (X:=X) (i:=2) (by kernel_rfl:((mk0 X.length k++it3 (X.length+25) 5 tZ (.str [88]) [] [84] .none).set 25 (itm (X.length+25) 5 tZ (.str [88]) [] [84] (.obj X.length)))[2]?=G3 (.list (us4 X.length)))) (G5 rfl) (set_ (X:=X) (i:=2) (by kernel_rfl:((mk0 X.length k++it3 (X.length+25) 5 tZ (.str [88]) [] [84] .none).set 25 (itm (X.length+25) 5 tZ (.str [88]) [] [84] (.obj X.length))).set 2 (.list (us4 X.length++[.obj (X.length+25)]))=b7 X.length k))).at (GF 1 (m+3):Dp ns 1 (m+4))) <|fin .none (X++b7 X.length k)) (by kernel_rfl))
end
end G
end
section
set_option Elab.async false
namespace G
open Mn
noncomputable def allB(p:Nat->Bool):Nat->Bool
 |0=>G6
 |n+1=>p n && allB p n
theorem allB.get{p:Nat->Bool}{k:Nat}:∀{n:Nat},allB p n=G6->k < n->p k=G6:=by
 intro n
 induction n with
 |zero=>intro _ h;exact absurd h (Nat.not_lt_zero k)
 |succ n ih=>
  intro h l;have h:=GC.mp h;rcases Ip k n with q|q
  ·exact ih h.2 q
  ·rw[Dr (Nat.le_of_lt_succ l) q];exact h.1
theorem strLen:allB (λk=>Gj (Yw (.ofNat k)).length 10) 40=G6:=by kernel_rfl
theorem len10{k:Nat}(h:k < 40):(Yw (.ofNat k)).length<=10:=G5 (allB.get (p:=λk=>Gj (Yw (.ofNat k)).length 10) strLen h)
theorem gX1{k:Nat}(h:k < 40):Gj (2+(Yw (.ofNat k)).length) 1000=G6:=Gk (Ga (DM (len10 h) 2) (by decide))
theorem gX2{k:Nat}(h:k < 40):Gj (([88,40]++Yw (.ofNat k)).length+1) 1000=G6:=Gk (by
 rw[Gr];exact Ga (Dw (DM (len10 h) 2) 1) (by decide))
theorem gX0{k:Nat}(h:k < 40):D0 k 1000000000=G6:=Gk (Ga (De h) (by decide))
section
variable {ns:List Int} {X:Hp} {n k m:Nat}
abbrev B6(p k:Nat):Hp:=mk0 p k++it3 (p+25) 5 tZ (.str (txX (k+1))) [] [65] .none
theorem bent_6(d:DtX X n)(hk:k+1 < 40):Call (zb (P ns) 60 (m+5)) 738 [.obj n,.int (.ofNat 6),.int (.ofNat k)] (X++mk0 X.length k) .none (X++b6 X.length k):=
 zr (as:=.o (datO (n+1) (n+2) (n+3) (n+4) 0 (n+5)) <|.o (.list [.obj X.length]) <|.o ((hR k).o X.length) <|.u (us4 X.length) <|.o ((hR k).o X.length) <|.g <|.g <|.g <|.g <|.c (.obj (X.length+25)) (X++B6 X.length k) <|.o (.list (us4 X.length)) <|.g <|.h (X++b6 X.length k) .nil)
  (ok (I (zd (N:=mk0 X.length k) d.da) <|I (zd (N:=mk0 X.length k) d.wl) <|I (at_ (X:=X) (i:=0) (by kernel_rfl:(mk0 X.length k)[0]?=G3 ((hR k).o X.length))) <|I (zR (at_ (X:=X) (i:=2) (by kernel_rfl:(mk0 X.length k)[2]?=G3 (.list (us4 X.length))))) <|
   I (at_ (X:=X) (i:=0) (by kernel_rfl:(mk0 X.length k)[0]?=G3 ((hR k).o X.length))) <|I (zQ (b:=.insert) (at_ (X:=X) (i:=2) (by kernel_rfl:(mk0 X.length k)[2]?=G3 (.list (us4 X.length))))) <|I (gX0 hk) <|I (gX1 hk) <|I (gX2 hk) <|
   I ((Z5 (ns:=ns) (X:=X) (B:=mk0 X.length k) (m:=25) tZ [65] (txX (k+1)) (by kernel_rfl)).at (GF 4 m:Dp ns 4 (m+4))) <|I (at_ (X:=X) (i:=2) (by kernel_rfl:(B6 X.length k)[2]?=G3 (.list (us4 X.length)))) <|I (rfl:G6=G6) <|
   I (set_ (X:=X) (i:=2) (by kernel_rfl:(B6 X.length k).set 2 (.list [.obj (X.length+10),.obj (X.length+25),.obj (X.length+3),.obj (X.length+13),.obj (X.length+6)])=b6 X.length k)) <|fin .none (X++b6 X.length k)) (by kernel_rfl))
def z14(p lv:Nat):Hp:=it3 (p+25) lv [83] (.str [88]) [] [82] .none
def H14(X:Hp)(n k:Nat):Hp:=(X++(mk0 X.length k++z14 X.length 1)++[O.list [V.obj (X.length+25)]]).set (n+3) (.dict [([70],.obj (X.length+28))])
theorem bent_14(d:DtX X n):Call (zb (P ns) 60 (m+5)) 738 [.obj n,.int (.ofNat 14),.int (.ofNat k)] (X++mk0 X.length k) .none (H14 X n k):=by
 have l:(X++(mk0 X.length k++z14 X.length 1)).length=X.length+28:=ln_ (by kernel_rfl);exact zr (as:=.o (datO (n+1) (n+2) (n+3) (n+4) 0 (n+5)) <|.o (.list [.obj X.length]) <|.o ((hR k).o X.length) <|.u (us4 X.length) <|.c (.obj (X.length+25)) (X++(mk0 X.length k++z14 X.length 5)) <|.o (itm (X.length+25) 5 [83] (.str [88]) [] [82] .none) <|.h (X++(mk0 X.length k++z14 X.length 1)) <|.o (datO (n+1) (n+2) (n+3) (n+4) 0 (n+5)) <|.o (.dict []) <|.h (H14 X n k) .nil)
  (ok (I (zd (N:=mk0 X.length k) d.da) <|I (zd (N:=mk0 X.length k) d.wl) <|I (at_ (X:=X) (i:=0) (by kernel_rfl:(mk0 X.length k)[0]?=G3 ((hR k).o X.length))) <|I (zR (at_ (X:=X) (i:=2) (by kernel_rfl:(mk0 X.length k)[2]?=G3 (.list (us4 X.length))))) <|
   I ((Z5 (ns:=ns) (X:=X) (B:=mk0 X.length k) (m:=25) [83] [82] [88] (by kernel_rfl)).at (GF 4 m:Dp ns 4 (m+4))) <|I (at_ (X:=X) (i:=25) (by kernel_rfl:(mk0 X.length k++z14 X.length 5)[25]?=G3 (itm (X.length+25) 5 [83] (.str [88]) [] [82] .none))) <|
   I (set_ (X:=X) (i:=25) (by kernel_rfl:(mk0 X.length k++z14 X.length 5).set 25 (itm (X.length+25) 1 [83] (.str [88]) [] [82] .none)=mk0 X.length k++z14 X.length 1)) <|
   I (zd (N:=[O.list [V.obj (X.length+25)]]) (zd (N:=mk0 X.length k++z14 X.length 1) d.da)) <|I (zd (N:=[O.list [V.obj (X.length+25)]]) (zd (N:=mk0 X.length k++z14 X.length 1) d.fd)) <|
   I (by rw[l];rfl:(X++(mk0 X.length k++z14 X.length 1)++[O.list [V.obj (X.length+25)]]).set (n+3) (.dict [([70],.obj (X++(mk0 X.length k++z14 X.length 1)).length)])=H14 X n k) <|fin .none (H14 X n k)) (by kernel_rfl))
end
end G
end
section
namespace G
open Mn
theorem st_lt{p a:Nat}{es:List It0}(h:a < p):stOf p es a=Gb:=by
 rcases e:stOf p es a with _|s
 ·rfl
 ·obtain⟨i,x,rfl,_⟩:=st_to e;exact absurd (Dk h (Db p i)) (DH _)
theorem XV{X B:Hp}{n:Nat}{es:List It0}(d:DtX X n)(iv:Inv (stOf X.length es) (X++B)):Sol (stOf X.length es) (X++B) n (n+1) (n+2) (n+3) (n+4) 0 (n+5) X.length:=
 ⟨zd d.da,⟨zd d.fd,.inl ⟨rfl,rfl⟩,zd d.wl,zd d.ll⟩,iv⟩
theorem J9{es:List It0}{p:Nat}{f:F}{ks:List Nat}(h0:zt 0 es=G3 (eR (dR f) ks))(ds:Des (stOf p es) [] [p] 0 0 f (ks.map (p+ ·)))(wf:Wf [] Gb f)(sz:gsz f<=2000)(ne:f≠.nil)(h:Gj (1+ht f) 9=G6)(n:Gj (nc f) 900=G6)(b1:Gj (bl f) 12=G6)(b2:Gj (bo f) 12=G6) :
  Root (stOf p es) [] 0 (dR f) f p ((eR (dR f) ks).si p):=
 ⟨yT (i:=0) h0 rfl rfl,ds,⟨GI 1,G5 rfl,sz,.inr ⟨rfl,ne,rfl⟩⟩,wf,rfl,G5 h,G5 n,G5 b1,G5 b2⟩
theorem wrOf{es:List It0}{p:Nat}{f:F}{ks:List Nat}(r:Root (stOf p es) [] 0 (dR f) f p ((eR (dR f) ks).si p)):WRl (stOf p es) 0 0 Gb [p] (gsz f):=
 ⟨dR f,f,_,r,(Nat.zero_max _).symm.trans (congrArg (max 0) (GZ _).symm)⟩
theorem zK{T:St}{a:Nat}{s:SI}{r:List Nat}{es es':List (List Nat×V)}(t:T a=G3 s)(e:ixO s.d.oc=Gb)(h:Ix T r es es'):Ix T (a::r) es es':=⟨s,t,by rw[e];exact h⟩
theorem j6{T:St}{a:Nat}{s:SI}{r nm:List Nat}{es es':List (List Nat×V)}(t:T a=G3 s)(e:ixO s.d.oc=G3 nm)(g:getD nm es=Gb)(l:es.length < 900)(h:Ix T r (setD nm (.obj a) es) es'):Ix T (a::r) es es':=⟨s,t,by rw[e];exact⟨g,l,h⟩⟩
theorem jl{T:St}{all:List Nat}:∀a,a∈([]:List Nat)->CoOk T all a:=λ_ m=>nomatch m
theorem zn{T:St}{all:List Nat}{a:Nat}{s:SI}{as:List Nat}(t:T a=G3 s)(e:s.d.oc=Gb)(h:∀q,q∈as->CoOk T all q):∀q,q∈a::as->CoOk T all q:=λq m=>by
 rcases m with _|⟨_,m⟩
 ·exact⟨s,t,.inl e⟩
 ·exact h q m
theorem JC{T:St}{all:List Nat}{a:Nat}{as:List Nat}(c:CoOk T all a)(h:∀q,q∈as->CoOk T all q):∀q,q∈a::as->CoOk T all q:=λq m=>by
 rcases m with _|⟨_,m⟩
 ·exact c
 ·exact h q m
section
variable {es:List It0} {a:D} {c:Oc} {p o:Nat}
theorem coT(h:Tab es a ocT o)(is:List Nat)(hn:nb (is.filter (mt0 es [78]))=G6):CoOk (stOf p es) (is.map (p+ ·)) (p+6):=
 ⟨_,tOf h.t,.inr ⟨_,_,preT h,G5 rfl,.inr ⟨1,[78],G6,[75],G3 [73],rfl,by rw[Ku];exact Jf hn,
  by rw[show[p+6,p+22].map (nmV (stOf p es))=[.str [84],.str [75]] by rw[show[p+6,p+22].map (nmV (stOf p es))=[nmV (stOf p es) (p+6),nmV (stOf p es) (p+22)] from rfl,YI (tOf h.t),YI (tOf h.k)];rfl];rfl,
  by rw[show[p+6,p+22].map (nmV (stOf p es))=[.str [84],.str [75]] by rw[show[p+6,p+22].map (nmV (stOf p es))=[nmV (stOf p es) (p+6),nmV (stOf p es) (p+22)] from rfl,YI (tOf h.t),YI (tOf h.k)];rfl];rfl⟩⟩⟩
end
abbrev aX(n:Nat)(oc:Option Oc)(k:Nat):D:=dX [65] n oc [] k
def tabS(a:D)(t:It0)(f:F)(ks:List Nat)(zs:List It0):List It0:=[eR (dR f) ks,eG a,t,eA a,eN a,eB a,eC a,eK a]++zs
theorem jw(a:D)(c:Oc)(o:Nat)(f:F)(ks:List Nat)(zs:List It0):Tab (tabS a (eTo a c o) f ks zs) a c o:=⟨rfl,rfl,rfl,rfl,rfl,rfl,rfl⟩
theorem gsA(n:Nat)(oc:Option Oc)(k:Nat)(c:Oc):gsz (fA (aX n oc k) c)=k*n+14:=by kernel_rfl
theorem wfA{n k:Nat}{oc:Option Oc}(c:Oc)(n1:1<=n)(n3:n<=3)(h1:1<=k)(h2:k<=21):Wf [] Gb (fA (aX n oc k) c):=ZT rfl (ndX n1 n3 h1 h2) trivial (wfX c _)
theorem rootA{n k o p:Nat}{oc:Option Oc}(c:Oc)(n1:1<=n)(n3:n<=3)(h1:1<=k)(h2:k<=21):Root (stOf p (tabS (aX n oc k) (eTo (aX n oc k) c o) (fA (aX n oc k) c) rK [])) [] 0 (dR (fA (aX n oc k) c)) (fA (aX n oc k) c) p ((eR (dR (fA (aX n oc k) c)) rK).si p):=
 J9 rfl (dsA (jw _ c o _ _ _) rfl (dsX (jw _ c o _ _ _) _)) (wfA c n1 n3 h1 h2) (by rw[gsA];exact Ga (Dw (Nat.mul_le_mul h2 n3) 14) (by decide)) nofun rfl rfl rfl rfl
noncomputable def isA:List Nat:=[0,10,3,16,19,13,6,22]
theorem rpA{es:List It0}{a:D}{c:Oc}{p o:Nat}(h:Tab es a c o)(h0:zt 0 es=G3 (eR (dR (fA a c)) rK)):RPre (stOf p es) [p] (isA.map (p+ ·)):=
 ⟨.node (dR (fA a c)) (fA a c) .nil,isA.map (p+ ·),[],pre2 (z:=[p+10,p+3,p+16,p+19,p+13,p+6,p+22]) (y:=[]) (tOf (i:=0) h0) (pre1 (tOf h.aa) rfl (preX h)) ⟨rfl,rfl⟩ rfl,G5 rfl,rfl,rfl⟩
theorem caA{es:List It0}{a:D}{c:Oc}{p o:Nat}{d:D}{ks:List Nat}(h:Tab es a c o)(h0:zt 0 es=G3 (eR d ks))(e:sepB d.leaf=G7):CAll (stOf p es) (isA.map (p+ ·)):=
 zE (anc:=[]) (tOf (i:=0) h0) rfl trivial (by decide) <|zE (anc:=[p]) (tOf h.aa) rfl (chR h0 e) (by show 1 < 50;decide) (caX h h0 e)
end G
end
section
set_option Elab.async false
namespace G
open Mn
def esW(r g t a n:It0)(k:Nat)(zs:List It0):List It0:=[r,g,t,a,n,eB (dA k),eC (dA k),eK (dA k)]++zs
def Kp(X:Hp)(n:Nat)(H':Hp):Prop:=∀(i:Nat) (o:O),X[i]?=G3 o->i < n->H'[i]?=G3 o
theorem kpOf{X B H':Hp}{n:Nat}{es:List It0}(l:LeA (stOf X.length es) n (X++B) H'):Kp X n H':=λi o h lt=>l.old i o (zd h) (st_lt (Xo h)) (D9 lt)
section
variable {ns:List Int} {X:Hp} {n k:Nat}
theorem snd0(d:DtX X n)(h1:1<=k)(h2:k<=20):∃H' ix',Call (zb (P ns) 60 18) 702 [.obj n] (X++mk0 X.length k) .none H'/\Kp X n H'/\H'[n]?=G3 (datO (n+1) (n+2) (n+3) (n+4) (k+14) ix')/\H'[ix']?=G3 (.dict [([73],.obj (X.length+6))])/\∃fs,H'[X.length+6]?=G3 (.inst 148 fs)/\getF 22 fs=G3 (.str [84]):=by
 have h:Tab (tabS (dA k) (eT (dA k) ocT) (fA (dA k) ocT) rK []) (dA k) ocT 9:=jw _ _ _ _ _ _;have h0:zt 0 (tabS (dA k) (eT (dA k) ocT) (fA (dA k) ocT) rK [])=G3 (eR (dR (fA (dA k) ocT)) rK):=rfl;obtain⟨es,ees⟩:∃x,x=tabS (dA k) (eT (dA k) ocT) (fA (dA k) ocT) rK []:=⟨_,rfl⟩;have iv:Inv (stOf X.length es) (X++mk0 X.length k):=by rw[ees];exact yp (by kernel_rfl) (by kernel_rfl)
 have rt:Root (stOf X.length es) [] 0 (dR (fA (dA k) ocT)) (fA (dA k) ocT) X.length ((eR (dR (fA (dA k) ocT)) rK).si X.length):=by rw[ees];exact rootA (n:=1) (oc:=Gb) ocT (by decide) (by decide) h1 (GU h2)
 rw[←ees] at h h0;have xi:Ix (stOf X.length es) (isA.map (X.length+ ·)) [] [([73],.obj (X.length+6))]:=
  zK (tOf (i:=0) h0) rfl <|zK (tOf h.aa) rfl <|zK (tOf h.g) rfl <|zK (tOf h.b) rfl <|zK (tOf h.c) rfl <|zK (tOf h.n) rfl <|j6 (tOf h.t) rfl rfl (G5 rfl) <|zK (tOf h.k) rfl rfl
 have co:∀a,a∈isA.map (X.length+ ·)->CoOk (stOf X.length es) (isA.map (X.length+ ·)) a:=
  zn (tOf (i:=0) h0) rfl <|zn (tOf h.aa) rfl <|zn (tOf h.g) rfl <|zn (tOf h.b) rfl <|zn (tOf h.c) rfl <|zn (tOf h.n) rfl <|JC (coT h isA (by rw[ees];kernel_rfl)) <|zn (tOf h.k) rfl jl
 obtain⟨H',ix',c,l,hd,hx,_⟩:=Xp (ns:=ns) (m:=15) (G5 rfl) (XV d iv) (wrOf rt) (rpA h h0) (G5 rfl) (caA h h0 rfl) xi co;have g:gsz (fA (dA k) ocT)=k+14:=(gsA 1 Gb k ocT).trans (by rw[Dv]);rw[g] at hd;obtain⟨⟨b,o,z,sh,ht⟩,_⟩:=l.inv iv _ _ (tOf h.t);exact⟨H',ix',c,kpOf l,hd,hx,_,ht,rfl⟩
theorem runX_10(d:DtX X n)(h1:1<=k)(h2:k<=20):∃H',yc (zb (P ns) 60 18) 702 [.obj n] (X++b10 X.length k) 72 H'/\Kp X n H':=by
 have h:Tab (tabS (dA10 k) (eT (dA10 k) ocT) (fA (dA10 k) ocT) rK []) (dA10 k) ocT 9:=jw _ _ _ _ _ _;have h0:zt 0 (tabS (dA10 k) (eT (dA10 k) ocT) (fA (dA10 k) ocT) rK [])=G3 (eR (dR (fA (dA10 k) ocT)) rK):=rfl;obtain⟨es,ees⟩:∃x,x=tabS (dA10 k) (eT (dA10 k) ocT) (fA (dA10 k) ocT) rK []:=⟨_,rfl⟩;have iv:Inv (stOf X.length es) (X++b10 X.length k):=by rw[ees];exact yp (by kernel_rfl) (by kernel_rfl)
 have rt:Root (stOf X.length es) [] 0 (dR (fA (dA10 k) ocT)) (fA (dA10 k) ocT) X.length ((eR (dR (fA (dA10 k) ocT)) rK).si X.length):=by rw[ees];exact rootA (n:=2) (oc:=G3 (ocN 1 (G3 [73]))) ocT (by decide) (by decide) h1 (GU h2)
 rw[←ees] at h h0;have xi:Ix (stOf X.length es) ([0,10,3,16,19,13].map (X.length+ ·)) [] [([73],.obj (X.length+10))]:=
  zK (tOf (i:=0) h0) rfl <|j6 (tOf h.aa) rfl rfl (G5 rfl) <|zK (tOf h.g) rfl <|zK (tOf h.b) rfl <|zK (tOf h.c) rfl <|zK (tOf h.n) rfl rfl
 obtain⟨H',c,l⟩:=lo_siX (ns:=ns) (m:=15) (as:=[0,10,3,16,19,13].map (X.length+ ·)) (a:=X.length+6) (bs:=[X.length+22]) (G5 rfl) (XV d iv) (wrOf rt) (rpA h h0) (G5 rfl) xi (tOf h.t) rfl rfl (G5 rfl) (G5 rfl);exact⟨H',c,kpOf l⟩
theorem nmTK{es:List It0}{a:D}{c:Oc}{p o:Nat}(h:Tab es a c o):[p+6,p+22].map (nmV (stOf p es))=[.str [84],.str [75]]:=by rw[show[p+6,p+22].map (nmV (stOf p es))=[nmV (stOf p es) (p+6),nmV (stOf p es) (p+22)] from rfl,YI (tOf h.t),YI (tOf h.k)];rfl
theorem Kh(c:Oc)(d:DtX X n)(h1:1<=k)(h2:k<=20)(ix:c.ix=Gb){B:Hp}(eb:(tabS (dA k) (eTo (dA k) c 25) (fA (dA k) c) rK []).map (It0.gives B)=(tabS (dA k) (eTo (dA k) c 25) (fA (dA k) c) rK []).map (It0.wants X.length))
  (hx:∀(es:List It0),es=tabS (dA k) (eTo (dA k) c 25) (fA (dA k) c) rK []->Tab es (dA k) c 25->∀q H z' ix',CAll (stOf X.length es) (isA.map (X.length+ ·))->RPre (stOf X.length es) [X.length] (isA.map (X.length+ ·))->Sol (stOf X.length es) H n (n+1) (n+2) (n+3) (n+4) z' ix' X.length->∃H',yc (zb (P ns) 60 (q+5)) 695 [.obj n,.obj (X.length+6)] H 72 H'/\Ex H H') :
  ∃H',yc (zb (P ns) 60 18) 702 [.obj n] (X++B) 72 H'/\Kp X n H':=by
 have h:Tab (tabS (dA k) (eTo (dA k) c 25) (fA (dA k) c) rK []) (dA k) c 25:=jw _ _ _ _ _ _;have h0:zt 0 (tabS (dA k) (eTo (dA k) c 25) (fA (dA k) c) rK [])=G3 (eR (dR (fA (dA k) c)) rK):=rfl;have iv:Inv (stOf X.length (tabS (dA k) (eTo (dA k) c 25) (fA (dA k) c) rK [])) (X++B):=yp eb (by kernel_rfl);obtain⟨es,ees⟩:∃x,x=tabS (dA k) (eTo (dA k) c 25) (fA (dA k) c) rK []:=⟨_,rfl⟩;have rt:Root (stOf X.length es) [] 0 (dR (fA (dA k) c)) (fA (dA k) c) X.length ((eR (dR (fA (dA k) c)) rK).si X.length):=by rw[ees];exact rootA (n:=1) (oc:=Gb) c (by decide) (by decide) h1 (GU h2)
 rw[←ees] at h h0 iv;have xi:Ix (stOf X.length es) (isA.map (X.length+ ·)) [] []:=
  zK (tOf (i:=0) h0) rfl <|zK (tOf h.aa) rfl <|zK (tOf h.g) rfl <|zK (tOf h.b) rfl <|zK (tOf h.c) rfl <|zK (tOf h.n) rfl <|zK (tOf h.t) ix <|zK (tOf h.k) rfl rfl
 have co:∀q,q∈[0,10,3,16,19,13].map (X.length+ ·)->CoOk (stOf X.length es) (isA.map (X.length+ ·)) q:=
  zn (tOf (i:=0) h0) rfl <|zn (tOf h.aa) rfl <|zn (tOf h.g) rfl <|zn (tOf h.b) rfl <|zn (tOf h.c) rfl <|zn (tOf h.n) rfl jl
 have ca:=caA (p:=X.length) h h0 rfl;have rp:=rpA (p:=X.length) h h0;obtain⟨H',c,l⟩:=lo_coX (ns:=ns) (m:=15) (as:=[0,10,3,16,19,13].map (X.length+ ·)) (a:=X.length+6) (bs:=[X.length+22]) (G5 rfl) (XV d iv) (wrOf rt) rp (G5 rfl) ca xi co (tOf h.t) rfl λq H z' ix' s=>hx es ees h q H z' ix' ca rp s;exact⟨H',c,kpOf l⟩
theorem runX_11(d:DtX X n)(h1:1<=k)(h2:k<=20):∃H',yc (zb (P ns) 60 18) 702 [.obj n] (X++b11 X.length k) 72 H'/\Kp X n H':=
 Kh oc11 d h1 h2 rfl (by kernel_rfl) λes ees h q H z' ix' ca rp s=>co_keyX (ns:=ns) (m:=q+3) s.iv (tOf h.t) (preT h) (G5 rfl) rfl (by rw[nmTK h];rfl) rfl (by decide) (G5 rfl)
theorem runX_12(d:DtX X n)(h1:1<=k)(h2:k<=20):∃H',yc (zb (P ns) 60 18) 702 [.obj n] (X++b12 X.length k) 72 H'/\Kp X n H':=
 Kh oc12 d h1 h2 rfl (by kernel_rfl) λes ees h q H z' ix' ca rp s=>uw (ns:=ns) (m:=q) s.hd s.k (G5 rfl) rp (G5 rfl) ca s.iv (tOf h.t) (preT h) (G5 rfl) rfl (.inl (by rw[Ku];exact Jf (by rw[ees];kernel_rfl))) (G5 rfl)
theorem runX_13(d:DtX X n)(h1:1<=k)(h2:k<=20):∃H',yc (zb (P ns) 60 18) 702 [.obj n] (X++b13 X.length k) 72 H'/\Kp X n H':=
 Kh oc13 d h1 h2 rfl (by kernel_rfl) λes ees h q H z' ix' ca rp s=>uw (ns:=ns) (m:=q) s.hd s.k (G5 rfl) rp (G5 rfl) ca s.iv (tOf h.t) (preT h) (G5 rfl) rfl (.inr ⟨by rw[Ku];exact Jf (by rw[ees];kernel_rfl),by rw[nmTK h];rfl⟩) (G5 rfl)
end
end G
end
section
set_option Elab.async false
namespace G
open Mn
def kn0(es:List It0)(ks:List Nat):Bool:=ks.all λi=>match zt i es with|some e=>!Gi e.lvl 66|none=>G7
theorem knOf{es:List It0}{p:Nat}:∀{ks:List Nat},kn0 es ks=G6->Kn (stOf p es) (ks.map (p+ ·)):=by
 intro ks
 induction ks with
 |nil=>intro _ x m;cases m
 |cons i r ih=>
  intro h x m;have h:=GC.mp h;rcases m with _|⟨_,m⟩
  ·rcases e:zt i es with _|e'
   ·have q:(match zt i es with|some e=>!Gi e.lvl 66|none=>G7)=G6:=h.1;rw[e] at q;cases q
   ·have q:(match zt i es with|some e=>!Gi e.lvl 66|none=>G7)=G6:=h.1;rw[e] at q;refine⟨_,tOf e,?_⟩;show Gi e'.lvl 66=G7;have q:(!Gi e'.lvl 66)=G6:=q;rcases b:Gi e'.lvl 66 with _|_
    ·rfl
    ·rw[b] at q;cases q
  ·exact ih h.2 x m
theorem Kx{p n:Nat}{ks:List Nat}(h:Gj ks.length n=G6):(ks.map (p+ ·)).length<=n:=by rw[Gs];exact G5 h
section
variable {ns:List Int} {es:List It0} {p:Nat}
theorem XZ{X B:Hp}{n:Nat}{d:D}{ks:List Nat}(D:DtX X n)(iv:Inv (stOf X.length es) (X++B))(h0:zt 0 es=G3 (eR d ks))(hl:d.leaf=Gb)(oc:d.oc=Gb)(o1:1<=d.often)(up:d.upon=[])(kn:kn0 es ks=G6)(nk:nb ks=G6)(l:Gj ks.length 900=G6)
  (h:Rz ns (stOf X.length es) 14 643 [.obj X.length,.int (.ofNat 0)]):∃H',yc (zb (P ns) 60 18) 702 [.obj n] (X++B) 72 H'/\Kp X n H':=by
 have t:=tOf (p:=X.length) (i:=0) h0;have r:Rz ns (stOf X.length es) 15 636 [.obj X.length,.int (.ofNat 0)]:=sx_grp (m:=13) t (DD _) (λc e=>by rw[show((eR d ks).si X.length).d.oc=d.oc from rfl,oc] at e;cases e) rfl o1 hl (knOf kn) (Jf nk) (by rw[Gs];exact Gk (Ga (Kx l) (by decide))) h;refine za (lx_out (m:=15) (XV D iv) r t (by rw[show((eR d ks).si X.length).d.upon=d.upon from rfl,up];rfl)) λH' c l=>?_;exact⟨H',c,kpOf l⟩
theorem j0{f:F}{as bs:List Nat}{k:Nat}{d:D}{ks:List Nat}(h0:zt 0 es=G3 (eR d ks))(e:d.leaf=Gb)(us:d.usage=[])(ek:ks=as++k::bs)(kn:kn0 es ks=G6)(l:Gj ks.length 900=G6)(ds:Des (stOf p es) [] [p] 0 0 f (as.map (p+ ·)))(wf:Wf [] Gb f)
  (hb:Gj (bl f) 13=G6) (hh:Gj (1+ht f) 9=G6) (lk:Gj (nc f) 900=G6) (tx:kA ns (stOf p es) 13 p 0 (p+k) (gsz f) (as.map (p+ ·)) f):Rz ns (stOf p es) 14 643 [.obj p,.int (.ofNat 0)]:=
 KR (anc:=[]) (bs:=bs.map (p+ ·)) (G5 hb) (tOf (i:=0) h0) (by rw[show((eR d ks).si p).kids=ks.map (p+ ·) from rfl,ek,GB];rfl) (knOf kn) (Kx l) ds wf ⟨_,tOf (i:=0) h0,.inl ⟨us,rfl⟩⟩ (chR h0 (by rw[e];rfl)) (by rw[D3,GZ];exact G5 hh) rfl (G5 lk) tx
theorem leafT{f:F}{as:List Nat}{k sz:Nat}{e:It0}(h:zt k es=G3 e)(lv:e.lvl=5)(o1:1<=e.d.often)(ks:e.kids=[])(x:∀H,Inv (stOf p es) H->J1 ns 12 (p+k) H):kA ns (stOf p es) 13 p 0 (p+k) sz as f:=
 tx_ss (sx_leaf (m:=11) (tOf h) (by decide) (λ_ _=>by show Gi e.lvl 1=G7;rw[lv];rfl) (by show Gi e.lvl 77=G7;rw[lv];rfl) o1 (by rw[show(e.si p).kids=e.kids.map (p+ ·) from rfl,ks];rfl) x)
theorem effA{k:Nat}{e:It0}{d:D}{ks:List Nat}(h:zt k es=G3 e)(h0:zt 0 es=G3 (eR d ks))(us:d.usage=[])(u:e.d.usage=[]):Eff (stOf p es) [p+k,p] []:=⟨_,tOf h,.inl ⟨u,⟨_,tOf (i:=0) h0,.inl ⟨us,rfl⟩⟩⟩⟩
theorem effU{k:Nat}{e:It0}{u:List Nat}(h:zt k es=G3 e)(ue:e.d.usage=u)(n:eqS u []=G7):Eff (stOf p es) [p+k,p] u:=⟨_,tOf h,.inr ⟨by rw[show(e.si p).d.usage=e.d.usage from rfl,ue];exact n,ue.symm⟩⟩
theorem leafS{m k:Nat}{e:It0}{nm:List Nat}{up:List Nat}{t:List Nat}{z dp:Nat}{anc:List Nat}(hm:6<=m)(h:zt k es=G3 e)(ed:e.d=⟨nm,1,Gb,[],G3 (t,G7),up,z⟩)(lv:e.lvl=5)(ks:e.kids=[])(pr:e.par.map (p+ ·)=anc.head?)(ch:yj (stOf p es) anc)(l:anc.length < 50)(ef:Eff (stOf p es) anc [])(d:dp<=20)(pz:PicOk t zx 0 0 G7 z):SsOk ns (stOf p es) (m+2) dp (p+k):=λH iv=>by have u:(e.si p).d=⟨nm,1,Gb,[],G3 (t,G7),up,z⟩:=ed;refine jB (m:=m) (dp:=dp) (t:=t) (sep:=G7) (e:=[]) hm iv (tOf h) pr ch l (by rw[u]) ⟨_,tOf h,.inl ⟨by rw[u],ef⟩⟩ (by rw[u];exact .txt _ z pz) d (λc e'=>by rw[u] at e';cases e') (by show Gi e.lvl 77=G7;rw[lv];rfl) (by rw[u];exact GI 1) (by rw[show(e.si p).kids=e.kids.map (p+ ·) from rfl,ks];rfl)
end
end G
end
section
set_option Elab.async false
namespace G
open Mn
section
variable {ns:List Int} {X:Hp} {n k:Nat}
abbrev RunX(ns:List Int)(X:Hp)(n:Nat)(B:Hp):Prop:=∃H',yc (zb (P ns) 60 18) 702 [.obj n] (X++B) 72 H'/\Kp X n H'
def fA1(k:Nat):F:=.node (dA k) .nil .nil
def fA2(k:Nat):F:=.node (dA k) .nil (.node dG fG .nil)
theorem wf1(h1:1<=k)(h2:k<=20):Wf [] Gb (fA1 k):=ZT rfl (ndX (n:=1) (by decide) (by decide) h1 (GU h2)) trivial trivial
theorem wf2(h1:1<=k)(h2:k<=20):Wf [] Gb (fA2 k):=ZT rfl (ndX (n:=1) (by decide) (by decide) h1 (GU h2)) trivial (ZT rfl ndG wfG trivial)
theorem ds1{es:List It0}{p:Nat}(h:zt 10 es=G3 (eA (dA k))):Des (stOf p es) [] [p] 0 0 (fA1 k) [p+10]:=ZL rfl (yT h rfl rfl) rfl Zb
theorem dsGk{es:List It0}{p:Nat}(hb:zt 16 es=G3 (eB (dA k)))(hc:zt 19 es=G3 (eC (dA k))):Des (stOf p es) [] [p+3,p] (oG (dA k)) 0 fG [p+16,p+19]:=
 ZL rfl (yT hb rfl rfl) rfl (ZL rfl (yT hc rfl rfl) rfl Zb)
theorem ds2{es:List It0}{p:Nat}(h:zt 10 es=G3 (eA (dA k)))(hg:zt 3 es=G3 (eG (dA k)))(hb:zt 16 es=G3 (eB (dA k)))(hc:zt 19 es=G3 (eC (dA k))):Des (stOf p es) [] [p] 0 0 (fA2 k) [p+10,p+3]:=
 ZL rfl (yT h rfl rfl) rfl (JB rfl (yT hg rfl rfl) (dsGk hb hc) Zb)
theorem Ki(D:DtX X n)(eA':It0){B:Hp}(ei:eA'.i=10)(lv:eA'.lvl=5)(o1:1<=eA'.d.often)(ks:eA'.kids=[])(iv:Inv (stOf X.length (esW (hR k) (eG (dA k)) (eT (dA k) ocT) eA' (eN (dA k)) k [])) (X++B))
  (x:∀H,Inv (stOf X.length (esW (hR k) (eG (dA k)) (eT (dA k) ocT) eA' (eN (dA k)) k [])) H->J1 ns 12 (X.length+10) H):RunX ns X n B:=by
 have hA:zt 10 (esW (hR k) (eG (dA k)) (eT (dA k) ocT) eA' (eN (dA k)) k [])=G3 eA':=by show(match Gi eA'.i 10 with|true=>G3 eA'|false=>zt 10 _)=_;rw[ei]
 have kn:kn0 (esW (hR k) (eG (dA k)) (eT (dA k) ocT) eA' (eN (dA k)) k []) rK=G6:=by
  show((match zt 10 (esW (hR k) (eG (dA k)) (eT (dA k) ocT) eA' (eN (dA k)) k []) with|some e=>!Gi e.lvl 66|none=>G7) && kn0 (esW (hR k) (eG (dA k)) (eT (dA k) ocT) eA' (eN (dA k)) k []) [3,13,6])=G6;rw[hA];show(!Gi eA'.lvl 66 && _)=G6;rw[lv,show kn0 (esW (hR k) (eG (dA k)) (eT (dA k) ocT) eA' (eN (dA k)) k []) [3,13,6]=G6 from by
   unfold esW;rcases eA' with⟨i,_,_,_,_,_,_⟩;cases ei;kernel_rfl]
  rfl
 exact XZ D iv (ks:=rK) (d:=dR (fA (dA k) ocT)) rfl rfl rfl (GI 1) rfl kn rfl rfl
  (j0 (f:=.nil) (as:=[]) (bs:=[3,13,6]) (k:=10) (ks:=rK) (d:=dR (fA (dA k) ocT)) rfl rfl rfl rfl kn rfl Zb trivial rfl rfl rfl (leafT hA lv o1 ks x))
theorem runX_1(D:DtX X n):RunX ns X n (b1 X.length k):=
 Ki (k:=k) D (eA (dA1 k)) rfl rfl (GI 1) rfl (yp (by kernel_rfl) (by kernel_rfl)) λH iv=>
  lx_no (m:=11) (anc:=[X.length]) (G5 rfl) iv (tOf rfl) rfl (chR (d:=dR (fA (dA k) ocT)) (ks:=rK) rfl rfl) (by show 1 < 50;decide) (G5 rfl) rfl (effA (d:=dR (fA (dA k) ocT)) (ks:=rK) rfl rfl rfl rfl)
theorem runX_8(D:DtX X n)(h1:1<=k)(h2:k<=20):RunX ns X n (b8 X.length k):=
 Ki (k:=k) D (eA (dA8 k)) rfl rfl (GI 1) rfl (yp (by kernel_rfl) (by kernel_rfl)) λH iv=>
  lx_us (m:=11) (anc:=[X.length]) (G5 rfl) iv (tOf rfl) rfl (chR (d:=dR (fA (dA k) ocT)) (ks:=rK) rfl rfl) (by show 1 < 50;decide) (G5 rfl) rfl (effU rfl rfl rfl) (allX.get h1 (GU h2))
theorem runX_15(D:DtX X n):RunX ns X n (b15 X.length k):=
 Ki (k:=k) D (eA (dA15 k)) rfl rfl (GI 1) rfl (yp (by kernel_rfl) (by kernel_rfl)) λH iv=>
  lx_ix (m:=11) (anc:=[X.length]) (G5 rfl) iv (tOf rfl) rfl (chR (d:=dR (fA (dA k) ocT)) (ks:=rK) rfl rfl) (by show 1 < 50;decide) (G5 rfl) rfl (effU rfl rfl rfl)
theorem runX_3(D:DtX X n):RunX ns X n (b3 X.length k):=by
 have iv:Inv (stOf X.length (esW (hR k) (eG (dA k)) (eT (dA k) ocT) (eA (dA3 k)) (eN (dA k)) k [])) (X++b3 X.length k):=yp (by kernel_rfl) (by kernel_rfl);exact XZ D iv (ks:=rK) (d:=dR (fA (dA k) ocT)) rfl rfl rfl (GI 1) rfl rfl rfl rfl
  (j0 (f:=.nil) (as:=[]) (bs:=[3,13,6]) (k:=10) (ks:=rK) (d:=dR (fA (dA k) ocT)) rfl rfl rfl rfl rfl rfl Zb trivial rfl rfl rfl (tx_ss (sx_zero (m:=12) (s:=(eA (dA3 k)).si X.length) (c:=ocN 0 Gb) (tOf rfl) (by decide) rfl (G5 rfl) rfl rfl rfl)))
theorem runX_2(D:DtX X n):RunX ns X n (b2 X.length k):=by have iv:Inv (stOf X.length (esW (eR2 k) (eG (dA k)) (eT (dA k) ocT) (eA (dA k)) (eN (dA k)) k [])) (X++b2 X.length k):=yp (by kernel_rfl) (by kernel_rfl);have t:stOf X.length (esW (eR2 k) (eG (dA k)) (eT (dA k) ocT) (eA (dA k)) (eN (dA k)) k []) X.length=G3 ((eR2 k).si X.length):=tOf (i:=0) rfl;refine za (lx_out (ns:=ns) (m:=15) (XV D iv) (sx_one (m:=14) (c:=ocN 1 Gb) t (by decide) rfl (G5 rfl) rfl) t rfl) λH' c l=>?_;exact⟨H',c,kpOf l⟩
theorem runX_0(D:DtX X n)(h1:1<=k)(h2:k<=20):RunX ns X n (b0 X.length k):=by
 have iv:Inv (stOf X.length (esW (hR k) (eG0 k) (eT (dA k) ocT) (eA (dA k)) (eN (dA k)) k [])) (X++b0 X.length k):=yp (by kernel_rfl) (by kernel_rfl);exact XZ D iv (ks:=rK) (d:=dR (fA (dA k) ocT)) rfl rfl rfl (GI 1) rfl rfl rfl rfl
  (j0 (f:=fA1 k) (as:=[10]) (bs:=[13,6]) (k:=3) (ks:=rK) (d:=dR (fA (dA k) ocT)) rfl rfl rfl rfl rfl rfl (ds1 rfl) (wf1 h1 h2) rfl rfl rfl
   (tx_ss (sx_pic (m:=11) (s:=(eG0 k).si X.length) (tOf rfl) (by decide) (λ_ e=>nomatch e) rfl (GI 1) rfl (knOf (ks:=[16,19]) rfl) rfl rfl (G5 rfl))))
theorem runX_9(D:DtX X n)(h1:1<=k)(h2:k<=20):RunX ns X n (b9 X.length k):=by
 have iv:Inv (stOf X.length (esW (hR k) (eG (dA k)) (eT (dA k) ocT) (eA (dA k)) (eN9 k) k [])) (X++b9 X.length k):=yp (by kernel_rfl) (by kernel_rfl);exact XZ D iv (ks:=rK) (d:=dR (fA (dA k) ocT)) rfl rfl rfl (GI 1) rfl rfl rfl rfl
  (j0 (f:=fA2 k) (as:=[10,3]) (bs:=[6]) (k:=13) (ks:=rK) (d:=dR (fA (dA k) ocT)) rfl rfl rfl rfl rfl rfl (ds2 rfl rfl rfl rfl) (wf2 h1 h2) rfl rfl rfl
   (leafT (e:=eN9 k) rfl rfl (GI 1) rfl λH iv=>lx_sg (m:=11) (anc:=[X.length]) (G5 rfl) iv (tOf rfl) rfl (chR (d:=dR (fA (dA k) ocT)) (ks:=rK) rfl rfl) (by show 1 < 50;decide) (G5 rfl) rfl (effA (d:=dR (fA (dA k) ocT)) (ks:=rK) rfl rfl rfl rfl) pN4))
end
end G
end
section
set_option Elab.async false
namespace G
open Mn
section
variable {ns:List Int} {X:Hp} {n k:Nat}
def tabZ(k:Nat)(ks:List Nat)(z:It0):List It0:=tabS (dA k) (eT (dA k) ocT) (fA (dA k) ocT) ks [z]
theorem runX_4(D:DtX X n)(h1:1<=k)(h2:k<=20):RunX ns X n (b4 X.length k):=by
 have h:Tab (tabZ k [10,3,13,6,25] (eZ 0 [65] [88] 1 0)) (dA k) ocT 9:=jw _ _ _ _ _ _;have iv:Inv (stOf X.length (tabZ k [10,3,13,6,25] (eZ 0 [65] [88] 1 0))) (X++b4 X.length k):=yp (by kernel_rfl) (by kernel_rfl);have tz:=tOf (p:=X.length) (es:=tabZ k [10,3,13,6,25] (eZ 0 [65] [88] 1 0)) (i:=25) (e:=eZ 0 [65] [88] 1 0) rfl;have h0:zt 0 (tabZ k [10,3,13,6,25] (eZ 0 [65] [88] 1 0))=G3 (eR (dR (fA (dA k) ocT)) [10,3,13,6,25]):=rfl;exact XZ D iv (ks:=[10,3,13,6,25]) (d:=dR (fA (dA k) ocT)) h0 rfl rfl (GI 1) rfl rfl rfl rfl
  (j0 (f:=fA (dA k) ocT) (as:=[10,3,13,6]) (bs:=[]) (k:=25) (ks:=[10,3,13,6,25]) (d:=dR (fA (dA k) ocT)) h0 rfl rfl rfl rfl rfl (dsA h rfl (dsX h _)) (wfA (n:=1) (oc:=Gb) ocT (by decide) (by decide) h1 (GU h2)) rfl rfl rfl
   (tx_rd (m:=13) (sk:=(eZ 0 [65] [88] 1 0).si X.length) (g:=X.length+6) (sg:=(eT (dA k) ocT).si X.length) (rv:=[X.length+13,X.length+3,X.length+10]) (G5 rfl) tz
    (leafS (m:=11) (anc:=[X.length]) (by decide) (rfl:zt 25 (tabZ k [10,3,13,6,25] (eZ 0 [65] [88] 1 0))=G3 (eZ 0 [65] [88] 1 0)) rfl rfl rfl rfl (chR h0 rfl) (by show 1 < 50;decide) ⟨_,tOf (i:=0) h0,.inl ⟨rfl,rfl⟩⟩ (by decide) pX)
    rfl (G5 rfl) (G5 rfl) (tOf h.t) rfl λH ap iv ha=>rx_no (m:=12) iv tz (tOf h.t) ha (G5 rfl) rfl rfl))
theorem runX_7(D:DtX X n)(h1:1<=k)(h2:k<=20):RunX ns X n (b7 X.length k):=by
 have h:Tab (tabZ k [10,3,13,6,25] (eZ 0 [84] [88] 1 0)) (dA k) ocT 9:=jw _ _ _ _ _ _;have iv:Inv (stOf X.length (tabZ k [10,3,13,6,25] (eZ 0 [84] [88] 1 0))) (X++b7 X.length k):=yp (by kernel_rfl) (by kernel_rfl);have tz:=tOf (p:=X.length) (es:=tabZ k [10,3,13,6,25] (eZ 0 [84] [88] 1 0)) (i:=25) (e:=eZ 0 [84] [88] 1 0) rfl;have h0:zt 0 (tabZ k [10,3,13,6,25] (eZ 0 [84] [88] 1 0))=G3 (eR (dR (fA (dA k) ocT)) [10,3,13,6,25]):=rfl;exact XZ D iv (ks:=[10,3,13,6,25]) (d:=dR (fA (dA k) ocT)) h0 rfl rfl (GI 1) rfl rfl rfl rfl
  (j0 (f:=fA (dA k) ocT) (as:=[10,3,13,6]) (bs:=[]) (k:=25) (ks:=[10,3,13,6,25]) (d:=dR (fA (dA k) ocT)) h0 rfl rfl rfl rfl rfl (dsA h rfl (dsX h _)) (wfA (n:=1) (oc:=Gb) ocT (by decide) (by decide) h1 (GU h2)) rfl rfl rfl
   (tx_rd (m:=13) (sk:=(eZ 0 [84] [88] 1 0).si X.length) (g:=X.length+6) (sg:=(eT (dA k) ocT).si X.length) (rv:=[X.length+13,X.length+3,X.length+10]) (G5 rfl) tz
    (leafS (m:=11) (anc:=[X.length]) (by decide) (rfl:zt 25 (tabZ k [10,3,13,6,25] (eZ 0 [84] [88] 1 0))=G3 (eZ 0 [84] [88] 1 0)) rfl rfl rfl rfl (chR h0 rfl) (by show 1 < 50;decide) ⟨_,tOf (i:=0) h0,.inl ⟨rfl,rfl⟩⟩ (by decide) pX)
    rfl (G5 rfl) (G5 rfl) (tOf h.t) rfl λH ap iv ha=>rx_tab (m:=12) (c:=ocT) iv tz (tOf h.t) ha (G5 rfl) rfl rfl))
def tab5(k:Nat):List It0:=esW (hR k) (eG5 k) (eT (dA k) ocT) (eA (dA k)) (eN (dA k)) k [eZ 3 [65] [88] 1 0]
theorem runX_5(D:DtX X n)(h1:1<=k)(h2:k<=20):RunX ns X n (b5 X.length k):=by
 have iv:Inv (stOf X.length (tab5 k)) (X++b5 X.length k):=yp (by kernel_rfl) (by kernel_rfl);have h0:zt 0 (tab5 k)=G3 (eR (dR (fA (dA k) ocT)) rK):=rfl;have hz:zt 25 (tab5 k)=G3 (eZ 3 [65] [88] 1 0):=rfl;have tz:=tOf (p:=X.length) hz;have tg:stOf X.length (tab5 k) (X.length+3)=G3 ((eG5 k).si X.length):=tOf rfl;have tc:stOf X.length (tab5 k) (X.length+19)=G3 ((eC (dA k)).si X.length):=tOf rfl;have ch:yj (stOf X.length (tab5 k)) [X.length+3,X.length]:=⟨⟨_,tg,rfl,rfl⟩,chR h0 rfl⟩;have ef:Eff (stOf X.length (tab5 k)) [X.length+3,X.length] []:=⟨_,tg,.inl ⟨rfl,⟨_,tOf (i:=0) h0,.inl ⟨rfl,rfl⟩⟩⟩⟩;have g:Rz ns (stOf X.length (tab5 k)) 12 643 [.obj (X.length+3),.int (.ofNat 1)]:=
  KR (m:=11) (anc:=[X.length]) (f:=fG) (as:=[X.length+16,X.length+19]) (k:=X.length+25) (bs:=[]) (G5 rfl) tg rfl (knOf (ks:=[16,19,25]) rfl) (by show 3<=900;decide) (dsGk rfl rfl) wfG ef ch (by show 1+1+1<=9;decide) rfl (by show 2<=900;decide)
   (tx_rd (m:=11) (sk:=(eZ 3 [65] [88] 1 0).si X.length) (g:=X.length+19) (sg:=(eC (dA k)).si X.length) (rv:=[X.length+16]) (G5 rfl) tz
    (leafS (m:=9) (anc:=[X.length+3,X.length]) (by decide) hz rfl rfl rfl rfl ch (by show 2 < 50;decide) ef (by decide) pX)
    rfl (G5 rfl) (G5 rfl) tc rfl λH ap iv ha=>rx_no (m:=10) iv tz tc ha (G5 rfl) rfl rfl)
 exact XZ D iv (ks:=rK) (d:=dR (fA (dA k) ocT)) h0 rfl rfl (GI 1) rfl rfl rfl rfl
  (j0 (f:=fA1 k) (as:=[10]) (bs:=[13,6]) (k:=3) (ks:=rK) (d:=dR (fA (dA k) ocT)) h0 rfl rfl rfl rfl rfl (ds1 rfl) (wf1 h1 h2) rfl rfl rfl
   (tx_ss (sx_grp (m:=11) (s:=(eG5 k).si X.length) tg (by decide) (λ_ e=>nomatch e) rfl (GI 1) rfl (knOf (ks:=[16,19,25]) rfl) rfl rfl g)))
def eZ6(k:Nat):It0:=⟨25,5,dZ [65] (txX (k+1)) (k+1),Gb,[],0,0⟩
theorem runX_6(D:DtX X n)(h1:1<=k)(h2:k<=20):RunX ns X n (b6 X.length k):=by
 have iv:Inv (stOf X.length (tabZ k [10,25,3,13,6] (eZ6 k))) (X++b6 X.length k):=yp (by kernel_rfl) (by kernel_rfl);have h0:zt 0 (tabZ k [10,25,3,13,6] (eZ6 k))=G3 (eR (dR (fA (dA k) ocT)) [10,25,3,13,6]):=rfl;have hz:zt 25 (tabZ k [10,25,3,13,6] (eZ6 k))=G3 (eZ6 k):=rfl;have ta:stOf X.length (tabZ k [10,25,3,13,6] (eZ6 k)) (X.length+10)=G3 ((eA (dA k)).si X.length):=tOf rfl;exact XZ D iv (ks:=[10,25,3,13,6]) (d:=dR (fA (dA k) ocT)) h0 rfl rfl (GI 1) rfl rfl rfl rfl
  (j0 (f:=fA1 k) (as:=[10]) (bs:=[3,13,6]) (k:=25) (ks:=[10,25,3,13,6]) (d:=dR (fA (dA k) ocT)) h0 rfl rfl rfl rfl rfl (ds1 rfl) (wf1 h1 h2) rfl rfl rfl
   (tx_long (m:=13) (sk:=(eZ6 k).si X.length) (g:=X.length+10) (sg:=(eA (dA k)).si X.length) (G5 rfl) (tOf hz)
    (leafS (m:=11) (anc:=[]) (by decide) hz rfl rfl rfl rfl trivial (by decide) rfl (by decide) (allX.get (GF 1 k) (DE h2)))
    rfl (Ga (DE h2) (by decide)) (G5 rfl) ta rfl rfl rfl rfl (Ga h2 (by decide)) (by show k*1 < (k+1)*1;rw[Dv,Dv];exact Da k) (G5 rfl)
    λH q=>by obtain⟨a,r,s,e,_,z,_⟩:=q;cases e;exact z))
theorem runX_14(D:DtX X n):∃H',yc (zb (P ns) 60 18) 702 [.obj n] (H14 X n k) 72 H'/\Kp X n H':=by
 have l:(X++(mk0 X.length k++z14 X.length 1)).length=X.length+28:=ln_ (by kernel_rfl);have iv0:Inv (stOf X.length [eS X.length]) (X++(mk0 X.length k++z14 X.length 1)):=yp (by kernel_rfl) (by kernel_rfl);have iv1:=(Le.app (T:=stOf X.length [eS X.length]) [O.list [V.obj (X.length+25)]]).inv iv0;have fd:=zd (N:=[O.list [V.obj (X.length+25)]]) (zd (N:=mk0 X.length k++z14 X.length 1) D.fd);have da:=zd (N:=[O.list [V.obj (X.length+25)]]) (zd (N:=mk0 X.length k++z14 X.length 1) D.da);have fl:(X++(mk0 X.length k++z14 X.length 1)++[O.list [V.obj (X.length+25)]])[X.length+28]?=G3 (.list [.obj (X.length+25)]):=by rw[←l];exact ze
 have e:ExA (n+3) (X++(mk0 X.length k++z14 X.length 1)++[O.list [V.obj (X.length+25)]]) (H14 X n k):=ExA.set _;refine⟨_,?_,λi o h lt=>e i o (zd (zd h)) (D9 (M0 lt (Nat.lt_succ_of_le (Db n 2))))⟩;exact lx_file (m:=16) (e _ _ da (zp da fd nofun).symm) (zV fd) (e _ _ fl (zp fl fd nofun).symm) (iv1.dic fd e) (tOf (es:=[eS X.length]) (i:=25) rfl) rfl (G5 rfl)
end
end G
end
section
set_option Elab.async false
namespace G
open Mn
def zN(i:Nat):List Nat:=[90]++Yw (.ofNat i)
abbrev dZi(i k:Nat):D:=dX (zN i) 1 Gb [65] k
def eZi(i k:Nat):It0:=⟨25+3*i,5,dZi i k,Gb,[],0,0⟩
theorem JW{p i:Nat}{es:List It0}{d:D}{ks:List Nat}{e:It0}(h:zt i es=G3 e)(lv:e.lvl=5)(pr:e.par=Gb)(l:e.d.leaf.isSome=G6)(h0:zt 0 es=G3 (eR d ks))(us:d.usage=[]):Node (stOf p es) [] [p] e.off e.d (p+i) (e.si p):=
 ⟨by rw[st_at,h];rfl,rfl,lv,.inr ⟨by rw[show(e.si p).par=e.par.map (p+ ·) from rfl,pr];rfl,l,⟨_,tOf (i:=0) h0,.inl ⟨us,rfl⟩⟩⟩,rfl,rfl⟩
theorem upZ{i k:Nat}(h2:k<=20):Up (G3 (dA k)) (dZi i k) (dA k):=⟨rfl,rfl,rfl,rfl,rfl,Ii (Dv k),Ga h2 (by decide)⟩
theorem wfZ{i k:Nat}(h1:1<=k)(h2:k<=20){r:F}(h:Wf [] (G3 (dA k)) r):Wf [] (G3 (dA k)) (.node (dZi i k) .nil r):=wf_up rfl (ndX (n:=1) (by decide) (by decide) h1 (GU h2)) trivial (upZ h2) h
theorem Y0{T:St}{H:Hp}{base anc:List Nat}{here last:Nat}{f:F}{a:Nat}{r:List Nat}(o:OfAll T H f (a::r))(d:Des T base anc here last f (a::r)):OfOk T H a/\∃f' here' last',OfAll T H f' r/\Des T base anc here' last' f' r:=by
 rcases f with _|⟨d',k',r'⟩
 ·exact absurd (show(a::r)=[] from d) nofun
 ·obtain⟨a1,r1,s1,e1,_,o1,_,o2⟩:=o;obtain⟨a2,r2,s2,e2,_,_,d2⟩:=d;cases e1;cases e2;exact⟨o1,r',_,_,o2,d2⟩
section
variable {ns:List Int} {X:Hp} {n k:Nat}
structure EndZ (X H':Hp) (n k:Nat) (ks:List V):Prop where
 da:∃ix',H'[n]?=G3 (datO (n+1) (n+2) (n+3) (n+4) (k+14) ix')
 wl:H'[n+1]?=G3 (.list [.obj X.length])
 r:∃fs,H'[X.length]?=G3 (.inst 148 fs)/\getF 11 fs=G3 (.obj (X.length+2))
 ks:H'[X.length+2]?=G3 (.list ks)
 a:∃fs,H'[X.length+10]?=G3 (.inst 148 fs)/\getF 7 fs=G3 (.int 0)
 z:∃fs,H'[X.length+25]?=G3 (.inst 148 fs)/\getF 7 fs=G3 (.int 0)
def fZ1(k:Nat):F:=.node (dA k) .nil (.node (dZi 0 k) .nil (fX ocT))
noncomputable def kZ1:List Nat:=[10,25,3,13,6]
noncomputable def iZ1:List Nat:=[0,10,25,3,16,19,13,6,22]
def tZ1(k:Nat):List It0:=tabS (dA k) (eT (dA k) ocT) (fZ1 k) kZ1 [eZi 0 k]
def zB1(p k:Nat):Hp:=mkR p (eR (dR (fZ1 k)) kZ1) (eG (dA k)) (eT (dA k) ocT) ocT (eA (dA k)) (eN (dA k)) (eB (dA k)) (eC (dA k)) (eK (dA k))++(eZi 0 k).objs p
theorem inv_Z1:Inv (stOf X.length (tZ1 k)) (X++zB1 X.length k):=yp (by kernel_rfl) (by kernel_rfl)
theorem gsZ1:gsz (fZ1 k)=k*1+14:=by show k*1+(0+(14))=k*1+14;rw[GZ]
theorem sndZ1(D:DtX X n)(h1:1<=k)(h2:k<=20){H:Hp}(ex:Ex (X++zB1 X.length k) H):∃H',Call (zb (P ns) 60 18) 702 [.obj n] H .none H'/\EndZ X H' n k (kZ1.map λi=>.obj (X.length+i)):=by
 have h:Tab (tZ1 k) (dA k) ocT 9:=⟨rfl,rfl,rfl,rfl,rfl,rfl,rfl⟩;have h0:zt 0 (tZ1 k)=G3 (eR (dR (fZ1 k)) kZ1):=rfl;have z0:zt 25 (tZ1 k)=G3 (eZi 0 k):=rfl;have so:=(XV D (inv_Z1 (k:=k))).ex ex;have rt:Root (stOf X.length (tZ1 k)) [] 0 (dR (fZ1 k)) (fZ1 k) X.length ((eR (dR (fZ1 k)) kZ1).si X.length):=
  J9 h0 (dsA h rfl (X7 rfl (JW z0 rfl rfl rfl h0 rfl) rfl (dsX h _))) (ZT rfl (ndX (n:=1) (by decide) (by decide) h1 (GU h2)) trivial (wfZ h1 h2 (wfX ocT _))) (by rw[gsZ1,Dv];exact Ga (Dw h2 14) (by decide)) nofun rfl rfl rfl rfl
 have rp:RPre (stOf X.length (tZ1 k)) [X.length] (iZ1.map (X.length+ ·)):=
  ⟨.node (dR (fZ1 k)) (fZ1 k) .nil,iZ1.map (X.length+ ·),[],pre2 (z:=[X.length+10,X.length+25,X.length+3,X.length+16,X.length+19,X.length+13,X.length+6,X.length+22]) (y:=[]) (tOf (i:=0) h0) (pre1 (tOf h.aa) rfl (pre1 (tOf z0) rfl (preX h))) ⟨rfl,rfl⟩ rfl,G5 rfl,rfl,rfl⟩
 have ca:CAll (stOf X.length (tZ1 k)) (iZ1.map (X.length+ ·)):=zE (anc:=[]) (tOf (i:=0) h0) rfl trivial (by decide) (zE (anc:=[X.length]) (tOf h.aa) rfl (chR h0 rfl) (by show 1 < 50;decide) (zE (anc:=[]) (tOf z0) rfl trivial (by decide) (caX h h0 rfl)));have xi:Ix (stOf X.length (tZ1 k)) (iZ1.map (X.length+ ·)) [] [([73],.obj (X.length+6))]:=zK (tOf (i:=0) h0) rfl <|zK (tOf h.aa) rfl <|zK (tOf z0) rfl <|zK (tOf h.g) rfl <|zK (tOf h.b) rfl <|zK (tOf h.c) rfl <|zK (tOf h.n) rfl <|j6 (tOf h.t) rfl rfl (G5 rfl) <|zK (tOf h.k) rfl rfl;have co:∀a,a∈iZ1.map (X.length+ ·)->CoOk (stOf X.length (tZ1 k)) (iZ1.map (X.length+ ·)) a:=zn (tOf (i:=0) h0) rfl <|zn (tOf h.aa) rfl <|zn (tOf z0) rfl <|zn (tOf h.g) rfl <|zn (tOf h.b) rfl <|zn (tOf h.c) rfl <|zn (tOf h.n) rfl <|JC (coT h iZ1 (by kernel_rfl)) <|zn (tOf h.k) rfl jl;obtain⟨H',ix',c,l,hd,hx,dn⟩:=Xp (ns:=ns) (m:=15) (G5 rfl) so (wrOf rt) rp (G5 rfl) ca xi co;rw[gsZ1,Dv] at hd;have iv':=l.inv so.iv;obtain⟨⟨b,o,z,sh,hr⟩,sr⟩:=iv' _ _ (tOf (i:=0) h0);obtain⟨base,off,d,kids,s,rt',dn⟩:=dn X.length (.head _);cases(tOf (p:=X.length) (i:=0) h0).symm.trans rt'.node.t;obtain⟨oa,f',h',l',o',d'⟩:=Y0 (a:=X.length+10) (r:=[X.length+25,X.length+3,X.length+13,X.length+6]) dn.ok rt'.des;obtain⟨oz,_⟩:=Y0 o' d';obtain⟨s1,z1,sh1,t1,q1⟩:=oa;obtain⟨s2,z2,sh2,t2,q2⟩:=oz;cases(tOf (p:=X.length) h.aa).symm.trans t1;cases(tOf (p:=X.length) z0).symm.trans t2;have wl:=l.old _ _ so.k.wl (JM so.iv so.k.wl) (zp so.k.wl so.hd nofun).symm;exact⟨H',c,⟨ix',hd⟩,wl,⟨_,hr,rfl⟩,sr.kids,⟨_,q1,rfl⟩,⟨_,q2,rfl⟩⟩
def fZ2(k:Nat):F:=.node (dA k) .nil (.node (dZi 0 k) .nil (.node (dZi 1 k) .nil (fX ocT)))
noncomputable def kZ2:List Nat:=[10,25,28,3,13,6]
noncomputable def iZ2:List Nat:=[0,10,25,28,3,16,19,13,6,22]
def tZ2(k:Nat):List It0:=tabS (dA k) (eT (dA k) ocT) (fZ2 k) kZ2 [eZi 0 k,eZi 1 k]
def zB2(p k:Nat):Hp:=mkR p (eR (dR (fZ2 k)) kZ2) (eG (dA k)) (eT (dA k) ocT) ocT (eA (dA k)) (eN (dA k)) (eB (dA k)) (eC (dA k)) (eK (dA k))++(eZi 0 k).objs p++(eZi 1 k).objs p
theorem inv_Z2:Inv (stOf X.length (tZ2 k)) (X++zB2 X.length k):=yp (by kernel_rfl) (by kernel_rfl)
theorem gsZ2:gsz (fZ2 k)=k*1+14:=by show k*1+(0+(0+(14)))=k*1+14;rw[GZ]
theorem sndZ2(D:DtX X n)(h1:1<=k)(h2:k<=20){H:Hp}(ex:Ex (X++zB2 X.length k) H):∃H',Call (zb (P ns) 60 18) 702 [.obj n] H .none H'/\EndZ X H' n k (kZ2.map λi=>.obj (X.length+i)):=by
 have h:Tab (tZ2 k) (dA k) ocT 9:=⟨rfl,rfl,rfl,rfl,rfl,rfl,rfl⟩;have h0:zt 0 (tZ2 k)=G3 (eR (dR (fZ2 k)) kZ2):=rfl;have z0:zt 25 (tZ2 k)=G3 (eZi 0 k):=rfl;have z1:zt 28 (tZ2 k)=G3 (eZi 1 k):=rfl;have so:=(XV D (inv_Z2 (k:=k))).ex ex;have rt:Root (stOf X.length (tZ2 k)) [] 0 (dR (fZ2 k)) (fZ2 k) X.length ((eR (dR (fZ2 k)) kZ2).si X.length):=
  J9 h0 (dsA h rfl (X7 rfl (JW z0 rfl rfl rfl h0 rfl) rfl (X7 rfl (JW z1 rfl rfl rfl h0 rfl) rfl (dsX h _)))) (ZT rfl (ndX (n:=1) (by decide) (by decide) h1 (GU h2)) trivial (wfZ h1 h2 (wfZ h1 h2 (wfX ocT _)))) (by rw[gsZ2,Dv];exact Ga (Dw h2 14) (by decide)) nofun rfl rfl rfl rfl
 have rp:RPre (stOf X.length (tZ2 k)) [X.length] (iZ2.map (X.length+ ·)):=
  ⟨.node (dR (fZ2 k)) (fZ2 k) .nil,iZ2.map (X.length+ ·),[],pre2 (z:=[X.length+10,X.length+25,X.length+28,X.length+3,X.length+16,X.length+19,X.length+13,X.length+6,X.length+22]) (y:=[]) (tOf (i:=0) h0) (pre1 (tOf h.aa) rfl (pre1 (tOf z0) rfl (pre1 (tOf z1) rfl (preX h)))) ⟨rfl,rfl⟩ rfl,G5 rfl,rfl,rfl⟩
 have ca:CAll (stOf X.length (tZ2 k)) (iZ2.map (X.length+ ·)):=zE (anc:=[]) (tOf (i:=0) h0) rfl trivial (by decide) (zE (anc:=[X.length]) (tOf h.aa) rfl (chR h0 rfl) (by show 1 < 50;decide) (zE (anc:=[]) (tOf z0) rfl trivial (by decide) (zE (anc:=[]) (tOf z1) rfl trivial (by decide) (caX h h0 rfl))));have xi:Ix (stOf X.length (tZ2 k)) (iZ2.map (X.length+ ·)) [] [([73],.obj (X.length+6))]:=zK (tOf (i:=0) h0) rfl <|zK (tOf h.aa) rfl <|zK (tOf z0) rfl <|zK (tOf z1) rfl <|zK (tOf h.g) rfl <|zK (tOf h.b) rfl <|zK (tOf h.c) rfl <|zK (tOf h.n) rfl <|j6 (tOf h.t) rfl rfl (G5 rfl) <|zK (tOf h.k) rfl rfl;have co:∀a,a∈iZ2.map (X.length+ ·)->CoOk (stOf X.length (tZ2 k)) (iZ2.map (X.length+ ·)) a:=zn (tOf (i:=0) h0) rfl <|zn (tOf h.aa) rfl <|zn (tOf z0) rfl <|zn (tOf z1) rfl <|zn (tOf h.g) rfl <|zn (tOf h.b) rfl <|zn (tOf h.c) rfl <|zn (tOf h.n) rfl <|JC (coT h iZ2 (by kernel_rfl)) <|zn (tOf h.k) rfl jl;obtain⟨H',ix',c,l,hd,hx,dn⟩:=Xp (ns:=ns) (m:=15) (G5 rfl) so (wrOf rt) rp (G5 rfl) ca xi co;rw[gsZ2,Dv] at hd;have iv':=l.inv so.iv;obtain⟨⟨b,o,z,sh,hr⟩,sr⟩:=iv' _ _ (tOf (i:=0) h0);obtain⟨base,off,d,kids,s,rt',dn⟩:=dn X.length (.head _);cases(tOf (p:=X.length) (i:=0) h0).symm.trans rt'.node.t;obtain⟨oa,f',h',l',o',d'⟩:=Y0 (a:=X.length+10) (r:=[X.length+25,X.length+28,X.length+3,X.length+13,X.length+6]) dn.ok rt'.des;obtain⟨oz,_⟩:=Y0 o' d';obtain⟨s1,z1,sh1,t1,q1⟩:=oa;obtain⟨s2,z2,sh2,t2,q2⟩:=oz;cases(tOf (p:=X.length) h.aa).symm.trans t1;cases(tOf (p:=X.length) z0).symm.trans t2;have wl:=l.old _ _ so.k.wl (JM so.iv so.k.wl) (zp so.k.wl so.hd nofun).symm;exact⟨H',c,⟨ix',hd⟩,wl,⟨_,hr,rfl⟩,sr.kids,⟨_,q1,rfl⟩,⟨_,q2,rfl⟩⟩
def fZ3(k:Nat):F:=.node (dA k) .nil (.node (dZi 0 k) .nil (.node (dZi 1 k) .nil (.node (dZi 2 k) .nil (fX ocT))))
noncomputable def kZ3:List Nat:=[10,25,28,31,3,13,6]
noncomputable def iZ3:List Nat:=[0,10,25,28,31,3,16,19,13,6,22]
def tZ3(k:Nat):List It0:=tabS (dA k) (eT (dA k) ocT) (fZ3 k) kZ3 [eZi 0 k,eZi 1 k,eZi 2 k]
def zB3(p k:Nat):Hp:=mkR p (eR (dR (fZ3 k)) kZ3) (eG (dA k)) (eT (dA k) ocT) ocT (eA (dA k)) (eN (dA k)) (eB (dA k)) (eC (dA k)) (eK (dA k))++(eZi 0 k).objs p++(eZi 1 k).objs p++(eZi 2 k).objs p
theorem inv_Z3:Inv (stOf X.length (tZ3 k)) (X++zB3 X.length k):=yp (by kernel_rfl) (by kernel_rfl)
theorem gsZ3:gsz (fZ3 k)=k*1+14:=by show k*1+(0+(0+(0+(14))))=k*1+14;rw[GZ]
theorem sndZ3(D:DtX X n)(h1:1<=k)(h2:k<=20){H:Hp}(ex:Ex (X++zB3 X.length k) H):∃H',Call (zb (P ns) 60 18) 702 [.obj n] H .none H'/\EndZ X H' n k (kZ3.map λi=>.obj (X.length+i)):=by
 have h:Tab (tZ3 k) (dA k) ocT 9:=⟨rfl,rfl,rfl,rfl,rfl,rfl,rfl⟩;have h0:zt 0 (tZ3 k)=G3 (eR (dR (fZ3 k)) kZ3):=rfl;have z0:zt 25 (tZ3 k)=G3 (eZi 0 k):=rfl;have z1:zt 28 (tZ3 k)=G3 (eZi 1 k):=rfl;have z2:zt 31 (tZ3 k)=G3 (eZi 2 k):=rfl;have so:=(XV D (inv_Z3 (k:=k))).ex ex;have rt:Root (stOf X.length (tZ3 k)) [] 0 (dR (fZ3 k)) (fZ3 k) X.length ((eR (dR (fZ3 k)) kZ3).si X.length):=
  J9 h0 (dsA h rfl (X7 rfl (JW z0 rfl rfl rfl h0 rfl) rfl (X7 rfl (JW z1 rfl rfl rfl h0 rfl) rfl (X7 rfl (JW z2 rfl rfl rfl h0 rfl) rfl (dsX h _))))) (ZT rfl (ndX (n:=1) (by decide) (by decide) h1 (GU h2)) trivial (wfZ h1 h2 (wfZ h1 h2 (wfZ h1 h2 (wfX ocT _))))) (by rw[gsZ3,Dv];exact Ga (Dw h2 14) (by decide)) nofun rfl rfl rfl rfl
 have rp:RPre (stOf X.length (tZ3 k)) [X.length] (iZ3.map (X.length+ ·)):=
  ⟨.node (dR (fZ3 k)) (fZ3 k) .nil,iZ3.map (X.length+ ·),[],pre2 (z:=[X.length+10,X.length+25,X.length+28,X.length+31,X.length+3,X.length+16,X.length+19,X.length+13,X.length+6,X.length+22]) (y:=[]) (tOf (i:=0) h0) (pre1 (tOf h.aa) rfl (pre1 (tOf z0) rfl (pre1 (tOf z1) rfl (pre1 (tOf z2) rfl (preX h))))) ⟨rfl,rfl⟩ rfl,G5 rfl,rfl,rfl⟩
 have ca:CAll (stOf X.length (tZ3 k)) (iZ3.map (X.length+ ·)):=zE (anc:=[]) (tOf (i:=0) h0) rfl trivial (by decide) (zE (anc:=[X.length]) (tOf h.aa) rfl (chR h0 rfl) (by show 1 < 50;decide) (zE (anc:=[]) (tOf z0) rfl trivial (by decide) (zE (anc:=[]) (tOf z1) rfl trivial (by decide) (zE (anc:=[]) (tOf z2) rfl trivial (by decide) (caX h h0 rfl)))));have xi:Ix (stOf X.length (tZ3 k)) (iZ3.map (X.length+ ·)) [] [([73],.obj (X.length+6))]:=zK (tOf (i:=0) h0) rfl <|zK (tOf h.aa) rfl <|zK (tOf z0) rfl <|zK (tOf z1) rfl <|zK (tOf z2) rfl <|zK (tOf h.g) rfl <|zK (tOf h.b) rfl <|zK (tOf h.c) rfl <|zK (tOf h.n) rfl <|j6 (tOf h.t) rfl rfl (G5 rfl) <|zK (tOf h.k) rfl rfl;have co:∀a,a∈iZ3.map (X.length+ ·)->CoOk (stOf X.length (tZ3 k)) (iZ3.map (X.length+ ·)) a:=zn (tOf (i:=0) h0) rfl <|zn (tOf h.aa) rfl <|zn (tOf z0) rfl <|zn (tOf z1) rfl <|zn (tOf z2) rfl <|zn (tOf h.g) rfl <|zn (tOf h.b) rfl <|zn (tOf h.c) rfl <|zn (tOf h.n) rfl <|JC (coT h iZ3 (by kernel_rfl)) <|zn (tOf h.k) rfl jl;obtain⟨H',ix',c,l,hd,hx,dn⟩:=Xp (ns:=ns) (m:=15) (G5 rfl) so (wrOf rt) rp (G5 rfl) ca xi co;rw[gsZ3,Dv] at hd;have iv':=l.inv so.iv;obtain⟨⟨b,o,z,sh,hr⟩,sr⟩:=iv' _ _ (tOf (i:=0) h0);obtain⟨base,off,d,kids,s,rt',dn⟩:=dn X.length (.head _);cases(tOf (p:=X.length) (i:=0) h0).symm.trans rt'.node.t;obtain⟨oa,f',h',l',o',d'⟩:=Y0 (a:=X.length+10) (r:=[X.length+25,X.length+28,X.length+31,X.length+3,X.length+13,X.length+6]) dn.ok rt'.des;obtain⟨oz,_⟩:=Y0 o' d';obtain⟨s1,z1,sh1,t1,q1⟩:=oa;obtain⟨s2,z2,sh2,t2,q2⟩:=oz;cases(tOf (p:=X.length) h.aa).symm.trans t1;cases(tOf (p:=X.length) z0).symm.trans t2;have wl:=l.old _ _ so.k.wl (JM so.iv so.k.wl) (zp so.k.wl so.hd nofun).symm;exact⟨H',c,⟨ix',hd⟩,wl,⟨_,hr,rfl⟩,sr.kids,⟨_,q1,rfl⟩,⟨_,q2,rfl⟩⟩
end
end G
end
section
set_option Elab.async false
namespace G
open Mn
section
variable {ns:List Int}
def xD(H:Hp):Hp:=H++dat6 H.length [.obj (H.length+6)] []
theorem kH(H:Hp):(xD H).length=H.length+6:=ln_ rfl
theorem dt_of(H:Hp):DtX (xD H) H.length where
 da:=at_ (X:=H) (i:=0) rfl
 wl:=by rw[kH];exact at_ (X:=H) (i:=1) rfl
 ll:=at_ (X:=H) (i:=2) rfl
 fd:=at_ (X:=H) (i:=3) rfl
theorem Src.kp{H H':Hp}{so ce j:Nat}{cs:List Int}(s:Src H so ce cs j)(k:Kp (xD H) H.length H'):Src H' so ce cs j:=⟨k _ _ (zd s.s) (Xo s.s),k _ _ (zd s.c) (Xo s.c),s.p,s.l⟩
theorem Src.xD{H B:Hp}{so ce j:Nat}{cs:List Int}(s:Src H so ce cs j):Src (Mn.G.xD H++B) so ce cs j:=⟨zd (zd s.s),zd (zd s.c),s.p,s.l⟩
theorem YC(H:Hp)(k:Nat):(H++dat6 H.length [] []++mk0 (H++dat6 H.length [] []).length k).set (H.length+1) (.list ([]++[.obj (H++dat6 H.length [] []).length]))=xD H++mk0 (xD H).length k:=by have l:(H++dat6 H.length [] []).length=H.length+6:=ln_ rfl;rw[kH,l,Yz (by rw[l];exact Nat.add_lt_add_left (by decide) _)];exact congrArg (·++mk0 (H.length+6) k) (set_ (X:=H) (i:=1) rfl)
theorem eqI_rf(a:Int):eqI a a=G6:=decide_eq_true rfl
theorem neI(a:Int)(H:Hp):yg .ne (.int a) (.int a) H=G3 G7:=by show G3 (!eqI a a)=G3 G7;rw[eqI_rf];rfl
theorem eqI1(a:Int)(H:Hp):yg .eq (.int a) (.int a) H=G3 G6:=by show G3 (eqI a a)=G3 G6;rw[eqI_rf]
theorem neL{H:Hp}{i j:Nat}{vs us:List V}(h:H[i]?=G3 (.list vs))(k:H[j]?=G3 (.list us))(e:(match Gi vs.length us.length with|true=>eqFs vs us|false=>G3 G7)=G3 G6):yg .ne (.obj i) (.obj j) H=G3 G7:=by show((match H[i]? with|some (.list vs)=>(match H[j]? with|some (.list us)=>(match Gi vs.length us.length with|true=>eqFs vs us|false=>G3 G7)|_=>Gb)|_=>Gb).map (!·))=_;rw[h,k];show((match Gi vs.length us.length with|true=>eqFs vs us|false=>G3 G7).map (!·))=_;rw[e];rfl
theorem eqL{H:Hp}{i j:Nat}{vs us:List V}(h:H[i]?=G3 (.list vs))(k:H[j]?=G3 (.list us))(e:(match Gi vs.length us.length with|true=>eqFs vs us|false=>G3 G7)=G3 G6):yg .eq (.obj i) (.obj j) H=G3 G6:=by show(match H[i]? with|some (.list vs)=>(match H[j]? with|some (.list us)=>(match Gi vs.length us.length with|true=>eqFs vs us|false=>G3 G7)|_=>Gb)|_=>Gb)=_;rw[h,k];exact e
def bd5:S:=(.seq (.set 6 (.call 174 .nil)) (.seq (.ex (.bm .append (.a K41 27) (.cons (.call 724 K11) .nil))) (.seq (.ifs K25 (.ex (.call 738 (.cons K41 (.cons K8 K11)))) .nop) (.seq (.ifs (.cmp .ne (.call 745 (.cons K41 .nil)) (.not K25)) (.ret K6) .nop) (.ifs (.and (.not K25) (.or (.cmp .ne (.a K41 6) (.bin .add K26 (.c (.int 14)))) (.or (.cmp .ne (.bf .list (.cons (.a K41 0) .nil)) (.lst K34)) (.cmp .ne (.a (.idx (.a K41 0) (.c (.str [73]))) 22) K60)))) (.ret K6) .nop)))))
def bd7:S:=(.ex (.bm .insert K31 (.cons (.bin .add K4 (.l 7)) (.cons (.call 731 (.cons (.bin .add K29 (.bf .str (.cons (.l 7) .nil))) (.cons K22 (.cons (.bin .add (.bin .add K46 (.bf .str K11)) K43) .nil)))) .nil))))
noncomputable abbrev lL(so r k:Nat)(a b c d:V):Lc:=[.scr,.obj 1,.obj so,.int (.ofNat r),.int (.ofNat k),a,b,c,d]
theorem rec_ct{k:Nat}(h1:1<=k)(h2:k<=20)(X:Hp):Call (CT ns) 724 [.int (.ofNat k)] X (.obj X.length) (X++mk0 X.length k):=by
 have q:(zU 724 fnT).bind Yv=Gb:=by kernel_rfl
 have c:=YB (ns:=ns) (m:=18) h1 h2 (by decide) X;exact ct c q
variable {H:Hp} {so ce j k r:Nat} {cs:List Int}
theorem turn_0(s:Src H so ce cs j)(h1:1<=k)(h2:k<=20)(x y:V):∃H' as,Src H' so ce cs j/\exS (P ns) (CT ns) 60 bd5 (lL so r k (.bool G7) x .bad .bad) H as λg L' H'' _=>g= .next/\L'=lL so r k (.bool G7) (.obj H.length) .bad .bad/\H''=H':=by
 obtain⟨H1,ix,c,kp,hd,hx,fs,ht,hf⟩:=snd0 (ns:=ns) (dt_of H) h1 h2;have x1:Ex H1 (H1++[O.list [V.str [73]]]++[O.list [V.str [73]]]):=(Ex.app _).trans (Ex.app _);have l1:(H1++[O.list [V.str [73]]]++[O.list [V.str [73]]])[H1.length]?=G3 (.list [.str [73]]):=zd ze;have c1:Call (CT ns) 174 [] H (.obj H.length) (H++dat6 H.length [] []):=ct (YS (ns:=ns) H 18 (G5 rfl)) (by kernel_rfl);have c2:=rec_ct (ns:=ns) h1 h2 (H++dat6 H.length [] []);have c3:Call (CT ns) 745 [.obj H.length] (xD H++mk0 (xD H).length k) (.bool G6) H1:=Jg c;refine⟨H1++[O.list [V.str [73]]]++[O.list [V.str [73]]],.c (.obj H.length) (H++dat6 H.length [] []) <|.o (datO (H.length+1) (H.length+2) (H.length+3) (H.length+4) 0 (H.length+5)) <|.g <|.c (.obj (H++dat6 H.length [] []).length) (H++dat6 H.length [] []++mk0 (H++dat6 H.length [] []).length k) <|.o (.list []) <|.h (xD H++mk0 (xD H).length k) <|
   .c (.bool G6) H1 <|.o (datO (H.length+1) (H.length+2) (H.length+3) (H.length+4) (k+14) ix) <|.b G7 <|.o (datO (H.length+1) (H.length+2) (H.length+3) (H.length+4) (k+14) ix) <|.o (.dict [([73],.obj ((xD H).length+6))]) <|.b G7 <|
   .o (datO (H.length+1) (H.length+2) (H.length+3) (H.length+4) (k+14) ix) <|.o (.dict [([73],.obj ((xD H).length+6))]) <|.o (.inst 148 fs) <|.w (.str [84]) .nil,(s.kp kp).ex x1,?_⟩
 exact ok (I c1 <|I (at_ (X:=H) (B:=dat6 H.length [] []) (i:=0) (o:=datO (H.length+1) (H.length+2) (H.length+3) (H.length+4) 0 (H.length+5)) rfl) <|I (zQ (b:=.append) (at_ (X:=H) (B:=dat6 H.length [] []) (i:=1) (o:=.list []) rfl)) <|I c2 <|I (zd (N:=mk0 (H++dat6 H.length [] []).length k) (at_ (X:=H) (B:=dat6 H.length [] []) (i:=1) (o:=.list []) rfl)) <|I (YC H k) <|
   I c3 <|I hd <|I (neI (.ofNat (k+14)) H1) <|I hd <|I hx <|I (neL (H:=H1++[O.list [V.str [73]]]++[O.list [V.str [73]]]) l1 ze rfl) <|I (x1 _ _ hd) <|I (x1 _ _ hx) <|I (x1 _ _ ht) <|I hf <|
   fin3 .next (lL so r k (.bool G7) (.obj H.length) .bad .bad) (H1++[O.list [V.str [73]]]++[O.list [V.str [73]]])) (by kernel_rfl)
end
theorem bent_all{ns:List Int}{X:Hp}{n k r:Nat}(d:DtX X n)(h1:1<=k)(h2:k<=20)(hr:r < 16):∃HB H',Call (zb (P ns) 60 18) 738 [.obj n,.int (.ofNat r),.int (.ofNat k)] (X++mk0 X.length k) .none HB/\yc (zb (P ns) 60 18) 702 [.obj n] HB 72 H'/\Kp X n H':=by
 rcases r with _|r
 ·exact Gf (runX_0 (ns:=ns) (k:=k) d h1 h2) λH' q=>⟨_,H',bent_0 (ns:=ns) (m:=13) d,q.1,q.2⟩
 rcases r with _|r
 ·exact Gf (runX_1 (ns:=ns) (k:=k) d) λH' q=>⟨_,H',bent_1 (ns:=ns) (m:=13) d,q.1,q.2⟩
 rcases r with _|r
 ·exact Gf (runX_2 (ns:=ns) (k:=k) d) λH' q=>⟨_,H',bent_2 (ns:=ns) (m:=13) d,q.1,q.2⟩
 rcases r with _|r
 ·exact Gf (runX_3 (ns:=ns) (k:=k) d) λH' q=>⟨_,H',bent_3 (ns:=ns) (m:=13) d,q.1,q.2⟩
 rcases r with _|r
 ·exact Gf (runX_4 (ns:=ns) (k:=k) d h1 h2) λH' q=>⟨_,H',bent_4 (ns:=ns) (m:=13) d,q.1,q.2⟩
 rcases r with _|r
 ·exact Gf (runX_5 (ns:=ns) (k:=k) d h1 h2) λH' q=>⟨_,H',bent_5 (ns:=ns) (m:=13) d,q.1,q.2⟩
 rcases r with _|r
 ·exact Gf (runX_6 (ns:=ns) (k:=k) d h1 h2) λH' q=>⟨_,H',bent_6 (ns:=ns) (m:=13) d (GT (DE h2) (by decide)),q.1,q.2⟩
 rcases r with _|r
 ·exact Gf (runX_7 (ns:=ns) (k:=k) d h1 h2) λH' q=>⟨_,H',bent_7 (ns:=ns) (m:=13) d,q.1,q.2⟩
 rcases r with _|r
 ·exact Gf (runX_8 (ns:=ns) (k:=k) d h1 h2) λH' q=>⟨_,H',bent_8 (ns:=ns) (m:=13) d,q.1,q.2⟩
 rcases r with _|r
 ·exact Gf (runX_9 (ns:=ns) (k:=k) d h1 h2) λH' q=>⟨_,H',bent_9 (ns:=ns) (m:=13) d,q.1,q.2⟩
 rcases r with _|r
 ·exact Gf (runX_10 (ns:=ns) (k:=k) d h1 h2) λH' q=>⟨_,H',bent_10 (ns:=ns) (m:=13) d,q.1,q.2⟩
 rcases r with _|r
 ·exact Gf (runX_11 (ns:=ns) (k:=k) d h1 h2) λH' q=>⟨_,H',bent_11 (ns:=ns) (m:=13) d,q.1,q.2⟩
 rcases r with _|r
 ·exact Gf (runX_12 (ns:=ns) (k:=k) d h1 h2) λH' q=>⟨_,H',bent_12 (ns:=ns) (m:=13) d,q.1,q.2⟩
 rcases r with _|r
 ·exact Gf (runX_13 (ns:=ns) (k:=k) d h1 h2) λH' q=>⟨_,H',bent_13 (ns:=ns) (m:=13) d,q.1,q.2⟩
 rcases r with _|r
 ·exact Gf (runX_14 (ns:=ns) (k:=k) d) λH' q=>⟨_,H',bent_14 (ns:=ns) (m:=13) d,q.1,q.2⟩
 rcases r with _|r
 ·exact Gf (runX_15 (ns:=ns) (k:=k) d) λH' q=>⟨_,H',bent_15 (ns:=ns) (m:=13) d,q.1,q.2⟩
 exact absurd hr (DT (GF 16 r))
section
variable {ns:List Int} {H:Hp} {so ce j k r:Nat} {cs:List Int}
theorem turn_1(s:Src H so ce cs j)(h1:1<=k)(h2:k<=20)(hr:r < 16)(x:V):∃H' as,Src H' so ce cs j/\exS (P ns) (CT ns) 60 bd5 (lL so r k (.bool G6) x .bad .bad) H as λg L' H'' _=>g= .next/\L'=lL so r k (.bool G6) (.obj H.length) .bad .bad/\H''=H':=by
 obtain⟨HB,H1,cb,c,kp⟩:=bent_all (ns:=ns) (dt_of H) h1 h2 hr;have c1:Call (CT ns) 174 [] H (.obj H.length) (H++dat6 H.length [] []):=ct (YS (ns:=ns) H 18 (G5 rfl)) (by kernel_rfl);have c2:=rec_ct (ns:=ns) h1 h2 (H++dat6 H.length [] []);have c3:Call (CT ns) 745 [.obj H.length] HB (.bool G7) H1:=lies_no c;have c4:Call (CT ns) 738 [.obj H.length,.int (.ofNat r),.int (.ofNat k)] (xD H++mk0 (xD H).length k) .none HB:=ct cb (by kernel_rfl);refine⟨H1,.c (.obj H.length) (H++dat6 H.length [] []) <|.o (datO (H.length+1) (H.length+2) (H.length+3) (H.length+4) 0 (H.length+5)) <|.g <|.c (.obj (H++dat6 H.length [] []).length) (H++dat6 H.length [] []++mk0 (H++dat6 H.length [] []).length k) <|.o (.list []) <|.h (xD H++mk0 (xD H).length k) <|.c .none HB <|.c (.bool G7) H1 .nil,s.kp kp,?_⟩;exact ok (I c1 <|I (at_ (X:=H) (B:=dat6 H.length [] []) (i:=0) (o:=datO (H.length+1) (H.length+2) (H.length+3) (H.length+4) 0 (H.length+5)) rfl) <|I (zQ (b:=.append) (at_ (X:=H) (B:=dat6 H.length [] []) (i:=1) (o:=.list []) rfl)) <|I c2 <|I (zd (N:=mk0 (H++dat6 H.length [] []).length k) (at_ (X:=H) (B:=dat6 H.length [] []) (i:=1) (o:=.list []) rfl)) <|I (YC H k) <|
   I c4 <|I c3 <|fin3 .next (lL so r k (.bool G6) (.obj H.length) .bad .bad) H1) (by kernel_rfl)
end
end G
end
section
set_option Elab.async false
namespace G
open Mn
noncomputable abbrev lZ(so r k n:Nat)(x y:V):Lc:=[.scr,.obj 1,.obj so,.int (.ofNat r),.int (.ofNat k),.bool G6,.obj n,x,y]
section
variable {ns:List Int} {X:Hp} {n k so r:Nat} {y:V}
theorem ins_0(d:DtX X n)(hk:k < 40):∃as,exS (P ns) (CT ns) 60 bd7 (lZ so r k n (.int (.ofNat 0)) y) (X++mk0 X.length k) as λg L' H' _=>g= .next/\L'=lZ so r k n (.int (.ofNat 0)) y/\H'=X++zB1 X.length k:=by
 have c:Call (CT ns) 731 [.str (zN 0),.str [65],.str (txX k)] (X++mk0 X.length k) (.obj (X.length+25)) (X++(mk0 X.length k++it3 (X.length+25) 5 (zN 0) (.str (txX k)) [] [65] .none)):=ct (Z5 (ns:=ns) (X:=X) (B:=mk0 X.length k) (m:=25) (zN 0) [65] (txX k) (by kernel_rfl) 18 (G5 rfl)) (by kernel_rfl);refine⟨.o (datO (n+1) (n+2) (n+3) (n+4) 0 (n+5)) <|.o (.list [.obj X.length]) <|.o ((hR k).o X.length) <|.g <|.g <|.g <|.g <|.g <|.g <|.c (.obj (X.length+25)) (X++(mk0 X.length k++it3 (X.length+25) 5 (zN 0) (.str (txX k)) [] [65] .none)) <|.o (.list [V.obj (X.length+10),V.obj (X.length+3),V.obj (X.length+13),V.obj (X.length+6)]) <|.g <|.h (X++zB1 X.length k) .nil,?_⟩;exact ok (I (zd (N:=mk0 X.length k) d.da) <|I (zd (N:=mk0 X.length k) d.wl) <|I (at_ (X:=X) (i:=0) (by kernel_rfl:(mk0 X.length k)[0]?=G3 ((hR k).o X.length))) <|I (zQ (b:=.insert) (at_ (X:=X) (i:=2) (by kernel_rfl:(mk0 X.length k)[2]?=G3 (.list [V.obj (X.length+10),V.obj (X.length+3),V.obj (X.length+13),V.obj (X.length+6)])))) <|I (rfl:G6=G6) <|I (rfl:G6=G6) <|I (gX0 hk) <|I (gX1 hk) <|I (gX2 hk) <|
  I c <|I (at_ (X:=X) (i:=2) (by kernel_rfl:(mk0 X.length k++it3 (X.length+25) 5 (zN 0) (.str (txX k)) [] [65] .none)[2]?=G3 (.list [V.obj (X.length+10),V.obj (X.length+3),V.obj (X.length+13),V.obj (X.length+6)]))) <|I (rfl:G6=G6) <|I (set_ (X:=X) (i:=2) (by kernel_rfl:(mk0 X.length k++it3 (X.length+25) 5 (zN 0) (.str (txX k)) [] [65] .none).set 2 (.list [V.obj (X.length+10),V.obj (X.length+25),V.obj (X.length+3),V.obj (X.length+13),V.obj (X.length+6)])=zB1 X.length k)) <|fin3 .next (lZ so r k n (.int (.ofNat 0)) y) (X++zB1 X.length k)) (by kernel_rfl)
theorem ins_1(d:DtX X n)(hk:k < 40):∃as,exS (P ns) (CT ns) 60 bd7 (lZ so r k n (.int (.ofNat 1)) y) (X++zB1 X.length k) as λg L' H' _=>g= .next/\L'=lZ so r k n (.int (.ofNat 1)) y/\H'=X++zB2 X.length k:=by
 have c:Call (CT ns) 731 [.str (zN 1),.str [65],.str (txX k)] (X++zB1 X.length k) (.obj (X.length+28)) (X++(zB1 X.length k++it3 (X.length+28) 5 (zN 1) (.str (txX k)) [] [65] .none)):=ct (Z5 (ns:=ns) (X:=X) (B:=zB1 X.length k) (m:=28) (zN 1) [65] (txX k) (by kernel_rfl) 18 (G5 rfl)) (by kernel_rfl);refine⟨.o (datO (n+1) (n+2) (n+3) (n+4) 0 (n+5)) <|.o (.list [.obj X.length]) <|.o ((eR (dR (fZ1 k)) kZ1).o X.length) <|.g <|.g <|.g <|.g <|.g <|.g <|.c (.obj (X.length+28)) (X++(zB1 X.length k++it3 (X.length+28) 5 (zN 1) (.str (txX k)) [] [65] .none)) <|.o (.list [V.obj (X.length+10),V.obj (X.length+25),V.obj (X.length+3),V.obj (X.length+13),V.obj (X.length+6)]) <|.g <|.h (X++zB2 X.length k) .nil,?_⟩;exact ok (I (zd (N:=zB1 X.length k) d.da) <|I (zd (N:=zB1 X.length k) d.wl) <|I (at_ (X:=X) (i:=0) (by kernel_rfl:(zB1 X.length k)[0]?=G3 ((eR (dR (fZ1 k)) kZ1).o X.length))) <|I (zQ (b:=.insert) (at_ (X:=X) (i:=2) (by kernel_rfl:(zB1 X.length k)[2]?=G3 (.list [V.obj (X.length+10),V.obj (X.length+25),V.obj (X.length+3),V.obj (X.length+13),V.obj (X.length+6)])))) <|I (rfl:G6=G6) <|I (rfl:G6=G6) <|I (gX0 hk) <|I (gX1 hk) <|I (gX2 hk) <|
  I c <|I (at_ (X:=X) (i:=2) (by kernel_rfl:(zB1 X.length k++it3 (X.length+28) 5 (zN 1) (.str (txX k)) [] [65] .none)[2]?=G3 (.list [V.obj (X.length+10),V.obj (X.length+25),V.obj (X.length+3),V.obj (X.length+13),V.obj (X.length+6)]))) <|I (rfl:G6=G6) <|I (set_ (X:=X) (i:=2) (by kernel_rfl:(zB1 X.length k++it3 (X.length+28) 5 (zN 1) (.str (txX k)) [] [65] .none).set 2 (.list [V.obj (X.length+10),V.obj (X.length+25),V.obj (X.length+28),V.obj (X.length+3),V.obj (X.length+13),V.obj (X.length+6)])=zB2 X.length k)) <|fin3 .next (lZ so r k n (.int (.ofNat 1)) y) (X++zB2 X.length k)) (by kernel_rfl)
theorem ins_2(d:DtX X n)(hk:k < 40):∃as,exS (P ns) (CT ns) 60 bd7 (lZ so r k n (.int (.ofNat 2)) y) (X++zB2 X.length k) as λg L' H' _=>g= .next/\L'=lZ so r k n (.int (.ofNat 2)) y/\H'=X++zB3 X.length k:=by
 have c:Call (CT ns) 731 [.str (zN 2),.str [65],.str (txX k)] (X++zB2 X.length k) (.obj (X.length+31)) (X++(zB2 X.length k++it3 (X.length+31) 5 (zN 2) (.str (txX k)) [] [65] .none)):=ct (Z5 (ns:=ns) (X:=X) (B:=zB2 X.length k) (m:=31) (zN 2) [65] (txX k) (by kernel_rfl) 18 (G5 rfl)) (by kernel_rfl);refine⟨.o (datO (n+1) (n+2) (n+3) (n+4) 0 (n+5)) <|.o (.list [.obj X.length]) <|.o ((eR (dR (fZ2 k)) kZ2).o X.length) <|.g <|.g <|.g <|.g <|.g <|.g <|.c (.obj (X.length+31)) (X++(zB2 X.length k++it3 (X.length+31) 5 (zN 2) (.str (txX k)) [] [65] .none)) <|.o (.list [V.obj (X.length+10),V.obj (X.length+25),V.obj (X.length+28),V.obj (X.length+3),V.obj (X.length+13),V.obj (X.length+6)]) <|.g <|.h (X++zB3 X.length k) .nil,?_⟩;exact ok (I (zd (N:=zB2 X.length k) d.da) <|I (zd (N:=zB2 X.length k) d.wl) <|I (at_ (X:=X) (i:=0) (by kernel_rfl:(zB2 X.length k)[0]?=G3 ((eR (dR (fZ2 k)) kZ2).o X.length))) <|I (zQ (b:=.insert) (at_ (X:=X) (i:=2) (by kernel_rfl:(zB2 X.length k)[2]?=G3 (.list [V.obj (X.length+10),V.obj (X.length+25),V.obj (X.length+28),V.obj (X.length+3),V.obj (X.length+13),V.obj (X.length+6)])))) <|I (rfl:G6=G6) <|I (rfl:G6=G6) <|I (gX0 hk) <|I (gX1 hk) <|I (gX2 hk) <|
  I c <|I (at_ (X:=X) (i:=2) (by kernel_rfl:(zB2 X.length k++it3 (X.length+31) 5 (zN 2) (.str (txX k)) [] [65] .none)[2]?=G3 (.list [V.obj (X.length+10),V.obj (X.length+25),V.obj (X.length+28),V.obj (X.length+3),V.obj (X.length+13),V.obj (X.length+6)]))) <|I (rfl:G6=G6) <|I (set_ (X:=X) (i:=2) (by kernel_rfl:(zB2 X.length k++it3 (X.length+31) 5 (zN 2) (.str (txX k)) [] [65] .none).set 2 (.list [V.obj (X.length+10),V.obj (X.length+25),V.obj (X.length+28),V.obj (X.length+31),V.obj (X.length+3),V.obj (X.length+13),V.obj (X.length+6)])=zB3 X.length k)) <|fin3 .next (lZ so r k n (.int (.ofNat 2)) y) (X++zB3 X.length k)) (by kernel_rfl)
theorem rows_1(d:DtX X n)(hk:k < 40)(x:V):ForR (P ns) (CT ns) 60 bd7 [7] G6 (.vals [.int (.ofNat 0)]) [.int (.ofNat 0)] (lZ so r k n x y) (X++mk0 X.length k) .next (lZ so r k n (.int (.ofNat 0)) y) (X++zB1 X.length k):=
 Gf (ins_0 (ns:=ns) (so:=so) (r:=r) (y:=y) d hk) λ_ h=>zX rfl h rfl (yq)
theorem rows_2(d:DtX X n)(hk:k < 40)(x:V):ForR (P ns) (CT ns) 60 bd7 [7] G6 (.vals [.int (.ofNat 0),.int (.ofNat 1)]) [.int (.ofNat 0),.int (.ofNat 1)] (lZ so r k n x y) (X++mk0 X.length k) .next (lZ so r k n (.int (.ofNat 1)) y) (X++zB2 X.length k):=
 Gf (ins_0 (ns:=ns) (so:=so) (r:=r) (y:=y) d hk) λ_ h=>zX rfl h rfl (Gf (ins_1 (ns:=ns) (so:=so) (r:=r) (y:=y) d hk) λ_ h=>zX rfl h rfl (yq))
theorem rows_3(d:DtX X n)(hk:k < 40)(x:V):ForR (P ns) (CT ns) 60 bd7 [7] G6 (.vals [.int (.ofNat 0),.int (.ofNat 1),.int (.ofNat 2)]) [.int (.ofNat 0),.int (.ofNat 1),.int (.ofNat 2)] (lZ so r k n x y) (X++mk0 X.length k) .next (lZ so r k n (.int (.ofNat 2)) y) (X++zB3 X.length k):=
 Gf (ins_0 (ns:=ns) (so:=so) (r:=r) (y:=y) d hk) λ_ h=>zX rfl h rfl (Gf (ins_1 (ns:=ns) (so:=so) (r:=r) (y:=y) d hk) λ_ h=>zX rfl h rfl (Gf (ins_2 (ns:=ns) (so:=so) (r:=r) (y:=y) d hk) λ_ h=>zX rfl h rfl (yq)))
theorem red_1:Call (CT ns) 629 [.obj (X.length+25),.obj (X++zB1 X.length k).length] (X++zB1 X.length k++[.list [.obj (X.length+10)]]) (.obj (X.length+10)) (X++zB1 X.length k++[.list [.obj (X.length+10)]]++[.list [.obj (X.length+10)]])/\∃fs,(X++zB1 X.length k++[.list [.obj (X.length+10)]]++[.list [.obj (X.length+10)]])[X.length+10]?=G3 (.inst 148 fs)/\getF 22 fs=G3 (.str [65]):=by have iv:=(Le.app (T:=stOf X.length (tZ1 k)) [.list [.obj (X.length+10)]]).inv (inv_Z1 (X:=X) (k:=k));refine⟨ct (yY (ns:=ns) (us:=[]) (pre:=[]) iv (tOf (i:=25) (e:=eZi 0 k) rfl) (tOf (i:=10) (e:=eA (dA k)) rfl) rfl rfl ?_ ze 18 (G5 rfl)) (by kernel_rfl),_,zd (zd (at_ (X:=X) (i:=10) (by kernel_rfl:(zB1 X.length k)[10]?=G3 ((eA (dA k)).o X.length)))),rfl⟩;intro u m;cases m
theorem red_2:Call (CT ns) 629 [.obj (X.length+28),.obj (X++zB2 X.length k).length] (X++zB2 X.length k++[.list [.obj (X.length+10),.obj (X.length+25)]]) (.obj (X.length+10)) (X++zB2 X.length k++[.list [.obj (X.length+10),.obj (X.length+25)]]++[.list [.obj (X.length+25),.obj (X.length+10)]])/\∃fs,(X++zB2 X.length k++[.list [.obj (X.length+10),.obj (X.length+25)]]++[.list [.obj (X.length+25),.obj (X.length+10)]])[X.length+10]?=G3 (.inst 148 fs)/\getF 22 fs=G3 (.str [65]):=by
 have iv:=(Le.app (T:=stOf X.length (tZ2 k)) [.list [.obj (X.length+10),.obj (X.length+25)]]).inv (inv_Z2 (X:=X) (k:=k));refine⟨ct (yY (ns:=ns) (us:=[X.length+25]) (pre:=[]) iv (tOf (i:=28) (e:=eZi 1 k) rfl) (tOf (i:=10) (e:=eA (dA k)) rfl) rfl rfl ?_ ze 18 (G5 rfl)) (by kernel_rfl),_,zd (zd (at_ (X:=X) (i:=10) (by kernel_rfl:(zB2 X.length k)[10]?=G3 ((eA (dA k)).o X.length)))),rfl⟩;intro u m;rcases m with _|⟨_,m⟩
 ·exact⟨_,tOf (i:=25) (e:=eZi 0 k) rfl,rfl,rfl⟩
 cases m
theorem red_3:Call (CT ns) 629 [.obj (X.length+31),.obj (X++zB3 X.length k).length] (X++zB3 X.length k++[.list [.obj (X.length+10),.obj (X.length+25),.obj (X.length+28)]]) (.obj (X.length+10)) (X++zB3 X.length k++[.list [.obj (X.length+10),.obj (X.length+25),.obj (X.length+28)]]++[.list [.obj (X.length+28),.obj (X.length+25),.obj (X.length+10)]])/\∃fs,(X++zB3 X.length k++[.list [.obj (X.length+10),.obj (X.length+25),.obj (X.length+28)]]++[.list [.obj (X.length+28),.obj (X.length+25),.obj (X.length+10)]])[X.length+10]?=G3 (.inst 148 fs)/\getF 22 fs=G3 (.str [65]):=by
 have iv:=(Le.app (T:=stOf X.length (tZ3 k)) [.list [.obj (X.length+10),.obj (X.length+25),.obj (X.length+28)]]).inv (inv_Z3 (X:=X) (k:=k));refine⟨ct (yY (ns:=ns) (us:=[X.length+28,X.length+25]) (pre:=[]) iv (tOf (i:=31) (e:=eZi 2 k) rfl) (tOf (i:=10) (e:=eA (dA k)) rfl) rfl rfl ?_ ze 18 (G5 rfl)) (by kernel_rfl),_,zd (zd (at_ (X:=X) (i:=10) (by kernel_rfl:(zB3 X.length k)[10]?=G3 ((eA (dA k)).o X.length)))),rfl⟩;intro u m;rcases m with _|⟨_,m⟩
 ·exact⟨_,tOf (i:=28) (e:=eZi 1 k) rfl,rfl,rfl⟩
 rcases m with _|⟨_,m⟩
 ·exact⟨_,tOf (i:=25) (e:=eZi 0 k) rfl,rfl,rfl⟩
 cases m
end
end G
end
section
set_option Elab.async false
namespace G
open Mn
section
variable {ns:List Int}
theorem off_comp{C:Orc}{H:Hp}{i a z:Nat}{fa fz:List (Nat×V)}(st:(It.lst i [.obj a,.obj z]).stands H=G6)(ha:H[a]?=G3 (.inst 148 fa))(ga:getF 7 fa=G3 (.int 0))(hz:H[z]?=G3 (.inst 148 fz))(gz:getF 7 fz=G3 (.int 0)) :
  ZA (ev (P ns) C (.a (.l 0) 7) X0) (cnd (P ns) C (.c (.bool G6))) 1 [] (.lst i [.obj a,.obj z]) [.obj a,.obj z] [] H [.int 0,.int 0] H:=
 cpIn (H₁:=H) (H₂:=H) (u:=.int 0) (as:=.nil) (as':=.o (.inst 148 fa) <|.w (.int 0) .nil) rfl (ok (I (rfl:G6=G6) (rfl:H=H)) (by kernel_rfl)) (ok (I ha <|I ga <|I (rfl:V.int 0=V.int 0) (rfl:H=H)) (by kernel_rfl)) st
  (cpIn (H₁:=H) (H₂:=H) (u:=.int 0) (as:=.nil) (as':=.o (.inst 148 fz) <|.w (.int 0) .nil) rfl (ok (I (rfl:G6=G6) (rfl:H=H)) (by kernel_rfl)) (ok (I hz <|I gz <|I (rfl:V.int 0=V.int 0) (rfl:H=H)) (by kernel_rfl)) st kj)
theorem jI{X B H3:Hp}{n k so r z a j:Nat}{x:V}{ks rest pre:List V}{fR fA:List (Nat×V)}(d:DtX X n)(eks:ks= .obj (X.length+10)::.obj (X.length+25)::rest)
  (hR:(X++B)[X.length]?=G3 (.inst 148 fR)) (gR:getF 11 fR=G3 (.obj (X.length+2))) (hk:(X++B)[X.length+2]?=G3 (.list ks)) (hz:atV ks (-4)=G3 (.obj z)) (hp:ks.take (Yi ks.length (-4))=pre)
  (c:Call (CT ns) 629 [.obj z,.obj (X++B).length] (X++B++[.list pre]) (.obj a) H3) (hA:H3[a]?=G3 (.inst 148 fA)) (gA:getF 22 fA=G3 (.str [65]))
  (e:∃H',Call (zb (P ns) 60 18) 702 [.obj n] H3 .none H'/\EndZ X H' n k ks):∃as,exS (P ns) (CT ns) 60 (tls 8 lawS) (lZ so r k n x .bad) (X++B) as λg _ _ _=>g= .ret (.bool G6):=by
 obtain⟨H4,c4,⟨ix,hd⟩,wl,⟨f1,h1,g1⟩,hks,⟨f2,h2,g2⟩,⟨f3,h3,g3⟩⟩:=e;have l4:Call (CT ns) 745 [.obj n] H3 (.bool G6) H4:=Jg c4;have x1:Ex H4 (H4++[O.list [V.obj (X.length+10),.obj (X.length+25)]]):=Ex.app _;have cm:=off_comp (ns:=ns) (C:=CT ns) (zl (as:=[X.length+10,X.length+25]) (ze (H:=H4))) (x1 _ _ h2) g2 (x1 _ _ h3) g3;have la:(H4++[O.list [V.obj (X.length+10),.obj (X.length+25)]]++[O.list [V.int 0,.int 0]]++[O.list [V.int 0,.int 0]])[(H4++[O.list [V.obj (X.length+10),.obj (X.length+25)]]).length]?=G3 (.list [.int 0,.int 0]):=zd ze;subst hp;subst eks;refine⟨.o (datO (n+1) (n+2) (n+3) (n+4) 0 (n+5)) <|.o (.list [.obj X.length]) <|.o (.inst 148 fR) <|.w (.obj (X.length+2)) <|.o (.list (.obj (X.length+10)::.obj (X.length+25)::rest)) <|.w (.obj z) <|.o (.list (.obj (X.length+10)::.obj (X.length+25)::rest)) <|.c (.obj a) H3 <|.o (.inst 148 fA) <|.w (.str [65]) <|
  .c (.bool G6) H4 <|.o (datO (n+1) (n+2) (n+3) (n+4) (k+14) ix) <|.b G6 <|.o (datO (n+1) (n+2) (n+3) (n+4) (k+14) ix) <|.o (.list [.obj X.length]) <|.o (.inst 148 f1) <|.w (.obj (X.length+2)) <|.o (.list (.obj (X.length+10)::.obj (X.length+25)::rest)) <|
  .it (.lst H4.length [.obj (X.length+10),.obj (X.length+25)]) <|.m [.int 0,.int 0] (H4++[O.list [V.obj (X.length+10),.obj (X.length+25)]]) <|.g <|.b G6 .nil,?_⟩
 exact ok (I (zd (N:=B) d.da) <|I (zd (N:=B) d.wl) <|I hR <|I gR <|I hk <|I hz <|I hk <|I c <|I hA <|I gA <|
  I l4 <|I hd <|I (eqI1 (.ofNat (k+14)) H4) <|I hd <|I wl <|I h1 <|I g1 <|I hks <|I (zi (ze (H:=H4) (o:=.list [.obj (X.length+10),.obj (X.length+25)]))) <|I cm <|I (rfl:G6=G6) <|I (eqL la ze rfl) (rfl:Fl.ret (.bool G6)=Fl.ret (.bool G6))) (by kernel_rfl)
end
end G
end
section
set_option Elab.async false
namespace G
open Mn
theorem bodyA:lawS= .seq (hdS lawS) (.seq (hdS (tl lawS)) (tls 2 lawS)):=by kernel_rfl
noncomputable def fsO(o:O):List (Nat×V):=match o with|.inst _ fs=>fs|_=>[]
section
variable {ns:List Int}
theorem DtX.set{X:Hp}{n so:Nat}(d:DtX X n)(h:so < n)(o:O):DtX (X.set so o) n:=
 ⟨zw d.da (D9 h),by rw[List.length_set];exact zw d.wl (D9 (D6 h)),zw d.ll (D9 (D6 (D6 h))),zw d.fd (D9 (D6 (D6 (D6 h))))⟩
theorem drX{X:Hp}{so ce k q:Nat}(h:so < X.length):drH (X++mk0 X.length k) so ce q=X.set so (.list [.obj ce,.int (.ofNat q)])++mk0 (X.set so (.list [.obj ce,.int (.ofNat q)])).length k:=by show(X++mk0 X.length k).set so _=_;rw[Yz h,List.length_set]
theorem end_1{X:Hp}{n k so r j:Nat}{x:V}(d:DtX X n)(h1:1<=k)(h2:k<=20):∃as,exS (P ns) (CT ns) 60 (tls 8 lawS) (lZ so r k n x .bad) (X++zB1 X.length k) as λg _ _ _=>g= .ret (.bool G6):=by
 obtain⟨c,fs,hA,gA⟩:=red_1 (ns:=ns) (X:=X) (k:=k);exact jI (j:=j) d (ks:=kZ1.map λi=>.obj (X.length+i)) rfl (at_ (X:=X) (i:=0) (by kernel_rfl:(zB1 X.length k)[0]?=G3 (.inst 148 (fsO ((eR (dR (fZ1 k)) kZ1).o X.length))))) (by kernel_rfl) (at_ (X:=X) (i:=2) (by kernel_rfl)) rfl rfl c hA gA
  (sndZ1 d h1 h2 ((Ex.app _).trans (Ex.app _)))
theorem end_2{X:Hp}{n k so r j:Nat}{x:V}(d:DtX X n)(h1:1<=k)(h2:k<=20):∃as,exS (P ns) (CT ns) 60 (tls 8 lawS) (lZ so r k n x .bad) (X++zB2 X.length k) as λg _ _ _=>g= .ret (.bool G6):=by
 obtain⟨c,fs,hA,gA⟩:=red_2 (ns:=ns) (X:=X) (k:=k);exact jI (j:=j) d (ks:=kZ2.map λi=>.obj (X.length+i)) rfl (at_ (X:=X) (i:=0) (by kernel_rfl:(zB2 X.length k)[0]?=G3 (.inst 148 (fsO ((eR (dR (fZ2 k)) kZ2).o X.length))))) (by kernel_rfl) (at_ (X:=X) (i:=2) (by kernel_rfl)) rfl rfl c hA gA
  (sndZ2 d h1 h2 ((Ex.app _).trans (Ex.app _)))
theorem end_3{X:Hp}{n k so r j:Nat}{x:V}(d:DtX X n)(h1:1<=k)(h2:k<=20):∃as,exS (P ns) (CT ns) 60 (tls 8 lawS) (lZ so r k n x .bad) (X++zB3 X.length k) as λg _ _ _=>g= .ret (.bool G6):=by
 obtain⟨c,fs,hA,gA⟩:=red_3 (ns:=ns) (X:=X) (k:=k);exact jI (j:=j) d (ks:=kZ3.map λi=>.obj (X.length+i)) rfl (at_ (X:=X) (i:=0) (by kernel_rfl:(zB3 X.length k)[0]?=G3 (.inst 148 (fsO ((eR (dR (fZ3 k)) kZ3).o X.length))))) (by kernel_rfl) (at_ (X:=X) (i:=2) (by kernel_rfl)) rfl rfl c hA gA
  (sndZ3 d h1 h2 ((Ex.app _).trans (Ex.app _)))
theorem KC{H:Hp}{so ce q k r:Nat}{cs:List Int}(s:Src H so ce cs q)(hq:q < 1000000)(h1:1<=k)(h2:k<=20)(x:V):∃as,exS (P ns) (CT ns) 60 (tls 5 lawS) (lL so r k (.bool G6) x .bad .bad) H as λg _ _ _=>g= .ret (.bool G6):=by
 have hso:=Xo s.s;have hk:k < 40:=GT h2 (by decide);have l0:so < (xD H).length:=Dk hso (by rw[kH];exact Db _ _);have c1:Call (CT ns) 174 [] H (.obj H.length) (H++dat6 H.length [] []):=ct (YS (ns:=ns) H 18 (G5 rfl)) (by kernel_rfl);have c2:Call (CT ns) 724 [.int (.ofNat k)] (H++dat6 H.length [] []) (.obj (H++dat6 H.length [] []).length) (H++dat6 H.length [] []++mk0 (H++dat6 H.length [] []).length k):=ct (YB h1 h2 (G5 rfl) _) (by kernel_rfl);refine jT (ns:=ns) (l:=3) (m:=17) (s.xD (B:=mk0 (xD H).length k)) (by decide) hq ?_;intro t ht c3;rw[drX l0] at c3;have d:=(dt_of H).set hso (.list [.obj ce,.int (.ofNat (q+1))]);obtain⟨X,eX⟩:∃X,X=(xD H).set so (.list [.obj ce,.int (.ofNat (q+1))]):=⟨_,rfl⟩;rw[←eX] at d c3;have c3:Call (CT ns) 709 [.obj so,.int (.ofNat 3)] (xD H++mk0 (xD H).length k) (.int (.ofNat t)) (X++mk0 X.length k):=ct c3 (by kernel_rfl);rcases t with _|t
 ·obtain⟨as,h⟩:=end_1 (ns:=ns) (so:=so) (r:=r) (j:=0) (x:=.int (.ofNat 0)) d h1 h2;refine⟨.c (.obj H.length) (H++dat6 H.length [] []) <|.o (datO (H.length+1) (H.length+2) (H.length+3) (H.length+4) 0 (H.length+5)) <|.g <|.c (.obj (H++dat6 H.length [] []).length) (H++dat6 H.length [] []++mk0 (H++dat6 H.length [] []).length k) <|.o (.list []) <|.h (xD H++mk0 (xD H).length k) <|.c (.int (.ofNat 0)) (X++mk0 X.length k) <|.l .next (lZ so r k H.length (.int (.ofNat 0)) .bad) (X++zB1 X.length k) as,?_⟩;exact ok (I c1 <|I (at_ (X:=H) (B:=dat6 H.length [] []) (i:=0) (o:=datO (H.length+1) (H.length+2) (H.length+3) (H.length+4) 0 (H.length+5)) rfl) <|I (zQ (b:=.append) (at_ (X:=H) (B:=dat6 H.length [] []) (i:=1) (o:=.list []) rfl)) <|I c2 <|I (zd (N:=mk0 (H++dat6 H.length [] []).length k) (at_ (X:=H) (B:=dat6 H.length [] []) (i:=1) (o:=.list []) rfl)) <|I (YC H k) <|
   I c3 <|I (rows_1 (ns:=ns) (so:=so) (r:=r) (y:=.bad) d hk .bad) h) (by kernel_rfl)
 rcases t with _|t
 ·obtain⟨as,h⟩:=end_2 (ns:=ns) (so:=so) (r:=r) (j:=0) (x:=.int (.ofNat 1)) d h1 h2;refine⟨.c (.obj H.length) (H++dat6 H.length [] []) <|.o (datO (H.length+1) (H.length+2) (H.length+3) (H.length+4) 0 (H.length+5)) <|.g <|.c (.obj (H++dat6 H.length [] []).length) (H++dat6 H.length [] []++mk0 (H++dat6 H.length [] []).length k) <|.o (.list []) <|.h (xD H++mk0 (xD H).length k) <|.c (.int (.ofNat 1)) (X++mk0 X.length k) <|.l .next (lZ so r k H.length (.int (.ofNat 1)) .bad) (X++zB2 X.length k) as,?_⟩;exact ok (I c1 <|I (at_ (X:=H) (B:=dat6 H.length [] []) (i:=0) (o:=datO (H.length+1) (H.length+2) (H.length+3) (H.length+4) 0 (H.length+5)) rfl) <|I (zQ (b:=.append) (at_ (X:=H) (B:=dat6 H.length [] []) (i:=1) (o:=.list []) rfl)) <|I c2 <|I (zd (N:=mk0 (H++dat6 H.length [] []).length k) (at_ (X:=H) (B:=dat6 H.length [] []) (i:=1) (o:=.list []) rfl)) <|I (YC H k) <|
   I c3 <|I (rows_2 (ns:=ns) (so:=so) (r:=r) (y:=.bad) d hk .bad) h) (by kernel_rfl)
 rcases t with _|t
 ·obtain⟨as,h⟩:=end_3 (ns:=ns) (so:=so) (r:=r) (j:=0) (x:=.int (.ofNat 2)) d h1 h2;refine⟨.c (.obj H.length) (H++dat6 H.length [] []) <|.o (datO (H.length+1) (H.length+2) (H.length+3) (H.length+4) 0 (H.length+5)) <|.g <|.c (.obj (H++dat6 H.length [] []).length) (H++dat6 H.length [] []++mk0 (H++dat6 H.length [] []).length k) <|.o (.list []) <|.h (xD H++mk0 (xD H).length k) <|.c (.int (.ofNat 2)) (X++mk0 X.length k) <|.l .next (lZ so r k H.length (.int (.ofNat 2)) .bad) (X++zB3 X.length k) as,?_⟩;exact ok (I c1 <|I (at_ (X:=H) (B:=dat6 H.length [] []) (i:=0) (o:=datO (H.length+1) (H.length+2) (H.length+3) (H.length+4) 0 (H.length+5)) rfl) <|I (zQ (b:=.append) (at_ (X:=H) (B:=dat6 H.length [] []) (i:=1) (o:=.list []) rfl)) <|I c2 <|I (zd (N:=mk0 (H++dat6 H.length [] []).length k) (at_ (X:=H) (B:=dat6 H.length [] []) (i:=1) (o:=.list []) rfl)) <|I (YC H k) <|
   I c3 <|I (rows_3 (ns:=ns) (so:=so) (r:=r) (y:=.bad) d hk .bad) h) (by kernel_rfl)
 exact absurd ht (DT (GF 3 t))
theorem law02(X:QX):ex (P ns) (CT ns) X 60 lawS [.scr,.bad,.bad,.bad,.bad,.bad,.bad,.bad,.bad] [] (λg _ _=>g= .ret (.bool G6)):=by
 refine lw_src (ns:=ns) (C:=CT ns) ?_;intro so ce cs H s r0;refine jT (ns:=ns) (l:=16) (m:=17) s (by decide) (by decide) ?_;intro r hr c1;have s1:=s.to 1;refine jT (ns:=ns) (l:=20) (m:=17) s1 (by decide) (by decide) ?_;intro r' hr' c2;have s2:=s1.to 2;have h1:1<=1+r':=Db 1 r';have h2:1+r'<=20:=by rw[Fh];exact De hr'
 obtain⟨H2,e2⟩:∃Y,Y=drH (drH H so ce 1) so ce 2:=⟨_,rfl⟩;rw[←e2] at s2;have c1:Call (CT ns) 709 [.obj so,.int (.ofNat 16)] H (.int (.ofNat r)) (drH H so ce 1):=ct c1 (by kernel_rfl);have c2:Call (CT ns) 709 [.obj so,.int (.ofNat 20)] (drH H so ce 1) (.int (.ofNat r')) H2:=by rw[e2];exact ct c2 (by kernel_rfl)
 obtain⟨H3,as3,s3,t3⟩:=turn_0 (ns:=ns) (r:=r) s2 h1 h2 .bad .bad;obtain⟨H4,as4,s4,t4⟩:=turn_1 (ns:=ns) (r:=r) s3 h1 h2 hr (.obj H2.length);have lp:ForR (P ns) (CT ns) 60 bd5 [5] G6 (.vals [.bool G7,.bool G6]) [.bool G7,.bool G6] (lL so r (1+r') .bad .bad .bad .bad) H2 .next (lL so r (1+r') (.bool G6) (.obj H3.length) .bad .bad) H4:=
  zX rfl t3 rfl (zX rfl t4 rfl yq)
 obtain⟨as5,h5⟩:=KC (ns:=ns) (r:=r) s4 (by decide) h1 h2 (.obj H3.length);have t:exS (P ns) (CT ns) 60 (tls 2 lawS) [.scr,.obj 1,.obj so,.bad,.bad,.bad,.bad,.bad,.bad] H (.c (.int (.ofNat r)) (drH H so ce 1) <|.c (.int (.ofNat r')) H2 <|.l .next (lL so r (1+r') (.bool G6) (.obj H3.length) .bad .bad) H4 as5) λg _ _ _=>g= .ret (.bool G6):=
  ok (I c1 <|I c2 <|I lp h5) (by kernel_rfl)
 obtain⟨as,h⟩:=r0 t;rw[←bodyA] at h;exact YP _ _ _ _ h λ_ _ _ _ h=>h
end
end G
end
namespace G
theorem yh{α:Type}{k:Nat}{v:α}:∀{l:List (Nat×α)},zU k l=G3 v->(k,v)∈l:=by
 intro l
 induction l with
 |nil=>intro h;exact nomatch h
 |cons hdp r ih=>
  intro h;obtain⟨a,u⟩:=hdp;refine(?_:(match Gi a k with|true=>G3 u|false=>zU k r)=G3 v->_) h;rcases e:Gi a k with _|_
  ·exact λh=>.tail _ (ih h)
  ·rw[GE e];exact λh=>by cases h;exact .head _
theorem j5{k m c:Nat}:∀{l:List (Nat×Nat×Nat)},look3 k m l=G3 c->(k,m,c)∈l:=by
 intro l
 induction l with
 |nil=>intro h;exact nomatch h
 |cons hdp r ih=>
  intro h;obtain⟨a,b,u⟩:=hdp;refine(?_:(match Gi a k && Gi b m with|true=>G3 u|false=>look3 k m r)=G3 c->_) h;rcases e:Gi a k && Gi b m with _|_
  ·exact λh=>.tail _ (ih h)
  ·obtain⟨e1,e2⟩:=GC.mp e;rw[GE e1,GE e2];exact λh=>by cases h;exact .head _
theorem Z9{α:Type}{l:List (Nat×α)}{f a:Nat}(h:here l f=G3 a):a=f/\∃v,zU f l=G3 v:=by
 refine(?_:(match zU f l with|some _=>G3 f|none=>Gb)=G3 a->_) h;rcases e:zU f l with _|v
 ·exact nn
 ·exact λh=>⟨(Gm h).symm,v,rfl⟩
def injB:Bool:=(F8 attrT.length).all λf=>(F8 attrT.length).all λg=>Gi f g ||!zL (attr f) (attr g)
def smallB:Bool:=(F8 attrT.length).all λf=>D0 (attr f).cps.size 112
theorem injT:injB=G6:=by kernel_rfl
theorem smallT:smallB=G6:=by kernel_rfl
theorem XE{f:Nat}(h:attrT.length<=f):(attr f).cps.size=f+60:=by show(match attrT[f]? with|some x=>x|none=>big f).cps.size=_;rw[List.getElem?_eq_none h];exact Array.size_replicate
theorem X9{f:Nat}(h:f < attrT.length):(attr f).cps.size < 112:=G5 (Gz.mp smallT f (List.mem_range.mpr h))
theorem attr_len:attrT.length=52:=rfl
theorem attr_inj(f g:Nat)(e:attr f=attr g):f=g:=by
 have l:=attr_len;have es:(attr f).cps.size=(attr g).cps.size:=by rw[e]
 rcases Ip f attrT.length with h|h
 ·rcases Ip g attrT.length with k|k
  ·have q:=Gz.mp (Gz.mp injT f (List.mem_range.mpr h)) g (List.mem_range.mpr k);rw[e,show zL (attr g) (attr g)=G6 from eqStr_iff.mpr rfl] at q;rcases c:Gi f g with _|_
   ·rw[c] at q;exact absurd q G4
   ·exact GE c
  ·exact(om409 l es.symm k (XE k) (X9 h)).symm
 ·have a:=XE h;rcases Ip g attrT.length with k|k
  ·have:=X9 k;exact om409 l es h a this
  ·have:=XE k;exact om410 es a this
def apartB:Bool:=mthT.all λp=>match zU p.1 ownT with|some l=>l.all λf=>!zL (attr f) (meth p.2.1)|none=>G6
theorem apartT:apartB=G6:=by kernel_rfl
theorem uK{c f:Nat}(h:att c f=G6):∃l,zU c ownT=G3 l/\f∈l:=by
 refine(?_:(match zU c ownT with|some l=>l.any (Gi f)|none=>G7)=G6->_) h;rcases e:zU c ownT with _|l
 ·exact λh=>absurd h G4
 ·exact λh=>by obtain⟨g,m,q⟩:=Iz.mp h;rw[GE q];exact⟨l,rfl,m⟩
theorem ZJ{α:Type}{o:Option α}(h:o.isSome=G6):∃a,o=G3 a:=by
 rcases o with _|a
 ·exact absurd h G4
 ·exact⟨a,rfl⟩
set_option tactic.hygienic true in
theorem xcK_of{K:DN}{C fI:Nat}(h:xcB K C fI=G6):XcK K C fI:=by
 obtain⟨h,hB⟩:=an2 h;obtain⟨h,h7⟩:=an2 h;obtain⟨h,h6⟩:=an2 h;obtain⟨h,h5⟩:=an2 h;obtain⟨h,h4⟩:=an2 h;obtain⟨h,h3⟩:=an2 h;obtain⟨h1,h2⟩:=an2 h;obtain⟨b1,b2,b3,b4,b5,b6⟩:=an6 hB;refine⟨?_,beq_iff_eq.mp h2,beq_iff_eq.mp h3,beq_iff_eq.mp h4,beq_iff_eq.mp h5,?_,h7,beq_iff_eq.mp b1,beq_iff_eq.mp b2,beq_iff_eq.mp b3,beq_iff_eq.mp b4,beq_iff_eq.mp b5,beq_iff_eq.mp b6⟩
 ·rcases e:clsIn K C with _|cd
  ·rw[e] at h1;exact absurd h1 G4
  ·rw[e] at h1;exact⟨cd,rfl,(an2 h1).1,(an2 h1).2⟩
 ·have h:(match K.lookup fI with
   |some ⟨_,_,.func fd,_⟩=>(match fd.body with
    |.stmts b=>Gi fd.globals Dy && none? fd.closure && Gi fd.builtins I9 && xiChk K fd.qualname fd.params b fd.scope fd.defaults fd.code
    |_=>G7)
   |_=>G7)=G6:=h6
  rcases e:K.lookup fI with _|⟨oc,od,dt,sl⟩
  ·rw[e] at h;exact absurd h G4
  ·rw[e] at h;rcases dt<;>first|exact absurd h G4|skip
   rename_i fd;obtain⟨n1,n2,n3,n4,n5,n6,n7,n8,n9,n10,n11,n12,n13,n14,n15⟩:=fd;rcases n4 with b|b
   ·replace h:=an4 h;obtain⟨h1,h2,h3,h4⟩:=h;obtain rfl:n6=Dy:=natE.mp h1;obtain rfl:n7=[]:=zB h2;obtain rfl:n15=I9:=natE.mp h3;exact⟨oc,od,sl,n1,n2,n3,b,n5,n8,n9,n10,n11,n12,n13,n14,e,h4⟩
   ·exact absurd h G4
theorem tpOk{prog:Di}{w:Fb}{K:DN}{scr:Gx}{ns:List Int}(h1:attB K=G6)(h2:mthB K=G6)(h3:gloB K=G6):TpOk (T prog w K scr ns) (P ns) N where
 scr:=rfl
 prm:=rfl
 nat:=rfl
 ata:=rfl
 lmK:=rfl
 lmP:=by rfl
 lmX:=rfl
 lmN:=rfl
 inj:=attr_inj
 att k f C a c:=by obtain⟨rfl,_⟩:=Z9 (show here (initT++excT) k=G3 C from c);obtain⟨l,e,m⟩:=uK a;exact Gz.mp (Gz.mp h1 (C,l) (yh e)) f m
 mth k m g C e c:=by obtain⟨rfl,_⟩:=Z9 (show here (initT++excT) k=G3 C from c);obtain⟨q1,q2⟩:=GC.mp (Gz.mp h2 (C,m,g) (j5 e));obtain⟨a,ea⟩:=ZJ q1;obtain⟨rfl,_⟩:=Z9 ea;exact⟨_,ea,q2⟩
 apart k m g f e a q:=by obtain⟨l,el,ml⟩:=uK a;have w:=Gz.mp apartT (k,m,g) (j5 e);have w:(match zU k ownT with|some l=>l.all λf=>!zL (attr f) (meth m)|none=>G6)=G6:=w;rw[el] at w;have w:=Gz.mp w f ml;rw[show zL (attr f) (meth m)=G6 from eqStr_iff.mpr q] at w;exact absurd w G4
 glo f x e:=by
  obtain⟨q1,q2⟩:=GC.mp (Gz.mp h3 (f,x) (yh e));rcases Dg.mp q1 with q|q
  ·obtain⟨a,ea⟩:=ZJ q;obtain⟨rfl,_⟩:=Z9 ea;exact⟨_,.inl ea,q2⟩
  ·obtain⟨a,ea⟩:=ZJ q;obtain⟨rfl,_⟩:=Z9 ea;exact⟨_,.inr ea,q2⟩
theorem fnsB_get{K:DN}{a:Nat}{v:Bool×List Str}:∀{l:List (Nat×Bool×List Str)},fnsB K l=G6->(a,v)∈l->∃fn,zU a fnT=G3 fn/\fnB K fn v.1 v.2 a=G6:=by
 intro l
 induction l with
 |nil=>intro h m;exact absurd m D1
 |cons hdp r ih=>
  intro h m;obtain⟨b,lm,tb⟩:=hdp;obtain⟨h1,h2⟩:=GC.mp h;rcases m with _|⟨_,m⟩
  ·refine(?_:(match zU a fnT with|some fn=>fnB K fn lm tb a|none=>G7)=G6->_) h1;rcases e:zU a fnT with _|fn
   ·exact λh=>absurd h G4
   ·exact λh=>⟨fn,rfl,h⟩
  ·exact ih h2 m
def clsNo:Bool:=(initT++excT).all λp=>(zU p.1 fnT).isNone
theorem clsNoT:clsNo=G6:=by kernel_rfl
theorem fnsOk{prog:Di}{w:Fb}{K:DN}{scr:Gx}{ns:List Int}(h1:fnsB K chT=G6)(h2:clsB K=G6)(h3:excB K=G6):FnsOk (T prog w K scr ns) (P ns) N where
 fn f a e:=by obtain⟨rfl,v,ev⟩:=Z9 (show here chT f=G3 a from e);obtain⟨fn,e1,e2⟩:=fnsB_get h1 (yh ev);exact⟨fn,e1,fnB_at e2⟩
 cls f C E:=by
  obtain⟨rfl,v,ev⟩:=Z9 (show here (initT++excT) f=G3 C from E);refine⟨?_,λi ei=>?_⟩
  ·have q5:=Gz.mp clsNoT (C,v) (yh ev);have q5:(zU C fnT).isNone=G6:=q5;show zU C fnT=Gb;rcases z:zU C fnT with _|y
   ·rfl
   ·rw[z] at q5;exact absurd q5 G4
  ·have ei:zU C initT=G3 i:=ei;obtain⟨q,q5⟩:=GC.mp (Gz.mp h2 (C,i) (yh ei));obtain⟨q,q4⟩:=GC.mp q;obtain⟨q,q3⟩:=GC.mp q;obtain⟨q1,q2⟩:=GC.mp q;obtain⟨a,ea⟩:=ZJ q4;obtain⟨rfl,_⟩:=Z9 ea;exact⟨_,ea,q1,beq_iff_eq.mp q2,q3⟩
 lam:=⟨20,rfl,rfl,rfl⟩
 lamX:=by rfl
 exc f e:=by obtain rfl:f=72:=GE e;have q:=Gz.mp h3 (72,37) (.head _);exact⟨by kernel_rfl,37,xcK_of (an2 (an2 q).1).1⟩
end G
namespace G
theorem law_run0{prog:Di}{w:Fb}{K:DN}{scr:Gx}{ns:List Int}{vs:List G9}{qual:Str}{scope:GW}{fa:Gx}{cdv:G9}{g:Do}{L:Gx}{s:Gh}{body:List Gq}{cells:Lg}{Q:Flow->Gh->Prop}{Er:G9->Gh->Prop}
  (b1:attB K=G6) (b2:mthB K=G6) (b3:gloB K=G6) (b4:fnsB K chT=G6) (b5:clsB K=G6) (b6:excB K=G6) (hc:chkS N K G7 scope lawT lawS body=G6) (hk:scope.kind= .function) (nc:FU (L+1) scope.names []=[]) (z:Y9 ((FU 0 scope.names []).map (·.1))=G6)
  (hs:scope.names.lookup (G0 "script")=G3 .local)
  (B:Below callerA g [] g) (X:K.In g) (top:∃p loose mean mg mb,Top p loose mean mg mb g) (tab:CodeHd g 241 237) (hL:g.IsList scr vs.toArray) (hI:IntsAre vs ns) (hn:ns.length<=1048576)
  (ca:CellsAre (bindC (DB qual scope L fa cdv).kindOf [(G0 "script",.ref scr)] λ_=>Gb) (FU (L+1) scope.names []) cells)
  (F:Fr g L s.heap (bindL (DB qual scope L fa cdv).kindOf [(G0 "script",.ref scr)] λ_=>Gb)) (Nw:∀p,p∈(237,Dz #[])::cells->p∈cells++[(237,Dz #[])]) (N0:FW g L s.heap (cells++[(237,Dz #[])])) (l0:237 < L)
  (q:∀(h':Do) (tk:Nat) (m':Str->Option G9) (ps:Array G9),Fr g L h' m'->h'.get? 237=G3 (Dz ps)->Q (.ret (.bool G6)) {s with heap:=h',toks:=tk}) :
  GA (Gy prog w) (callerA.deeper (DB qual scope L fa cdv)) (execs body (DB qual scope L fa cdv)) Q Er s:=by
 have K1:=tpOk (prog:=prog) (w:=w) (scr:=scr) (ns:=ns) b1 b2 b3;have F1:=fnsOk (prog:=prog) (w:=w) (scr:=scr) (ns:=ns) b4 b5 b6;have hO:=orcT_ok (w:=60) K1 F1
 let fm:Fm:=⟨callerA.deeper (DB qual scope L fa cdv),DB qual scope L fa cdv,g,L⟩
 obtain⟨cy1,cy2⟩:=ZO ca;obtain⟨ca1,ca2⟩:=Yc scope.names (L+1) [] (by simp) (by simp);have FO:fm.Ok (T prog w K scr ns) 20:=
  {B:=⟨callerA,g,[],DB qual scope L fa cdv,B,rfl,rfl,hk⟩
   kd:=hk
   gl:=rfl
   bi:=rfl
   X:=X
   top:=top
   tab:=tab
   hh:=rfl
   dep:=by show callerA.depth+1+4*20+8<=1000;decide
   un:=by show callerA.units+3+16*20+200<=9900;decide
   le:=GI 20
   tp:=λ_=>⟨callerA,qual,scope,fa,cdv,B,by show G3 [DB qual scope L fa cdv]=G3 [envOf qual scope L fa cdv];unfold DB envOf;rw[nc],hk⟩
   scr:=⟨vs,hL,hI,hn⟩
   loc:=rfl
   cel:=λx hx=>yU (cellsFrom_some _ _ _ (.inl hx))
   cnd:=by
    have:=yf z;rw[cellsFrom_names scope.names 0 (L+1) [] [] rfl] at this;exact this}
 have FS:FSc (T prog w K scr ns) G7 scope fm:=⟨λx h=>zk h,λx h=>zk h,λx h=>zk h,λh=>absurd h G4⟩;have RR:(fm.cx (bindL (DB qual scope L fa cdv).kindOf [(G0 "script",.ref scr)] λ_=>Gb) (bindC (DB qual scope L fa cdv).kindOf [(G0 "script",.ref scr)] λ_=>Gb) ([]++cells)).Rep (T prog w K scr ns) [] [] [] s.heap:=by refine⟨F,⟨Dz #[],⟨#[],rfl,.inl rfl⟩,λp hp=>N0 p (Nw p hp)⟩,?_,rfl,(λ_ _ _ _ h=>nomatch h),M7⟩;show(237::cells.map (·.1)).Nodup;refine GJ.mpr ⟨λm=>?_,by rw[cy1];exact ca2⟩;rw[cy1] at m;obtain⟨p,hp,e⟩:=Df.mp m;have h1:L+1<=p.2:=(ca1 p hp).resolve_left (λh=>nomatch h);rw[e] at h1;exact absurd (Dk (D6 l0) h1) (DH _)
 have LK:LOk (T prog w K scr ns) lawT (fm.cx (bindL (DB qual scope L fa cdv).kindOf [(G0 "script",.ref scr)] λ_=>Gb) (bindC (DB qual scope L fa cdv).kindOf [(G0 "script",.ref scr)] λ_=>Gb) ([]++cells)) [] [] [.scr,.bad,.bad,.bad,.bad,.bad,.bad,.bad,.bad]:=by
  intro k v hk hv;rcases k with _|k
  ·cases hk;refine⟨G0 "script",.ref scr,rfl,?_,.scr⟩;show(match scope.names.lookup (G0 "script") with|some .local=>_|some .cell=>_|_=>Gb)=_;rw[hs];show bindL _ _ _ _=_;simp[bindL,DB,Env.kindOf,hs]
  ·exact absurd (List.eq_of_mem_replicate (n:=8) (List.mem_of_getElem? (show(Ij 8 V.bad)[k]?=G3 v from hk))) hv
 refine Gu (st_ok K1 hO.ok (ra_ok (d:=19) K1 F1) lawS (f:=fm) (s:=s) (Er:=λ_ _=>False) (ex:=[]) hc (yf (by kernel_rfl)) FO FS (law02 X0) cy2 RR LK PassesOwn.never (λ_ _ _ _ _ _ q=>XPost.no q)) (λfl s' p=>?_) λ_ _ e=>e.elim;obtain⟨h',tk',m',cm',Gc',uW,Uh,H',ρ',E',rfl,cg',Ur,x',lk',fo,qq⟩:=p;subst qq;cases fo with
 |ret hr=>cases hr;obtain⟨tb,⟨ps,rfl,_⟩,Ul⟩:=Ur.N;exact q h' tk' m' ps Ur.F (Ul (237,Dz ps) (Gd _ (.head _))).1
theorem bind_one{k:Str->Option DY}{n:Str}{v:G9}(h:k n=G3 .local):bindL k [(n,v)] (λ_=>Gb)=λx=>DS x [(n,v)].reverse:=by
 show(if k n=G3 .local then λy=>if y=n then G3 v else Gb else λ_=>Gb)=_;rw[if_pos h]
 funext x
 show(if x=n then G3 v else Gb)=(match x==n with|true=>G3 v|false=>Gb);rcases e:x==n with _|_
 ·rw[if_neg λq=>by rw[q,beq_self_eq_true] at e;cases e]
 ·rw[if_pos (beq_iff_eq.mp e)]
theorem law_run{prog:Di}{w:Fb}{K:DN}{scr:Gx}{ns:List Int}{vs:List G9}{qual:Str}{scope:GW}{fa:Gx}{cdv:G9}{g:Do}{L:Gx}{s:Gh}{body:List Gq}{Q:Flow->Gh->Prop}{Er:G9->Gh->Prop}
  (b1:attB K=G6) (b2:mthB K=G6) (b3:gloB K=G6) (b4:fnsB K chT=G6) (b5:clsB K=G6) (b6:excB K=G6) (hc:chkS N K G7 scope lawT lawS body=G6) (hk:scope.kind= .function) (nc:FU (L+1) scope.names []=[]) (z:Y9 ((FU 0 scope.names []).map (·.1))=G6)
  (hs:scope.names.lookup (G0 "script")=G3 .local)
  (B:Below callerA g [] g) (X:K.In g) (top:∃p loose mean mg mb,Top p loose mean mg mb g) (tab:CodeHd g 241 237) (hL:g.IsList scr vs.toArray) (hI:IntsAre vs ns) (hn:ns.length<=1048576)
  (F:Fr g L s.heap (λx=>DS x [(G0 "script",Value.ref scr)].reverse)) (N0:FW g L s.heap [(237,Dz #[])]) (l0:237 < L)
  (q:∀(h':Do) (tk:Nat) (m':Str->Option G9) (ps:Array G9),Fr g L h' m'->h'.get? 237=G3 (Dz ps)->Q (.ret (.bool G6)) {s with heap:=h',toks:=tk}) :
  GA (Gy prog w) (callerA.deeper (DB qual scope L fa cdv)) (execs body (DB qual scope L fa cdv)) Q Er s:=
 law_run0 (cells:=[]) b1 b2 b3 b4 b5 b6 hc hk nc z hs B X top tab hL hI hn (by rw[nc];exact .nil) (by rw[bind_one (k:=(DB qual scope L fa cdv).kindOf) hs];exact F) (λp hp=>hp) N0 l0 q
end G

end Mn
set_option tactic.hygienic true
namespace Mn.main
noncomputable def o:=0
def tw4749847746608680234:=o
def tw9275506985767759306:=o
def tw9900207189469833962:=o
def tw18268355248443505914:=o
def tw7145846973341693528:=o
def tw1915808867901234037:=o
def tw8874828004160708817:=o
def tw15788680602318256772:=o
def tw12427977586794574861:=o
def tw7417148196948622902:=o
def tw8371948346375082139:=o
def tw17748542203758294058:=o
def tw6821246599232723535:=o
def tw14887010508279282374:=o
def tw6194242655927212933:=o
def tw16639495132470155110:=o
def tw12080012555803662708:=o
def tw14938426041714756053:=o
def tw12522562236903956296:=o
def tw1619379503513841428:=o
def tw14959396543388607604:=o
def tw16193295388612109422:=o
def tw6885832196258441145:=o
def tw4109429580709332394:=o
def tw15236799303705980729:=o
def tw5367776098587035988:=o
def tw8454111674984431053:=o
def tw7325091196498394705:=o
def tw13267434031079924451:=o
def tw1530092167967196294:=o
def tw13080059885629953088:=o
def tw961983304396955467:=o
def tw18300159404320975974:=o
def tw18009942291147675786:=o
def tw3211433488266219224:=o
def tw9136674916618852602:=o
def tw13149964460515474157:=o
def tw10484549436551286983:=o
def tw7179969838305985155:=o
def tw4865399554622247109:=o
def tw14875526901776612999:=o
def tw1178277067029072109:=o
def tw5318863478226355625:=o
def tw847714771190004184:=o
def tw9524902365898564000:=o
def tw4795809091457353916:=o
def tw15417843195497308409:=o
def tw11399762480012532149:=o
def tw244750341265270538:=o
def tw9264470950220476853:=o
def tw2632147232652990602:=o
def tw15551919272057315279:=o
def tw3037615652813268534:=o
def tw9038532963380008271:=o
def tw140518973967218024:=o
def tw12591758346241670283:=o
def tw9727923502575487089:=o
def tw8679061357679795169:=o
def tw3618262562804835309:=o
def tw7899081194998100674:=o
def tw12110391062429570589:=o
def tw3557294537326173275:=o
def tw17480822869299829923:=o
def tw821137119482703324:=o
def tw17948059575925288081:=o
def tw730595095293281063:=o
def tw11364709001804448504:=o
def tw15304572858967996470:=o
def tw15142772116488253810:=o
def tw2632902747111579459:=o
def tw1938555882093844268:=o
def tw1413422323224028824:=o
def tw3598129738145802807:=o
def tw14305623347895267715:=o
def tw9140356399226585265:=o
def tw10062169177228394086:=o
def tw12738973532788936175:=o
def tw12629345071229305507:=o
def tw10246495114823982737:=o
def tw18208047245150589918:=o
def tw1777128718538650628:=o
def tw17328403496010319421:=o
def tw14278022028282354165:=o
def tw10594711178829210298:=o
def tw12100085818800134857:=o
def tw11743274133678249789:=o
def tw6620482835074183360:=o
def tw14653988852581033296:=o
def tw4318186530391856525:=o
def tw18031858257773515100:=o
def tw14039988022544308802:=o
def tw3785310241841774238:=o
def tw37430313809648114:=o
def tw9097195434154715647:=o
def tw7756747875223543108:=o
def tw1024508616001332679:=o
def tw1057672202423308860:=o
def tw15578076892875786224:=o
def tw7956556662113901917:=o
def tw6186570969791505107:=o
def tw14317548982042813097:=o
def tw12666815724758492335:=o
def tw3094806242372983845:=o
def tw8819989902680167331:=o
def tw13936422969798159480:=o
def tw237878447362211650:=o
def tw6685590485973202056:=o
def tw1671616819100450227:=o
def tw13612577952394301773:=o
def tw11360493997040986122:=o
def tw4905759261117674724:=o
def tw9429867333130707657:=o
def tw1522190686325547007:=o
def tw2818179635254945214:=o
def tw1155772059337578548:=o
def tw7000980448468089504:=o
def tw10943605928828055757:=o
def tw6781036012612941071:=o
def tw15051055068020143643:=o
def tw18181416702482308189:=o
def tw5283877214913045669:=o
def tw483697779000781684:=o
def tw9402432158384569145:=o
def tw2177730872775655528:=o
def tw1787588216739968880:=o
def tw14926865021098518308:=o
def tw10652517509871936044:=o
def tw7322724679980039298:=o
def tw8663826928523763127:=o
def tw18122594209332792366:=o
def tw18104227646693809233:=o
def tw1247832210779329835:=o
def tw5034210122596640648:=o
def tw6129787930936311762:=o
def tw15796073611582514292:=o
def tw9014425018841210347:=o
def tw2827449516116753022:=o
def tw16737230310946803909:=o
def tw10651969260410873088:=o
def tw6799105035749934635:=o
def tw4136554579368556478:=o
def tw12302036730884740278:=o
def tw1645616728590467508:=o
def tw9578204906976349847:=o
def tw17801237019911456827:=o
def tw15009508898079764903:=o
def tw3597548330072819103:=o
def tw937911625533511970:=o
def tw16727193467077782241:=o
def tw5736024633683486117:=o
def tw3608584689602323268:=o
def tw12974705830670484283:=o
def tw165119233986003003:=o
def tw4038802423653129707:=o
def tw11495304363467715271:=o
def tw1633725117172809667:=o
def tw8265226811824325334:=o
def tw7369803130914008449:=o
def tw7042009929466044833:=o
def tw5594657308921820127:=o
def tw398615455254843650:=o
def tw16866756496584972257:=o
def tw3905306951232130778:=o
def tw18251006714711358936:=o
def tw9511103890349637630:=o
def tw10159024864598881182:=o
def tw11448361702163056045:=o
def tw6200899263734549692:=o
def tw3848909792650852921:=o
def tw3928767938251909759:=o
def tw14301756233271316113:=o
def tw3387756691084257275:=o
def tw16097662915241194210:=o
def tw3530293539711722357:=o
def tw4687726464702896619:=o
def tw1950444285358372956:=o
def tw5984923773566844108:=o
def tw6546260214227475698:=o
def tw16339265751584958671:=o
def tw16611571832258636370:=o
def tw123442363170677149:=o
def tw2122755690719355482:=o
def tw10340090753902190149:=o
def tw4919010146126891257:=o
def tw14288228164838861880:=o
def tw15782484640469720832:=o
def tw3934678269566169100:=o
def tw16321646975746336804:=o
def tw13440818945013572398:=o
def tw11975724696225204635:=o
def tw6438073557197676745:=o
def tw4587067540251378128:=o
def tw9632687157133079683:=o
def tw18393371442819498535:=o
def tw15042673351470871551:=o
def tw8706602636251827001:=o
def tw1275504568242959967:=o
def tw6863619939905737920:=o
def tw4663931255805564733:=o
def tw13941344485419558980:=o
def tw6238941955654726484:=o
def tw1783145157415130921:=o
def tw920543519412742124:=o
def tw14259409907561026449:=o
def tw13226845667610468960:=o
def tw1878020807264988764:=o
def tw11188566861079906320:=o
def tw8206528755270618833:=o
def tw13312173129636339206:=o
def tw9266070683795062587:=o
def tw13073549428908099766:=o
def tw3137363801816258777:=o
def tw3813131326671535946:=o
def tw7784910106399366984:=o
def tw9042985828520376973:=o
def tw7522147277643177870:=o
def tw9203636464259925436:=o
def tw770704483479989061:=o
def tw3682452177728093345:=o
def tw14280065830785307296:=o
def tw6970293683605999067:=o
def tw6333433834943119773:=o
def tw13334693494604158325:=o
def tw12407493047148293196:=o
def tw10731625084980186641:=o
def tw14415524648785994374:=o
def tw4587441324231201306:=o
def tw12644382687647858237:=o
def tw6236051677351012778:=o
def tw4576636460793552403:=o
def tw11772050293226031630:=o
def tw7058497229782841269:=o
def tw1934777621415507806:=o
def tw4000192387376100640:=o
def tw9076440292900609349:=o
def tw6710290111425241891:=o
def tw16669012484799551919:=o
def tw4827254663981733211:=o
def tw1003394390542630205:=o
def tw3877297698799814335:=o
def tw17498813484664799451:=o
def tw14515399769469367099:=o
def tw15140494327760089190:=o
def tw2746473803747717433:=o
def tw10810139008851417968:=o
def tw17523897945462834920:=o
def tw14139168124622590991:=o
def tw6302927515444095572:=o
def tw1387398912007123397:=o
def tw8196525886039055605:=o
def tw16451131362818500787:=o
def tw16887462532806518497:=o
def tw9719380193554332253:=o
def tw2727451664351245161:=o
def tw8704265052359314078:=o
def tw15755266499814092707:=o
def tw7663569940169570858:=o
def tw872360092797258117:=o
def tw16067796903095743919:=o
def tw2683718756771137885:=o
def tw15114564958663506085:=o
def tw9490618682913687971:=o
def tw7426967354106272444:=o
def tw16164256678523365347:=o
def tw18093354193580273870:=o
def tw12167414556529752928:=o
def tw11871577020697775606:=o
def tw15755671726913917251:=o
def tw14290491395505075644:=o
def tw13835750590314247471:=o
def tw17369407956699316665:=o
def tw8958389478088814326:=o
def tw8963616281150371022:=o
def tw10014499663553614039:=o
def tw15982169763291234652:=o
def tw13890555782062599649:=o
def tw7663697489843409921:=o
def tw2731571226372330854:=o
def tw6515919349671672042:=o
def tw1323071120080001854:=o
def tw11732510604392302386:=o
def tw9298797663974590028:=o
def tw7798525788219338364:=o
def tw7045588536289855977:=o
def tw4568066167732532451:=o
def tw5098828625563759723:=o
def tw3374185204808827565:=o
def tw5180733186839368250:=o
def tw3300198013153986701:=o
def tw2034788038359669208:=o
def tw17800036330579789472:=o
def tw1343973718490755110:=o
def tw17636497490714344007:=o
def tw6799024222777167692:=o
def tw5507673144389862748:=o
def tw490665490409006060:=o
def tw4307848671244697456:=o
def tw1798179562271595777:=o
def tw12214694288426136713:=o
def tw8467354891196544893:=o
def tw13371161980071465340:=o
def tw12371622455451706470:=o
def tw12733509474408155553:=o
def tw11938141620938750925:=o
def tw10526926704096895971:=o
def tw4883991264688670576:=o
def tw4577276338274145875:=o
def tw15270254982301071674:=o
def tw11285690925301423232:=o
def tw7377216216434450244:=o
def tw5789986246131009036:=o
def tw4276634059539472162:=o
def tw6300097552667732949:=o
def tw5693878277417876301:=o
def tw5284875881855814682:=o
def tw3694584875555737225:=o
def tw18317931023082558325:=o
def tw1442013798034653943:=o
def tw10920789119438256739:=o
def tw10250345554192262558:=o
def tw7243953721604504209:=o
def tw289311965590647993:=o
def tw15702462562912032973:=o
def tw14242479737507117315:=o
def tw13369093178811003540:=o
def tw1110532487362282611:=o
def tw13837137030685353804:=o
def tw5744069984175029905:=o
def tw4364494630184093190:=o
def tw13636244407462155146:=o
def tw11656992516243929690:=o
def tw6442064998904052066:=o
def tw4601466405829638011:=o
def tw15001735123388502149:=o
def tw13431183577850152618:=o
def tw12944134836502420326:=o
def tw12685955718441200052:=o
def tw8625394660359994040:=o
def tw6049388297951611893:=o
def tw11848236019933330463:=o
def tw8259361692304146610:=o
def tw7235584991943879692:=o
def tw17389590284184301371:=o
def tw13078590979594163521:=o
def tw3576791165608439724:=o
def tw15982631497929940496:=o
def tw14987355510360544826:=o
def tw10257238485368878865:=o
def tw8399437147723303678:=o
def tw15905651811242639460:=o
def tw15216847078844125273:=o
def tw11226437433689714198:=o
def tw6478402801588559981:=o
def tw3765343482144099562:=o
def tw2292900746420694864:=o
def tw16367791001609008592:=o
def tw10080745328685973482:=o
def tw14852555761336987594:=o
def tw10362207363611752510:=o
def tw8087125507395989403:=o
def tw17992849786020409604:=o
def tw1746701891870189108:=o
def tw15820771399355878714:=o
def tw3639218505504700210:=o
def tw14425099650446149404:=o
def tw1428936970006402595:=o
def tw1062766333268142100:=o
def tw804152974351811944:=o
def tw16151913343522895007:=o
def tw14704829980105079228:=o
def tw68190324787776899:=o
def tw10865197623887379047:=o
def tw12916975771909949958:=o
def tw10067793096287949640:=o
def tw1653462495027570679:=o
def tw1118633837604256633:=o
def tw10961804335315212964:=o
def tw51340648833890007:=o
def tw4150070786133256091:=o
def tw15184480179270059005:=o
def tw5949272882191711219:=o
def tw9772989275591567563:=o
def tw68106172930522329:=o
def tw942230484768325993:=o
def tw13093075018204419064:=o
def tw7697863328968910308:=o
def tw17938789764433526297:=o
def tw15479508384313572702:=o
def tw12714525880781101873:=o
def tw14575132699753190354:=o
def tw11444902567976107412:=o
def tw8186819988469481321:=o
def tw1128786173268074637:=o
def tw1408252015218082374:=o
def tw8029574596734804959:=o
def tw879716615306577660:=o
def tw18032225077125750843:=o
def tw16357708799992620258:=o
def tw14996652537046216923:=o
def tw12747060668465777993:=o
def tw12563533951396675910:=o
def tw2963056176285247514:=o
def tw15644651453232168206:=o
def tw7117642633747173666:=o
def tw15413184586971608164:=o
def tw14094719882420683686:=o
def tw12363577365300937641:=o
def tw11501084286917214796:=o
def tw2958266590324680167:=o
def tw7448634654999926559:=o
def tw3958370505883809195:=o
def tw3395331987137804318:=o
def tw14228482378865986800:=o
def tw3760165905331285119:=o
def tw1976120336052359599:=o
def tw1409940767317962974:=o
def tw13680518225625230121:=o
def tw12556391916601985444:=o
def tw12288822525035244991:=o
def tw17330414587749306613:=o
def tw5736616945575812512:=o
def tw2847708602634545697:=o
def tw17704774546736439401:=o
def tw11393002529984626605:=o
def tw14579198841601944001:=o
def tw1150503522366556744:=o
def tw8061022676676974134:=o
def tw4165707082588943831:=o
def tw13039394495123761483:=o
def tw1290331859543287970:=o
def tw7546048314477209431:=o
def tw5567746334029803671:=o
def tw13355626825689493562:=o
def tw15774794530293005864:=o
def tw1913979538262298882:=o
def tw1436428048536313484:=o
def tw9059847699579048484:=o
def tw15383505408066558588:=o
def tw12531146480259338595:=o
def tw2374983518461631415:=o
def tw10629518745983643131:=o
def tw8991648101390414946:=o
def tw8062514135945822327:=o
def tw2593748081036044481:=o
def tw13604142003474190333:=o
def tw6097711999414715357:=o
def tw13769662147053591173:=o
def tw11541781861126423392:=o
def tw11876348843363395966:=o
def tw17882599527510899942:=o
def tw10365757703487400023:=o
def tw9901304441629692403:=o
def tw16008465147940452946:=o
def tw13418053149347786548:=o
def tw6466097483534042:=o
def tw15063612003741550147:=o
def tw12415130582391177972:=o
def tw875882161392195721:=o
def tw3132789141863933634:=o
def tw15414511397735714029:=o
def tw11761129641040345945:=o
def tw5926673043722407287:=o
def tw7684396587735253632:=o
def tw16201687666240552580:=o
def tw2366622823422046156:=o
def tw7327508941102857057:=o
def tw4863239822191873364:=o
def tw2265280495504707296:=o
def tw17075694341908271769:=o
def tw14773272820680001990:=o
def tw14747009384173330993:=o
def tw11185698669861754409:=o
def tw15963741780705209695:=o
def tw16170113154972733733:=o
def tw10380830290998338984:=o
def tw3818356160602928217:=o
def tw9785289799405794113:=o
def tw7106644357468194134:=o
def tw4002245419063357169:=o
def tw17305152178587470151:=o
def tw13858660199663366916:=o
def tw12878185280505970095:=o
def tw12412800303494362646:=o
def tw9706109808010617224:=o
def tw8021130348258490834:=o
def tw7760145311050407875:=o
def tw7072221321998297979:=o
def tw6599670407042330378:=o
def tw5761738476465021671:=o
def tw4889063904088088349:=o
def tw3758077920849522845:=o
def tw3643901825935317944:=o
def tw3383441557956042000:=o
def tw3325928918170161370:=o
def tw2475688637711826527:=o
def tw2365176882811686025:=o
def tw14496895494541983521:=o
def tw11686882146823456997:=o
def tw3584587202979402312:=o
def tw3155824428715869463:=o
def tw5039176015838458567:=o
def tw11316803406781354368:=o
def tw5277389386253536268:=o
def tw3150910541434539367:=o
def tw7468959323419892406:=o
def tw5471682616860630735:=o
def tw5109900912566632140:=o
def tw4890651335600013217:=o
def tw4671974819019968642:=o
def tw417100372614831564:=o
def tw2995268123936307353:=o
def tw18044754138785506104:=o
def tw17503446508145783282:=o
def tw16707371005774534473:=o
def tw15461820211219418633:=o
def tw14354063683051382699:=o
def tw13907874258601481028:=o
def tw13424610503165109685:=o
def tw13056524985637369320:=o
def tw10204745399519116255:=o
def tw10114650676098052211:=o
def tw15640786432189771938:=o
def tw3362392403076890039:=o
def tw11451963580860511873:=o
def tw1354031798843050735:=o
def tw658439495532273788:=o
def tw2916260883989975513:=o
def tw9596454217074457359:=o
def tw9182131686901054190:=o
def tw5286832057320639649:=o
def tw5255515486076034708:=o
def tw1871561944734621554:=o
def tw18192296445312147518:=o
def tw17718337332382742331:=o
def tw17131642704599829865:=o
def tw16841722265731794260:=o
def tw15228348460574506327:=o
def tw14316255256140594981:=o
def tw12274512601232818798:=o
def tw12227257710587050383:=o
def tw9963800032913639505:=o
def tw8606912596269023830:=o
def tw3622097474620511234:=o
def tw17486837140146275920:=o
def tw16160225017085390207:=o
def tw15346133980101501382:=o
def tw13161421274527920883:=o
def tw12737911850504884368:=o
def tw11025379065469517352:=o
def tw10578380234721085864:=o
def tw12399786536574780153:=o
def tw5991522163535858617:=o
def tw4898885848510086693:=o
def tw2496286649317942931:=o
def tw17573787616400687231:=o
def tw17405409503230586959:=o
def tw16465223584878912879:=o
def tw1556773571962533320:=o
def tw1395343439317545143:=o
def tw13910429518892949746:=o
def tw1388546266321257364:=o
def tw13626228321988445278:=o
def tw9794688157450087435:=o
def tw9788329714554297217:=o
def tw9748774853598806146:=o
def tw9583521203199133521:=o
def tw9555157874938256342:=o
def tw947333413972583320:=o
def tw9117785473499494602:=o
def tw9099270917698327015:=o
def tw8929124409623813923:=o
def tw8855582252536166631:=o
def tw8843834812852221838:=o
def tw862601305721597915:=o
def tw8563544744241611098:=o
def tw8494392060197401692:=o
def tw8424013256025347109:=o
def tw8409622754814712194:=o
def tw8349147138327735698:=o
def tw8345298525907873572:=o
def tw8271266442738332534:=o
def tw8107540275131187882:=o
def tw8093239331084331197:=o
def tw7807568334274946058:=o
def tw77790559869769845:=o
def tw7743061975028851289:=o
def tw7640497417904911961:=o
def tw7575700602458059530:=o
def tw7552282244128664632:=o
def tw7417150325906772546:=o
def tw7405620822954752206:=o
def tw7393786657831637298:=o
def tw7252060366148287539:=o
def tw720676241729839032:=o
def tw7188365534466626338:=o
def tw7144671731582724324:=o
def tw7077356850028996697:=o
def tw7053282207256789758:=o
def tw6974827390973646457:=o
def tw6322594986054043874:=o
def tw6267973024386514905:=o
def tw6254074302525805684:=o
def tw6249726184491197654:=o
def tw6154353637672505412:=o
def tw5914221317056072366:=o
def tw5830534769478012060:=o
def tw5744561244773882775:=o
def tw5741612965711687700:=o
def tw5691880392883877299:=o
def tw5649567175455667392:=o
def tw5577710653194748301:=o
def tw5395456496990951690:=o
def tw5321213778384173765:=o
def tw5270937744214470340:=o
def tw525516047397842566:=o
def tw5142281652551826142:=o
def tw493834858229989756:=o
def tw4891816162199717384:=o
def tw479831495674660689:=o
def tw4469667864442010368:=o
def tw4427048828337333670:=o
def tw44093150439542085:=o
def tw4273374749730858650:=o
def tw4268755091201625890:=o
def tw4157195871747635564:=o
def tw4115713442018606742:=o
def tw3882726210180875524:=o
def tw384442561145553505:=o
def tw3827316810890613323:=o
def tw3724943986766407961:=o
def tw3714592928778892264:=o
def tw3564397897553733883:=o
def tw3525672924023295780:=o
def tw3476615815674619614:=o
def tw3458607075097048583:=o
def tw3396478487331913989:=o
def tw3285505687845166228:=o
def tw3141768723630556515:=o
def tw3078944131535419219:=o
def tw2906375080107208661:=o
def tw287553910471666626:=o
def tw2775048574980291410:=o
def tw2761559649242594305:=o
def tw2607264120010310315:=o
def tw2545098414175163849:=o
def tw2529242120893490367:=o
def tw2521987504881779433:=o
def tw2483727769240308079:=o
def tw246283876825994830:=o
def tw245015136832765060:=o
def tw2214214007894541772:=o
def tw2019498625093732536:=o
def tw18434928969139565126:=o
def tw18334800457649394470:=o
def tw18309313484306545278:=o
def tw18231108379527554564:=o
def tw18227269978175995471:=o
def tw18161616774804256472:=o
def tw18156578198032030022:=o
def tw18065256030033538961:=o
def tw18064458297734519111:=o
def tw18008147350620130783:=o
def tw17928124122401769310:=o
def tw17848259739746377591:=o
def tw17661271571807637810:=o
def tw17650793380862441687:=o
def tw17590700502293926266:=o
def tw1758434349022600262:=o
def tw17501229017344783305:=o
def tw17435858990151891911:=o
def tw17336434880006721126:=o
def tw17265942051399695446:=o
def tw16786093198407202238:=o
def tw16702968419897811480:=o
def tw16665558913941235307:=o
def tw1655346907862495906:=o
def tw16344424243346225400:=o
def tw16333730620385967964:=o
def tw1604362545866591001:=o
def tw16032024983499304806:=o
def tw15961224224403832359:=o
def tw15906950008868418342:=o
def tw15872190184476267276:=o
def tw15858986293381326689:=o
def tw15784997511695041969:=o
def tw15771868481144303058:=o
def tw15530452461478973007:=o
def tw15514749477390607573:=o
def tw15199928422989653396:=o
def tw15166009035658763969:=o
def tw15149753083888748928:=o
def tw15138390255407066502:=o
def tw15007287080062106212:=o
def tw14872205193035058864:=o
def tw1480319075350207477:=o
def tw14734220722534961626:=o
def tw14651199230119539178:=o
def tw14563101738733346089:=o
def tw14560227323716806978:=o
def tw14531404368525772907:=o
def tw14509169859850688876:=o
def tw1442636894084370431:=o
def tw14382599290649771867:=o
def tw14374514570360620729:=o
def tw1436489783879730536:=o
def tw14239538644078344915:=o
def tw14204299464091868218:=o
def tw14073934591668961954:=o
def tw14047194009481612577:=o
def tw1385384528555739250:=o
def tw13844871297735482492:=o
def tw13816233122500386724:=o
def tw13800452624123385740:=o
def tw13620378413939820131:=o
def tw13592809192703496938:=o
def tw13591639554591055988:=o
def tw13440853913271221669:=o
def tw1335039117200322062:=o
def tw13288796612416069751:=o
def tw1325754139183925457:=o
end Mn.main
set_option Elab.async true
open PySem PySem.W PyProof.Rows Mn.G
set_option maxHeartbeats 8000000 in
theorem Mn.main : PySem.Challenge.rw_pc0156_02.Holds := by
  w_on; o_law; k_head; (case hw => w_witness2)
  k_go0
  refine' law_run (K := ?zzK) (ns := ?zzns) (g := ?zzg) (scr := ?zzscr) (vs := ?zzvs) ?zzb1 ?zzb2 ?zzb3 ?zzb4 ?zzb5 ?zzb6 ?zzhc ?zzhk ?zznc ?zzz ?zzhs ?zzB ?zzX ?zztop ?zztab ?zzhL ?zzhI ?zzhn ?zzF ?zzN0 ?zzl0 ?zzq
  case zzB => assumption
  case zzX => assumption
  case zzhL => assumption
  case zzhI => assumption
  case zztab => assumption
  case zzF => assumption
  case zzN0 => assumption
  case zzl0 => assumption
  case zzb1 => kernel_rfl
  case zzb2 => kernel_rfl
  case zzb3 => kernel_rfl
  case zzb4 => kernel_rfl
  case zzb5 => kernel_rfl
  case zzb6 => kernel_rfl
  case zznc => kernel_rfl
  case zzhc => kernel_rfl
  case zzhk => kernel_rfl
  case zzz => kernel_rfl
  case zzhs => kernel_rfl
  case zztop => exact ⟨_, _, _, _, _, by assumption⟩
  case zzhn => omega
  case zzq =>
    intro h' tk m' ps hF ht
    refine ⟨?_, ⟨ps, ht⟩, trivial⟩
    refine goodW_bool hF (by assumption) (raisesW_false ?_) ?_
    · wrow_none_raised
    · kc_post
theorem PySem.Challenge.cw_pc0156_02_holds : PySem.Challenge.rw_pc0156_02.Holds :=
  Mn.main
