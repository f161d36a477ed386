import PyProof.Rows.All
import Wide.All
import OpenK.AllK
import Wide.FinOn
import PySem.Challenge.RW_nt0448_01
set_option bootstrap.genMatcherCode false
set_option autoImplicit false
set_option Elab.async false
set_option linter.all false
set_option maxRecDepth 100000
open Array renaming length_toList→S5,getElem?_eq_some_iff→Tw,toList_push→Wl
open Bool renaming and_eq_true→S8,not_eq_true'→To,false_ne_true→TH,false_eq_true→T9,false_or→UQ,or_false→US,not_true→U7,and_eq_true_iff→Va,or_eq_true_iff→Vh,or_true→VF,or_eq_true→VL,not_false→V2,true_or→WR
open Int renaming ofNat_le→SR,ofNat_lt→Tf,natCast_nonneg→T8,toNat_natCast→UJ,fdiv_eq_ediv_of_nonneg→UP,fmod_eq_emod_of_nonneg→Vp,eq_ofNat_of_zero_le→VH,toNat_of_nonneg→We,emod_nonneg→WG
open Int.ofNat renaming inj→U6
open List renaming length_map→Sn,length_append→So,mem_cons_self→Sq,getElem?_eq_some_iff→Sr,mem_cons_of_mem→Su,append_assoc→Sw,mem_singleton→Sx,mem_of_getElem?→Sy,getElem?_append_left→SA,length_cons→SD,mem_cons→SH,getElem?_eq_getElem→SI,mem_append→SL,append_nil→SM,map_append→SN,mem_append_left→SP,length_nil→SU,mem_append_right→SY,getElem?_set_ne→S0,prefix_append→S6,take_length→Tc,cons_append→Te,take_add_one→Tg,map_cons→Th,prefix_refl→Tj,all_eq_true→Tl,getElem?_append_right→Tn,drop_eq_getElem_cons→Tr,getElem?_concat_length→Tt,getElem_mem→Tx,getElem?_eq_none_iff→Tz,nil_append→TB,dropLast_concat→TI,not_mem_nil→TJ,length_take→TK,lookup_cons→TO,isEmpty_iff→TP,drop_eq_nil_of_le→TR,getElem?_map→TT,flatMap_cons→TU,nodup_cons→TX,mem_map→TY,nodup_append→T2,take_append_drop→T4,eq_nil_of_length_eq_zero→T5,mem_map_of_mem→Ua,getElem?_set_self→Uc,dropLast_eq_take→Ui,filterMap_cons→Up,flatMap_append→Uq,map_nil→Ut,zip_cons_cons→Uu,getElem?_drop→Uv,forall_mem_cons→UB,reverse_cons→UH,drop_take→UL,take_left→UM,getLast?_concat→UO,takeWhile_cons→UT,length_set→UX,getElem?_replicate→U0,getElem?_cons_succ→U1,mem_flatMap→U8,getElem?_eq_none→U9,foldl_cons→Vb,map_map→Vd,of_mem_zip→Vf,drop_eq_nil_iff→Vg,mem_range→Vj,drop_left→Vk,size_toArray→Vs,take_sublist→Vu,getLast?_eq_getElem?→Vy,length_drop→VB,getElem?_take_of_lt→VD,cons_ne_nil→VE,append_cons→VG,mem_filter→VK,take_of_length_le→VP,cons_lt_cons_iff→VS,mem_iff_getElem?→VW,takeWhile_prefix→VX,drop_zero→VY,length_singleton→VZ,singleton_append→V1,length_dropLast→V3,sum_cons→V4,map_drop→V5,append_toArray→V7,replicate_succ→V8,length_pos_iff→Wd,pairwise_cons→Wj,length_range→Wk,foldl_append→Wq,mem_reverse→Wv,getElem_map→Ww,isEmpty_nil→Wx,nil_prefix→Wz,lookup_nil→WE,drop_drop→WJ,any_cons→WL,drop_nil→WM,take_nil→WO,map_take→WP,set_set→WQ
open List.cons renaming inj→TZ,injEq→WA
open Nat renaming sub_add_cancel→SJ,le_antisymm→SK,le_trans→SQ,lt_of_lt_of_le→SV,le_refl→SW,ne_of_lt→SX,le_of_lt→SZ,le_of_not_lt→S7,le_add_right→S9,le_of_ble_eq_true→Tb,lt_of_le_of_lt→Tq,add_assoc→Tu,lt_irrefl→Tv,min_le_right→TD,lt_succ_self→TN,ne_of_gt→TV,lt_of_succ_lt→T1,mul_le_mul_left→T3,zero_le→Ub,lt_trans→Ud,le_add_right_of_le→Uf,not_lt_of_le→Ug,not_le_of_lt→Uh,zero_add→Uj,mod_lt→Ul,add_comm→Ur,min_le_left→Uy,lt_of_not_le→UC,succ_pos→UD,add_le_add→UK,add_le_add_left→UU,le_add_left→UV,min_eq_left→UW,le_of_eq→UY,le_succ_of_le→U2,succ_le_of_lt→U3,sub_le→Vc,add_right_comm→Vm,lt_succ_of_lt→Vv,lt_succ_of_le→Vw,le_of_lt_succ→Vx,lt_add_of_pos_right→VI,add_sub_cancel_left→VJ,le_succ→VN,ble_eq_true_of_le→V0,succ_add→Wi,le_of_succ_le→Wm,succ_ne_self→Wt,zero_lt_succ→Wu,sub_lt→WF,not_lt_zero→WI,mul_assoc→WK
open Nat.succ renaming inj→Ve
open Ne renaming symm→VQ
open Option renaming map_eq_some_iff→TA,bind_some→TM,map_some→Uk,bind_eq_some_iff→UE,isSome_iff_exists→UZ,isNone_iff_eq_none→Vz,getD_none→VA,some_ne_none→V6,toList_some→Wh,map_none→WB
open Option.some renaming inj→Sv,injEq→Wr
open Or renaming elim→Ts
open Prod.mk renaming injEq→U5
open PyProof.Rows renaming evalArgs_none→UR,boot_list→VO,ne_int→Wb
open PySem renaming wpAny_bind→Sz,wpAny_pure→SS,wpAny_mono→Ti,wpAny_storeName_local→TG,wpAny_Constant_int→T6,wpAny_execs_cons→T7,wpAny_truthy_bool→Um,wpAny_loadPart_at→Un,wpAny_toks_of→Uo,wpAny_Constant_str→Us,wpAny_execs_nil→Uw,wpAny_call→UA,wpAny_Call_method1_late→UF,wpAny_holding→UG,wpAny_newObj_type→UI,wpAny_loadName_local→UN,wpAny_Compare1→Vi,wpAny_field→Vl,wpAny_setSeqItemAt→Vn,wpAny_standAt→Vq,wpAny_assign_Name→Vt,wpAny_getItem_list_slice→VC,wpAny_Slice→VM,wpAny_setField→VU,wpAny_Constant_none→V9,wpAny_Constant_bool→Wa,wpAny_pyIter_list→Wn,wpAny_Assign_Name→Wo,wpAny_Return_some→Wp,wpAny_Name→Wy,wpAny_Expr→WC
open PySem.BindsTo renaming of_eq→Vr
open PySem.Calls renaming callWith_builtin→U4
open PySem.Code renaming quiet_builtin→Wg
open PySem.Heap renaming get?_push_of_some→SO,lt_size→TC,get?_push_size→TF,get?_update_other→Ue,get?_update_self→Ux,get?_none_of_le→Uz,size_push→VT,get?_update_ne→Wc
open PySem.Heap.IsSliceOf renaming new→Wf
open PySem.Obj renaming data_mapFields→Vo,isFreed_of_fields→VV
open PySem.PassesOwn renaming never→WD
open PySem.W.Looks renaming of_pure→WN
open PySem.Within renaming cons→Ws,nil→WS
namespace Mine
set_option genSizeOf false in
set_option genInjectivity false in
inductive LE where
 |v (i:Nat)|n (k:Nat)|a (l r:LE)|m (k:Nat) (l:LE)|w (l:LE) (k:Nat)
noncomputable def uF:List Nat->Nat->Nat
 | [],_=>0
 |x::_,0=>x
 |_::r,i+1=>uF r i
noncomputable def LE.at(c:List Nat):LE->Nat
 | .v i=>uF c i
 | .n k=>k
 | .a l r=>l.at c+r.at c
 | .m k l=>k*l.at c
 | .w l k=>l.at c*k
set_option genSizeOf false in
set_option genInjectivity false in
inductive LC where
 |le (a b:LE)|lt (a b:LE)|eq (a b:LE)|no
noncomputable def LC.at(c:List Nat):LC->Prop
 | .le a b=>a.at c<=b.at c
 | .lt a b=>a.at c<b.at c
 | .eq a b=>a.at c=b.at c
 | .no=>False
noncomputable def gY(k:Nat):Nat->List Nat->List Nat
 | 0,[]=>[k]
 |i+1,[]=>0::gY k i []
 | 0,x::r=>(x+k)::r
 |i+1,x::r=>x::gY k i r
noncomputable def LE.co:LE->Nat->List Nat->List Nat
 | .v i,q,c=>gY q (i+1) c
 | .n k,q,c=>gY (q*k) 0 c
 | .a l r,q,c=>r.co q (l.co q c)
 | .m k l,q,c=>l.co (q*k) c
 | .w l k,q,c=>l.co (q*k) c
noncomputable def bw:List Nat->List Nat->Nat
 | [],_=>0
 |_,[]=>0
 |x::r,y::s=>x*y+bw r s
theorem zH:∀l:List Nat,bw l []=0
 | []=>rfl
 |_::_=>rfl
theorem mM(k:Nat):∀(i:Nat) (l c:List Nat),bw (gY k i l) c=bw l c+k*uF c i
 | 0,[],[]=>rfl
 | 0,[],_::_=>by show k*_+0=0+k*_;rw[Uj,Nat.add_zero];rfl
 |i+1,[],[]=>rfl
 |i+1,[],y::s=>by show 0*y+bw (gY k i []) s=0+_;rw[mM k i [] s];show 0*y+(bw [] s+_)=_;rw[Nat.zero_mul];show 0+(0+_)=_;rw[Uj];rfl
 | 0,x::r,[]=>rfl
 | 0,x::r,y::s=>by show(x+k)*y+bw r s=x*y+bw r s+k*y;rw[Nat.add_mul,Vm]
 |i+1,x::r,[]=>rfl
 |i+1,x::r,y::s=>by show x*y+bw (gY k i r) s=x*y+bw r s+_;rw[mM k i r s,Tu];rfl
theorem LE.fF(c:List Nat):∀(e:LE) (q:Nat) (l:List Nat),bw (e.co q l) (1::c)=bw l (1::c)+q*e.at c
 | .v i,q,l=>mM q (i+1) l _
 | .n k,q,l=>(mM (q*k) 0 l _).trans (by show _+q*k*1=_;rw[Nat.mul_one];rfl)
 | .a x y,q,l=>by show bw (y.co q (x.co q l)) _=_+q*(x.at c+y.at c);rw[fF c y,fF c x,Nat.mul_add,Tu]
 | .m k x,q,l=>by show bw (x.co (q*k) l) _=_+q*(k*x.at c);rw[fF c x,WK]
 | .w x k,q,l=>by show bw (x.co (q*k) l) _=_+q*(x.at c*k);rw[fF c x,WK,Nat.mul_comm k]
noncomputable def below:List Nat->List Nat->Bool
 | [],_=>true
 |x::r,[]=>Nat.ble x 0&&below r []
 |x::r,y::s=>Nat.ble x y&&below r s
theorem uG:∀(r l c:List Nat),below r l=true->bw r c<=bw l c
 | [],_,_,_=>Ub _
 |_::_,l,[],_=>by rw[zH,zH];exact SW _
 |x::r,[],y::s,h=>by
  have h:=Va.mp h
  have e:x=0:=Nat.le_zero.mp (Tb h.1)
  subst e
  have:=uG r [] s h.2
  show 0*y+bw r s<=0
  rw[Nat.zero_mul,Uj];exact this
 |x::r,y::s,z::t,h=>by
  have h:=Va.mp h
  exact UK (Nat.mul_le_mul_right _ (Tb h.1)) (uG r s t h.2)
set_option genSizeOf false in
set_option genInjectivity false in
structure LI where
 k:Nat
 d:Bool
 c:LC
noncomputable def LI.l(i:LI)(c:List Nat):List Nat:=match i.c,i.d with
 | .le a _,_=>a.co i.k c
 | .lt a _,_=>a.co i.k (gY i.k 0 c)
 | .eq a _,true=>a.co i.k c
 | .eq _ b,false=>b.co i.k c
 | .no,_=>c
noncomputable def LI.r(i:LI)(c:List Nat):List Nat:=match i.c,i.d with
 | .le _ b,_=>b.co i.k c
 | .lt _ b,_=>b.co i.k c
 | .eq _ b,true=>b.co i.k c
 | .eq a _,false=>a.co i.k c
 | .no,_=>c
theorem LI.ok(c l r:List Nat):∀(i:LI),i.c.at c->bw l (1::c)<=bw r (1::c)->bw (i.l l) (1::c)<=bw (i.r r) (1::c)
 | ⟨k,_,.le a b⟩,h,hl=>by show bw (a.co k l) _<=bw (b.co k r) _;rw[LE.fF,LE.fF];exact UK hl (T3 _ h)
 | ⟨k,_,.lt a b⟩,h,hl=>by
  show bw (a.co k (gY k 0 l)) _<=bw (b.co k r) _;rw[LE.fF,LE.fF,mM]
  show _+k*1+_<=_
  rw[Tu,←Nat.mul_add,Ur 1];exact UK hl (T3 _ h)
 | ⟨k,true,.eq a b⟩,h,hl=>by show bw (a.co k l) _<=bw (b.co k r) _;rw[LE.fF,LE.fF];exact UK hl (T3 _ (UY h))
 | ⟨k,false,.eq a b⟩,h,hl=>by show bw (b.co k l) _<=bw (a.co k r) _;rw[LE.fF,LE.fF];exact UK hl (T3 _ (UY (Eq.symm h)))
 | ⟨_,_,.no⟩,h,_=>h.elim
noncomputable def uH(c:List Nat):List LI->List Nat
 | []=>c
 |i::r=>uH (i.l c) r
noncomputable def uI(c:List Nat):List LI->List Nat
 | []=>c
 |i::r=>uI (i.r c) r
noncomputable def LC.l:LC->List Nat
 | .le _ b=>b.co 1 [1]
 | .lt _ b=>b.co 1 []
 |_=>[]
noncomputable def LC.r:LC->List Nat
 | .le a _=>a.co 1 []
 | .lt a _=>a.co 1 []
 |_=>[]
noncomputable def LC.out:LC->Bool
 | .eq _ _=>false
 |_=>true
noncomputable def uJ(c:List Nat)(g:LC):List LI->Prop
 | []=>g.at c
 |i::r=>i.c.at c->uJ c g r
noncomputable def F8(g:LC)(is:List LI):Bool:=
 g.out&&below (gY 1 0 (uI g.r is)) (uH g.l is)
theorem zI(c:List Nat)(g:LC):∀(is:List LI) (l r:List Nat),(¬bw l (1::c)<=bw r (1::c)->g.at c)->
  below (gY 1 0 (uI r is)) (uH l is)=true->uJ c g is
 | [],l,r,h,k=>h λz=>by
   have q:=uG _ _ (1::c) k
   have q:bw (gY 1 0 r) _<=bw l _:=q
   rw[mM]at q
   exact Tv _ (SQ q z)
 |i::is,l,r,h,k=>λhi=>zI c g is (i.l l) (i.r r) (λz=>h λy=>z (LI.ok c l r i hi y)) k
theorem LE.uK(c:List Nat)(e:LE):bw (e.co 1 []) (1::c)=e.at c:=by rw[fF,Nat.one_mul];exact Uj _
theorem LC.neg(c:List Nat):∀g:LC,g.out=true->¬bw g.l (1::c)<=bw g.r (1::c)->g.at c
 | .le a b,_,q=>S7 λz=>q (by
  show bw (b.co 1 [1]) _<=bw (a.co 1 []) _
  rw[LE.uK,LE.fF,Nat.one_mul,Ur];exact z)
 | .lt a b,_,q=>UC λz=>q (by
  show bw (b.co 1 []) _<=bw (a.co 1 []) _
  rw[LE.uK,LE.uK];exact z)
 | .no,_,q=>q (SW 0)
noncomputable def LE.num:LE->Nat
 | .n k=>k
 |_=>0
noncomputable def gZ:Nat->Nat->List LE->List LI->List LI×LC
 | 0,_,_,_=>([],.no)
 |f+1,z,s,is=>
  bif Nat.ble (z%16) 7 then gZ f (z/16) (.v (z%16)::s) is
  else bif Nat.beq (z%16) 8 then gZ f (z/256) (.v (8+z/16%16)::s) is
  else bif Nat.beq (z%16) 10 then gZ f (z/256) (.n (z/16%16)::s) is
  else bif Nat.beq (z%16) 11 then gZ f (z/256/16 ^ (z/16%16)) (.n (z/256%16 ^ (z/16%16))::s) is
  else match s with
  |r::l::s=>
   bif Nat.beq (z%16) 9 then gZ f (z/16) (.a l r::s) is
   else bif Nat.beq (z%16) 12 then gZ f (z/16) (.m l.num r::s) is
   else bif Nat.beq (z%16) 13 then gZ f (z/16) (.w l r.num::s) is
   else bif Nat.beq (z%16) 14 then gZ f (z/256) s (⟨z/64%4+1,Nat.ble (z/16%4) 2,bif Nat.beq (z/16%4) 0 then .le l r else bif Nat.beq (z/16%4) 1 then .lt l r else .eq l r⟩::is)
   else (is.reverse,bif Nat.beq (z/16) 0 then .le l r else .lt l r)
  |_=>(is.reverse,.no)
noncomputable def okN(z:Nat):Bool:=F8 (gZ 90 z [] []).2 (gZ 90 z [] []).1
noncomputable def iD(c:List Nat)(z:Nat):Prop:=uJ c (gZ 90 z [] []).2 (gZ 90 z [] []).1
theorem ja(c:List Nat)(z:Nat)(h:okN z=true):iD c z:=by
 have h:=Va.mp h
 exact zI c _ _ _ _ (LC.neg c _ h.1) h.2
theorem fG(z:Nat)(h:okN z=true):iD [] z:=ja _ z h
theorem av{a:Nat}(z:Nat)(h:okN z=true):iD [a] z:=ja _ z h
theorem af{a b:Nat}(z:Nat)(h:okN z=true):iD [a,b] z:=ja _ z h
theorem ah{a b c:Nat}(z:Nat)(h:okN z=true):iD [a,b,c] z:=ja _ z h
theorem aK{a b c d:Nat}(z:Nat)(h:okN z=true):iD [a,b,c,d] z:=ja _ z h
theorem aZ{a b c d e:Nat}(z:Nat)(h:okN z=true):iD [a,b,c,d,e] z:=ja _ z h
theorem dU{a b c d e f:Nat}(z:Nat)(h:okN z=true):iD [a,b,c,d,e,f] z:=ja _ z h
theorem iF{a b c d e f g:Nat}(z:Nat)(h:okN z=true):iD [a,b,c,d,e,f,g] z:=ja _ z h
theorem uL{a b c d e f g i:Nat}(z:Nat)(h:okN z=true):iD [a,b,c,d,e,f,g,i] z:=ja _ z h
theorem uM{a b c d e f g i j:Nat}(z:Nat)(h:okN z=true):iD [a,b,c,d,e,f,g,i,j] z:=ja _ z h
noncomputable def cR{α:Type}(o:Option α)(P:α->Prop):Prop:=match o with|some q=>P q|none=>True
theorem aU{α:Type}{o:Option α}{P:α->Prop}{q:α}(k:cR o P)(h:o=some q):P q:=by subst h;exact k
theorem dW{α:Type}{c:Prop} [Decidable c] {a:α}{P:α->Prop}(k:c->P a):cR (if c then some a else none) P:=by split;exact k ‹_›;exact True.intro
theorem bad{P:Prop}(h:false=true):P:=Bool.noConfusion h
theorem nn{α:Type}{a:α}{P:Prop}(h:none=some a):P:=(V6 a h.symm).elim
theorem nm{α:Type}{a:α}{P:Prop}(h:a∈[]):P:=(TJ h).elim
theorem ns{α:Type}{a:α}{P:Prop}(h:some a=none):P:=(V6 a h).elim
theorem an{a b:Bool}(h:(a&&b)=true):a=true/\b=true:=(S8 a b).mp h
theorem ba{a b:Bool}{G:Prop}(h:(a&&b)=true)(k:a=true->b=true->G):G:=k (an h).1 (an h).2
theorem ly{a b c d e f g i j:Bool}{G:Prop}(h:(a&&b&&c&&d&&e&&f&&g&&i&&j)=true)(k:a=true->b=true->c=true->d=true->e=true->f=true->g=true->i=true->j=true->G):G:=ba h λh r1=>ba h λh r2=>ba h λh r3=>ba h λh r4=>ba h λh r5=>ba h λh r6=>ba h λh r7=>ba h λh r8=>k h r8 r7 r6 r5 r4 r3 r2 r1
theorem zJ{a b c d e f g i j l:Bool}{G:Prop}(h:(a&&b&&c&&d&&e&&f&&g&&i&&j&&l)=true)(k:a=true->b=true->c=true->d=true->e=true->f=true->g=true->i=true->j=true->l=true->G):G:=ba h λh r1=>ba h λh r2=>ba h λh r3=>ba h λh r4=>ba h λh r5=>ba h λh r6=>ba h λh r7=>ba h λh r8=>ba h λh r9=>k h r9 r8 r7 r6 r5 r4 r3 r2 r1
theorem uN{a b c d e f g i j l m n o p q r s t:Bool}{G:Prop}(h:(a&&b&&c&&d&&e&&f&&g&&i&&j&&l&&m&&n&&o&&p&&q&&r&&s&&t)=true)(k:a=true->b=true->c=true->d=true->e=true->f=true->g=true->i=true->j=true->l=true->m=true->n=true->o=true->p=true->q=true->r=true->s=true->t=true->G):G:=ba h λh r1=>ba h λh r2=>ba h λh r3=>ba h λh r4=>ba h λh r5=>ba h λh r6=>ba h λh r7=>ba h λh r8=>ba h λh r9=>ba h λh uO=>ba h λh F9=>ba h λh Ga=>ba h λh Gb=>ba h λh Gc=>ba h λh Gd=>ba h λh Ge=>ba h λh Gf=>k h Gf Ge Gd Gc Gb Ga F9 uO r9 r8 r7 r6 r5 r4 r3 r2 r1
section
variable{A B C D E F H I J K L M N:Type}{G:Prop}
theorem zK{p:A->B->C->D->E->F->H->I->Prop}(a:A)(b:B)(c:C)(d:D)(e:E)(f:F)(g:H)(i:I)(h:p a b c d e f g i):∃a b c d e f g i,p a b c d e f g i:=⟨a,b,c,d,e,f,g,i,h⟩
theorem oW{p:A->B->C->D->E->F->H->I->J->K->Prop}(a:A)(b:B)(c:C)(d:D)(e:E)(f:F)(g:H)(i:I)(j:J)(k:K)(h:p a b c d e f g i j k):∃a b c d e f g i j k,p a b c d e f g i j k:=⟨a,b,c,d,e,f,g,i,j,k,h⟩
theorem xA{p q:Prop}(h:p/\q)(k:p->q->G):G:=k h.1 h.2
theorem xE.{u}{α:Sort u}{p:α->Prop}{G:Prop}(h:∃a,p a)(k:∀a,p a->G):G:=h.elim k
theorem du{p q r:Prop}(h:p/\q/\r)(k:p->q->r->G):G:=xA h.2 (k h.1)
theorem lA{p:Prop}{q:A->Prop}(h:p/\∃a,q a)(k:p->∀a,q a->G):G:=xE h.2 (k h.1)
theorem am{p q:A->Prop}(h:∃a,p a/\q a)(k:∀a,p a->q a->G):G:=h.elim λa h=>xA h (k a)
theorem iH{p:A->B->Prop}(h:∃a b,p a b)(k:∀a b,p a b->G):G:=h.elim λa h=>xE h (k a)
theorem kf{p q r s:Prop}(h:p/\q/\r/\s)(k:p->q->r->s->G):G:=du h.2 (k h.1)
theorem zL{p q:Prop}{r:A->Prop}(h:p/\q/\∃a,r a)(k:p->q->∀a,r a->G):G:=lA h.2 (k h.1)
theorem mN{p:Prop}{q r:A->Prop}(h:p/\∃a,q a/\r a)(k:p->∀a,q a->r a->G):G:=am h.2 (k h.1)
theorem aN{p q r:A->Prop}(h:∃a,p a/\q a/\r a)(k:∀a,p a->q a->r a->G):G:=h.elim λa h=>du h (k a)
theorem bK{p q:A->B->Prop}(h:∃a b,p a b/\q a b)(k:∀a b,p a b->q a b->G):G:=h.elim λa h=>am h (k a)
theorem oX{p:A->B->C->Prop}(h:∃a b c,p a b c)(k:∀a b c,p a b c->G):G:=h.elim λa h=>iH h (k a)
theorem uP{p q r s t:Prop}(h:p/\q/\r/\s/\t)(k:p->q->r->s->t->G):G:=kf h.2 (k h.1)
theorem rx{p:Prop}{q r:A->B->Prop}(h:p/\∃a b,q a b/\r a b)(k:p->∀a b,q a b->r a b->G):G:=bK h.2 (k h.1)
theorem ry{p q r s:A->Prop}(h:∃a,p a/\q a/\r a/\s a)(k:∀a,p a->q a->r a->s a->G):G:=h.elim λa h=>kf h (k a)
theorem Gg{p:A->Prop}{q r:A->B->Prop}(h:∃a,p a/\∃b,q a b/\r a b)(k:∀a,p a->∀b,q a b->r a b->G):G:=h.elim λa h=>mN h (k a)
theorem bx{p q r:A->B->Prop}(h:∃a b,p a b/\q a b/\r a b)(k:∀a b,p a b->q a b->r a b->G):G:=h.elim λa h=>aN h (k a)
theorem lB{p q:A->B->C->Prop}(h:∃a b c,p a b c/\q a b c)(k:∀a b c,p a b c->q a b c->G):G:=h.elim λa h=>bK h (k a)
theorem zM{p:A->B->C->D->Prop}(h:∃a b c d,p a b c d)(k:∀a b c d,p a b c d->G):G:=h.elim λa h=>oX h (k a)
theorem rz{p q r s t u:Prop}(h:p/\q/\r/\s/\t/\u)(k:p->q->r->s->t->u->G):G:=uP h.2 (k h.1)
theorem oY{p q:Prop}{r s:A->B->Prop}(h:p/\q/\∃a b,r a b/\s a b)(k:p->q->∀a b,r a b->s a b->G):G:=rx h.2 (k h.1)
theorem zN{p:Prop}{q r s t:A->Prop}(h:p/\∃a,q a/\r a/\s a/\t a)(k:p->∀a,q a->r a->s a->t a->G):G:=ry h.2 (k h.1)
theorem Gh{p:Prop}{q r s:A->B->Prop}(h:p/\∃a b,q a b/\r a b/\s a b)(k:p->∀a b,q a b->r a b->s a b->G):G:=bx h.2 (k h.1)
theorem jb{p q r s t:A->Prop}(h:∃a,p a/\q a/\r a/\s a/\t a)(k:∀a,p a->q a->r a->s a->t a->G):G:=h.elim λa h=>uP h (k a)
theorem mO{p q r s:A->B->Prop}(h:∃a b,p a b/\q a b/\r a b/\s a b)(k:∀a b,p a b->q a b->r a b->s a b->G):G:=h.elim λa h=>ry h (k a)
theorem g5{p q r:A->B->C->Prop}(h:∃a b c,p a b c/\q a b c/\r a b c)(k:∀a b c,p a b c->q a b c->r a b c->G):G:=h.elim λa h=>bx h (k a)
theorem uQ{p q:A->B->C->D->Prop}(h:∃a b c d,p a b c d/\q a b c d)(k:∀a b c d,p a b c d->q a b c d->G):G:=h.elim λa h=>lB h (k a)
theorem Gi{p:A->B->C->D->E->Prop}(h:∃a b c d e,p a b c d e)(k:∀a b c d e,p a b c d e->G):G:=h.elim λa h=>zM h (k a)
theorem zO{p q r s t u v:Prop}(h:p/\q/\r/\s/\t/\u/\v)(k:p->q->r->s->t->u->v->G):G:=rz h.2 (k h.1)
theorem Gj{p q:Prop}{r s t u:A->Prop}(h:p/\q/\∃a,r a/\s a/\t a/\u a)(k:p->q->∀a,r a->s a->t a->u a->G):G:=zN h.2 (k h.1)
theorem Gk{p:Prop}{q r s t u:A->Prop}(h:p/\∃a,q a/\r a/\s a/\t a/\u a)(k:p->∀a,q a->r a->s a->t a->u a->G):G:=jb h.2 (k h.1)
theorem Gl{p q r s t u:A->Prop}(h:∃a,p a/\q a/\r a/\s a/\t a/\u a)(k:∀a,p a->q a->r a->s a->t a->u a->G):G:=h.elim λa h=>rz h (k a)
theorem uR{p q r s t:A->B->Prop}(h:∃a b,p a b/\q a b/\r a b/\s a b/\t a b)(k:∀a b,p a b->q a b->r a b->s a b->t a b->G):G:=h.elim λa h=>jb h (k a)
theorem lC{p q r s:A->B->C->Prop}(h:∃a b c,p a b c/\q a b c/\r a b c/\s a b c)(k:∀a b c,p a b c->q a b c->r a b c->s a b c->G):G:=h.elim λa h=>mO h (k a)
theorem fH{p q r:A->B->C->D->Prop}(h:∃a b c d,p a b c d/\q a b c d/\r a b c d)(k:∀a b c d,p a b c d->q a b c d->r a b c d->G):G:=h.elim λa h=>g5 h (k a)
theorem uS{p q:A->B->C->D->E->Prop}(h:∃a b c d e,p a b c d e/\q a b c d e)(k:∀a b c d e,p a b c d e->q a b c d e->G):G:=h.elim λa h=>uQ h (k a)
theorem uT{p:A->B->C->D->E->F->Prop}(h:∃a b c d e f,p a b c d e f)(k:∀a b c d e f,p a b c d e f->G):G:=h.elim λa h=>Gi h (k a)
theorem zP{p q r s t u v w:Prop}(h:p/\q/\r/\s/\t/\u/\v/\w)(k:p->q->r->s->t->u->v->w->G):G:=zO h.2 (k h.1)
theorem Gm{p q r s t u v:A->Prop}(h:∃a,p a/\q a/\r a/\s a/\t a/\u a/\v a)(k:∀a,p a->q a->r a->s a->t a->u a->v a->G):G:=h.elim λa h=>zO h (k a)
theorem Gn{p q r s t u:A->B->Prop}(h:∃a b,p a b/\q a b/\r a b/\s a b/\t a b/\u a b)(k:∀a b,p a b->q a b->r a b->s a b->t a b->u a b->G):G:=h.elim λa h=>Gl h (k a)
theorem mP{p q r s t:A->B->C->Prop}(h:∃a b c,p a b c/\q a b c/\r a b c/\s a b c/\t a b c)(k:∀a b c,p a b c->q a b c->r a b c->s a b c->t a b c->G):G:=h.elim λa h=>uR h (k a)
theorem zQ{p q r s:A->B->C->D->Prop}(h:∃a b c d,p a b c d/\q a b c d/\r a b c d/\s a b c d)(k:∀a b c d,p a b c d->q a b c d->r a b c d->s a b c d->G):G:=h.elim λa h=>lC h (k a)
theorem uU{p q r:A->B->C->D->E->Prop}(h:∃a b c d e,p a b c d e/\q a b c d e/\r a b c d e)(k:∀a b c d e,p a b c d e->q a b c d e->r a b c d e->G):G:=h.elim λa h=>fH h (k a)
theorem Go{p:A->B->C->D->E->F->H->Prop}(h:∃a b c d e f g,p a b c d e f g)(k:∀a b c d e f g,p a b c d e f g->G):G:=h.elim λa h=>uT h (k a)
theorem zR{p q r s t u v w x:Prop}(h:p/\q/\r/\s/\t/\u/\v/\w/\x)(k:p->q->r->s->t->u->v->w->x->G):G:=zP h.2 (k h.1)
theorem uV{p:Prop}{q r s t u:A->B->C->Prop}(h:p/\∃a b c,q a b c/\r a b c/\s a b c/\t a b c/\u a b c)(k:p->∀a b c,q a b c->r a b c->s a b c->t a b c->u a b c->G):G:=mP h.2 (k h.1)
theorem Gp{p q r s t u v w:A->Prop}(h:∃a,p a/\q a/\r a/\s a/\t a/\u a/\v a/\w a)(k:∀a,p a->q a->r a->s a->t a->u a->v a->w a->G):G:=h.elim λa h=>zP h (k a)
theorem uW{p q r s t u v:A->B->Prop}(h:∃a b,p a b/\q a b/\r a b/\s a b/\t a b/\u a b/\v a b)(k:∀a b,p a b->q a b->r a b->s a b->t a b->u a b->v a b->G):G:=h.elim λa h=>Gm h (k a)
theorem oZ{p q r s t u:A->B->C->Prop}(h:∃a b c,p a b c/\q a b c/\r a b c/\s a b c/\t a b c/\u a b c)(k:∀a b c,p a b c->q a b c->r a b c->s a b c->t a b c->u a b c->G):G:=h.elim λa h=>Gn h (k a)
theorem zS{p q r s t:A->B->C->D->Prop}(h:∃a b c d,p a b c d/\q a b c d/\r a b c d/\s a b c d/\t a b c d)(k:∀a b c d,p a b c d->q a b c d->r a b c d->s a b c d->t a b c d->G):G:=h.elim λa h=>mP h (k a)
theorem pd{p q r s:A->B->C->D->E->Prop}(h:∃a b c d e,p a b c d e/\q a b c d e/\r a b c d e/\s a b c d e)(k:∀a b c d e,p a b c d e->q a b c d e->r a b c d e->s a b c d e->G):G:=h.elim λa h=>zQ h (k a)
theorem Gq{p q r:A->B->C->D->E->F->Prop}(h:∃a b c d e f,p a b c d e f/\q a b c d e f/\r a b c d e f)(k:∀a b c d e f,p a b c d e f->q a b c d e f->r a b c d e f->G):G:=h.elim λa h=>uU h (k a)
theorem Gr{p:A->B->C->D->E->F->H->I->Prop}(h:∃a b c d e f g h,p a b c d e f g h)(k:∀a b c d e f g h,p a b c d e f g h->G):G:=h.elim λa h=>Go h (k a)
theorem Gs{p q r s t u v w x y:Prop}(h:p/\q/\r/\s/\t/\u/\v/\w/\x/\y)(k:p->q->r->s->t->u->v->w->x->y->G):G:=zR h.2 (k h.1)
theorem Gu{p q r s t u v w x:A->Prop}(h:∃a,p a/\q a/\r a/\s a/\t a/\u a/\v a/\w a/\x a)(k:∀a,p a->q a->r a->s a->t a->u a->v a->w a->x a->G):G:=h.elim λa h=>zR h (k a)
theorem Gv{p q r s t u v w:A->B->Prop}(h:∃a b,p a b/\q a b/\r a b/\s a b/\t a b/\u a b/\v a b/\w a b)(k:∀a b,p a b->q a b->r a b->s a b->t a b->u a b->v a b->w a b->G):G:=h.elim λa h=>Gp h (k a)
theorem Gw{p q r s t u v:A->B->C->Prop}(h:∃a b c,p a b c/\q a b c/\r a b c/\s a b c/\t a b c/\u a b c/\v a b c)(k:∀a b c,p a b c->q a b c->r a b c->s a b c->t a b c->u a b c->v a b c->G):G:=h.elim λa h=>uW h (k a)
theorem Gx{p q r s t:A->B->C->D->E->Prop}(h:∃a b c d e,p a b c d e/\q a b c d e/\r a b c d e/\s a b c d e/\t a b c d e)(k:∀a b c d e,p a b c d e->q a b c d e->r a b c d e->s a b c d e->t a b c d e->G):G:=h.elim λa h=>zS h (k a)
theorem rA{p q r s:A->B->C->D->E->F->Prop}(h:∃a b c d e f,p a b c d e f/\q a b c d e f/\r a b c d e f/\s a b c d e f)(k:∀a b c d e f,p a b c d e f->q a b c d e f->r a b c d e f->s a b c d e f->G):G:=h.elim λa h=>pd h (k a)
theorem Gy{p q r:A->B->C->D->E->F->H->Prop}(h:∃a b c d e f g,p a b c d e f g/\q a b c d e f g/\r a b c d e f g)(k:∀a b c d e f g,p a b c d e f g->q a b c d e f g->r a b c d e f g->G):G:=h.elim λa h=>Gq h (k a)
theorem Gz{p:A->B->C->D->E->F->H->I->J->Prop}(h:∃a b c d e f g h i,p a b c d e f g h i)(k:∀a b c d e f g h i,p a b c d e f g h i->G):G:=h.elim λa h=>Gr h (k a)
theorem GA{p q r s t u v w x y:A->Prop}(h:∃a,p a/\q a/\r a/\s a/\t a/\u a/\v a/\w a/\x a/\y a)(k:∀a,p a->q a->r a->s a->t a->u a->v a->w a->x a->y a->G):G:=h.elim λa h=>Gs h (k a)
theorem GB{p q r s t u v w x:A->B->Prop}(h:∃a b,p a b/\q a b/\r a b/\s a b/\t a b/\u a b/\v a b/\w a b/\x a b)(k:∀a b,p a b->q a b->r a b->s a b->t a b->u a b->v a b->w a b->x a b->G):G:=h.elim λa h=>Gu h (k a)
theorem GC{p q r s t u v w:A->B->C->Prop}(h:∃a b c,p a b c/\q a b c/\r a b c/\s a b c/\t a b c/\u a b c/\v a b c/\w a b c)(k:∀a b c,p a b c->q a b c->r a b c->s a b c->t a b c->u a b c->v a b c->w a b c->G):G:=h.elim λa h=>Gv h (k a)
theorem f8{p q r s t u v:A->B->C->D->Prop}(h:∃a b c d,p a b c d/\q a b c d/\r a b c d/\s a b c d/\t a b c d/\u a b c d/\v a b c d)(k:∀a b c d,p a b c d->q a b c d->r a b c d->s a b c d->t a b c d->u a b c d->v a b c d->G):G:=h.elim λa h=>Gw h (k a)
theorem GD{p q r s t:A->B->C->D->E->F->Prop}(h:∃a b c d e f,p a b c d e f/\q a b c d e f/\r a b c d e f/\s a b c d e f/\t a b c d e f)(k:∀a b c d e f,p a b c d e f->q a b c d e f->r a b c d e f->s a b c d e f->t a b c d e f->G):G:=h.elim λa h=>Gx h (k a)
theorem GE{p q r s:A->B->C->D->E->F->H->Prop}(h:∃a b c d e f g,p a b c d e f g/\q a b c d e f g/\r a b c d e f g/\s a b c d e f g)(k:∀a b c d e f g,p a b c d e f g->q a b c d e f g->r a b c d e f g->s a b c d e f g->G):G:=h.elim λa h=>rA h (k a)
theorem uX{p q r:A->B->C->D->E->F->H->I->Prop}(h:∃a b c d e f g h,p a b c d e f g h/\q a b c d e f g h/\r a b c d e f g h)(k:∀a b c d e f g h,p a b c d e f g h->q a b c d e f g h->r a b c d e f g h->G):G:=h.elim λa h=>Gy h (k a)
theorem GF{p:A->B->C->D->E->F->H->I->J->K->Prop}(h:∃a b c d e f g h i j,p a b c d e f g h i j)(k:∀a b c d e f g h i j,p a b c d e f g h i j->G):G:=h.elim λa h=>Gz h (k a)
theorem GG{p q r s t u v w x y:A->B->Prop}(h:∃a b,p a b/\q a b/\r a b/\s a b/\t a b/\u a b/\v a b/\w a b/\x a b/\y a b)(k:∀a b,p a b->q a b->r a b->s a b->t a b->u a b->v a b->w a b->x a b->y a b->G):G:=h.elim λa h=>GA h (k a)
theorem GH{p q r s t u v w x:A->B->C->Prop}(h:∃a b c,p a b c/\q a b c/\r a b c/\s a b c/\t a b c/\u a b c/\v a b c/\w a b c/\x a b c)(k:∀a b c,p a b c->q a b c->r a b c->s a b c->t a b c->u a b c->v a b c->w a b c->x a b c->G):G:=h.elim λa h=>GB h (k a)
theorem GI{p q r s t u v w:A->B->C->D->Prop}(h:∃a b c d,p a b c d/\q a b c d/\r a b c d/\s a b c d/\t a b c d/\u a b c d/\v a b c d/\w a b c d)(k:∀a b c d,p a b c d->q a b c d->r a b c d->s a b c d->t a b c d->u a b c d->v a b c d->w a b c d->G):G:=h.elim λa h=>GC h (k a)
theorem GJ{p q r s t:A->B->C->D->E->F->H->Prop}(h:∃a b c d e f g,p a b c d e f g/\q a b c d e f g/\r a b c d e f g/\s a b c d e f g/\t a b c d e f g)(k:∀a b c d e f g,p a b c d e f g->q a b c d e f g->r a b c d e f g->s a b c d e f g->t a b c d e f g->G):G:=h.elim λa h=>GD h (k a)
theorem rB{p q r s:A->B->C->D->E->F->H->I->Prop}(h:∃a b c d e f g h,p a b c d e f g h/\q a b c d e f g h/\r a b c d e f g h/\s a b c d e f g h)(k:∀a b c d e f g h,p a b c d e f g h->q a b c d e f g h->r a b c d e f g h->s a b c d e f g h->G):G:=h.elim λa h=>GE h (k a)
theorem GK{p:A->B->C->D->E->F->H->I->J->K->L->Prop}(h:∃a b c d e f g h i j l,p a b c d e f g h i j l)(k:∀a b c d e f g h i j l,p a b c d e f g h i j l->G):G:=h.elim λa h=>GF h (k a)
theorem rC{p q r s t u v w x y:A->B->C->Prop}(h:∃a b c,p a b c/\q a b c/\r a b c/\s a b c/\t a b c/\u a b c/\v a b c/\w a b c/\x a b c/\y a b c)(k:∀a b c,p a b c->q a b c->r a b c->s a b c->t a b c->u a b c->v a b c->w a b c->x a b c->y a b c->G):G:=h.elim λa h=>GG h (k a)
theorem GL{p q r s t u v w x:A->B->C->D->Prop}(h:∃a b c d,p a b c d/\q a b c d/\r a b c d/\s a b c d/\t a b c d/\u a b c d/\v a b c d/\w a b c d/\x a b c d)(k:∀a b c d,p a b c d->q a b c d->r a b c d->s a b c d->t a b c d->u a b c d->v a b c d->w a b c d->x a b c d->G):G:=h.elim λa h=>GH h (k a)
theorem GM{p q r s t u v w:A->B->C->D->E->Prop}(h:∃a b c d e,p a b c d e/\q a b c d e/\r a b c d e/\s a b c d e/\t a b c d e/\u a b c d e/\v a b c d e/\w a b c d e)(k:∀a b c d e,p a b c d e->q a b c d e->r a b c d e->s a b c d e->t a b c d e->u a b c d e->v a b c d e->w a b c d e->G):G:=h.elim λa h=>GI h (k a)
theorem GN{p q r s t:A->B->C->D->E->F->H->I->Prop}(h:∃a b c d e f g h,p a b c d e f g h/\q a b c d e f g h/\r a b c d e f g h/\s a b c d e f g h/\t a b c d e f g h)(k:∀a b c d e f g h,p a b c d e f g h->q a b c d e f g h->r a b c d e f g h->s a b c d e f g h->t a b c d e f g h->G):G:=h.elim λa h=>GJ h (k a)
theorem GO{p:A->B->C->D->E->F->H->I->J->K->L->M->Prop}(h:∃a b c d e f g h i j l m,p a b c d e f g h i j l m)(k:∀a b c d e f g h i j l m,p a b c d e f g h i j l m->G):G:=h.elim λa h=>GK h (k a)
theorem GP{p q r s t u v w x:A->B->C->D->E->Prop}(h:∃a b c d e,p a b c d e/\q a b c d e/\r a b c d e/\s a b c d e/\t a b c d e/\u a b c d e/\v a b c d e/\w a b c d e/\x a b c d e)(k:∀a b c d e,p a b c d e->q a b c d e->r a b c d e->s a b c d e->t a b c d e->u a b c d e->v a b c d e->w a b c d e->x a b c d e->G):G:=h.elim λa h=>GL h (k a)
theorem uY{p q r s t u v w:A->B->C->D->E->F->Prop}(h:∃a b c d e f,p a b c d e f/\q a b c d e f/\r a b c d e f/\s a b c d e f/\t a b c d e f/\u a b c d e f/\v a b c d e f/\w a b c d e f)(k:∀a b c d e f,p a b c d e f->q a b c d e f->r a b c d e f->s a b c d e f->t a b c d e f->u a b c d e f->v a b c d e f->w a b c d e f->G):G:=h.elim λa h=>GM h (k a)
theorem GQ{p q r s t:A->B->C->D->E->F->H->I->J->Prop}(h:∃a b c d e f g h i,p a b c d e f g h i/\q a b c d e f g h i/\r a b c d e f g h i/\s a b c d e f g h i/\t a b c d e f g h i)(k:∀a b c d e f g h i,p a b c d e f g h i->q a b c d e f g h i->r a b c d e f g h i->s a b c d e f g h i->t a b c d e f g h i->G):G:=h.elim λa h=>GN h (k a)
theorem ki{p:A->B->C->D->E->F->H->I->J->K->L->M->N->Prop}(h:∃a b c d e f g h i j l m n,p a b c d e f g h i j l m n)(k:∀a b c d e f g h i j l m n,p a b c d e f g h i j l m n->G):G:=h.elim λa h=>GO h (k a)
theorem GR{p q r s t u v w x:A->B->C->D->E->F->Prop}(h:∃a b c d e f,p a b c d e f/\q a b c d e f/\r a b c d e f/\s a b c d e f/\t a b c d e f/\u a b c d e f/\v a b c d e f/\w a b c d e f/\x a b c d e f)(k:∀a b c d e f,p a b c d e f->q a b c d e f->r a b c d e f->s a b c d e f->t a b c d e f->u a b c d e f->v a b c d e f->w a b c d e f->x a b c d e f->G):G:=h.elim λa h=>GP h (k a)
theorem GS{p q r s t u v w:A->B->C->D->E->F->H->Prop}(h:∃a b c d e f g,p a b c d e f g/\q a b c d e f g/\r a b c d e f g/\s a b c d e f g/\t a b c d e f g/\u a b c d e f g/\v a b c d e f g/\w a b c d e f g)(k:∀a b c d e f g,p a b c d e f g->q a b c d e f g->r a b c d e f g->s a b c d e f g->t a b c d e f g->u a b c d e f g->v a b c d e f g->w a b c d e f g->G):G:=h.elim λa h=>uY h (k a)
theorem zT{p q r s t:A->B->C->D->E->F->H->I->J->K->Prop}(h:∃a b c d e f g h i j,p a b c d e f g h i j/\q a b c d e f g h i j/\r a b c d e f g h i j/\s a b c d e f g h i j/\t a b c d e f g h i j)(k:∀a b c d e f g h i j,p a b c d e f g h i j->q a b c d e f g h i j->r a b c d e f g h i j->s a b c d e f g h i j->t a b c d e f g h i j->G):G:=h.elim λa h=>GQ h (k a)
theorem GT{p q r s t u v w x:A->B->C->D->E->F->H->Prop}(h:∃a b c d e f g,p a b c d e f g/\q a b c d e f g/\r a b c d e f g/\s a b c d e f g/\t a b c d e f g/\u a b c d e f g/\v a b c d e f g/\w a b c d e f g/\x a b c d e f g)(k:∀a b c d e f g,p a b c d e f g->q a b c d e f g->r a b c d e f g->s a b c d e f g->t a b c d e f g->u a b c d e f g->v a b c d e f g->w a b c d e f g->x a b c d e f g->G):G:=h.elim λa h=>GR h (k a)
theorem GU{p q r s t u v w:A->B->C->D->E->F->H->I->Prop}(h:∃a b c d e f g h,p a b c d e f g h/\q a b c d e f g h/\r a b c d e f g h/\s a b c d e f g h/\t a b c d e f g h/\u a b c d e f g h/\v a b c d e f g h/\w a b c d e f g h)(k:∀a b c d e f g h,p a b c d e f g h->q a b c d e f g h->r a b c d e f g h->s a b c d e f g h->t a b c d e f g h->u a b c d e f g h->v a b c d e f g h->w a b c d e f g h->G):G:=h.elim λa h=>GS h (k a)
theorem GV{p q r s t u v w x:A->B->C->D->E->F->H->I->Prop}(h:∃a b c d e f g h,p a b c d e f g h/\q a b c d e f g h/\r a b c d e f g h/\s a b c d e f g h/\t a b c d e f g h/\u a b c d e f g h/\v a b c d e f g h/\w a b c d e f g h/\x a b c d e f g h)(k:∀a b c d e f g h,p a b c d e f g h->q a b c d e f g h->r a b c d e f g h->s a b c d e f g h->t a b c d e f g h->u a b c d e f g h->v a b c d e f g h->w a b c d e f g h->x a b c d e f g h->G):G:=h.elim λa h=>GT h (k a)
theorem GW{p q r s t u v w:A->B->C->D->E->F->H->I->J->Prop}(h:∃a b c d e f g h i,p a b c d e f g h i/\q a b c d e f g h i/\r a b c d e f g h i/\s a b c d e f g h i/\t a b c d e f g h i/\u a b c d e f g h i/\v a b c d e f g h i/\w a b c d e f g h i)(k:∀a b c d e f g h i,p a b c d e f g h i->q a b c d e f g h i->r a b c d e f g h i->s a b c d e f g h i->t a b c d e f g h i->u a b c d e f g h i->v a b c d e f g h i->w a b c d e f g h i->G):G:=h.elim λa h=>GU h (k a)
end
inductive V where
 |none
 |bool (b:Bool)
 |int (i:Int)
 |str (s:List Nat)
 |ref (n:Nat)
 |gt (k:Nat)
deriving DecidableEq,Inhabited
inductive O where
 |list (xs:List V)
 |tup (xs:List V)
 |inst (c:Nat) (fs:List (Nat×V))
deriving Inhabited
noncomputable abbrev H:=List O
noncomputable abbrev Loc:=List (Option V)
noncomputable def lim:Nat:=1000000
inductive Op where
 |add|sub|mul|fdiv|mod|shr|band
inductive eA where
 |eq|ne|lt|le|gt|ge
set_option genCtorIdx false
set_option genSizeOf false
set_option genInjectivity false
mutual
inductive E where
 |loc (i:Nat)
 |lit (v:V)
 |neg (k:Int)
 |pow (a b:Nat)
 |glob (g:Nat)
 |tup (es:Es)
 |lst (es:Es)
 |bin (op:Op) (a b:E)
 |not (a:E)
 |cmp (op:eA) (a b:E)
 |fI (p q:eA) (a b c:E)
 |and (a b:E)
 |or (a b:E)
 |ite (c a b:E)
 |idx (a i:E)
 |g7 (a lo:E)
 |g9 (a hi:E)
 |eB (a lo hi:E)
 |rev (a:E)
 |attr (a:E) (f:Nat)
 |call (f:Nat) (es:Es)
 |new (c:Nat) (es:Es)
 |len (a:E)
 |ord (a:E)
 |strOf (a:E)
 |max2 (a b:E)
 |dm (a b:E)
 |listOf (a:E)
 |join (sep:List Nat) (a:E)
 |split (a:E)
 |replace (a:E) (x y:List Nat)
 |append (a b:E)
 |extend (a b:E)
 |pop (a:E)
 |dD (neg:Bool) (a b:E)
 |inD (a:E)
 |getD (a:E)
 |isNone (neg:Bool) (a:E)
 |comp (elt:E) (k:Nat) (src:E)
inductive Es where
 |nil
 |cons (e:E) (r:Es)
end
mutual
inductive S where
 |assign (i:Nat) (e:E)
 |unpack (is:List Nat) (e:E)
 |setattr (a:E) (f:Nat) (e:E)
 |jB (a i e:E)
 |aug (i:Nat) (op:Op) (e:E)
 |kj (a:E) (f:Nat) (op:Op) (e:E)
 |expr (e:E)
 |ite (c:E) (a b:Ss)
 |while (c:E) (b:Ss)
 |for (is:List Nat) (src:E) (b:Ss)
 |dX (i:Nat) (n:E) (b:Ss)
 |ret (e:E)
 |raise (at_:E)
 |ff (f:Nat) (es:Es)
 |dead
inductive Ss where
 |nil
 |cons (s:S) (r:Ss)
end
set_option genCtorIdx true
set_option genSizeOf true
set_option genInjectivity true
noncomputable def truthy:V->Option Bool
 | .bool b=>some b
 | .int i=>some (decide (i≠0))
 |_=>Option.none
noncomputable def binop:Op->V->V->Option V
 | .add,.int a,.int b=>some (.int (a+b))
 | .sub,.int a,.int b=>some (.int (a-b))
 | .mul,.int a,.int b=>if a.natAbs<2 ^ 60/\b.natAbs<2 ^ 60 then some (.int (a*b))else Option.none
 | .fdiv,.int a,.int b=>if 0<b then some (.int (a/b))else Option.none
 | .mod,.int a,.int b=>if 0<b then some (.int (a%b))else Option.none
 | .shr,.int a,.int b=>if 0<=a/\a<2 ^ 30/\0<=b/\b<30 then some (.int (a/2 ^ b.toNat))else Option.none
 | .band,.int a,.int b=>if 0<=a/\b=1 then some (.int (a%2))else Option.none
 | .add,.str a,.str b=>if a.length+b.length<=lim then some (.str (a++b))else Option.none
 | .mul,.str a,.int b=>if 0<=b/\b<=8/\a.length<=8 then some (.str (List.replicate b.toNat a).flatten)else Option.none
 |_,_,_=>Option.none
noncomputable def GX(op:eA)(a b:Int):Bool:=match op with
 | .eq=>decide (a=b)
 | .ne=>decide (a≠b)
 | .lt=>decide (a<b)
 | .le=>decide (a<=b)
 | .gt=>decide (a>b)
 | .ge=>decide (a≥b)
inductive D0 where
 |none
 |int (i:Int)
 |str (s:List Nat)
deriving DecidableEq,Inhabited
inductive D where
 |flat (d:D0)
 |tup (l:List D0)
deriving DecidableEq,Inhabited
noncomputable def cE(s:List Nat):Bool:=s.all λc=>decide (c<1114112)
noncomputable def jC:V->Option D0
 | .none=>some .none
 | .int i=>some (.int i)
 | .str s=>if cE s then some (.str s)else Option.none
 |_=>Option.none
noncomputable def mQ:List V->Option (List D0)
 | []=>some []
 |v::r=>match jC v,mQ r with
  |some d,some ds=>some (d::ds)
  |_,_=>Option.none
noncomputable def eF(h:H):V->Option D
 | .ref n=>match h[n]? with
  |some (.tup xs)=>(mQ xs).map D.tup
  |_=>Option.none
 |v=>(jC v).map D.flat
noncomputable def fg(h:H):List V->Option (List D)
 | []=>some []
 |v::r=>match eF h v,fg h r with
  |some d,some ds=>some (d::ds)
  |_,_=>Option.none
noncomputable def listAt(h:H):V->Option (List V)
 | .ref n=>match h[n]? with
  |some (.list xs)=>some xs
  |_=>Option.none
 |_=>Option.none
noncomputable def f9(h:H)(xs ys:List V):Option Bool:=
 if xs.length≠ys.length then some false
 else if xs.length=0 then some true
 else match fg h xs,fg h ys with
  |some d,some e=>some (decide (d=e))
  |_,_=>Option.none
noncomputable def km(h:H):V->V->Option Bool
 | .int i,.int j=>some (decide (i=j))
 | .str x,.str y=>some (decide (x=y))
 | .ref m,.ref n=>match listAt h (.ref m),listAt h (.ref n)with
  |some xs,some ys=>f9 h xs ys
  |_,_=>Option.none
 |_,_=>Option.none
noncomputable def bX(h:H)(op:eA)(a b:V):Option Bool:=match op with
 | .eq=>km h a b
 | .ne=>(km h a b).map (!·)
 |op=>match op,a,b with
  |op,.int i,.int j=>some (GX op i j)
  | .le,.str [c],.str [d]=>some (decide (c<=d))
  |_,_,_=>Option.none
noncomputable def uZ(s:String):List Nat:=s.toList.map Char.toNat
noncomputable def gc{α:Type}(xs:List α)(i:Int):Option α:=
 if 0<=i then xs[i.toNat]? else if 0<=i+xs.length then xs[(i+xs.length).toNat]? else Option.none
noncomputable def gf(x:Int)(n:Nat):Nat:=if x<0 then (x+n).toNat else min x.toNat n
noncomputable def bh{α:Type}(lo hi:Option Int)(xs:List α):List α:=
 let a:=match lo with|some x=>gf x xs.length|Option.none=>0
 let b:=match hi with|some x=>gf x xs.length|Option.none=>xs.length
 (xs.take b).drop a
noncomputable def aG(sep:List Nat):List (List Nat)->List Nat
 | []=>[]
 | [x]=>x
 |x::y::r=>x++sep++aG sep (y::r)
noncomputable def bH(c:Nat)(acc:List Nat):List Nat->List (List Nat)
 | []=>[acc.reverse]
 |d::r=>if d=c then acc.reverse::bH c [] r else bH c (d::acc) r
noncomputable def cS(c:Nat)(y:List Nat):List Nat->List Nat
 | []=>[]
 |d::r=>(if d=c then y else [d])++cS c y r
noncomputable def cG(n:Nat):List Nat:=uZ (toString n)
noncomputable def dE:List V->Option (List (List Nat))
 | []=>some []
 | .str s::r=>(dE r).map (s:: ·)
 |_::_=>Option.none
noncomputable def gh(fs:List (Nat×V))(f:Nat)(v:V):List (Nat×V):=match fs with
 | []=>[(f,v)]
 | (g,x)::r=>if g=f then (g,v)::r else (g,x)::gh r f v
noncomputable def bj(fs:List (Nat×V))(f:Nat):Option V:=match fs with
 | []=>Option.none
 | (g,x)::r=>if g=f then some x else bj r f
noncomputable def cg(ρ:Loc)(i:Nat):Option V:=match ρ[i]? with|some (some v)=>some v|_=>Option.none
noncomputable def bE(ρ:Loc)(i:Nat)(v:V):Loc:=ρ.set i (some v)
noncomputable def dF(ρ:Loc):List Nat->List V->Loc
 |i::is,v::vs=>dF (bE ρ i v) is vs
 |_,_=>ρ
structure Top where
 glob:Nat->V
 gt:Nat->List (List Nat)
 single:List (Nat×Int)
 init:Nat->Nat
noncomputable def gi(T:Top)(h:H):V->Option (List V)
 | .ref n=>match h[n]? with
  |some (.list xs)=>some xs
  |some (.tup xs)=>some xs
  |_=>Option.none
 | .gt k=>some ((T.gt k).map V.str)
 |_=>Option.none
noncomputable def fJ(h:H):V->Option (List V)
 | .ref n=>match h[n]? with
  |some (.tup xs)=>some xs
  |_=>Option.none
 |_=>Option.none
noncomputable def b6(h:H):V->Option (Nat×Nat×List (Nat×V))
 | .ref n=>match h[n]? with
  |some (.inst c fs)=>if c<3/\fs.length<=20 then some (n,c,fs)else Option.none
  |_=>Option.none
 |_=>Option.none
noncomputable def cq(T:Top)(h:H)(a i:V):Option V:=match i with
 | .int k=>if k.natAbs<=lim then (match a with
  | .str s=>(gc s k).map λc=> .str [c]
  |a=>(gi T h a).bind λxs=>gc xs k)else Option.none
 |_=>Option.none
noncomputable def kr(T:Top)(h:H):V->Option Int
 | .str s=>some s.length
 |a=>(gi T h a).map λxs=>(xs.length:Int)
noncomputable def mR(T:Top):V->V->Option Bool
 | .str [c],.str y=>some (decide (c∈y))
 | .str x,.gt k=>some ((T.gt k).contains x)
 |_,_=>Option.none
noncomputable abbrev Post:=V->H->Prop
noncomputable abbrev ay:=Nat->Nat->List V->H->Post->Post->Prop
noncomputable def bot:Post:=λ_ _=>False
noncomputable def sliceTo(lo hi:Option Int)(h:H)(v:V)(Q:Post):Prop:=match v with
 | .str s=>s.length<=lim/\Q (.str (bh lo hi s)) h
 |v=>match listAt h v with
  |some xs=>xs.length<=lim/\Q (.ref h.length) (h++[.list (bh lo hi xs)])
  |Option.none=>False
noncomputable def gj(turn:V->H->Post->Prop)(n:Nat)(Q:List V->H->Prop):Nat->Nat->List V->H->Prop
 | 0,_,_,_=>False
 |k+1,i,acc,h=>match h[n]? with
  |some (.list xs)=>match xs[i]? with
   |some v=>turn v h λr h'=>acc.length<lim/\gj turn n Q k (i+1) (acc++[r]) h'
   |Option.none=>Q acc h
  |_=>False
noncomputable def dY(h:H)(k:Nat)(v:V):Option (List V):=if k=1 then some [v]else (fJ h v).bind λxs=>if xs.length=k then some xs else Option.none
mutual
noncomputable def aj(T:Top)(Γ:ay)(n:Nat):E->Loc->H->Post->Prop
 | .loc i,ρ,h,Q=>match cg ρ i with|some v=>Q v h|Option.none=>False
 | .lit v,_,h,Q=>Q v h
 | .neg k,_,h,Q=>Q (.int (-k)) h
 | .pow a b,_,h,Q=>Q (.int ((a ^ b:Nat):Int)) h
 | .glob g,_,h,Q=>Q (T.glob g) h
 | .tup es,ρ,h,Q=>cH T Γ n es ρ h λvs h=>Q (.ref h.length) (h++[.tup vs])
 | .lst es,ρ,h,Q=>cH T Γ n es ρ h λvs h=>Q (.ref h.length) (h++[.list vs])
 | .bin op a b,ρ,h,Q=>aj T Γ n a ρ h λx h=>aj T Γ n b ρ h λy h=>match binop op x y with|some v=>Q v h|Option.none=>False
 | .not a,ρ,h,Q=>aj T Γ n a ρ h λx h=>match truthy x with|some t=>Q (.bool !t) h|Option.none=>False
 | .cmp op a b,ρ,h,Q=>aj T Γ n a ρ h λx h=>aj T Γ n b ρ h λy h=>match bX h op x y with|some t=>Q (.bool t) h|Option.none=>False
 | .fI p q a b c,ρ,h,Q=>aj T Γ n a ρ h λx h=>aj T Γ n b ρ h λy h=>match bX h p x y with
  |some true=>aj T Γ n c ρ h λz h=>match bX h q y z with|some t=>Q (.bool t) h|Option.none=>False
  |some false=>Q (.bool false) h
  |Option.none=>False
 | .and a b,ρ,h,Q=>aj T Γ n a ρ h λx h=>match truthy x with|some true=>aj T Γ n b ρ h Q|some false=>Q x h|Option.none=>False
 | .or a b,ρ,h,Q=>aj T Γ n a ρ h λx h=>match truthy x with|some true=>Q x h|some false=>aj T Γ n b ρ h Q|Option.none=>False
 | .ite c a b,ρ,h,Q=>aj T Γ n c ρ h λx h=>match truthy x with|some true=>aj T Γ n a ρ h Q|some false=>aj T Γ n b ρ h Q|Option.none=>False
 | .idx a i,ρ,h,Q=>aj T Γ n a ρ h λx h=>aj T Γ n i ρ h λy h=>match cq T h x y with|some v=>Q v h|Option.none=>False
 | .g7 a lo,ρ,h,Q=>aj T Γ n a ρ h λx h=>aj T Γ n lo ρ h λy h=>match y with| .int i=>sliceTo (some i) Option.none h x Q|_=>False
 | .g9 a hi,ρ,h,Q=>aj T Γ n a ρ h λx h=>aj T Γ n hi ρ h λy h=>match y with| .int i=>sliceTo Option.none (some i) h x Q|_=>False
 | .eB a lo hi,ρ,h,Q=>aj T Γ n a ρ h λx h=>aj T Γ n lo ρ h λy h=>aj T Γ n hi ρ h λz h=>match y,z with| .int i,.int j=>sliceTo (some i) (some j) h x Q|_,_=>False
 | .rev a,ρ,h,Q=>aj T Γ n a ρ h λx h=>match listAt h x with|some xs=>xs.length<=lim/\Q (.ref h.length) (h++[.list xs.reverse])|Option.none=>False
 | .attr a f,ρ,h,Q=>aj T Γ n a ρ h λx h=>match b6 h x with|some (_,_,fs)=>(match bj fs f with|some v=>Q v h|Option.none=>False)|Option.none=>False
 | .call f es,ρ,h,Q=>cH T Γ n es ρ h λvs h=>match n with| 0=>False|m+1=>Γ m f vs h Q bot
 | .new c es,ρ,h,Q=>cH T Γ n es ρ h λvs h=>match n with| 0=>False|m+1=>Γ m (T.init c) (.ref h.length::vs) (h++[.inst c []]) (λv h'=>v= .none/\Q (.ref h.length) h') bot
 | .len a,ρ,h,Q=>aj T Γ n a ρ h λx h=>match kr T h x with|some k=>k<=lim/\Q (.int k) h|Option.none=>False
 | .ord a,ρ,h,Q=>aj T Γ n a ρ h λx h=>match x with| .str [c]=>Q (.int c) h|_=>False
 | .strOf a,ρ,h,Q=>aj T Γ n a ρ h λx h=>match x with| .int i=>0<=i/\i<2 ^ 30/\Q (.str (cG i.toNat)) h|_=>False
 | .max2 a b,ρ,h,Q=>aj T Γ n a ρ h λx h=>aj T Γ n b ρ h λy h=>match x,y with| .int i,.int j=>Q (.int (max i j)) h|_,_=>False
 | .dm a b,ρ,h,Q=>aj T Γ n a ρ h λx h=>aj T Γ n b ρ h λy h=>match x,y with| .int i,.int j=>0<j/\Q (.ref h.length) (h++[.tup [.int (i/j),.int (i%j)]])|_,_=>False
 | .listOf a,ρ,h,Q=>aj T Γ n a ρ h λx h=>match listAt h x with|some xs=>xs.length<=lim/\Q (.ref h.length) (h++[.list xs])|Option.none=>False
 | .join sep a,ρ,h,Q=>aj T Γ n a ρ h λx h=>match (listAt h x).bind dE with|some ss=>ss.length<=lim/\(aG sep ss).length<=lim/\Q (.str (aG sep ss)) h|Option.none=>False
 | .split a,ρ,h,Q=>aj T Γ n a ρ h λx h=>match x with| .str s=>s.length<=lim/\Q (.ref h.length) (h++[.list ((bH 32 [] s).map V.str)])|_=>False
 | .replace a x y,ρ,h,Q=>aj T Γ n a ρ h λv h=>match v,x with| .str s,[c]=>(cS c y s).length<=lim/\s.length<=lim/\Q (.str (cS c y s)) h|_,_=>False
 | .append a b,ρ,h,Q=>aj T Γ n a ρ h λx h=>match listAt h x with
  |some _=>aj T Γ n b ρ h λy h=>(match x,listAt h x with| .ref m,some xs=>xs.length<lim/\Q .none (h.set m (.list (xs++[y])))|_,_=>False)
  |Option.none=>False
 | .extend a b,ρ,h,Q=>aj T Γ n a ρ h λx h=>match listAt h x with
  |some _=>aj T Γ n b ρ h λy h=>(match x,listAt h x,listAt h y with| .ref m,some xs,some ys=>xs.length+ys.length<=lim/\x≠y/\Q .none (h.set m (.list (xs++ys)))|_,_,_=>False)
  |Option.none=>False
 | .pop a,ρ,h,Q=>aj T Γ n a ρ h λx h=>match x,listAt h x with| .ref m,some xs=>(match xs.getLast? with|some v=>xs.length<=lim/\Q v (h.set m (.list xs.dropLast))|Option.none=>False)|_,_=>False
 | .dD neg a b,ρ,h,Q=>aj T Γ n a ρ h λx h=>aj T Γ n b ρ h λy h=>match mR T x y with|some t=>Q (.bool (if neg then !t else t)) h|Option.none=>False
 | .inD a,ρ,h,Q=>aj T Γ n a ρ h λx h=>match x with| .str [c]=>Q (.bool (T.single.lookup c).isSome) h|_=>False
 | .getD a,ρ,h,Q=>aj T Γ n a ρ h λx h=>match x with| .str [c]=>(match T.single.lookup c with|some k=>Q (.int k) h|Option.none=>False)|_=>False
 | .isNone neg a,ρ,h,Q=>aj T Γ n a ρ h λx h=>Q (.bool (if neg then !decide (x=V.none)else decide (x=V.none))) h
 | .comp elt k src,ρ,h,Q=>aj T Γ n src ρ h λx h=>match x with
  | .ref m=>∃fuel,gj (λv h' Q'=>match dY h' k v with|some vs=>aj T Γ n elt (vs.map some) h' Q'|Option.none=>False) m (λvs h'=>Q (.ref h'.length) (h'++[.list vs])) fuel 0 [] h
  |_=>False
noncomputable def cH(T:Top)(Γ:ay)(n:Nat):Es->Loc->H->(List V->H->Prop)->Prop
 | .nil,_,h,Q=>Q [] h
 | .cons e r,ρ,h,Q=>aj T Γ n e ρ h λv h=>cH T Γ n r ρ h λvs h=>Q (v::vs) h
end
section
variable{T:Top}{Γ:ay}{n:Nat}{ρ:Loc}{h:H}{Q:Post}
theorem GY{i:Nat}:aj T Γ n (.loc i) ρ h Q=(match cg ρ i with|some v=>Q v h|Option.none=>False):=rfl
theorem GZ{a b:E}:aj T Γ n (.and a b) ρ h Q=(aj T Γ n a ρ h λx h=>match truthy x with|some true=>aj T Γ n b ρ h Q|some false=>Q x h|Option.none=>False):=rfl
theorem G0{a b:E}:aj T Γ n (.or a b) ρ h Q=(aj T Γ n a ρ h λx h=>match truthy x with|some true=>Q x h|some false=>aj T Γ n b ρ h Q|Option.none=>False):=rfl
end
structure PS where
 N:Loc->H->Prop
 R:V->H->Prop
 X:V->H->Prop
noncomputable def gp(test:Loc->H->Post->Prop)(body:Loc->H->(Loc->H->Prop)->Prop)(N:Loc->H->Prop):Nat->Loc->H->Prop
 | 0,_,_=>False
 |k+1,ρ,h=>test ρ h λv h=>match truthy v with
  |some true=>body ρ h (gp test body N k)
  |some false=>N ρ h
  |Option.none=>False
noncomputable def gq(body:V->Loc->H->(Loc->H->Prop)->Prop)(n:Nat)(N:Loc->H->Prop):Nat->Nat->Loc->H->Prop
 | 0,_,_,_=>False
 |k+1,i,ρ,h=>match h[n]? with
  |some (.list xs)=>(match xs[i]? with
   |some v=>body v ρ h (gq body n N k (i+1))
   |Option.none=>N ρ h)
  |_=>False
noncomputable def gr(body:V->Loc->H->(Loc->H->Prop)->Prop)(N:Loc->H->Prop):List V->Loc->H->Prop
 | [],ρ,h=>N ρ h
 |v::r,ρ,h=>body v ρ h (gr body N r)
noncomputable def lD(T:Top)(body:V->Loc->H->(Loc->H->Prop)->Prop)(v:V)(N:Loc->H->Prop)(ρ:Loc)(h:H):Prop:=match v with
 | .str s=>gr body N (s.map λc=>V.str [c]) ρ h
 | .ref n=>match h[n]? with
  |some (.list _)=>∃k,gq body n N k 0 ρ h
  |_=>False
 |_=>False
mutual
noncomputable def wpS(T:Top)(Γ:ay)(n:Nat):S->Loc->H->PS->Prop
 | .assign i e,ρ,h,P=>aj T Γ n e ρ h λv h=>P.N (bE ρ i v) h
 | .unpack is e,ρ,h,P=>aj T Γ n e ρ h λv h=>match fJ h v with
  |some vs=>vs.length=is.length/\P.N (dF ρ is vs) h
  |Option.none=>False
 | .setattr a f e,ρ,h,P=>aj T Γ n e ρ h λv h=>aj T Γ n a ρ h λx h=>match b6 h x with
  |some (m,c,fs)=>P.N ρ (h.set m (.inst c (gh fs f v)))
  |Option.none=>False
 | .jB a i e,ρ,h,P=>aj T Γ n e ρ h λv h=>aj T Γ n a ρ h λx h=>aj T Γ n i ρ h λy h=>match x,listAt h x,y with
  | .ref m,some xs,.int k=>let j:=if 0<=k then k else k+xs.length
   0<=j/\j<xs.length/\xs.length<=lim/\P.N ρ (h.set m (.list (xs.set j.toNat v)))
  |_,_,_=>False
 | .aug i op e,ρ,h,P=>match cg ρ i with
  |some x=>aj T Γ n e ρ h λv h=>(match binop op x v with|some r=>P.N (bE ρ i r) h|Option.none=>False)
  |Option.none=>False
 | .kj a f op e,ρ,h,P=>aj T Γ n a ρ h λx h=>match b6 h x with
  |some (_,_,fs)=>(match bj fs f with
   |some o=>aj T Γ n e ρ h λv h=>(match binop op o v,b6 h x with
    |some r,some (m,c,fs)=>P.N ρ (h.set m (.inst c (gh fs f r)))
    |_,_=>False)
   |Option.none=>False)
  |Option.none=>False
 | .expr e,ρ,h,P=>aj T Γ n e ρ h λv h=>v= .none/\P.N ρ h
 | .ite c a b,ρ,h,P=>aj T Γ n c ρ h λv h=>match truthy v with|some true=>ag T Γ n a ρ h P|some false=>ag T Γ n b ρ h P|Option.none=>False
 | .while c b,ρ,h,P=>∃k,gp (aj T Γ n c) (λρ h N=>ag T Γ n b ρ h {P with N:=N}) P.N k ρ h
 | .for is src b,ρ,h,P=>aj T Γ n src ρ h λv h=>
   lD T (λx ρ h N=>match dY h is.length x with|some vs=>ag T Γ n b (dF ρ is vs) h ⟨N,P.R,bot⟩|Option.none=>False) v P.N ρ h
 | .dX i e b,ρ,h,P=>aj T Γ n e ρ h λv h=>match v with
  | .int k=>0<=k/\k<=lim/\gr (λx ρ h N=>ag T Γ n b (bE ρ i x) h ⟨N,P.R,bot⟩) P.N ((List.range k.toNat).map λj=>V.int (Int.ofNat j)) ρ h
  |_=>False
 | .ret e,ρ,h,P=>aj T Γ n e ρ h λv h=>P.R v h
 | .raise e,ρ,h,P=>aj T Γ n e ρ h λv h=>P.X v h
 | .ff f es,ρ,h,P=>cH T Γ n es ρ h λvs h=>match n with| 0=>False|m+1=>Γ m f vs h (λ_ h=>P.R (.bool false) h) (λv h=>v= .int (-1)/\P.N ρ h)
 | .dead,_,_,_=>False
noncomputable def ag(T:Top)(Γ:ay)(n:Nat):Ss->Loc->H->PS->Prop
 | .nil,ρ,h,P=>P.N ρ h
 | .cons s r,ρ,h,P=>wpS T Γ n s ρ h {P with N:=λρ h=>ag T Γ n r ρ h P}
end
section
variable{T:Top}{Γ:ay}{n:Nat}{ρ:Loc}{h:H}{P:PS}
theorem G1{i:Nat}{e:E}:wpS T Γ n (.assign i e) ρ h P=aj T Γ n e ρ h λv h=>P.N (bE ρ i v) h:=rfl
theorem G2{i:Nat}{op:Op}{e:E}:wpS T Γ n (.aug i op e) ρ h P=match cg ρ i with
 |some x=>aj T Γ n e ρ h λv h=>(match binop op x v with|some r=>P.N (bE ρ i r) h|Option.none=>False)
 |Option.none=>False:=rfl
end
theorem zU{o:Option V}{F:V->Prop}(q:match (generalizing:=false) o with|some v=>F v|none=>False):∃v,o=some v/\F v:=by rcases o with _|v;exact q.elim;exact⟨v,rfl,q⟩
theorem rD{o:Option (List V)}{F:List V->Prop}(q:match (generalizing:=false) o with|some v=>F v|none=>False):∃v,o=some v/\F v:=by rcases o with _|v;exact q.elim;exact⟨v,rfl,q⟩
theorem pg{o:Option Bool}{F:Bool->Prop}(q:match (generalizing:=false) o with|some v=>F v|none=>False):∃v,o=some v/\F v:=by rcases o with _|v;exact q.elim;exact⟨v,rfl,q⟩
theorem zV{x:V}{F:Int->Prop}(q:match (generalizing:=false) x with| .int i=>F i|_=>False):∃i,x= .int i/\F i:=by rcases x with⟨⟩<;>first|exact⟨_,rfl,q⟩|exact q.elim
theorem G3{x:V}{F:List Nat->Prop}(q:match (generalizing:=false) x with| .str i=>F i|_=>False):∃i,x= .str i/\F i:=by rcases x with⟨⟩<;>first|exact⟨_,rfl,q⟩|exact q.elim
theorem u0{x:V}{F:Nat->Prop}(q:match (generalizing:=false) x with| .str [c]=>F c|_=>False):∃c,x= .str [c]/\F c:=by
 rcases x with⟨⟩<;>try exact q.elim
 rename_i l;rcases l with _| ⟨c,_| ⟨_,_⟩⟩<;>first|exact q.elim|exact⟨_,rfl,q⟩
theorem zW{x y:V}{F:Int->Int->Prop}(q:match (generalizing:=false) x,y with| .int i,.int j=>F i j|_,_=>False):∃i j,x= .int i/\y= .int j/\F i j:=by
 rcases x with⟨⟩<;>try exact q.elim
 rcases y with⟨⟩<;>first|exact⟨_,_,rfl,rfl,q⟩|exact q.elim
theorem G4{x:V}{o:List Nat}{F:List Nat->Nat->Prop}(q:match (generalizing:=false) x,o with| .str i,[j]=>F i j|_,_=>False):∃i j,x= .str i/\o=[j]/\F i j:=by
 rcases x with⟨⟩<;>try exact q.elim
 rcases o with _| ⟨c,_| ⟨_,_⟩⟩<;>first|exact q.elim|exact⟨_,_,rfl,rfl,q⟩
theorem G5{o:Option V}{x:Option (Nat×Nat×List (Nat×V))}{F:V->Nat->Nat->List (Nat×V)->Prop}(q:match (generalizing:=false) o,x with|some v,some (a,b,c)=>F v a b c|_,_=>False):∃v a b c,o=some v/\x=some (a,b,c)/\F v a b c:=by
 rcases o with _|v<;>try exact q.elim
 rcases x with _| ⟨a,b,c⟩<;>first|exact q.elim|exact⟨_,_,_,_,rfl,rfl,q⟩
theorem rE{o:Option O}{F:List V->Prop}(q:match (generalizing:=false) o with|some (.list xs)=>F xs|_=>False):∃xs,o=some (.list xs)/\F xs:=by
 rcases o with _| ⟨_|_|_⟩<;>first|exact q.elim|exact⟨_,rfl,q⟩
structure Fn where
 params:Nat
 slots:Nat
 body:Ss
noncomputable def frame(f:Fn)(vs:List V):Loc:=vs.map some++List.replicate (f.slots-f.params) Option.none
noncomputable def u3(T:Top)(Γ:ay)(n:Nat)(f:Fn)(vs:List V)(h:H)(Q X:Post):Prop:=
 vs.length=f.params/\ag T Γ n f.body (frame f vs) h ⟨λ_ h=>Q .none h,Q,X⟩
structure G6(T:Top)(fns:Nat->Option Fn)(Γ:ay):Prop where
 intro:∀{n f F vs h Q X},fns f=some F->u3 T Γ n F vs h Q X->Γ n f vs h Q X
 mono:∀{n f vs h} {Q Q' X X':Post},(∀v h,Q v h->Q' v h)->(∀v h,X v h->X' v h)->Γ n f vs h Q X->Γ n f vs h Q' X'
end Mine
namespace Mine
noncomputable def G7:Fn:=⟨3,3,(.cons (.setattr (.loc 0) 7 (.loc 1))
 (.cons (.setattr (.loc 0) 6 (.loc 2))
 (.cons (.setattr (.loc 0) 5 (.lit (.str [])))
 (.cons (.setattr (.loc 0) 4 (.neg 1))
 (.cons (.setattr (.loc 0) 3 (.lst .nil))
 (.cons (.setattr (.loc 0) 2 (.lst .nil))
 (.cons (.setattr (.loc 0) 1 (.lst .nil))
 (.cons (.setattr (.loc 0) 0 (.lst .nil))
 .nil))))))))⟩
noncomputable def G8:Fn:=⟨3,4,(.cons (.assign 3 (.new 0 (.cons (.loc 1) (.cons (.loc 0) .nil))))
 (.cons (.setattr (.loc 3) 5 (.loc 2))
 (.cons (.expr (.append (.attr (.loc 0) 3) (.loc 3)))
 (.cons (.ret (.loc 3))
 .nil))))⟩
noncomputable def G9:Fn:=⟨0,0,(.cons (.ret (.new 0 (.cons (.glob 0) (.cons (.lit .none) .nil))))
 .nil)⟩
noncomputable def Ha:Fn:=⟨1,1,(.cons (.ret (.dD false (.loc 0) (.lit (.str [32,9,10,13,11,12]))))
 .nil)⟩
noncomputable def Hb:Fn:=⟨1,1,(.cons (.ret (.or (.cmp .lt (.ord (.loc 0)) (.lit (.int 32))) (.cmp .eq (.ord (.loc 0)) (.lit (.int 127)))))
 .nil)⟩
noncomputable def Hc:Fn:=⟨1,1,(.cons (.ret (.fI .le .le (.lit (.str [48])) (.loc 0) (.lit (.str [57]))))
 .nil)⟩
noncomputable def Hd:Fn:=⟨1,1,(.cons (.ret (.or (.fI .le .le (.lit (.str [97])) (.loc 0) (.lit (.str [122]))) (.fI .le .le (.lit (.str [65])) (.loc 0) (.lit (.str [90])))))
 .nil)⟩
noncomputable def He:Fn:=⟨1,1,(.cons (.ret (.or (.call 6 (.cons (.loc 0) .nil)) (.or (.call 5 (.cons (.loc 0) .nil)) (.dD false (.loc 0) (.lit (.str [95,43,35,61,58,45,47]))))))
 .nil)⟩
noncomputable def Hf:Fn:=⟨1,2,(.cons (.for [1] (.loc 0) (.cons (.ite (.not (.or (.call 6 (.cons (.loc 1) .nil)) (.or (.call 5 (.cons (.loc 1) .nil)) (.cmp .eq (.loc 1) (.lit (.str [95])))))) (.cons (.ret (.lit (.bool false)))
 .nil) .nil)
 .nil))
 (.cons (.ret (.and (.fI .lt .le (.lit (.int 0)) (.len (.loc 0)) (.glob 15)) (.call 6 (.cons (.idx (.loc 0) (.lit (.int 0))) .nil))))
 .nil))⟩
noncomputable def Hg:Fn:=⟨2,2,(.cons (.while (.and (.cmp .lt (.loc 1) (.len (.loc 0))) (.call 5 (.cons (.idx (.loc 0) (.loc 1)) .nil))) (.cons (.aug 1 .add (.lit (.int 1)))
 .nil))
 (.cons (.ret (.loc 1))
 .nil))⟩
noncomputable def Hh:Fn:=⟨2,2,(.cons (.while (.and (.cmp .lt (.loc 1) (.len (.loc 0))) (.call 7 (.cons (.idx (.loc 0) (.loc 1)) .nil))) (.cons (.aug 1 .add (.lit (.int 1)))
 .nil))
 (.cons (.ret (.loc 1))
 .nil))⟩
noncomputable def Hi:Fn:=⟨2,2,(.cons (.while (.and (.cmp .lt (.loc 1) (.len (.loc 0))) (.dD true (.idx (.loc 0) (.loc 1)) (.lit (.str [10,13])))) (.cons (.aug 1 .add (.lit (.int 1)))
 .nil))
 (.cons (.ret (.loc 1))
 .nil))⟩
noncomputable def Hj:Fn:=⟨2,2,(.cons (.while (.cmp .lt (.loc 1) (.len (.loc 0))) (.cons (.ite (.and (.cmp .eq (.idx (.loc 0) (.loc 1)) (.lit (.str [37]))) (.or (.cmp .eq (.loc 1) (.lit (.int 0))) (.dD false (.idx (.loc 0) (.bin .sub (.loc 1) (.lit (.int 1)))) (.lit (.str [10,13]))))) (.cons (.assign 1 (.call 11 (.cons (.loc 0) (.cons (.loc 1) .nil))))
 .nil) (.cons (.ite (.call 3 (.cons (.idx (.loc 0) (.loc 1)) .nil)) (.cons (.aug 1 .add (.lit (.int 1)))
 .nil) (.cons (.ret (.loc 1))
 .nil))
 .nil))
 .nil))
 (.cons (.ret (.loc 1))
 .nil))⟩
noncomputable def Hk:Fn:=⟨1,3,(.cons (.assign 1 (.lit (.int 0)))
 (.cons (.for [2] (.loc 0) (.cons (.assign 1 (.bin .sub (.bin .add (.bin .mul (.loc 1) (.lit (.int 10))) (.ord (.loc 2))) (.lit (.int 48))))
 .nil))
 (.cons (.ret (.loc 1))
 .nil)))⟩
noncomputable def Hl:Fn:=⟨1,4,(.cons (.assign 1 (.lst .nil))
 (.cons (.assign 2 (.lit (.int 0)))
 (.cons (.dX 3 (.bin .add (.len (.loc 0)) (.lit (.int 1))) (.cons (.ite (.or (.cmp .eq (.loc 3) (.len (.loc 0))) (.call 3 (.cons (.idx (.loc 0) (.loc 3)) .nil))) (.cons (.ite (.cmp .lt (.loc 2) (.loc 3)) (.cons (.expr (.append (.loc 1) (.eB (.loc 0) (.loc 2) (.loc 3))))
 .nil) .nil)
 (.cons (.assign 2 (.bin .add (.loc 3) (.lit (.int 1))))
 .nil)) .nil)
 .nil))
 (.cons (.ret (.loc 1))
 .nil))))⟩
noncomputable def Hm:Fn:=⟨2,5,(.cons (.assign 2 (.lst .nil))
 (.cons (.assign 3 (.bin .add (.loc 1) (.lit (.int 1))))
 (.cons (.while (.cmp .lt (.loc 3) (.len (.loc 0))) (.cons (.assign 4 (.idx (.loc 0) (.loc 3)))
 (.cons (.ite (.cmp .eq (.loc 4) (.lit (.str [34]))) (.cons (.ite (.cmp .gt (.len (.loc 2)) (.glob 15)) (.cons .dead
 .nil) .nil)
 (.cons (.ret (.tup (.cons (.join [] (.loc 2)) (.cons (.bin .add (.loc 3) (.lit (.int 1))) .nil))))
 .nil)) .nil)
 (.cons (.ite (.cmp .eq (.loc 4) (.lit (.str [92]))) (.cons (.aug 3 .add (.lit (.int 1)))
 (.cons (.ite (.or (.cmp .eq (.loc 3) (.len (.loc 0))) (.dD true (.idx (.loc 0) (.loc 3)) (.lit (.str [34,92])))) (.cons .dead
 .nil) .nil)
 (.cons (.assign 4 (.idx (.loc 0) (.loc 3)))
 .nil))) (.cons (.ite (.call 4 (.cons (.loc 4) .nil)) (.cons .dead
 .nil) .nil)
 .nil))
 (.cons (.expr (.append (.loc 2) (.loc 4)))
 (.cons (.aug 3 .add (.lit (.int 1)))
 .nil))))))
 (.cons .dead
 .nil))))⟩
noncomputable def Hn:Fn:=⟨2,3,(.cons (.assign 2 (.loc 1))
 (.cons (.while (.and (.cmp .lt (.loc 2) (.len (.loc 0))) (.cmp .ne (.idx (.loc 0) (.loc 2)) (.lit (.str [125])))) (.cons (.aug 2 .add (.lit (.int 1)))
 .nil))
 (.cons (.ite (.cmp .eq (.loc 2) (.len (.loc 0))) (.cons .dead
 .nil) .nil)
 (.cons (.ret (.tup (.cons (.join [32] (.call 14 (.cons (.eB (.loc 0) (.bin .add (.loc 1) (.lit (.int 1))) (.loc 2)) .nil))) (.cons (.bin .add (.loc 2) (.lit (.int 1))) .nil))))
 .nil))))⟩
noncomputable def Ho:Fn:=⟨2,4,(.cons (.assign 2 (.call 9 (.cons (.loc 0) (.cons (.bin .add (.loc 1) (.lit (.int 1))) .nil))))
 (.cons (.ite (.cmp .eq (.loc 2) (.bin .add (.loc 1) (.lit (.int 1)))) (.cons .dead
 .nil) .nil)
 (.cons (.assign 3 (.call 13 (.cons (.eB (.loc 0) (.bin .add (.loc 1) (.lit (.int 1))) (.loc 2)) .nil)))
 (.cons (.ite (.cmp .gt (.loc 3) (.glob 16)) (.cons .dead
 .nil) .nil)
 (.cons (.ret (.tup (.cons (.loc 3) (.cons (.loc 2) .nil))))
 .nil)))))⟩
noncomputable def Hp:Fn:=⟨2,4,(.cons (.assign 2 (.call 10 (.cons (.loc 0) (.cons (.loc 1) .nil))))
 (.cons (.assign 3 (.eB (.loc 0) (.loc 1) (.loc 2)))
 (.cons (.ite (.cmp .gt (.len (.loc 3)) (.glob 15)) (.cons .dead
 .nil) .nil)
 (.cons (.ite (.dD false (.loc 3) (.glob 13)) (.cons (.ret (.tup (.cons (.glob 12) (.cons (.loc 3) (.cons (.loc 2) .nil)))))
 .nil) .nil)
 (.cons (.ite (.cmp .eq (.call 9 (.cons (.loc 0) (.cons (.loc 1) .nil))) (.loc 2)) (.cons (.ret (.tup (.cons (.glob 5) (.cons (.call 13 (.cons (.loc 3) .nil)) (.cons (.loc 2) .nil)))))
 .nil) .nil)
 (.cons (.ret (.tup (.cons (.glob 7) (.cons (.loc 3) (.cons (.loc 2) .nil)))))
 .nil))))))⟩
noncomputable def zX:Fn:=⟨2,6,(.cons (.assign 2 (.idx (.loc 0) (.loc 1)))
 (.cons (.ite (.inD (.loc 2)) (.cons (.ret (.tup (.cons (.getD (.loc 2)) (.cons (.loc 2) (.cons (.bin .add (.loc 1) (.lit (.int 1))) .nil)))))
 .nil) .nil)
 (.cons (.ite (.cmp .eq (.loc 2) (.lit (.str [42]))) (.cons (.ret (.tup (.cons (.glob 12) (.cons (.loc 2) (.cons (.bin .add (.loc 1) (.lit (.int 1))) .nil)))))
 .nil) .nil)
 (.cons (.ite (.cmp .eq (.loc 2) (.lit (.str [34]))) (.cons (.unpack [3,4] (.call 15 (.cons (.loc 0) (.cons (.loc 1) .nil))))
 (.cons (.ret (.tup (.cons (.glob 4) (.cons (.loc 3) (.cons (.loc 4) .nil)))))
 .nil)) .nil)
 (.cons (.ite (.cmp .eq (.loc 2) (.lit (.str [123]))) (.cons (.unpack [3,4] (.call 16 (.cons (.loc 0) (.cons (.loc 1) .nil))))
 (.cons (.ret (.tup (.cons (.glob 8) (.cons (.loc 3) (.cons (.loc 4) .nil)))))
 .nil)) .nil)
 (.cons (.ite (.cmp .eq (.loc 2) (.lit (.str [59]))) (.cons (.assign 4 (.call 11 (.cons (.loc 0) (.cons (.loc 1) .nil))))
 (.cons (.ret (.tup (.cons (.glob 8) (.cons (.join [32] (.call 14 (.cons (.eB (.loc 0) (.bin .add (.loc 1) (.lit (.int 1))) (.loc 4)) .nil))) (.cons (.loc 4) .nil)))))
 .nil)) .nil)
 (.cons (.ite (.cmp .eq (.loc 2) (.lit (.str [36]))) (.cons (.unpack [5,4] (.call 17 (.cons (.loc 0) (.cons (.loc 1) .nil))))
 (.cons (.ret (.tup (.cons (.glob 9) (.cons (.loc 5) (.cons (.loc 4) .nil)))))
 .nil)) .nil)
 (.cons (.ite (.or (.cmp .eq (.loc 2) (.lit (.str [33]))) (.cmp .eq (.loc 2) (.lit (.str [63])))) (.cons (.unpack [5,4] (.call 18 (.cons (.loc 0) (.cons (.loc 1) .nil))))
 (.cons (.ret (.tup (.cons (.glob 9) (.cons (.loc 5) (.cons (.loc 4) .nil)))))
 .nil)) .nil)
 (.cons (.ite (.or (.call 6 (.cons (.loc 2) .nil)) (.call 5 (.cons (.loc 2) .nil))) (.cons (.ret (.call 19 (.cons (.loc 0) (.cons (.loc 1) .nil))))
 .nil) .nil)
 (.cons .dead
 .nil))))))))))⟩
noncomputable def Hq:Fn:=⟨1,6,(.cons (.assign 1 (.lst .nil))
 (.cons (.assign 2 (.call 12 (.cons (.loc 0) (.cons (.lit (.int 0)) .nil))))
 (.cons (.while (.cmp .lt (.loc 2) (.len (.loc 0))) (.cons (.unpack [3,4,5] (.call 20 (.cons (.loc 0) (.cons (.loc 2) .nil))))
 (.cons (.expr (.append (.loc 1) (.tup (.cons (.loc 3) (.cons (.loc 4) (.cons (.loc 2) .nil))))))
 (.cons (.assign 2 (.call 12 (.cons (.loc 0) (.cons (.loc 5) .nil))))
 .nil))))
 (.cons (.ret (.loc 1))
 .nil))))⟩
noncomputable def Hr:Fn:=⟨1,3,(.cons (.ite (.cmp .gt (.len (.loc 0)) (.glob 15)) (.cons .dead
 .nil) .nil)
 (.cons (.assign 1 (.lst .nil))
 (.cons (.for [2] (.loc 0) (.cons (.ite (.call 4 (.cons (.loc 2) .nil)) (.cons .dead
 .nil) .nil)
 (.cons (.ite (.dD false (.loc 2) (.lit (.str [34,92]))) (.cons (.expr (.append (.loc 1) (.lit (.str [92]))))
 .nil) .nil)
 (.cons (.expr (.append (.loc 1) (.loc 2)))
 .nil))))
 (.cons (.ret (.bin .add (.bin .add (.lit (.str [34])) (.join [] (.loc 1))) (.lit (.str [34]))))
 .nil))))⟩
noncomputable def Hs:Fn:=⟨1,2,(.cons (.assign 1 (.call 14 (.cons (.loc 0) .nil)))
 (.cons (.ite (.dD false (.lit (.str [125])) (.loc 0)) (.cons (.ret (.lst (.cons (.bin .add (.bin .add (.lit (.str [59])) (.join [32] (.loc 1))) (.lit (.str [10]))) .nil)))
 .nil) .nil)
 (.cons (.ite (.cmp .eq (.len (.loc 1)) (.lit (.int 0))) (.cons (.ret (.lst (.cons (.lit (.str [123,125])) .nil)))
 .nil) .nil)
 (.cons (.jB (.loc 1) (.lit (.int 0)) (.bin .add (.lit (.str [123])) (.idx (.loc 1) (.lit (.int 0)))))
 (.cons (.jB (.loc 1) (.neg 1) (.bin .add (.idx (.loc 1) (.neg 1)) (.lit (.str [125]))))
 (.cons (.ret (.loc 1))
 .nil))))))⟩
noncomputable def Ht:Fn:=⟨2,6,(.cons (.assign 2 (.lst .nil))
 (.cons (.assign 3 (.lit (.str [])))
 (.cons (.for [4] (.loc 0) (.cons (.assign 5 (.cmp .eq (.g7 (.loc 4) (.neg 1)) (.lit (.str [10]))))
 (.cons (.ite (.loc 5) (.cons (.assign 4 (.g9 (.loc 4) (.neg 1)))
 .nil) .nil)
 (.cons (.ite (.cmp .eq (.loc 3) (.lit (.str []))) (.cons (.assign 3 (.loc 4))
 .nil) (.cons (.ite (.cmp .gt (.bin .add (.bin .add (.len (.loc 3)) (.lit (.int 1))) (.len (.loc 4))) (.loc 1)) (.cons (.expr (.append (.loc 2) (.loc 3)))
 (.cons (.assign 3 (.loc 4))
 .nil)) (.cons (.assign 3 (.bin .add (.bin .add (.loc 3) (.lit (.str [32]))) (.loc 4)))
 .nil))
 .nil))
 (.cons (.ite (.loc 5) (.cons (.expr (.append (.loc 2) (.loc 3)))
 (.cons (.assign 3 (.lit (.str [])))
 .nil)) .nil)
 .nil)))))
 (.cons (.ite (.cmp .ne (.loc 3) (.lit (.str []))) (.cons (.expr (.append (.loc 2) (.loc 3)))
 .nil) .nil)
 (.cons (.ret (.loc 2))
 .nil)))))⟩
noncomputable def Hu:Fn:=⟨4,4,(.cons (.setattr (.loc 0) 10 (.loc 1))
 (.cons (.setattr (.loc 0) 9 (.loc 2))
 (.cons (.setattr (.loc 0) 8 (.loc 3))
 .nil)))⟩
noncomputable def Hv:Fn:=⟨2,2,(.cons (.setattr (.loc 0) 16 (.loc 1))
 (.cons (.setattr (.loc 0) 15 (.lit (.int 0)))
 (.cons (.setattr (.loc 0) 14 (.lit (.bool false)))
 (.cons (.setattr (.loc 0) 13 (.lit (.bool false)))
 (.cons (.setattr (.loc 0) 12 (.lst .nil))
 (.cons (.setattr (.loc 0) 11 (.lst .nil))
 .nil))))))⟩
noncomputable def Hw:Fn:=⟨2,2,(.cons (.ret (.ite (.cmp .lt (.loc 1) (.len (.loc 0))) (.idx (.idx (.loc 0) (.loc 1)) (.lit (.int 0))) (.glob 1)))
 .nil)⟩
noncomputable def Hx:Fn:=⟨2,2,(.cons (.ret (.ite (.cmp .lt (.loc 1) (.len (.loc 0))) (.idx (.idx (.loc 0) (.loc 1)) (.lit (.int 2))) (.neg 1)))
 .nil)⟩
noncomputable def Hy:Fn:=⟨2,3,(.cons (.for [2] (.loc 0) (.cons (.ite (.cmp .eq (.idx (.loc 2) (.lit (.int 0))) (.loc 1)) (.cons (.ret (.loc 2))
 .nil) .nil)
 .nil))
 (.cons (.ret (.lit .none))
 .nil))⟩
noncomputable def Hz:Fn:=⟨2,5,(.cons (.assign 2 (.tup (.cons (.glob 2) (.cons (.glob 7) (.cons (.glob 4) (.cons (.glob 3) .nil))))))
 (.cons (.dX 3 (.lit (.int 4)) (.cons (.ite (.cmp .ne (.call 27 (.cons (.loc 0) (.cons (.bin .add (.loc 1) (.loc 3)) .nil))) (.idx (.loc 2) (.loc 3))) (.cons .dead
 .nil) .nil)
 .nil))
 (.cons (.assign 4 (.idx (.idx (.loc 0) (.bin .add (.loc 1) (.lit (.int 1)))) (.lit (.int 1))))
 (.cons (.ite (.not (.call 8 (.cons (.loc 4) .nil))) (.cons .dead
 .nil) .nil)
 (.cons (.ret (.tup (.cons (.loc 4) (.cons (.idx (.idx (.loc 0) (.bin .add (.loc 1) (.lit (.int 2)))) (.lit (.int 1))) (.cons (.idx (.idx (.loc 0) (.bin .add (.loc 1) (.lit (.int 2)))) (.lit (.int 2))) .nil)))))
 .nil)))))⟩
noncomputable def HA:Fn:=⟨3,5,(.cons (.assign 3 (.lst .nil))
 (.cons (.while (.or (.cmp .eq (.call 27 (.cons (.loc 0) (.cons (.loc 1) .nil))) (.glob 2)) (.cmp .eq (.call 27 (.cons (.loc 0) (.cons (.loc 1) .nil))) (.glob 8))) (.cons (.ite (.cmp .eq (.call 27 (.cons (.loc 0) (.cons (.loc 1) .nil))) (.glob 8)) (.cons (.expr (.append (.loc 2) (.idx (.idx (.loc 0) (.loc 1)) (.lit (.int 1)))))
 (.cons (.aug 1 .add (.lit (.int 1)))
 .nil)) (.cons (.assign 4 (.call 30 (.cons (.loc 0) (.cons (.loc 1) .nil))))
 (.cons (.ite (.isNone true (.call 29 (.cons (.loc 3) (.cons (.idx (.loc 4) (.lit (.int 0))) .nil)))) (.cons .dead
 .nil) .nil)
 (.cons (.expr (.append (.loc 3) (.loc 4)))
 (.cons (.aug 1 .add (.lit (.int 4)))
 .nil)))))
 .nil))
 (.cons (.ret (.tup (.cons (.loc 3) (.cons (.loc 1) .nil))))
 .nil)))⟩
noncomputable def HB:Fn:=⟨1,1,(.cons (.expr (.extend (.attr (.attr (.loc 0) 16) 2) (.attr (.loc 0) 12)))
 (.cons (.setattr (.loc 0) 12 (.lst .nil))
 .nil))⟩
noncomputable def HC:Fn:=⟨3,4,(.cons (.ite (.and (.cmp .gt (.attr (.loc 0) 15) (.lit (.int 0))) (.not (.attr (.loc 0) 14))) (.cons (.expr (.call 32 (.cons (.loc 0) .nil)))
 .nil) .nil)
 (.cons (.assign 3 (.call 1 (.cons (.attr (.loc 0) 16) (.cons (.glob 0) (.cons (.loc 1) .nil)))))
 (.cons (.setattr (.loc 3) 4 (.loc 2))
 (.cons (.setattr (.loc 3) 0 (.attr (.loc 0) 12))
 (.cons (.setattr (.loc 0) 14 (.cmp .eq (.len (.attr (.attr (.loc 0) 16) 3)) (.lit (.int 1))))
 (.cons (.setattr (.loc 0) 16 (.loc 3))
 (.cons (.kj (.loc 0) 15 .add (.lit (.int 1)))
 (.cons (.setattr (.loc 0) 12 (.lst .nil))
 (.cons (.setattr (.loc 0) 13 (.lit (.bool false)))
 .nil)))))))))⟩
noncomputable def HD:Fn:=⟨2,2,(.cons (.ite (.attr (.loc 0) 13) (.cons (.expr (.append (.attr (.loc 0) 12) (.loc 1)))
 .nil) (.cons (.expr (.append (.attr (.attr (.loc 0) 16) 2) (.loc 1)))
 .nil))
 .nil)⟩
noncomputable def HE:Fn:=⟨2,2,(.cons (.ite (.cmp .eq (.attr (.loc 0) 15) (.lit (.int 0))) (.cons .dead
 .nil) .nil)
 (.cons (.expr (.call 32 (.cons (.loc 0) .nil)))
 (.cons (.expr (.append (.attr (.loc 0) 11) (.tup (.cons (.attr (.loc 0) 16) (.cons (.attr (.loc 0) 15) (.cons (.attr (.loc 0) 14) .nil))))))
 (.cons (.setattr (.loc 0) 16 (.attr (.attr (.loc 0) 16) 6))
 (.cons (.setattr (.loc 0) 15 (.lit (.int 0)))
 (.cons (.setattr (.loc 0) 13 (.lit (.bool true)))
 .nil))))))⟩
noncomputable def HF:Fn:=⟨2,5,(.cons (.ite (.or (.cmp .eq (.len (.attr (.loc 0) 11)) (.lit (.int 0))) (.cmp .eq (.attr (.loc 0) 15) (.lit (.int 0)))) (.cons .dead
 .nil) .nil)
 (.cons (.expr (.call 32 (.cons (.loc 0) .nil)))
 (.cons (.unpack [2,3,4] (.pop (.attr (.loc 0) 11)))
 (.cons (.setattr (.loc 0) 16 (.loc 2))
 (.cons (.setattr (.loc 0) 15 (.loc 3))
 (.cons (.setattr (.loc 0) 14 (.loc 4))
 (.cons (.setattr (.loc 0) 13 (.lit (.bool true)))
 .nil)))))))⟩
noncomputable def HG:Fn:=⟨3,6,(.cons (.unpack [3,4,5] (.idx (.loc 1) (.loc 2)))
 (.cons (.ite (.cmp .eq (.loc 3) (.glob 5)) (.cons (.while (.cmp .eq (.call 27 (.cons (.loc 1) (.cons (.bin .add (.loc 2) (.lit (.int 1))) .nil))) (.glob 6)) (.cons (.aug 2 .add (.lit (.int 1)))
 .nil))
 .nil) (.cons (.ite (.cmp .eq (.loc 3) (.glob 7)) (.cons (.expr (.call 33 (.cons (.loc 0) (.cons (.loc 4) (.cons (.loc 5) .nil)))))
 .nil) (.cons (.ite (.cmp .eq (.loc 3) (.glob 8)) (.cons (.expr (.call 34 (.cons (.loc 0) (.cons (.loc 4) .nil))))
 .nil) (.cons (.ite (.cmp .eq (.loc 3) (.glob 10)) (.cons (.expr (.call 35 (.cons (.loc 0) (.cons (.loc 5) .nil))))
 .nil) (.cons (.ite (.cmp .eq (.loc 3) (.glob 11)) (.cons (.expr (.call 36 (.cons (.loc 0) (.cons (.loc 5) .nil))))
 .nil) (.cons (.ite (.and (.cmp .eq (.loc 3) (.glob 9)) (.cmp .gt (.attr (.loc 0) 15) (.lit (.int 0)))) (.cons (.expr (.append (.attr (.attr (.loc 0) 16) 1) (.loc 4)))
 .nil) (.cons .dead
 .nil))
 .nil))
 .nil))
 .nil))
 .nil))
 .nil))
 (.cons (.ret (.bin .add (.loc 2) (.lit (.int 1))))
 .nil)))⟩
noncomputable def HH:Fn:=⟨2,8,(.cons (.assign 2 (.call 2 .nil))
 (.cons (.unpack [3,1] (.call 31 (.cons (.loc 0) (.cons (.loc 1) (.cons (.attr (.loc 2) 2) .nil)))))
 (.cons (.assign 4 (.new 2 (.cons (.loc 2) .nil)))
 (.cons (.while (.cmp .ne (.call 27 (.cons (.loc 0) (.cons (.loc 1) .nil))) (.glob 12)) (.cons (.ite (.cmp .ge (.loc 1) (.len (.loc 0))) (.cons (.raise (.neg 1))
 .nil) .nil)
 (.cons (.assign 1 (.call 37 (.cons (.loc 4) (.cons (.loc 0) (.cons (.loc 1) .nil)))))
 .nil)))
 (.cons (.unpack [5,6] (.tup (.cons (.idx (.idx (.loc 0) (.loc 1)) (.lit (.int 1))) (.cons (.idx (.idx (.loc 0) (.loc 1)) (.lit (.int 2))) .nil))))
 (.cons (.ite (.cmp .gt (.len (.attr (.loc 4) 11)) (.lit (.int 0))) (.cons .dead
 .nil) .nil)
 (.cons (.expr (.call 32 (.cons (.loc 4) .nil)))
 (.cons (.assign 7 (.call 29 (.cons (.loc 3) (.cons (.lit (.str [82,101,115,117,108,116])) .nil))))
 (.cons (.ite (.and (.isNone true (.loc 7)) (.cmp .ne (.idx (.loc 7) (.lit (.int 1))) (.loc 5))) (.cons .dead
 .nil) .nil)
 (.cons (.ret (.tup (.cons (.new 1 (.cons (.loc 3) (.cons (.loc 2) (.cons (.loc 5) .nil)))) (.cons (.bin .add (.loc 1) (.lit (.int 1))) .nil))))
 .nil))))))))))⟩
noncomputable def HI:Fn:=⟨2,3,(.cons (.for [2] (.loc 0) (.cons (.expr (.extend (.loc 1) (.call 23 (.cons (.loc 2) .nil))))
 .nil))
 .nil)⟩
noncomputable def HJ:Fn:=⟨1,1,(.cons (.ret (.bin .add (.strOf (.bin .add (.bin .fdiv (.loc 0) (.lit (.int 2))) (.lit (.int 1)))) (.ite (.cmp .eq (.bin .mod (.loc 0) (.lit (.int 2))) (.lit (.int 0))) (.lit (.str [46])) (.lit (.str [46,46,46])))))
 .nil)⟩
noncomputable def HK:Fn:=⟨4,5,(.cons (.expr (.call 39 (.cons (.attr (.loc 0) 0) (.cons (.loc 3) .nil))))
 (.cons (.ite (.or (.loc 2) (.or (.cmp .eq (.bin .mod (.loc 1) (.lit (.int 2))) (.lit (.int 0))) (.cmp .gt (.len (.attr (.loc 0) 0)) (.lit (.int 0))))) (.cons (.expr (.append (.loc 3) (.call 40 (.cons (.loc 1) .nil))))
 .nil) .nil)
 (.cons (.expr (.append (.loc 3) (.attr (.loc 0) 5)))
 (.cons (.for [4] (.attr (.loc 0) 1) (.cons (.ite (.not (.fI .le .le (.lit (.int 0)) (.loc 4) (.glob 16))) (.cons .dead
 .nil) .nil)
 (.cons (.expr (.append (.loc 3) (.bin .add (.lit (.str [36])) (.strOf (.loc 4)))))
 .nil)))
 (.cons (.expr (.call 39 (.cons (.attr (.loc 0) 2) (.cons (.loc 3) .nil))))
 (.cons (.ret (.cmp .gt (.len (.attr (.loc 0) 2)) (.lit (.int 0))))
 .nil))))))⟩
noncomputable def HL:Fn:=⟨2,10,(.cons (.assign 2 (.lst .nil))
 (.cons (.expr (.call 39 (.cons (.attr (.loc 0) 2) (.cons (.loc 2) .nil))))
 (.cons (.assign 3 (.lst (.cons (.tup (.cons (.glob 17) (.cons (.loc 0) (.cons (.loc 1) (.cons (.lit (.bool true)) .nil))))) .nil)))
 (.cons (.while (.cmp .gt (.len (.loc 3)) (.lit (.int 0))) (.cons (.unpack [4,5,1,6] (.pop (.loc 3)))
 (.cons (.ite (.cmp .eq (.loc 4) (.glob 19)) (.cons (.expr (.append (.loc 2) (.lit (.str [41]))))
 .nil) (.cons (.ite (.cmp .eq (.loc 4) (.glob 18)) (.cons (.expr (.append (.loc 2) (.lit (.str [40]))))
 (.cons (.assign 6 (.call 41 (.cons (.loc 5) (.cons (.loc 1) (.cons (.lit (.bool true)) (.cons (.loc 2) .nil))))))
 (.cons (.expr (.append (.loc 3) (.tup (.cons (.glob 19) (.cons (.loc 5) (.cons (.loc 1) (.cons (.lit (.bool true)) .nil)))))))
 (.cons (.expr (.append (.loc 3) (.tup (.cons (.glob 17) (.cons (.loc 5) (.cons (.bin .add (.loc 1) (.lit (.int 1))) (.cons (.loc 6) .nil)))))))
 .nil)))) (.cons (.ite (.cmp .gt (.len (.attr (.loc 5) 3)) (.lit (.int 0))) (.cons (.assign 7 (.idx (.attr (.loc 5) 3) (.lit (.int 0))))
 (.cons (.assign 8 (.g7 (.attr (.loc 5) 3) (.lit (.int 1))))
 (.cons (.assign 6 (.call 41 (.cons (.loc 7) (.cons (.loc 1) (.cons (.loc 6) (.cons (.loc 2) .nil))))))
 (.cons (.expr (.append (.loc 3) (.tup (.cons (.glob 17) (.cons (.loc 7) (.cons (.bin .add (.loc 1) (.lit (.int 1))) (.cons (.or (.loc 6) (.cmp .gt (.len (.loc 8)) (.lit (.int 0)))) .nil)))))))
 (.cons (.for [9] (.rev (.loc 8)) (.cons (.expr (.append (.loc 3) (.tup (.cons (.glob 18) (.cons (.loc 9) (.cons (.loc 1) (.cons (.lit (.bool true)) .nil)))))))
 .nil))
 .nil))))) .nil)
 .nil))
 .nil))
 .nil)))
 (.cons (.ret (.loc 2))
 .nil)))))⟩
noncomputable def HM:Fn:=⟨2,2,(.cons (.ite (.not (.call 8 (.cons (.loc 0) .nil))) (.cons .dead
 .nil) .nil)
 (.cons (.ret (.bin .add (.bin .add (.bin .add (.bin .add (.lit (.str [91])) (.loc 0)) (.lit (.str [32]))) (.call 22 (.cons (.loc 1) .nil))) (.lit (.str [93]))))
 .nil))⟩
noncomputable def zY:Fn:=⟨5,7,(.cons (.ite (.dD true (.loc 3) (.glob 13)) (.cons .dead
 .nil) .nil)
 (.cons (.assign 5 (.comp (.call 43 (.cons (.loc 0) (.cons (.loc 1) .nil))) 2 (.loc 0)))
 (.cons (.ite (.cmp .gt (.len (.loc 5)) (.lit (.int 0))) (.cons (.expr (.append (.loc 5) (.lit (.str []))))
 .nil) .nil)
 (.cons (.assign 6 (.call 42 (.cons (.loc 1) (.cons (.loc 2) .nil))))
 (.cons (.expr (.append (.loc 6) (.loc 3)))
 (.cons (.expr (.extend (.loc 5) (.call 24 (.cons (.loc 6) (.cons (.loc 4) .nil)))))
 (.cons (.ret (.join [] (.comp (.bin .add (.loc 0) (.lit (.str [10]))) 1 (.loc 5))))
 .nil)))))))⟩
noncomputable def HN:Fn:=⟨1,5,(.cons (.assign 1 (.lst .nil))
 (.cons (.unpack [0,2] (.dm (.loc 0) (.lit (.int 4))))
 (.cons (.dX 3 (.loc 2) (.cons (.unpack [0,4] (.dm (.loc 0) (.lit (.int 12))))
 (.cons (.expr (.append (.loc 1) (.idx (.glob 21) (.loc 4))))
 .nil)))
 (.cons (.ret (.join [32] (.loc 1)))
 .nil))))⟩
noncomputable def HO:Fn:=⟨1,13,(.cons (.unpack [1,2] (.dm (.bin .mod (.idx (.loc 0) (.lit (.int 0))) (.pow 10 9)) (.lit (.int 64))))
 (.cons (.unpack [1,3] (.dm (.loc 1) (.lit (.int 4))))
 (.cons (.assign 4 (.idx (.glob 24) (.loc 3)))
 (.cons (.assign 5 (.lst .nil))
 (.cons (.dX 6 (.lit (.int 6)) (.cons (.ite (.bin .band (.bin .shr (.loc 2) (.loc 6)) (.lit (.int 1))) (.cons (.expr (.append (.loc 5) (.tup (.cons (.idx (.glob 22) (.loc 6)) (.cons (.ite (.cmp .eq (.loc 6) (.lit (.int 2))) (.loc 4) (.idx (.glob 23) (.bin .mod (.bin .add (.loc 1) (.loc 6)) (.lit (.int 6))))) .nil)))))
 .nil) .nil)
 .nil))
 (.cons (.assign 7 (.lst (.cons (.lit (.str [])) (.cons (.lst .nil) (.cons (.lst .nil) (.cons (.lst .nil) (.cons (.lst .nil) .nil)))))))
 (.cons (.assign 8 (.lst (.cons (.loc 7) .nil)))
 (.cons (.for [9] (.g7 (.loc 0) (.lit (.int 1))) (.cons (.unpack [10,11] (.dm (.bin .mod (.loc 9) (.pow 10 9)) (.lit (.int 6))))
 (.cons (.unpack [10,3] (.dm (.loc 10) (.len (.loc 8))))
 (.cons (.ite (.cmp .eq (.loc 11) (.lit (.int 3))) (.cons (.expr (.append (.idx (.idx (.loc 8) (.loc 3)) (.lit (.int 2))) (.call 45 (.cons (.loc 10) .nil))))
 .nil) (.cons (.ite (.and (.cmp .eq (.loc 11) (.lit (.int 4))) (.cmp .gt (.loc 3) (.lit (.int 0)))) (.cons (.expr (.append (.idx (.idx (.loc 8) (.loc 3)) (.lit (.int 3))) (.call 45 (.cons (.loc 10) .nil))))
 .nil) (.cons (.ite (.and (.cmp .eq (.loc 11) (.lit (.int 5))) (.cmp .gt (.loc 3) (.lit (.int 0)))) (.cons (.expr (.append (.idx (.idx (.loc 8) (.loc 3)) (.lit (.int 1))) (.bin .mod (.loc 10) (.lit (.int 256)))))
 .nil) (.cons (.assign 12 (.lst (.cons (.idx (.glob 20) (.bin .mod (.loc 10) (.lit (.int 10)))) (.cons (.lst .nil) (.cons (.lst .nil) (.cons (.lst .nil) (.cons (.lst .nil) .nil)))))))
 (.cons (.expr (.append (.idx (.idx (.loc 8) (.ite (.cmp .eq (.loc 11) (.lit (.int 0))) (.neg 1) (.loc 3))) (.lit (.int 4))) (.loc 12)))
 (.cons (.expr (.append (.loc 8) (.loc 12)))
 .nil))))
 .nil))
 .nil))
 .nil))))
 (.cons (.ret (.tup (.cons (.loc 5) (.cons (.loc 7) (.cons (.bin .mod (.loc 1) (.lit (.int 300))) (.cons (.loc 4) .nil))))))
 .nil)))))))))⟩
noncomputable def HP:Fn:=⟨2,3,(.cons (.expr (.extend (.attr (.loc 1) 1) (.idx (.loc 0) (.lit (.int 1)))))
 (.cons (.expr (.extend (.attr (.loc 1) 2) (.idx (.loc 0) (.lit (.int 2)))))
 (.cons (.expr (.extend (.attr (.loc 1) 0) (.idx (.loc 0) (.lit (.int 3)))))
 (.cons (.for [2] (.idx (.loc 0) (.lit (.int 4))) (.cons (.expr (.call 47 (.cons (.loc 2) (.cons (.call 1 (.cons (.loc 1) (.cons (.lit (.int 0)) (.cons (.idx (.loc 2) (.lit (.int 0))) .nil)))) .nil))))
 .nil))
 .nil))))⟩
noncomputable def HQ:Fn:=⟨2,4,(.cons (.for [2] (.loc 0) (.cons (.ite (.dD false (.lit (.str [125])) (.loc 2)) (.cons (.expr (.append (.loc 1) (.tup (.cons (.bin .add (.lit (.str [59])) (.loc 2)) (.cons (.lit (.bool true)) .nil)))))
 .nil) (.cons (.for [3] (.split (.bin .add (.bin .add (.lit (.str [123])) (.loc 2)) (.lit (.str [125])))) (.cons (.expr (.append (.loc 1) (.tup (.cons (.loc 3) (.cons (.lit (.bool false)) .nil)))))
 .nil))
 .nil))
 .nil))
 .nil)⟩
noncomputable def HR:Fn:=⟨4,5,(.cons (.expr (.call 48 (.cons (.idx (.loc 0) (.lit (.int 3))) (.cons (.loc 3) .nil))))
 (.cons (.ite (.or (.loc 2) (.or (.cmp .ne (.idx (.loc 0) (.lit (.int 3))) (.lst .nil)) (.cmp .eq (.bin .mod (.loc 1) (.lit (.int 2))) (.lit (.int 0))))) (.cons (.expr (.append (.loc 3) (.tup (.cons (.bin .add (.strOf (.bin .add (.bin .fdiv (.loc 1) (.lit (.int 2))) (.lit (.int 1)))) (.bin .mul (.lit (.str [46])) (.bin .add (.lit (.int 1)) (.bin .mul (.bin .mod (.loc 1) (.lit (.int 2))) (.lit (.int 2)))))) (.cons (.lit (.bool false)) .nil)))))
 .nil) .nil)
 (.cons (.expr (.append (.loc 3) (.tup (.cons (.idx (.loc 0) (.lit (.int 0))) (.cons (.lit (.bool false)) .nil)))))
 (.cons (.for [4] (.idx (.loc 0) (.lit (.int 1))) (.cons (.expr (.append (.loc 3) (.tup (.cons (.bin .add (.lit (.str [36])) (.strOf (.loc 4))) (.cons (.lit (.bool false)) .nil)))))
 .nil))
 (.cons (.expr (.call 48 (.cons (.idx (.loc 0) (.lit (.int 2))) (.cons (.loc 3) .nil))))
 .nil)))))⟩
noncomputable def HS:Fn:=⟨4,6,(.cons (.assign 4 (.idx (.loc 0) (.lit (.int 4))))
 (.cons (.ite (.cmp .ne (.loc 4) (.lst .nil)) (.cons (.expr (.call 49 (.cons (.idx (.loc 4) (.lit (.int 0))) (.cons (.loc 1) (.cons (.loc 2) (.cons (.loc 3) .nil))))))
 (.cons (.for [5] (.g7 (.loc 4) (.lit (.int 1))) (.cons (.expr (.append (.loc 3) (.tup (.cons (.lit (.str [40])) (.cons (.lit (.bool false)) .nil)))))
 (.cons (.expr (.call 49 (.cons (.loc 5) (.cons (.loc 1) (.cons (.lit (.bool true)) (.cons (.loc 3) .nil))))))
 (.cons (.expr (.call 50 (.cons (.loc 5) (.cons (.bin .add (.loc 1) (.lit (.int 1))) (.cons (.cmp .ne (.idx (.loc 5) (.lit (.int 2))) (.lst .nil)) (.cons (.loc 3) .nil))))))
 (.cons (.expr (.append (.loc 3) (.tup (.cons (.lit (.str [41])) (.cons (.lit (.bool false)) .nil)))))
 .nil)))))
 (.cons (.expr (.call 50 (.cons (.idx (.loc 4) (.lit (.int 0))) (.cons (.bin .add (.loc 1) (.lit (.int 1))) (.cons (.or (.cmp .ne (.idx (.idx (.loc 4) (.lit (.int 0))) (.lit (.int 2))) (.lst .nil)) (.cmp .gt (.len (.loc 4)) (.lit (.int 1)))) (.cons (.loc 3) .nil))))))
 .nil))) .nil)
 .nil))⟩
noncomputable def HT:Fn:=⟨5,12,(.cons (.assign 5 (.lst .nil))
 (.cons (.expr (.call 48 (.cons (.idx (.loc 1) (.lit (.int 2))) (.cons (.loc 5) .nil))))
 (.cons (.expr (.call 50 (.cons (.loc 1) (.cons (.loc 2) (.cons (.lit (.bool true)) (.cons (.loc 5) .nil))))))
 (.cons (.expr (.append (.loc 5) (.tup (.cons (.loc 3) (.cons (.lit (.bool false)) .nil)))))
 (.cons (.assign 6 (.lit (.str [])))
 (.cons (.for [7,8] (.loc 0) (.cons (.aug 6 .add (.bin .add (.bin .add (.bin .add (.bin .add (.lit (.str [91])) (.loc 7)) (.lit (.str [32,34]))) (.replace (.replace (.loc 8) [92] [92,92]) [34] [92,34])) (.lit (.str [34,93,10]))))
 .nil))
 (.cons (.ite (.cmp .ne (.loc 0) (.lst .nil)) (.cons (.aug 6 .add (.lit (.str [10])))
 .nil) .nil)
 (.cons (.assign 9 (.neg 1))
 (.cons (.for [10,11] (.loc 5) (.cons (.ite (.and (.cmp .ge (.loc 9) (.lit (.int 0))) (.cmp .lt (.len (.loc 10)) (.loc 9))) (.cons (.aug 6 .add (.bin .add (.lit (.str [32])) (.loc 10)))
 (.cons (.aug 9 .sub (.bin .add (.lit (.int 1)) (.len (.loc 10))))
 .nil)) (.cons (.aug 6 .add (.bin .add (.ite (.cmp .ge (.loc 9) (.lit (.int 0))) (.lit (.str [10])) (.lit (.str []))) (.loc 10)))
 (.cons (.assign 9 (.max2 (.bin .sub (.loc 4) (.len (.loc 10))) (.lit (.int 0))))
 .nil)))
 (.cons (.ite (.loc 11) (.cons (.aug 6 .add (.lit (.str [10])))
 (.cons (.assign 9 (.neg 1))
 .nil)) .nil)
 .nil)))
 (.cons (.ret (.bin .add (.loc 6) (.lit (.str [10]))))
 .nil))))))))))⟩
noncomputable def HU:Fn:=⟨2,4,(.cons (.assign 2 (.idx (.loc 0) (.lit (.int 4))))
 (.cons (.dX 3 (.len (.loc 2)) (.cons (.ite (.and (.cmp .eq (.loc 3) (.lit (.int 0))) (.not (.loc 1))) (.cons (.expr (.extend (.idx (.loc 0) (.lit (.int 2))) (.idx (.idx (.loc 2) (.lit (.int 0))) (.lit (.int 3)))))
 (.cons (.jB (.idx (.loc 2) (.lit (.int 0))) (.lit (.int 3)) (.lst .nil))
 .nil)) .nil)
 (.cons (.expr (.call 52 (.cons (.idx (.loc 2) (.loc 3)) (.cons (.and (.cmp .eq (.loc 3) (.lit (.int 0))) (.cmp .gt (.len (.loc 2)) (.lit (.int 1)))) .nil))))
 .nil)))
 .nil))⟩
noncomputable def HV:Fn:=⟨3,4,(.cons (.ite (.or (.cmp .ne (.idx (.loc 0) (.lit (.int 0))) (.attr (.loc 1) 5)) (.or (.cmp .ne (.idx (.loc 0) (.lit (.int 1))) (.attr (.loc 1) 1)) (.or (.cmp .ne (.idx (.loc 0) (.lit (.int 2))) (.attr (.loc 1) 2)) (.cmp .ne (.idx (.loc 0) (.lit (.int 3))) (.attr (.loc 1) 0))))) (.cons (.ret (.lit (.bool false)))
 .nil) .nil)
 (.cons (.ite (.and (.cmp .ne (.idx (.loc 0) (.lit (.int 0))) (.lit (.str []))) (.cmp .ne (.eB (.loc 2) (.attr (.loc 1) 4) (.bin .add (.attr (.loc 1) 4) (.len (.idx (.loc 0) (.lit (.int 0)))))) (.idx (.loc 0) (.lit (.int 0))))) (.cons (.ret (.lit (.bool false)))
 .nil) .nil)
 (.cons (.ite (.cmp .ne (.len (.idx (.loc 0) (.lit (.int 4)))) (.len (.attr (.loc 1) 3))) (.cons (.ret (.lit (.bool false)))
 .nil) .nil)
 (.cons (.dX 3 (.len (.idx (.loc 0) (.lit (.int 4)))) (.cons (.ite (.not (.call 53 (.cons (.idx (.idx (.loc 0) (.lit (.int 4))) (.loc 3)) (.cons (.idx (.attr (.loc 1) 3) (.loc 3)) (.cons (.loc 2) .nil))))) (.cons (.ret (.lit (.bool false)))
 .nil) .nil)
 .nil))
 (.cons (.ret (.lit (.bool true)))
 .nil)))))⟩
noncomputable def ph:Fn:=⟨1,18,(.cons (.assign 1 (.listOf (.g9 (.loc 0) (.lit (.int 20)))))
 (.cons (.while (.cmp .lt (.len (.loc 1)) (.lit (.int 6))) (.cons (.expr (.append (.loc 1) (.bin .add (.bin .mul (.len (.loc 1)) (.lit (.int 1234567))) (.lit (.int 89)))))
 .nil))
 (.cons (.assign 2 (.bin .add (.lit (.int 20)) (.bin .mod (.idx (.loc 1) (.neg 1)) (.lit (.int 61)))))
 (.cons (.assign 3 (.bin .fdiv (.len (.loc 1)) (.lit (.int 2))))
 (.cons (.assign 4 (.lst (.cons (.call 46 (.cons (.g9 (.loc 1) (.loc 3)) .nil)) (.cons (.call 46 (.cons (.g7 (.loc 1) (.loc 3)) .nil)) .nil))))
 (.cons (.assign 5 (.lst .nil))
 (.cons (.for [6,7,8,9] (.loc 4) (.cons (.assign 10 (.call 2 .nil))
 (.cons (.expr (.call 47 (.cons (.loc 7) (.cons (.loc 10) .nil))))
 (.cons (.expr (.append (.loc 5) (.call 44 (.cons (.loc 6) (.cons (.loc 10) (.cons (.loc 8) (.cons (.loc 9) (.cons (.loc 2) .nil))))))))
 (.cons (.ite (.cmp .ne (.idx (.loc 5) (.neg 1)) (.call 51 (.cons (.loc 6) (.cons (.loc 7) (.cons (.loc 8) (.cons (.loc 9) (.cons (.loc 2) .nil))))))) (.cons (.ret (.lit (.bool false)))
 .nil) .nil)
 (.cons (.expr (.call 52 (.cons (.loc 7) (.cons (.lit (.bool false)) .nil))))
 .nil))))))
 (.cons (.assign 11 (.join [10] (.loc 5)))
 (.cons (.assign 12 (.call 21 (.cons (.loc 11) .nil)))
 (.cons (.assign 13 (.lit (.int 0)))
 (.cons (.dX 14 (.lit (.int 2)) (.cons (.unpack [6,7,8,9] (.idx (.loc 4) (.loc 14)))
 (.cons (.ite (.cmp .eq (.loc 14) (.lit (.int 1))) (.cons (.ff 38 (.cons (.g9 (.loc 12) (.neg 1)) (.cons (.loc 13) .nil)))
 .nil) .nil)
 (.cons (.unpack [17,13] (.call 38 (.cons (.loc 12) (.cons (.loc 13) .nil))))
 (.cons (.assign 15 (.comp (.tup (.cons (.loc 0) (.cons (.loc 1) .nil))) 3 (.attr (.loc 17) 10)))
 (.cons (.ite (.or (.cmp .ne (.loc 15) (.loc 6)) (.or (.cmp .ne (.attr (.loc 17) 8) (.loc 9)) (.not (.call 53 (.cons (.loc 7) (.cons (.attr (.loc 17) 9) (.cons (.loc 11) .nil))))))) (.cons (.ret (.lit (.bool false)))
 .nil) .nil)
 (.cons (.ite (.cmp .ne (.call 44 (.cons (.loc 15) (.cons (.attr (.loc 17) 9) (.cons (.loc 8) (.cons (.attr (.loc 17) 8) (.cons (.loc 2) .nil)))))) (.idx (.loc 5) (.loc 14))) (.cons (.ret (.lit (.bool false)))
 .nil) .nil)
 .nil)))))))
 (.cons (.ret (.cmp .eq (.loc 13) (.len (.loc 12))))
 .nil))))))))))))⟩
noncomputable def zZ:List (Option Fn):=[some G7,some G8,some G9,some Ha,some Hb,some Hc,some Hd,some He,some Hf,some Hg,some Hh,some Hi,some Hj,some Hk,some Hl,some Hm,some Hn,some Ho,none,some Hp,some zX,some Hq,some Hr,some Hs,some Ht,some Hu,some Hv,some Hw,some Hx,some Hy,some Hz,some HA,some HB,some HC,some HD,some HE,some HF,some HG,some HH,some HI,some HJ,some HK,some HL,some HM,some zY,some HN,some HO,some HP,some HQ,some HR,some HS,some HT,some HU,some HV,some ph]
noncomputable def fns(n:Nat):Option Fn:=(zZ[n]?).join
noncomputable def z4:List (String×V):=[("NO_MOVE",.int 0),("END",.int 0),("TAG_OPEN",.int 1),("TAG_CLOSE",.int 2),("TEXT",.int 3),("NUMBER",.int 4),("DOT",.int 5),("WORD",.int 6),("REMARK",.int 7),("NAG",.int 8),("OPEN",.int 9),("CLOSE",.int 10),("RESULT",.int 11),("RESULTS",.gt 0),("SIGNS",.gt 1),("LONGEST",.int 255),("LAST_NAG",.int 255),("LINE",.int 0),("BRANCH",.int 1),("BACK",.int 2),("_law_words",.gt 2),("_law_bits",.gt 3),("_law_names",.gt 4),("_law_values",.gt 5),("_law_results",.gt 6)]
noncomputable def u4:List (String×List (List Nat)):=[("RESULTS",[[49,45,48],[48,45,49],[49,47,50,45,49,47,50],[42]]),
 ("SIGNS",[[33],[63],[33,33],[63,63],[33,63],[63,33]]),
 ("_law_words",[[101,52],[78,102,51],[79,45,79,45,79],[101,56,61,81,43],[81,120,100,53,35],[82,49,97,51],[101,120,100,54],[97,49,61,78],[79,45,79],[75,98,49]]),
 ("_law_bits",[[103,111,111,100],[40,120,41],[37],[59],[123],[49,46],[125],[91,97],[36,55],[33,63],[97,125,98,34],[97,98,99,100,101,102,103,104,105,106,107,108,109,110,111,112,113,114,115,116,117,118,119,120,121,122,48,49,92,51]]),
 ("_law_names",[[69,118,101,110,116],[83,105,116,101],[82,101,115,117,108,116],[70,69,78],[65,95,49],[87,104,105,116,101]]),
 ("_law_values",[[63],[97,32,34,98,34,32,99],[120,92,121],[],[90,252,114,105,99,104,32,49,46,32,101,52],[91,123,59,37]]),
 ("_law_results",[[42],[49,45,48],[48,45,49],[49,47,50,45,49,47,50]])]
noncomputable def rF:List String:=["before","nags","remarks","variations","place","word","parent","move","result","root","tags","left","waiting","is_fresh","is_first","made","node"]
noncomputable def fnNames:List (Nat×String×List String):=[(0,"GameNode.__init__",["self","move","parent"]),
 (1,"add_variation",["node","move","word","child"]),
 (2,"new_root",[]),
 (3,"is_blank",["c"]),
 (4,"is_control",["c"]),
 (5,"is_digit",["c"]),
 (6,"is_letter",["c"]),
 (7,"is_word_sign",["c"]),
 (8,"is_tag_name",["word","c"]),
 (9,"digits_end",["text","at"]),
 (10,"word_end",["text","at"]),
 (11,"row_end",["text","at"]),
 (12,"skip_blanks",["text","at"]),
 (13,"number_of",["digits","number","c"]),
 (14,"words_of",["text","words","start","i"]),
 (15,"read_text",["text","at","out","i","c"]),
 (16,"read_braces",["text","at","end"]),
 (17,"read_nag",["text","at","end","number"]),
 (19,"read_word",["text","at","end","word"]),
 (20,"read_token",["text","at","c","value","end","number"]),
 (21,"read_tokens",["text","out","at","kind","value","end"]),
 (22,"quote",["value","out","c"]),
 (23,"remark_pieces",["text","words"]),
 (24,"lay_rows",["pieces","width","rows","row","piece","is_last"]),
 (25,"Record.__init__",["self","tags","root","result"]),
 (26,"LineReader.__init__",["self","root"]),
 (27,"kind_at",["tokens","at"]),
 (28,"place_at",["tokens","at"]),
 (29,"tag_of",["tags","name","tag"]),
 (30,"read_tag",["tokens","at","kinds","k","name"]),
 (31,"read_tags",["tokens","at","remarks","tags","tag"]),
 (32,"settle_waiting",["reader"]),
 (33,"take_word",["reader","word","place","child"]),
 (34,"take_remark",["reader","remark"]),
 (35,"open_line",["reader","place"]),
 (36,"close_line",["reader","place","node","made","is_first"]),
 (37,"take_token",["reader","tokens","at","kind","value","place"]),
 (38,"read_record",["tokens","at","root","tags","reader","result","place","told"]),
 (39,"add_remarks",["remarks","out","remark"]),
 (40,"number_word",["ply"]),
 (41,"move_pieces",["node","ply","is_told","out","nag"]),
 (42,"tree_pieces",["root","ply","out","todo","task","node","is_told","child","others","other"]),
 (43,"write_tag",["name","value"]),
 (44,"write_record",["tags","root","ply","result","width","rows","pieces"]),
 (45,"_law_remark",["q","said","count","k","which"]),
 (46,"_law_draw",["nums","head","mask","which","result","tags","k","top","made","number","q","deed","kid"]),
 (47,"_law_plant",["mine","theirs","kid"]),
 (48,"_law_braces",["remarks","out","remark","piece"]),
 (49,"_law_said",["mine","ply","told","out","nag"]),
 (50,"_law_rest",["mine","ply","told","out","kids","kid"]),
 (51,"_law_text",["tags","top","ply","result","width","out","text","name","value","room","piece","ends"]),
 (52,"_law_settle",["mine","parted","kids","k"]),
 (53,"_law_same",["mine","theirs","whole","k"]),
 (54,"law",["script","nums","width","half","games","texts","tags","top","ply","result","tree","whole","tokens","place","k","kept","fault","record"])]
noncomputable def gu:List (Nat×Int):=[(91,1),(93,2),(46,5),(40,9),(41,10)]
noncomputable def aw:Top where
 glob:=λg=>((z4[g]?).map (·.2)).getD .none
 gt:=λk=>((u4[k]?).map (·.2)).getD []
 single:=gu
 init:=λc=>match c with| 0=>0| 1=>25|_=>26
noncomputable def rG:Ss:=match ph.body with| .cons _ r=>r| .nil=> .nil
end Mine
namespace Mine
open PySem PySem.W PySem.Calls PyProof.Rows PySem.Spec
structure RT where
 mS:Nat->Addr
 cls:Nat->Addr
 init:Nat->Addr
 fld:Nat->Str
 fname:Nat->Str
 jD:Nat->Str
 b7:Nat->Addr
 named:Nat->Bool
 gu:Addr
noncomputable abbrev Pl:=List (Addr×Addr)
noncomputable def VR(R:RT)(φ:Pl):V->Value->Prop
 | .none,v=>v= .none
 | .bool b,v=>v= .bool b
 | .int i,v=>∃t,v= .int i t
 | .str s,v=>∃t,v= .str ⟨s.toArray⟩ t
 | .ref n,v=>∃p,φ[n]? =some p/\v= .ref p.1
 | .gt k,v=>v= .ref (R.mS k)
inductive aD(R:RT)(φ:Pl):List V->List Value->Prop
 |nil:aD R φ [] []
 |cons {x:V} {v:Value} {xs:List V} {vs:List Value} (h:VR R φ x v) (t:aD R φ xs vs):aD R φ (x::xs) (v::vs)
inductive gv(R:RT)(φ:Pl):List (Nat×V)->List DictEntry->Prop
 |nil:gv R φ [] []
 |cons {f:Nat} {x:V} {e:DictEntry} {t:Tok} {fs:List (Nat×V)} {es:List DictEntry} (hk:e.key= .str (R.fld f) t) (h:VR R φ x e.val) (r:gv R φ fs es):gv R φ ((f,x)::fs) (e::es)
noncomputable abbrev jc(its:Array Value)(n:Nat):Obj:={cls:= .type "tuple",data:= .seq its n}
noncomputable def db(R:RT)(φ:Pl)(h:Heap)(p:Addr×Addr):O->Prop
 | .list xs=>∃vs n,h.get? p.1=some (listOf vs n)/\aD R φ xs vs.toList/\p.2=p.1
 | .tup xs=>∃vs n,h.get? p.1=some (jc vs n)/\aD R φ xs vs.toList/\p.2=p.1
 | .inst c fs=>h.get? p.1=some (instObj (R.cls c) p.2)/\p.2≠p.1/\∃es n,h.get? p.2=some (dictOf es n)/\gv R φ fs es
theorem VR.mono{R:RT}{φ φ':Pl}(hp:φ<+:φ'){x:V}{v:Value}(h:VR R φ x v):VR R φ' x v:=by
 rcases x with⟨⟩<;>try exact h
 refine am h λp hq ae=>?_;clear h;subst ae
 refine xE hp λt ae=>?_;clear hp;subst ae
 exact⟨p,by rw[SA (Sr.mp hq).1];exact hq,rfl⟩
theorem aD.mono{R:RT}{φ φ':Pl}(hp:φ<+:φ'){xs:List V}{vs:List Value}(h:aD R φ xs vs):aD R φ' xs vs:=by
 induction h with
 |nil=>exact .nil
 |cons h _ ih=>exact .cons (h.mono hp) ih
theorem gv.mono{R:RT}{φ φ':Pl}(hp:φ<+:φ'){xs:List (Nat×V)}{vs:List DictEntry}(h:gv R φ xs vs):gv R φ' xs vs:=by
 induction h with
 |nil=>exact .nil
 |cons hk h _ ih=>exact .cons hk (h.mono hp) ih
theorem db.mono{R:RT}{φ φ':Pl}(hp:φ<+:φ'){h:Heap}{p:Addr×Addr}{o:O}(x:db R φ h p o):db R φ' h p o:=by
 cases o with
 |list xs=>refine bx x λvs n a b c=>?_;clear x;exact⟨vs,n,a,b.mono hp,c⟩
 |tup xs=>refine bx x λvs n a b c=>?_;clear x;exact⟨vs,n,a,b.mono hp,c⟩
 |inst c fs=>refine oY x λa b es n d e=>?_;clear x;exact⟨a,b,es,n,d,e.mono hp⟩
theorem db.keep{R:RT}{φ:Pl}{h h':Heap}{p:Addr×Addr}{o:O}(x:db R φ h p o)(h1:h'.get? p.1=h.get? p.1)(h2:h'.get? p.2=h.get? p.2):db R φ h' p o:=by
 cases o with
 |list xs=>refine bx x λvs n a b c=>?_;clear x;exact⟨vs,n,h1.trans a,b,c⟩
 |tup xs=>refine bx x λvs n a b c=>?_;clear x;exact⟨vs,n,h1.trans a,b,c⟩
 |inst c fs=>refine oY x λa b es n d e=>?_;clear x;exact⟨h1.trans a,b,es,n,h2.trans d,e⟩
theorem db.z5{R:RT}{φ:Pl}{h:Heap}{p:Addr×Addr}{o:O}(x:db R φ h p o):∃ob,h.get? p.1=some ob:=by
 cases o with
 |list xs=>refine bK x λvs n a _=>?_;clear x;exact⟨_,a⟩
 |tup xs=>refine bK x λvs n a _=>?_;clear x;exact⟨_,a⟩
 |inst c fs=>exact⟨_,x.1⟩
theorem db.z6{R:RT}{φ:Pl}{h:Heap}{p:Addr×Addr}{o:O}(x:db R φ h p o):∃ob,h.get? p.2=some ob:=by
 cases o with
 |list xs=>refine bx x λvs n a _ e=>?_;clear x;exact⟨_,e▸a⟩
 |tup xs=>refine bx x λvs n a _ e=>?_;clear x;exact⟨_,e▸a⟩
 |inst c fs=>refine oY x λ_ _ es n d _=>?_;clear x;exact⟨_,d⟩
noncomputable def apart(p q:Addr×Addr):Prop:=p.1≠q.1/\p.1≠q.2/\p.2≠q.1/\p.2≠q.2
theorem apart.symm{p q:Addr×Addr}(h:apart p q):apart q p:=⟨h.1.symm,h.2.2.1.symm,h.2.1.symm,h.2.2.2.symm⟩
structure Re(R:RT)(h₀:Heap)(L:Addr)(φ:Pl)(h:H)(ex:List (Addr×Obj))(hp:Heap):Prop where
 len:φ.length=h.length
 objs:∀{i:Nat} {p:Addr×Addr} {o:O},φ[i]? =some p->h[i]? =some o->db R φ hp p o
 fresh:∀p∈φ,h₀.get? p.1=none/\h₀.get? p.2=none/\p.1≠L/\p.2≠L
 apart:∀{i j:Nat} {p q:Addr×Addr},φ[i]? =some p->φ[j]? =some q->i≠j->apart p q
 ex:∀q∈ex,hp.get? q.1=some q.2/\h₀.get? q.1=none/\q.1≠L/\∀p∈φ,q.1≠p.1/\q.1≠p.2
theorem Re.HW{R:RT}{h₀ hp:Heap}{L:Addr}{φ:Pl}{h:H}{ex:List (Addr×Obj)}(r:Re R h₀ L φ h ex hp){i:Nat}{p:Addr×Addr}(e:φ[i]? =some p):∃o,h[i]? =some o/\db R φ hp p o:=by
 have hi:=(Sr.mp e).1
 have hh:i<h.length:=r.len▸hi
 exact⟨h[i],SI hh,r.objs e (SI hh)⟩
theorem Re.live{R:RT}{h₀ hp:Heap}{L:Addr}{φ:Pl}{h:H}{ex:List (Addr×Obj)}(r:Re R h₀ L φ h ex hp){p:Addr×Addr}(e:p∈φ):(∃ob,hp.get? p.1=some ob)/\∃ob,hp.get? p.2=some ob:=by
 obtain⟨i,hi,rfl⟩:=List.mem_iff_getElem.mp e
 refine am (r.HW (SI hi)) λo _ x=>?_
 exact⟨x.z5,x.z6⟩
theorem Re.move{R:RT}{h₀ h₁ hp aJ:Heap}{L L':Addr}{φ:Pl}{h:H}{ex:List (Addr×Obj)}(r:Re R h₀ L φ h ex hp)
  (k:∀b,(b∈ex.map (·.1)\/∃p∈φ,b=p.1\/b=p.2)->aJ.get? b=hp.get? b/\h₁.get? b=none/\b≠L'):Re R h₁ L' φ h ex aJ where
 len:=r.len
 objs:=λ{i p o} e e'=>(r.objs e e').keep (k _ (.inr ⟨p,Sy e,.inl rfl⟩)).1 (k _ (.inr ⟨p,Sy e,.inr rfl⟩)).1
 fresh:=λp hp=>have a:=k _ (.inr ⟨p,hp,.inl rfl⟩);have b:=k _ (.inr ⟨p,hp,.inr rfl⟩);⟨a.2.1,b.2.1,a.2.2,b.2.2⟩
 apart:=r.apart
 ex:=λq hq=>have a:=k q.1 (.inl (Ua hq));⟨a.1.trans (r.ex q hq).1,a.2.1,a.2.2,(r.ex q hq).2.2.2⟩
theorem Re.keep{R:RT}{h₀ hp aJ:Heap}{L:Addr}{φ:Pl}{h:H}{ex:List (Addr×Obj)}(r:Re R h₀ L φ h ex hp)
  (k:∀b o,b≠L->h₀.get? b=none->hp.get? b=some o->aJ.get? b=some o):Re R h₀ L φ h ex aJ:=r.move λb hb=>by
 rcases hb with hb| ⟨p,jE,hb⟩
 ·refine am (TY.mp hb) λq hq ae=>?_;subst ae
  have x:=r.ex q hq
  exact⟨(k _ _ x.2.2.1 x.2.1 x.1).trans x.1.symm,x.2.1,x.2.2.1⟩
 ·have f:=r.fresh p jE
  obtain⟨⟨o1,e1⟩,⟨o2,e2⟩⟩:=r.live jE
  rcases hb with rfl|rfl
  ·exact⟨(k _ _ f.2.2.1 f.1 e1).trans e1.symm,f.1,f.2.2.1⟩
  ·exact⟨(k _ _ f.2.2.2 f.2.1 e2).trans e2.symm,f.2.1,f.2.2.2⟩
theorem Re.push{R:RT}{h₀ hp aJ:Heap}{L:Addr}{φ:Pl}{h:H}{ex:List (Addr×Obj)}(r:Re R h₀ L φ h ex hp){p:Addr×Addr}{o:O}
  (k:∀b ob,hp.get? b=some ob->aJ.get? b=some ob) (n1:hp.get? p.1=none) (n2:hp.get? p.2=none) (f1:h₀.get? p.1=none) (f2:h₀.get? p.2=none) (l1:p.1≠L) (l2:p.2≠L)
  (x:db R (φ++[p]) aJ p o):Re R h₀ L (φ++[p]) (h++[o]) ex aJ:=by
 have r':=r.keep (aJ:=aJ) λb ob _ _ e=>k b ob e
 have nw:∀q∈φ,Mine.apart q p:=λq hq=>by
  obtain⟨⟨o1,e1⟩,⟨o2,e2⟩⟩:=r.live hq
  refine⟨λz=>?_,λz=>?_,λz=>?_,λz=>?_⟩
  ·rw[z,n1]at e1;exact nn e1
  ·rw[z,n2]at e1;exact nn e1
  ·rw[z,n1]at e2;exact nn e2
  ·rw[z,n2]at e2;exact nn e2
 refine⟨by simp[r.len],λ{i q ob} e e'=>?_,λq hq=>?_,λ{i j q q'} e e' ne=>?_,λq hq=>?_⟩
 ·by_cases hi:i<φ.length
  ·rw[SA hi]at e
   rw[SA (r.len▸hi)]at e'
   exact(r'.objs e e').mono (S6 _ _)
  ·have:i=φ.length:=by have:=(Sr.mp e).1;simp at this;exact SK (af 0xf101e91a10 rfl this) (af 0xf100e10 rfl (S7 hi))
   subst this
   rw[Tt]at e
   rw[r.len,Tt]at e'
   obtain rfl:=Sv e;obtain rfl:=Sv e'
   exact x
 ·refine Ts (SL.mp hq) (λhq=>?_) (λhq=>?_)
  ·exact r.fresh q hq
  ·obtain rfl:=Sx.mp hq
   exact⟨f1,f2,l1,l2⟩
 ·by_cases hi:i<φ.length<;>by_cases hj:j<φ.length
  ·rw[SA hi]at e
   rw[SA hj]at e'
   exact r.apart e e' ne
  ·rw[SA hi]at e
   have:j=φ.length:=by have:=(Sr.mp e').1;simp at this;exact SK (af 0xf101e91a10 rfl this) (af 0xf100e10 rfl (S7 hj))
   subst this
   rw[Tt]at e'
   obtain rfl:=Sv e'
   exact nw _ (Sy e)
  ·rw[SA hj]at e'
   have:i=φ.length:=by have:=(Sr.mp e).1;simp at this;exact SK (af 0xf101e91a10 rfl this) (af 0xf100e10 rfl (S7 hi))
   subst this
   rw[Tt]at e
   obtain rfl:=Sv e
   exact(nw _ (Sy e')).symm
  ·have h1:=(Sr.mp e).1
   have h2:=(Sr.mp e').1
   simp at h1 h2
   lia
 ·have a:=r'.ex q hq
  refine⟨a.1,a.2.1,a.2.2.1,λp' u5=>?_⟩
  refine Ts (SL.mp u5) (λz=>?_) (λz=>?_)
  ·exact a.2.2.2 p' z
  ·obtain rfl:=Sx.mp z
   have b:=(r.ex q hq).1
   exact⟨λz=>(by rw[z,n1]at b;exact nn b),λz=>by rw[z,n2]at b;exact nn b⟩
theorem Re.upd{R:RT}{h₀ hp aJ:Heap}{L:Addr}{φ:Pl}{h:H}{ex:List (Addr×Obj)}(r:Re R h₀ L φ h ex hp){i:Nat}{p:Addr×Addr}{o:O}(hi:φ[i]? =some p)
  (k:∀b ob,b≠p.1->b≠p.2->b≠L->h₀.get? b=none->hp.get? b=some ob->aJ.get? b=some ob) (x:db R φ aJ p o):Re R h₀ L φ (h.set i o) ex aJ:=by
 refine⟨by simp[r.len],λ{j q ob} e e'=>?_,r.fresh,r.apart,λq hq=>?_⟩
 ·by_cases hj:j=i
  ·subst hj
   have hlt:=(Sr.mp e').1
   rw[Uc (by simpa using hlt)]at e'
   obtain rfl:=Sv e'
   rw[hi]at e;obtain rfl:=Sv e
   exact x
  ·rw[S0 (VQ hj)]at e'
   have a:=r.apart e hi hj
   have y:=r.objs e e'
   have f:=r.fresh q (Sy e)
   refine xE y.z5 λo1 e1=>?_
   refine xE y.z6 λo2 e2=>?_
   exact y.keep ((k _ _ a.1 a.2.1 f.2.2.1 f.1 e1).trans e1.symm) ((k _ _ a.2.2.1 a.2.2.2 f.2.2.2 f.2.1 e2).trans e2.symm)
 ·have a:=r.ex q hq
  have b:=a.2.2.2 p (Sy hi)
  exact⟨k _ _ b.1 b.2 a.2.2.1 a.2.1 a.1,a.2⟩
theorem Re.more{R:RT}{h₀ hp:Heap}{L:Addr}{φ:Pl}{h:H}{ex:List (Addr×Obj)}(r:Re R h₀ L φ h ex hp){q:Addr×Obj}(e:hp.get? q.1=some q.2)(f:h₀.get? q.1=none)(l:q.1≠L)
  (a:∀p∈φ,q.1≠p.1/\q.1≠p.2):Re R h₀ L φ h (q::ex) hp:=
 ⟨r.len,r.objs,r.fresh,r.apart,λx hx=>by rcases SH.mp hx with rfl|hx;exact⟨e,f,l,a⟩;exact r.ex x hx⟩
theorem Re.less{R:RT}{h₀ hp:Heap}{L:Addr}{φ:Pl}{h:H}{ex ex':List (Addr×Obj)}(r:Re R h₀ L φ h ex hp)(s:∀q∈ex',q∈ex):Re R h₀ L φ h ex' hp:=
 ⟨r.len,r.objs,r.fresh,r.apart,λx hx=>r.ex x (s x hx)⟩
noncomputable def cells(hp:Heap)(φ:Pl):List (Addr×Obj):=φ.flatMap λp=>[(p.1,(hp.get? p.1).getD default),(p.2,(hp.get? p.2).getD default)]
theorem Re.news{R:RT}{h₀ hp:Heap}{L:Addr}{φ:Pl}{h:H}{ex:List (Addr×Obj)}(r:Re R h₀ L φ h ex hp):News h₀ L hp (cells hp φ++ex):=by
 intro q hq
 rcases SL.mp hq with hq|hq
 ·refine am (U8.mp hq) λp hp1 hq=>?_
  obtain⟨⟨o1,e1⟩,⟨o2,e2⟩⟩:=r.live hp1
  have f:=r.fresh p hp1
  simp only[SH,TJ,or_false]at hq
  rcases hq with rfl|rfl
  ·exact⟨by rw[e1];rfl,f.2.2.1,f.1⟩
  ·exact⟨by rw[e2];rfl,f.2.2.2,f.2.1⟩
 ·have a:=r.ex q hq
  exact⟨a.1,a.2.2.1,a.2.1⟩
theorem pj{hp:Heap}{φ:Pl}{ex:List (Addr×Obj)}{b:Addr}(hb:b∈ex.map (·.1)\/∃p∈φ,b=p.1\/b=p.2):∃o,(b,o)∈cells hp φ++ex:=by
 rcases hb with hb| ⟨p,jE,rfl|rfl⟩
 ·refine am (TY.mp hb) λq hq ae=>?_;subst ae
  exact⟨q.2,SY _ hq⟩
 ·exact⟨_,SP _ (U8.mpr ⟨p,jE,.head _⟩)⟩
 ·exact⟨_,SP _ (U8.mpr ⟨p,jE,.tail _ (.head _)⟩)⟩
theorem Re.ofNews{R:RT}{h₀ h₁ hp aJ:Heap}{L L':Addr}{φ:Pl}{h:H}{ex:List (Addr×Obj)}(r:Re R h₀ L φ h ex hp)(N:News h₁ L' aJ (cells hp φ++ex)):Re R h₁ L' φ h ex aJ:=r.move λb hb=>by
 refine xE (pj (hp:=hp) hb) λo ho=>?_
 have n:=N _ ho
 have m:=(r.news _ ho).1
 exact⟨n.1.trans m.symm,n.2.2,n.2.1⟩
noncomputable abbrev Ex:=PySem.Expr
theorem dk{c:Prop} [Decidable c] {f:c->Bool}{G:Prop}(h:(if hc:c then f hc else false)=true)(k:∀hc:c,f hc=true->G):G:=
 if hc:c then k hc ((dif_pos (c:=c) (t:=f) (e:=λ_=>false) hc).symm.trans h)else bad ((dif_neg (c:=c) (t:=f) (e:=λ_=>false) hc).symm.trans h)
noncomputable def eG(e:PySem.Expr)(p:Str->Pos->Bool):Bool:=if h:e.ctorIdx=23 then PySem.Expr.Name.elim (motive_1:=λ_=>Bool) e h p else false
@[elab_as_elim] theorem fh{e:PySem.Expr}{p:Str->Pos->Bool}{M:PySem.Expr->Prop}(h:eG e p=true)(k:∀x0 x1,p x0 x1=true->M (.Name x0 x1)):M e:=dk h λhc hp=>PySem.Expr.Name.elim (motive_1:=λt=>∀hc:t.ctorIdx=23,PySem.Expr.Name.elim (motive_1:=λ_=>Bool) t hc p=true->M t) e hc (λx0 x1 _=>k x0 x1) hc hp
noncomputable def gw(e:PySem.Expr)(p:Const->Nat->Pos->Bool):Bool:=if h:e.ctorIdx=19 then PySem.Expr.Constant.elim (motive_1:=λ_=>Bool) e h p else false
@[elab_as_elim] theorem hG{e:PySem.Expr}{p:Const->Nat->Pos->Bool}{M:PySem.Expr->Prop}(h:gw e p=true)(k:∀x0 x1 x2,p x0 x1 x2=true->M (.Constant x0 x1 x2)):M e:=dk h λhc hp=>PySem.Expr.Constant.elim (motive_1:=λt=>∀hc:t.ctorIdx=19,PySem.Expr.Constant.elim (motive_1:=λ_=>Bool) t hc p=true->M t) e hc (λx0 x1 x2 _=>k x0 x1 x2) hc hp
noncomputable def pA(e:PySem.Expr)(p:UnaryOp->Ex->Pos->Bool):Bool:=if h:e.ctorIdx=3 then PySem.Expr.UnaryOp.elim (motive_1:=λ_=>Bool) e h p else false
@[elab_as_elim] theorem rH{e:PySem.Expr}{p:UnaryOp->Ex->Pos->Bool}{M:PySem.Expr->Prop}(h:pA e p=true)(k:∀x0 x1 x2,p x0 x1 x2=true->M (.UnaryOp x0 x1 x2)):M e:=dk h λhc hp=>PySem.Expr.UnaryOp.elim (motive_1:=λt=>∀hc:t.ctorIdx=3,PySem.Expr.UnaryOp.elim (motive_1:=λ_=>Bool) t hc p=true->M t) e hc (λx0 x1 x2 _=>k x0 x1 x2) hc hp
noncomputable def u6(e:PySem.Expr)(p:Ex->Operator->Ex->Pos->Bool):Bool:=if h:e.ctorIdx=2 then PySem.Expr.BinOp.elim (motive_1:=λ_=>Bool) e h p else false
@[elab_as_elim] theorem z7{e:PySem.Expr}{p:Ex->Operator->Ex->Pos->Bool}{M:PySem.Expr->Prop}(h:u6 e p=true)(k:∀x0 x1 x2 x3,p x0 x1 x2 x3=true->M (.BinOp x0 x1 x2 x3)):M e:=dk h λhc hp=>PySem.Expr.BinOp.elim (motive_1:=λt=>∀hc:t.ctorIdx=2,PySem.Expr.BinOp.elim (motive_1:=λ_=>Bool) t hc p=true->M t) e hc (λx0 x1 x2 x3 _=>k x0 x1 x2 x3) hc hp
noncomputable def oTup(e:PySem.Expr)(p:List Ex->Nat->Pos->Bool):Bool:=if h:e.ctorIdx=25 then PySem.Expr.Tuple.elim (motive_1:=λ_=>Bool) e h p else false
@[elab_as_elim] theorem u7{e:PySem.Expr}{p:List Ex->Nat->Pos->Bool}{M:PySem.Expr->Prop}(h:oTup e p=true)(k:∀x0 x1 x2,p x0 x1 x2=true->M (.Tuple x0 x1 x2)):M e:=dk h λhc hp=>PySem.Expr.Tuple.elim (motive_1:=λt=>∀hc:t.ctorIdx=25,PySem.Expr.Tuple.elim (motive_1:=λ_=>Bool) t hc p=true->M t) e hc (λx0 x1 x2 _=>k x0 x1 x2) hc hp
noncomputable def oLst(e:PySem.Expr)(p:List Ex->Pos->Bool):Bool:=if h:e.ctorIdx=24 then PySem.Expr.List.elim (motive_1:=λ_=>Bool) e h p else false
@[elab_as_elim] theorem HX{e:PySem.Expr}{p:List Ex->Pos->Bool}{M:PySem.Expr->Prop}(h:oLst e p=true)(k:∀x0 x1,p x0 x1=true->M (.List x0 x1)):M e:=dk h λhc hp=>PySem.Expr.List.elim (motive_1:=λt=>∀hc:t.ctorIdx=24,PySem.Expr.List.elim (motive_1:=λ_=>Bool) t hc p=true->M t) e hc (λx0 x1 _=>k x0 x1) hc hp
noncomputable def u8(e:PySem.Expr)(p:Ex->List CmpOp->List Ex->Pos->Bool):Bool:=if h:e.ctorIdx=15 then PySem.Expr.Compare.elim (motive_1:=λ_=>Bool) e h p else false
@[elab_as_elim] theorem z8{e:PySem.Expr}{p:Ex->List CmpOp->List Ex->Pos->Bool}{M:PySem.Expr->Prop}(h:u8 e p=true)(k:∀x0 x1 x2 x3,p x0 x1 x2 x3=true->M (.Compare x0 x1 x2 x3)):M e:=dk h λhc hp=>PySem.Expr.Compare.elim (motive_1:=λt=>∀hc:t.ctorIdx=15,PySem.Expr.Compare.elim (motive_1:=λ_=>Bool) t hc p=true->M t) e hc (λx0 x1 x2 x3 _=>k x0 x1 x2 x3) hc hp
noncomputable def u9(e:PySem.Expr)(p:BoolOp->List Ex->Pos->Bool):Bool:=if h:e.ctorIdx=0 then PySem.Expr.BoolOp.elim (motive_1:=λ_=>Bool) e h p else false
@[elab_as_elim] theorem z9{e:PySem.Expr}{p:BoolOp->List Ex->Pos->Bool}{M:PySem.Expr->Prop}(h:u9 e p=true)(k:∀x0 x1 x2,p x0 x1 x2=true->M (.BoolOp x0 x1 x2)):M e:=dk h λhc hp=>PySem.Expr.BoolOp.elim (motive_1:=λt=>∀hc:t.ctorIdx=0,PySem.Expr.BoolOp.elim (motive_1:=λ_=>Bool) t hc p=true->M t) e hc (λx0 x1 x2 _=>k x0 x1 x2) hc hp
noncomputable def Aa(e:PySem.Expr)(p:Ex->Ex->Ex->Pos->Bool):Bool:=if h:e.ctorIdx=5 then PySem.Expr.IfExp.elim (motive_1:=λ_=>Bool) e h p else false
@[elab_as_elim] theorem HY{e:PySem.Expr}{p:Ex->Ex->Ex->Pos->Bool}{M:PySem.Expr->Prop}(h:Aa e p=true)(k:∀x0 x1 x2 x3,p x0 x1 x2 x3=true->M (.IfExp x0 x1 x2 x3)):M e:=dk h λhc hp=>PySem.Expr.IfExp.elim (motive_1:=λt=>∀hc:t.ctorIdx=5,PySem.Expr.IfExp.elim (motive_1:=λ_=>Bool) t hc p=true->M t) e hc (λx0 x1 x2 x3 _=>k x0 x1 x2 x3) hc hp
noncomputable def mT(e:PySem.Expr)(p:Ex->Ex->Pos->Bool):Bool:=if h:e.ctorIdx=21 then PySem.Expr.Subscript.elim (motive_1:=λ_=>Bool) e h p else false
@[elab_as_elim] theorem pB{e:PySem.Expr}{p:Ex->Ex->Pos->Bool}{M:PySem.Expr->Prop}(h:mT e p=true)(k:∀x0 x1 x2,p x0 x1 x2=true->M (.Subscript x0 x1 x2)):M e:=dk h λhc hp=>PySem.Expr.Subscript.elim (motive_1:=λt=>∀hc:t.ctorIdx=21,PySem.Expr.Subscript.elim (motive_1:=λ_=>Bool) t hc p=true->M t) e hc (λx0 x1 x2 _=>k x0 x1 x2) hc hp
noncomputable def vc(e:PySem.Expr)(p:Option Ex->Option Ex->Option Ex->Pos->Bool):Bool:=if h:e.ctorIdx=26 then PySem.Expr.Slice.elim (motive_1:=λ_=>Bool) e h p else false
@[elab_as_elim] theorem Ab{e:PySem.Expr}{p:Option Ex->Option Ex->Option Ex->Pos->Bool}{M:PySem.Expr->Prop}(h:vc e p=true)(k:∀x0 x1 x2 x3,p x0 x1 x2 x3=true->M (.Slice x0 x1 x2 x3)):M e:=dk h λhc hp=>PySem.Expr.Slice.elim (motive_1:=λt=>∀hc:t.ctorIdx=26,PySem.Expr.Slice.elim (motive_1:=λ_=>Bool) t hc p=true->M t) e hc (λx0 x1 x2 x3 _=>k x0 x1 x2 x3) hc hp
noncomputable def iI(e:PySem.Expr)(p:Ex->Str->Pos->Bool):Bool:=if h:e.ctorIdx=20 then PySem.Expr.Attribute.elim (motive_1:=λ_=>Bool) e h p else false
@[elab_as_elim] theorem jd{e:PySem.Expr}{p:Ex->Str->Pos->Bool}{M:PySem.Expr->Prop}(h:iI e p=true)(k:∀x0 x1 x2,p x0 x1 x2=true->M (.Attribute x0 x1 x2)):M e:=dk h λhc hp=>PySem.Expr.Attribute.elim (motive_1:=λt=>∀hc:t.ctorIdx=20,PySem.Expr.Attribute.elim (motive_1:=λ_=>Bool) t hc p=true->M t) e hc (λx0 x1 x2 _=>k x0 x1 x2) hc hp
noncomputable def hJ(e:PySem.Expr)(p:Ex->List Ex->List Keyword->Pos->Bool):Bool:=if h:e.ctorIdx=16 then PySem.Expr.Call.elim (motive_1:=λ_=>Bool) e h p else false
@[elab_as_elim] theorem jf{e:PySem.Expr}{p:Ex->List Ex->List Keyword->Pos->Bool}{M:PySem.Expr->Prop}(h:hJ e p=true)(k:∀x0 x1 x2 x3,p x0 x1 x2 x3=true->M (.Call x0 x1 x2 x3)):M e:=dk h λhc hp=>PySem.Expr.Call.elim (motive_1:=λt=>∀hc:t.ctorIdx=16,PySem.Expr.Call.elim (motive_1:=λ_=>Bool) t hc p=true->M t) e hc (λx0 x1 x2 x3 _=>k x0 x1 x2 x3) hc hp
noncomputable def vd(e:PySem.Expr)(p:Ex->List Comprehension->Scope->Pos->Bool):Bool:=if h:e.ctorIdx=8 then PySem.Expr.ListComp.elim (motive_1:=λ_=>Bool) e h p else false
@[elab_as_elim] theorem Ac{e:PySem.Expr}{p:Ex->List Comprehension->Scope->Pos->Bool}{M:PySem.Expr->Prop}(h:vd e p=true)(k:∀x0 x1 x2 x3,p x0 x1 x2 x3=true->M (.ListComp x0 x1 x2 x3)):M e:=dk h λhc hp=>PySem.Expr.ListComp.elim (motive_1:=λt=>∀hc:t.ctorIdx=8,PySem.Expr.ListComp.elim (motive_1:=λ_=>Bool) t hc p=true->M t) e hc (λx0 x1 x2 x3 _=>k x0 x1 x2 x3) hc hp
noncomputable def pC(e:PySem.Const)(p:Str->Bool):Bool:=if h:e.ctorIdx=5 then PySem.Const.str.elim (motive:=λ_=>Bool) e h p else false
@[elab_as_elim] theorem rI{e:PySem.Const}{p:Str->Bool}{M:PySem.Const->Prop}(h:pC e p=true)(k:∀x0,p x0=true->M (.str x0)):M e:=dk h λhc hp=>PySem.Const.str.elim (motive:=λt=>∀hc:t.ctorIdx=5,PySem.Const.str.elim (motive:=λ_=>Bool) t hc p=true->M t) e hc (λx0 _=>k x0) hc hp
noncomputable def o1{α:Type}(l:List α)(p:α->Bool):Bool:=l.casesOn false λx r=>r.casesOn (p x) λ_ _=>false
@[elab_as_elim] theorem i1{α:Type}{l:List α}{p:α->Bool}{M:List α->Prop}(h:o1 l p=true)(k:∀x,p x=true->M [x]):M l:=
 List.casesOn (motive:=λl=>o1 l p=true->M l) l bad (λx r=>List.casesOn (motive:=λr=>o1 (x::r) p=true->M (x::r)) r (k x) λ_ _=>bad) h
noncomputable def o2{α:Type}(l:List α)(p:α->α->Bool):Bool:=l.casesOn false λx r=>o1 r (p x)
@[elab_as_elim] theorem i2{α:Type}{l:List α}{p:α->α->Bool}{M:List α->Prop}(h:o2 l p=true)(k:∀x y,p x y=true->M [x,y]):M l:=
 List.casesOn (motive:=λl=>o2 l p=true->M l) l bad (λx r h=>i1 (M:=λr=>M (x::r)) h (k x)) h
noncomputable def oE{α:Type}(l:List α)(b:Bool):Bool:=l.casesOn b λ_ _=>false
@[elab_as_elim] theorem iE{α:Type}{l:List α}{b:Bool}{M:List α->Prop}(h:oE l b=true)(k:b=true->M []):M l:=
 List.casesOn (motive:=λl=>oE l b=true->M l) l k (λ_ _=>bad) h
noncomputable def oS{α:Type}(o:Option α)(p:α->Bool):Bool:=o.casesOn false p
@[elab_as_elim] theorem iS{α:Type}{o:Option α}{p:α->Bool}{M:Option α->Prop}(h:oS o p=true)(k:∀x,p x=true->M (some x)):M o:=
 Option.casesOn (motive:=λo=>oS o p=true->M o) o bad k h
theorem pD{α:Type}{o:Option α}{p:α->Bool}(h:oS o p=true):∃x,o=some x/\p x=true:=iS (M:=λo=>∃x,o=some x/\p x=true) h λx h=>⟨x,rfl,h⟩
noncomputable def oN{α:Type}(o:Option α)(b:Bool):Bool:=o.casesOn b λ_=>false
@[elab_as_elim] theorem iN{α:Type}{o:Option α}{b:Bool}{M:Option α->Prop}(h:oN o b=true)(k:b=true->M none):M o:=
 Option.casesOn (motive:=λo=>oN o b=true->M o) o k (λ_=>bad) h
@[elab_as_elim] theorem dG{α:Type} [DecidableEq α] {o a:α}{b:Bool}{M:α->Prop}(h:(decide (o=a)&&b)=true)(k:b=true->M a):M o:=
 (of_decide_eq_true (an h).1).symm▸k (an h).2
@[elab_as_elim] theorem dZ{α:Type} [BEq α] [LawfulBEq α] {o a:α}{b:Bool}{M:α->Prop}(h:(o==a&&b)=true)(k:b=true->M a):M o:=
 (eq_of_beq (an h).1).symm▸k (an h).2
noncomputable def plainHead(e:Ex):Bool:= !(decide (e.ctorIdx=22)||decide (e.ctorIdx=26)||decide (e.ctorIdx=7))
noncomputable def pk(f:Ex->Bool)(e:Ex):Bool:=plainHead e&&f e
noncomputable def oC{α:Type}(l:List α)(p:α->List α->Bool):Bool:=l.casesOn false p
@[elab_as_elim] theorem iC{α:Type}{l:List α}{p:α->List α->Bool}{M:List α->Prop}(h:oC l p=true)(k:∀x r,p x r=true->M (x::r)):M l:=
 List.casesOn (motive:=λl=>oC l p=true->M l) l bad k h
noncomputable def rJ(g:Comprehension)(p:Ex->Ex->Bool):Bool:=oE g.ifs (decide (g.is_async=0)&&p g.target g.iter)
@[elab_as_elim] theorem Ad{g:Comprehension}{p:Ex->Ex->Bool}{M:Comprehension->Prop}(h:rJ g p=true)(k:∀x y,p x y=true->M ⟨x,y,[],0⟩):M g:=
 Comprehension.casesOn (motive_3:=λg=>rJ g p=true->M g) g (λx y l i h=>iE (M:=λl=>M ⟨x,y,l,i⟩) h λh=>dG (M:=λi=>M ⟨x,y,[],i⟩) h (k x y)) h
noncomputable def pE(l:List Ex)(p:Pos)(f g:Ex->Bool):Bool:=l.casesOn false λx r=>r.casesOn false λy r=>f x&&g (r.casesOn y λz r=> .BoolOp .Or (y::z::r) p)
theorem HZ{l:List Ex}{p:Pos}{f g:Ex->Bool}{M:List Ex->Prop}(h:pE l p f g=true)(k:∀x y,f x=true->g y=true->M [x,y])(k2:∀x y z r,f x=true->g (.BoolOp .Or (y::z::r) p)=true->M (x::y::z::r)):M l:=
 List.casesOn (motive:=λl=>pE l p f g=true->M l) l bad (λx r=>List.casesOn (motive:=λr=>pE (x::r) p f g=true->M (x::r)) r bad λy r=>List.casesOn (motive:=λr=>pE (x::y::r) p f g=true->M (x::y::r)) r (λh=>k x y (an h).1 (an h).2) λz r h=>k2 x y z r (an h).1 (an h).2) h
noncomputable def hK(e:Ex):Bool:= !(hJ e λf _ _ _=>decide (f.ctorIdx=23))
noncomputable def fK:List PySem.Expr->Option (List Str)
 | []=>some []
 | .Name x _::r=>(fK r).map (x:: ·)
 |_=>none
noncomputable def dH:PySem.Expr->Option (List Str)
 | .Name x _=>some [x]
 | .Tuple es _ _=>match fK es with
  |some (x::y::r)=>some (x::y::r)
  |_=>none
 |_=>none
noncomputable def iJ(sc:Scope)(xs:List Str):Bool:=
 sc.kind== .function&&sc.names.all (λx=>x.2 != .free&&x.2 != .cell&&(x.2 != .local||sc.names.lookup x.1==some .local))&&xs.all (λx=>sc.names.lookup x==some .local)&&decide xs.Nodup
noncomputable def mU(e:Ex)(p:Ex->CmpOp->Ex->Bool):Bool:=u8 e λl os rs _=>o1 os λo=>o1 rs λr=>p l o r
@[elab_as_elim] theorem pF{e:Ex}{p:Ex->CmpOp->Ex->Bool}{M:Ex->Prop}(h:mU e p=true)(k:∀l o r q,p l o r=true->M (.Compare l [o] [r] q)):M e:=z8 h λl _ _ q h=>i1 h λo h=>i1 h λr h=>k l o r q h
noncomputable def pG(e:Ex)(p:Ex->Option Ex->Option Ex->Option Ex->Bool):Bool:=mT e λx s _=>vc s λl u t _=>p x l u t
@[elab_as_elim] theorem rK{e:Ex}{p:Ex->Option Ex->Option Ex->Option Ex->Bool}{M:Ex->Prop}(h:pG e p=true)(k:∀x l u t q q',p x l u t=true->M (.Subscript x (.Slice l u t q') q)):M e:=pB h λx _ q h=>Ab h λl u t q' h=>k x l u t q q' h
noncomputable def rM(n:Str)(e:Ex)(p:Ex->Ex->Bool):Bool:=hJ e λf xs kw q=>iI f λx m ap=>o1 xs λy=>oE kw (m==n&&(p x y&&hK x&&ap.endLine==q.line))
@[elab_as_elim] theorem ve{n:Str}{e:Ex}{p:Ex->Ex->Bool}{M:Ex->Prop}(h:rM n e p=true)(k:∀x y ap q,(ap.endLine==q.line)=true->hK x=true->p x y=true->M (.Call (.Attribute x n ap) [y] [] q)):M e:=jf h λ_ _ _ q h=>jd h λx _ ap h=>i1 h λy h=>iE h λh=>dZ (M:=λn=>M (.Call (.Attribute x n ap) [y] [] q)) h λh=>k x y ap q (an h).2 (an (an h).1).2 (an (an h).1).1
section
variable(R:RT)(gn:Nat)
section
variable(sc:Scope)(ns:List Str)
noncomputable def cF(i:Nat)(x:Str):Bool:=ns[i]? ==some x&&sc.names.lookup x==some .local&& !(x==("__debug__":Str))
noncomputable def bz(x:Str):Bool:=sc.names.lookup x==some .globalImplicit&& !(x==("__debug__":Str))
noncomputable def H0(o:Op):Operator:=o.casesOn .Add .Sub .Mult .FloorDiv .Mod .RShift .BitAnd
noncomputable def H1(o:eA):CmpOp:=o.casesOn .Eq .NotEq .Lt .LtE .Gt .GtE
noncomputable def kt(op:Op)(o:Operator):Bool:=decide (o=H0 op)
noncomputable def jF(op:eA)(o:CmpOp):Bool:=decide (o=H1 op)
noncomputable def litOk(v:V)(c:Const):Bool:=v.casesOn (decide (c= .none)) (λb=>decide (c= .bool b)) (λi=>decide (c= .int i)) (λs=>pC c λx=>decide (s=x.cps.toList)) (λ_=>false) (λ_=>false)
noncomputable def lE(s:List Nat)(e:Ex):Bool:=gw e λc _ _=>pC c λx=>decide (s=x.cps.toList)
noncomputable def vf(n:Str)(e:Ex):Bool:=eG e λx _=>x==n&&bz sc x
noncomputable def pH(n:Str)(e:Ex)(p:Ex->Bool):Bool:=hJ e λf xs kw _=>o1 xs λx=>oE kw (vf sc n f&&pk p x)
noncomputable def vg(n:Str)(e:Ex)(p p':Ex->Bool):Bool:=hJ e λf xs kw _=>o2 xs λx y=>oE kw (vf sc n f&&(pk p x&&pk p' y))
noncomputable def oG(e:Ex)(p:Str->List Ex->Bool):Bool:=hJ e λg xs kw _=>eG g λx _=>oE kw (bz sc x&&p x xs)
end
mutual
noncomputable def aF(sc:Scope)(ns:List Str):E->Ex->Bool
 | .loc i=>λe=>eG e λx _=>cF sc ns i x
 | .lit v=>λe=>gw e λc _ _=>litOk v c
 | .neg k=>λe=>pA e λo x _=>decide (o= .USub)&&gw x λc _ _=>decide (c= .int k)
 | .pow a b=>λe=>u6 e λl o r _=>decide (o= .Pow)&&(decide (a=10)&&(decide (b=9)&&((gw l λc _ _=>decide (c= .int 10))&&gw r λc _ _=>decide (c= .int 9))))
 | .glob g=>λe=>eG e λx _=>R.jD g==x&&bz sc x&&decide (g<gn)
 | .tup es=>λe=>oTup e λxs _ _=>ku sc ns es xs&&decide (xs.length<=1000)
 | .lst es=>λe=>oLst e λxs _=>ku sc ns es xs&&decide (xs.length<=1000)
 | .bin op a b=>λe=>u6 e λl o r _=>kt op o&&aF sc ns a l&&aF sc ns b r
 | .not a=>λe=>pA e λo x _=>decide (o= .Not)&&aF sc ns a x
 | .cmp op a b=>λe=>mU e λl o r=>jF op o&&aF sc ns a l&&pk (aF sc ns b) r
 | .fI p q a b c=>λe=>u8 e λl os rs _=>o2 os λo o'=>o2 rs λr r'=>jF p o&&jF q o'&&aF sc ns a l&&aF sc ns b r&&pk (aF sc ns c) r'
 | .and a b=>λe=>u9 e λo xs _=>decide (o= .And)&&o2 xs λx y=>aF sc ns a x&&aF sc ns b y
 | .or a b=>λe=>u9 e λo xs p=>decide (o= .Or)&&pE xs p (aF sc ns a) (aF sc ns b)
 | .ite c a b=>λe=>Aa e λt x y _=>aF sc ns c t&&aF sc ns a x&&aF sc ns b y
 | .g7 a lo=>λe=>pG e λx l u t=>oS l λl=>oN u (oN t (aF sc ns a x&&aF sc ns lo l))
 | .g9 a hi=>λe=>pG e λx l u t=>oN l (oS u λu=>oN t (aF sc ns a x&&aF sc ns hi u))
 | .eB a lo hi=>λe=>pG e λx l u t=>oS l λl=>oS u λu=>oN t (aF sc ns a x&&aF sc ns lo l&&aF sc ns hi u)
 | .rev a=>λe=>pG e λx l u t=>oN l (oN u (oS t λt=>pA t λo c _=>decide (o= .USub)&&gw c λc _ _=>decide (c= .int 1)&&aF sc ns a x))
 | .idx a i=>λe=>mT e λx y _=>aF sc ns a x&&pk (aF sc ns i) y
 | .attr a f=>λe=>iI e λx n _=>n==R.fld f&&(aF sc ns a x&&hK x&&decide (f<17))
 | .call f es=>λe=>oG sc e λx xs=>R.fname f==x&&ku sc ns es xs&&R.named f
 | .new c es=>λe=>oG sc e λx xs=>R.jD (1000+c)==x&&ku sc ns es xs&&decide (c<3)
 | .len a=>λe=>pH sc "len" e (aF sc ns a)
 | .ord a=>λe=>pH sc "ord" e (aF sc ns a)
 | .strOf a=>λe=>pH sc "str" e (aF sc ns a)
 | .max2 a b=>λe=>vg sc "max" e (aF sc ns a) (aF sc ns b)
 | .dm a b=>λe=>vg sc "divmod" e (aF sc ns a) (aF sc ns b)
 | .listOf a=>λe=>pH sc "list" e (aF sc ns a)
 | .join s a=>λe=>hJ e λf xs kw q=>iI f λo n p=>gw o λc _ _=>pC c λz=>o1 xs λx=>oE kw (n=="join"&&(decide (s=z.cps.toList)&&(decide (s.length<=8)&&pk (aF sc ns a) x&&p.endLine==q.line)))
 | .split a=>λe=>rM "split" e λx y=>aF sc ns a x&&lE [32] y
 | .replace a u v=>λe=>hJ e λf xs kw q=>iI f λx n p=>o2 xs λy z=>oE kw (n=="replace"&&(aF sc ns a x&&lE u y&&lE v z&&decide (u.length=1/\v.length<=8/\u≠v)&&hK x&&p.endLine==q.line))
 | .append a b=>λe=>rM "append" e λx y=>aF sc ns a x&&pk (aF sc ns b) y
 | .extend a b=>λe=>rM "extend" e λx y=>aF sc ns a x&&pk (aF sc ns b) y
 | .pop a=>λe=>hJ e λf xs kw q=>iI f λx n p=>oE xs (oE kw (n=="pop"&&(aF sc ns a x&&hK x&&p.endLine==q.line)))
 | .dD neg a b=>λe=>mU e λl o r=>decide (o=if neg then .NotIn else .In)&&aF sc ns a l&&pk (aF sc ns b) r
 | .inD a=>λe=>mU e λl o r=>eG r λx _=>decide (o= .In)&&(x=="SINGLES"&&(bz sc "SINGLES"&&aF sc ns a l))
 | .getD a=>λe=>mT e λn y _=>eG n λx _=>x=="SINGLES"&&(bz sc "SINGLES"&&pk (aF sc ns a) y)
 | .isNone neg a=>λe=>mU e λl o r=>gw r λc _ _=>decide (c= .none)&&(decide (o=if neg then .IsNot else .Is)&&aF sc ns a l)
 | .comp elt k src=>λe=>vd e λx gs sc' _=>o1 gs λg=>rJ g λt it=>oS (dH t) λxs=>decide (k=xs.length)&&(iJ sc' xs&&aF sc' xs elt x&&pk (aF sc ns src) it)
noncomputable def ku(sc:Scope)(ns:List Str):Es->List Ex->Bool
 | .nil=>λxs=>xs.isEmpty
 | .cons e r=>λxs=>oC xs λx xs=>pk (aF sc ns e) x&&ku sc ns r xs
end
end
structure Cx where
 prog:Program
 w:World
 R:RT
 T:Top
 fns:Nat->Option Fn
 jg:Nat->FuncData
 bad:Addr
 gn:Nat
 K:Frag
 mg:Str->Option Value
 mb:Str->Option Value
 Z:Heap->Addr->(Str->Option Value)->List Env->Pl->H->List (Addr×Obj)->Value->V->Shared->Prop
noncomputable def rN:List Str:=["len","ord","range","str","max","divmod","list"]
structure rO(R:RT)(K:Frag):Prop where
 ga:∀c,c<3->findIn K (.ref (R.cls c)) "__getattribute__"=some (some (.builtin "object.__getattribute__"))
 sa:∀c,c<3->findIn K (.ref (R.cls c)) "__setattr__"=some (some (.builtin "object.__setattr__"))
 over:∀c,c<3->plainOver K (R.cls c)=true
 hd:∀c,c<3->hasDictIn K (R.cls c)=true
 fld:∀c f,c<3->f<17->findIn K (.ref (R.cls c)) (R.fld f)=some none/\copiedNames.contains (R.fld f)=false
 makes:∀c,c<3->makesIn K (R.cls c)=true
 init:∀c,c<3->findIn K (.ref (R.cls c)) "__init__"=some (some (.ref (R.init c)))/\isFn K (.ref (R.init c))=true
 inj:∀f g,R.fld f=R.fld g->f=g
 keep:∀c,c<3->keepIn K (.ref (R.cls c))=true
noncomputable def rP(l:List (Nat×Int)):List (PyData×PyData):=l.map λp=>(PyData.str ⟨#[p.1]⟩,PyData.int p.2)
structure Bs(C:Cx)(h:Heap):Prop where
 g:h.Ns mainGlobals C.mg
 b:h.Ns builtinsNs C.mb
 nolimit:h.NoLimit
 nodigits:∃mc,h.Ns cStatics mc/\mc "sys.int_max_str_digits"=none
 blt:∀x∈rN,C.mg x=none/\∃v,bootBuiltins x=some v/\C.mb x=some v
 glob:∀k,k<C.gn->∃v,C.mg (C.R.jD k)=some v/\VR C.R [] (C.T.glob k) v
 gt:∀k,∃vs n,h.get? (C.R.mS k)=some (jc vs n)/\aD C.R [] ((C.T.gt k).map V.str) vs.toList
 single:StrTab C.prog C.w h C.R.gu (rP C.T.single)
 pI:C.mg "SINGLES"=some (.ref C.R.gu)
 x:C.K.In h
 k:rO C.R C.K
 fn:∀f,C.R.named f=true->C.mg (C.R.fname f)=some (.ref (C.R.b7 f))/\∃o fd,h.get? (C.R.b7 f)=some o/\o.data= .func fd
 code:∀f fn,C.fns f=some fn->∃o,h.get? (C.R.b7 f)=some o/\o.data= .func (C.jg f)/\h.CodeRec (C.jg f).code (C.jg f).qualname
 cls:∀c,c<3->C.mg (C.R.jD (1000+c))=some (.ref (C.R.cls c))
 seer:h.NoSeer
 tree:C.prog.given.tree=none
theorem Bs.keeps{C:Cx}{h h':Heap}(B:Bs C h)(k:∀b o,h.get? b=some o->h'.get? b=some o):Bs C h' where
 g:=B.g.keeps k
 b:=B.b.keeps k
 nolimit:=B.nolimit.keeps k
 nodigits:=am B.nodigits λmc a b=>⟨mc,a.keeps k,b⟩
 blt:=B.blt
 glob:=B.glob
 gt:=λi=>bK (B.gt i) λvs n a b=>⟨vs,n,k _ _ a,b⟩
 single:=B.single.keep k
 pI:=B.pI
 x:=B.x.keeps k
 k:=B.k
 fn:=λf e=>rx (B.fn f e) λa o fd b c=>⟨a,o,fd,k _ _ b,c⟩
 code:=λf fn e=>aN (B.code f fn e) λo a b c=>⟨o,k _ _ a,b,c.keeps k⟩
 cls:=B.cls
 seer:=B.seer.keeps k
 tree:=B.tree
noncomputable def room(A:Around)(n:Nat):Prop:=A.depth+3*n+102<1000/\A.units+16*n+128<9900
noncomputable def lF(A:Around)(n:Nat):Prop:=A.depth+3*n+104<1000/\A.units+16*n+140<9900
theorem room.one{A:Around}{n:Nat}(h:room A (n+1)):lF A n:=by unfold room at h;unfold lF;exact⟨ah 0x1f29682b9c13a01e29662b9c91a13a0 rfl h.1,ah 0x1f298c2b9c1102b01e29802b9c91a1102b0 rfl h.2⟩
noncomputable def Rest(σ σ':Shared):Prop:=σ'.gens=σ.gens/\σ'.drawn=σ.drawn/\σ'.os=σ.os
theorem Rest.refl{σ:Shared}:Rest σ σ:=⟨rfl,rfl,rfl⟩
theorem Rest.trans{a b c:Shared}(x:Rest a b)(y:Rest b c):Rest a c:=⟨y.1.trans x.1,y.2.1.trans x.2.1,y.2.2.trans x.2.2⟩
structure Fx where
 A:Around
 A₀:Around
 base:Heap
 outer:List Env
 fe:Env
 env:Env
 h₀:Heap
 L:Addr
 n:Nat
structure Fx.Ok(F:Fx)(C:Cx):Prop where
 below:Below F.A₀ F.base F.outer F.h₀
 frames:F.A.frames=some (F.fe::F.outer)
 fL:F.fe.frame=some F.L
 gy:F.fe.scope.kind= .function
 ky:F.fe.scope.isGenerator=false
 kD:F.fe.scope.isCoroutine=false
 jG:F.fe.globals=mainGlobals
 kE:F.fe.builtins=builtinsNs
 handled:F.A.handled=none
 kind:F.env.scope.kind= .function
 globals:F.env.globals=mainGlobals
 builtins:F.env.builtins=builtinsNs
 bs:Bs C F.h₀
 room:room F.A F.n
noncomputable def Lo(R:RT)(φ:Pl)(ns:List Str)(ρ:Loc)(m:Str->Option Value):Prop:=ρ.length=ns.length/\∀(i:Nat) (x:Str) (v:V),ns[i]? =some x->ρ[i]? =some (some v)->∃r,m x=some r/\VR R φ v r
theorem Lo.mono{R:RT}{φ φ':Pl}(hp:φ<+:φ'){ns:List Str}{ρ:Loc}{m:Str->Option Value}(h:Lo R φ ns ρ m):Lo R φ' ns ρ m:=
 ⟨h.1,λi x v a b=>am (h.2 i x v a b) λr c d=>⟨r,c,d.mono hp⟩⟩
structure St(C:Cx)(F:Fx)(ns:List Str)(ρ:Loc)(mf ml:Str->Option Value)(φ:Pl)(h:H)(ex:List (Addr×Obj))(σ₀ σ:Shared):Prop where
 fr:Fr F.h₀ F.L σ.heap mf
 re:Re C.R F.h₀ F.L φ h ex σ.heap
 lo:Lo C.R φ ns ρ ml
 at_:(F.env.locals=F.L/\ml=mf)\/∃ob,(F.env.locals,ob)∈ex/\∀hp:Heap,hp.get? F.env.locals=some ob->hp.Ns F.env.locals ml
 rest:Rest σ₀ σ
theorem St.ns{C:Cx}{F:Fx}{ns:List Str}{ρ:Loc}{mf ml:Str->Option Value}{φ:Pl}{h:H}{ex:List (Addr×Obj)}{σ₀ σ:Shared}(s:St C F ns ρ mf ml φ h ex σ₀ σ):σ.heap.Ns F.env.locals ml:=by
 rcases s.at_ with⟨a,rfl⟩| ⟨ob,hm,k⟩
 ·rw[a];exact s.fr.ns
 ·exact k _ (s.re.ex _ hm).1
noncomputable def TE(C:Cx)(F:Fx)(ns:List Str)(ρ:Loc)(mf ml:Str->Option Value)(φ:Pl)(h:H)(ex:List (Addr×Obj))(t:Sem Value)(Q:Post):Prop:=
 ∀(σ₀ σ:Shared) (Er:Value->Shared->Prop),St C F ns ρ mf ml φ h ex σ₀ σ->1<=σ.toks->
  wpAny (model C.prog C.w) F.A t (λv σ'=>∃φ' h' x,φ<+:φ'/\St C F ns ρ mf ml φ' h' ex σ₀ σ'/\VR C.R φ' x v/\Q x h') Er σ
noncomputable def vh(C:Cx)(F:Fx)(ns:List Str)(ρ:Loc)(mf ml:Str->Option Value)(φ:Pl)(h:H)(ex:List (Addr×Obj))(len:Nat)(t:Sem (List Value))(Q:List V->H->Prop):Prop:=
 ∀(σ₀ σ:Shared) (Er:Value->Shared->Prop),St C F ns ρ mf ml φ h ex σ₀ σ->1<=σ.toks->
  wpAny (model C.prog C.w) F.A t (λv σ'=>∃φ' h' x,φ<+:φ'/\St C F ns ρ mf ml φ' h' ex σ₀ σ'/\aD C.R φ' x v/\Q x h'/\v.length=len) Er σ
noncomputable def Sp(C:Cx):ay:=λn f vs h Q X=>
 ∀(A A₀:Around) (base:Heap) (outer:List Env) (env:Env) (h₀:Heap) (L:Addr) (m:Str->Option Value) (φ:Pl) (ex:List (Addr×Obj)) (σ:Shared) (xs:List Value),
  Below A₀ base outer h₀->A.frames=some (env::outer)->env.frame=some L->env.scope.kind= .function->env.scope.isGenerator=false->env.scope.isCoroutine=false->env.globals=mainGlobals->env.builtins=builtinsNs->A.handled=none->Bs C h₀->lF A n->
  Fr h₀ L σ.heap m->Re C.R h₀ L φ h ex σ.heap->aD C.R φ vs xs->1<=σ.toks->
  codeAny (model C.prog C.w) A (.call (.ref (C.R.b7 f)) ⟨xs,[]⟩) (λr σ'=>match r with
   | .ok (.ret v)=>∃φ' h' x,φ<+:φ'/\Fr h₀ L σ'.heap m/\Re C.R h₀ L φ' h' ex σ'.heap/\VR C.R φ' x v/\Q x h'/\Rest σ σ'
   | .ok _=>False
   | .error e=>∃φ' h' x,φ<+:φ'/\X x h'/\Rest σ σ'/\C.Z h₀ L m (env::outer) φ' h' ex e x σ') σ
section
variable{C:Cx}{F:Fx}{ns:List Str}{ρ:Loc}{mf ml:Str->Option Value}{φ:Pl}{h:H}{ex:List (Addr×Obj)}{σ₀ σ:Shared}
theorem St.tok(s:St C F ns ρ mf ml φ h ex σ₀ σ){tk:Nat}:St C F ns ρ mf ml φ h ex σ₀ {σ with toks:=tk}:=⟨s.fr,s.re,s.lo,s.at_,s.rest⟩
theorem St.keep{hp:Heap}{tk:Nat}(s:St C F ns ρ mf ml φ h ex σ₀ σ)(k:∀b o,σ.heap.get? b=some o->hp.get? b=some o):St C F ns ρ mf ml φ h ex σ₀ {σ with heap:=hp,toks:=tk}:=
 ⟨⟨s.fr.ns.keeps k,λb o e=>k _ _ (s.fr.keep b o e),s.fr.above⟩,s.re.keep λb o _ _ e=>k b o e,s.lo,s.at_,s.rest⟩
theorem St.lt(s:St C F ns ρ mf ml φ h ex σ₀ σ):F.L<σ.heap.objs.size:=s.fr.ns.lt
theorem St.free(s:St C F ns ρ mf ml φ h ex σ₀ σ){b:Addr}(hb:σ.heap.objs.size<=b):F.h₀.get? b=none:=by
 cases e:F.h₀.get? b with
 |none=>rfl
 |some o=>exact absurd (TC (s.fr.keep _ _ e)) (Nat.not_lt.mpr hb)
theorem St.newObj{hp:Heap}{tk:Nat}(s:St C F ns ρ mf ml φ h ex σ₀ σ){p:Addr×Addr}{o:O}(k:∀b ob,σ.heap.get? b=some ob->hp.get? b=some ob)
  (n1:σ.heap.objs.size<=p.1) (n2:σ.heap.objs.size<=p.2) (x:db C.R (φ++[p]) hp p o):St C F ns ρ mf ml (φ++[p]) (h++[o]) ex σ₀ {σ with heap:=hp,toks:=tk}:=
 ⟨⟨s.fr.ns.keeps k,λb o e=>k _ _ (s.fr.keep b o e),s.fr.above⟩,
  s.re.push k (Uz n1) (Uz n2) (s.free n1) (s.free n2) (TV (SV s.lt n1)) (TV (SV s.lt n2)) x,
  s.lo.mono (S6 _ _),s.at_,s.rest⟩
end
theorem vi(a b:List Nat):((⟨a.toArray⟩:Str)++(⟨b.toArray⟩:Str))=⟨(a++b).toArray⟩:=by
 show(⟨a.toArray++b.toArray⟩:Str)=_
 rw[V7]
theorem str_len(a:List Nat):(⟨a.toArray⟩:Str).length=a.length:=by simp[Str.length]
theorem jH{n:Nat}(h:n<=lim):n<=sizeLine:=SQ h (by decide)
section
variable{prog:Program}{w:World}{A:Around}{R:RT}{φ:Pl}
theorem H2(a:List Nat)(n:Int)(h:0<=n):Txt.mul ⟨a.toArray⟩ n=⟨((List.replicate n.toNat a).flatten).toArray⟩:=by
 unfold Txt.mul
 by_cases h1:n<1
 ·have:n=0:=by lia
  subst this
  rfl
 ·rw[if_neg h1]
  by_cases h2:(n==1||(⟨a.toArray⟩:Str).length==0)=true
  ·rw[if_pos h2]
   refine Ts (Vh.mp h2) (λe=>?_) (λe=>?_)
   ·have:n=1:=by simpa using e
    subst this
    simp
   ·have:a=[]:=by simpa[str_len]using e
    subst this
    simp
  ·rw[if_neg h2]
   congr 1
   have key:∀(k:Nat) (acc:Array Nat),(List.replicate k a.toArray).foldl (· ++ ·) acc=acc++((List.replicate k a).flatten).toArray:=by
    intro k
    induction k with
    |zero=>intro acc;simp
    |succ k ih=>intro acc;rw[V8,Vb,ih,V8,List.flatten_cons,←V7,Array.append_assoc]
   rw[key];simp
theorem H3{op:Op}{o:Operator}(ho:kt op o=true){x y v:V}(e:binop op x y=some v){a b:Value}(ha:VR R φ x a)(hb:VR R φ y b){s:Shared}{Q E:Value->Shared->Prop}
  (hp:PylongRoom (model prog w) A s) (h:∀r tk,VR R φ v r->Q r {s with toks:=tk}):wpAny (model prog w) A (binaryOp o a b) Q E s:=by
 refine aU (o:=binop op x y) (P:=λv=>(∀r tk,VR R φ v r->Q r {s with toks:=tk})->wpAny (model prog w) A (binaryOp o a b) Q E s) ?_ e h
 obtain rfl:=of_decide_eq_true ho
 clear ho e h
 rcases op with⟨⟩
 all_goals rcases x with⟨⟩<;>try exact True.intro
 all_goals rcases y with⟨⟩<;>try exact True.intro
 all_goals obtain⟨t,rfl⟩:=ha
 all_goals obtain⟨u,rfl⟩:=hb
 ·exactλh=>add_int (h _ _ ⟨_,rfl⟩)
 ·refine dW λhl h=>add_str (λt' tk=>h _ _ ⟨t',?_⟩) ?_
  ·rw[vi]
  ·rw[str_len,str_len];exact jH hl
 ·exactλh=>sub_int' (h _ _ ⟨_,rfl⟩)
 ·exact dW λhl h=>mul_int (h _ _ ⟨_,rfl⟩) (.of_left (SQ (intBits_le hl.1) (by decide)))
 ·refine dW λhl h=>SB.mul (mulOk_of 8 8 (by rw[str_len];exact hl.2.2) (by exact hl.2.1) (by lia) (by decide) (by decide)) (λt' k=>h _ _ ⟨t',?_⟩)
  rw[H2 _ _ hl.1]
 ·refine dW λhl h=>floordiv_int (by lia) (h _ _ ⟨s.toks,?_⟩) (.inr hp)
  rw[UP _ (by lia)]
 ·refine dW λhl h=>PyProof.Rows.mod_int' (Int.ne_of_gt hl) (h _ _ ⟨s.toks,?_⟩)
  rw[Vp _ (by lia)]
 ·refine dW λhl h=>rshift_int hl.2.2.1 (h _ _ ⟨s.toks,?_⟩)
  rw[UP _ (by exact Int.le_of_lt (Int.pow_pos (by decide)))]
 ·refine dW λhl h=>?_
  obtain⟨h0,rfl⟩:=hl
  refine and_int (h _ _ ⟨s.toks,?_⟩)
  congr 1
  unfold Builtin.bitAnd
  rw[decide_eq_true h0]
  show((_&&&1:Nat):Int)=_
  rw[Nat.and_one_is_mod]
  lia
theorem Ae{op:Op}{o:Operator}(ho:kt op o=true)(ho':op= .add\/op= .sub){x y v:V}(e:binop op x y=some v){a b:Value}(ha:VR R φ x a)(hb:VR R φ y b){s:Shared}{Q E:Value->Shared->Prop}
  (h:∀r tk,VR R φ v r->Q r {s with toks:=tk}):wpAny (model prog w) A (inplaceOp o a b) Q E s:=by
 refine aU (o:=binop op x y) (P:=λv=>(∀r tk,VR R φ v r->Q r {s with toks:=tk})->wpAny (model prog w) A (inplaceOp o a b) Q E s) ?_ e h
 obtain rfl:=of_decide_eq_true ho
 clear ho e h
 rcases ho' with rfl|rfl
 all_goals rcases x with⟨⟩<;>try exact True.intro
 all_goals rcases y with⟨⟩<;>try exact True.intro
 all_goals obtain⟨t,rfl⟩:=ha
 all_goals obtain⟨u,rfl⟩:=hb
 ·exactλh=>iadd_int (h _ _ ⟨_,rfl⟩)
 ·refine dW λhl h=>iadd_str (λt' tk=>h _ _ ⟨t',?_⟩) ?_
  ·rw[vi]
  ·rw[str_len,str_len];exact jH hl
 ·exactλh=>isub_int (h _ _ ⟨_,rfl⟩)
end
section
variable{C:Cx}{F:Fx}{ns:List Str}{ρ:Loc}{mf ml:Str->Option Value}{φ:Pl}{h:H}{ex:List (Addr×Obj)}{σ₀ σ:Shared}
theorem vInt{R:RT}{φ:Pl}{i:Int}{t:Tok}:VR R φ (.int i) (.int i t):=⟨t,rfl⟩
theorem vStr{R:RT}{φ:Pl}{x:List Nat}{t:Tok}:VR R φ (.str x) (.str ⟨x.toArray⟩ t):=⟨t,rfl⟩
theorem H4{R:RT}{φ:Pl}{x:Str}{t:Tok}:VR R φ (.str x.cps.toList) (.str x t):=⟨t,rfl⟩
theorem vBool{R:RT}{φ:Pl}{b:Bool}:VR R φ (.bool b) (.bool b):=rfl
theorem rQ{R:RT}{φ:Pl}:VR R φ .none .none:=rfl
theorem TE.on{t:Sem Value}{Q:Post}(e:TE C F ns ρ mf ml φ h ex t Q)(s:St C F ns ρ mf ml φ h ex σ₀ σ)(tk:1<=σ.toks){Q':Value->Shared->Prop}{Er:Value->Shared->Prop}
  (k:∀φ' h' x v σ',φ<+:φ'->St C F ns ρ mf ml φ' h' ex σ₀ σ'->1<=σ'.toks->VR C.R φ' x v->Q x h'->Q' v σ'):wpAny (model C.prog C.w) F.A t Q' Er σ:=
 Ti (Uo tk (e σ₀ σ Er s tk)) (λv σ' z=>lC z.2 λφ' h' x a b c d=>k φ' h' x v σ' a b z.1 c d) λ_ _ z=>z.2
theorem vh.on{len:Nat}{t:Sem (List Value)}{Q:List V->H->Prop}(e:vh C F ns ρ mf ml φ h ex len t Q)(s:St C F ns ρ mf ml φ h ex σ₀ σ)(tk:1<=σ.toks){Q':List Value->Shared->Prop}{Er:Value->Shared->Prop}
  (k:∀φ' h' x v σ',φ<+:φ'->St C F ns ρ mf ml φ' h' ex σ₀ σ'->1<=σ'.toks->aD C.R φ' x v->Q x h'->v.length=len->Q' v σ'):wpAny (model C.prog C.w) F.A t Q' Er σ:=
 Ti (Uo tk (e σ₀ σ Er s tk)) (λv σ' z=>mP z.2 λφ' h' x a b c d l=>k φ' h' x v σ' a b z.1 c d l) λ_ _ z=>z.2
theorem St.noLimit(O:F.Ok C)(s:St C F ns ρ mf ml φ h ex σ₀ σ):σ.heap.NoLimit:=O.bs.nolimit.keeps s.fr.keep
theorem St.Af(O:F.Ok C)(s:St C F ns ρ mf ml φ h ex σ₀ σ):PylongRoom (model C.prog C.w) F.A σ:=
 .of (s.noLimit O) (by show _+100<1000;exact ah 0x1f29642b01e29662b910 rfl O.room.1) (.of (O.bs.seer.keeps s.fr.keep) O.bs.tree O.frames O.ky O.kD O.kE O.jG)
theorem lG{x:V}{t:Bool}(e:truthy x=some t){v:Value}(a:VR C.R φ x v){A:Around}{Q:Bool->Shared->Prop}{E:Value->Shared->Prop}(hq:Q t σ):
  wpAny (model C.prog C.w) A (PySem.truthy v) Q E σ:=by
 rcases x with⟨⟩<;>(try rcases e with⟨⟩)
 ·obtain rfl:=a;exact Um hq
 ·refine xE a λu ae=>?_;clear a;subst ae
  refine PyProof.Rows.truthy_int ?_
  rename_i i
  have:(i !=0)=decide (i≠0):=by by_cases z:i=0<;>simp[z]
  rw[this];exact hq
noncomputable abbrev au(C:Cx)(F:Fx)(ns:List Str)(Γ:ay)(e:E)(pe:PySem.Expr):Prop:=
 ∀(ρ:Loc) (mf ml:Str->Option Value) (φ:Pl) (h:H) (ex:List (Addr×Obj)) (Q:Post),aj C.T Γ F.n e ρ h Q->TE C F ns ρ mf ml φ h ex (eval pe F.env) Q
noncomputable abbrev hM(C:Cx)(F:Fx)(ns:List Str)(Γ:ay)(es:Es)(Ag:List PySem.Expr):Prop:=
 ∀(ρ:Loc) (mf ml:Str->Option Value) (φ:Pl) (h:H) (ex:List (Addr×Obj)) (Q:List V->H->Prop) (pos:Pos),cH C.T Γ F.n es ρ h Q->vh C F ns ρ mf ml φ h ex Ag.length (spliced (backTo pos (starEach Ag F.env))) Q
variable{Γ:ay}{a b c:E}{l r r':PySem.Expr}
theorem H5{i:Nat}{x:Str}{p:Pos}(O:F.Ok C)(ok:cF F.env.scope ns i x=true):au C F ns Γ (.loc i) (.Name x p):=by
 intro ρ mf ml φ h ex Q q σ₀ σ Er s t
 simp only[cF,S8,beq_iff_eq,To]at ok
 rw[GY]at q
 cases e:cg ρ i with
 |none=>rw[e]at q;exact q.elim
 |some v=>
  rw[e]at q
  have e':ρ[i]? =some (some v):=by
   unfold cg at e
   split at e
   ·rename_i w hw;obtain rfl:=Sv e;exact hw
   ·exact nn e
  refine am (s.lo.2 i x v ok.1.1 e') λr hr vr=>?_
  exact Wy (UN O.kind ok.1.2 s.ns hr ⟨φ,h,v,Tj _,s,vr,q⟩) ok.2
theorem H6{v:V}{k:Const}{n:Nat}{p:Pos}(ok:litOk v k=true):au C F ns Γ (.lit v) (.Constant k n p):=by
 intro ρ mf ml φ h ex Q q σ₀ σ Er s t
 rcases v with⟨⟩<;>try exact bad ok
 ·obtain rfl:=of_decide_eq_true ok
  exact V9 ⟨φ,h,_,Tj _,s,rQ,q⟩
 ·obtain rfl:=of_decide_eq_true ok
  exact Wa ⟨φ,h,_,Tj _,s,vBool,q⟩
 ·obtain rfl:=of_decide_eq_true ok
  exact T6 ⟨φ,h,_,Tj _,s.tok,vInt,q⟩
 ·refine rI (e:=k) (M:=λk=>wpAny _ _ (eval (.Constant k n p) _) _ _ _) ok λz ok=>?_
  obtain rfl:=of_decide_eq_true ok
  exact Us ⟨φ,h,_,Tj _,s.tok,H4,q⟩
theorem H7{k:Int}{n:Nat}{p p':Pos}:au C F ns Γ (.neg k) (.UnaryOp .USub (.Constant (.int k) n p) p'):=by
 intro ρ mf ml φ h ex Q q σ₀ σ Er s t
 refine UnaryOp_ (T6 (neg_int ?_))
 exact⟨φ,h,_,Tj _,s.tok,vInt,q⟩
theorem H8{g:Nat}{x:Str}{p:Pos}(O:F.Ok C)(e:C.R.jD g=x)(ok:bz F.env.scope x=true)(hg:g<C.gn):au C F ns Γ (.glob g) (.Name x p):=by
 intro ρ mf ml φ h ex Q q σ₀ σ Er s t
 simp only[bz,S8,beq_iff_eq,To]at ok
 refine am (O.bs.glob g hg) λv hv vr=>?_
 rw[e]at hv
 refine Name_function_global O.kind ok.1 (loadGlobal_global (by rw[O.globals];exact O.bs.g.keeps s.fr.keep) hv ?_) ok.2
 exact⟨φ,h,_,Tj _,s,vr.mono Wz,q⟩
theorem H9{op:Op}{o:Operator}{p:Pos}(O:F.Ok C)(ok:kt op o=true)(ha:au C F ns Γ a l)(hb:au C F ns Γ b r):au C F ns Γ (.bin op a b) (.BinOp l o r p):=by
 intro ρ mf ml φ h ex Q q σ₀ σ Er s t
 refine wpAny_BinOp ((ha _ _ _ _ _ _ _ q).on s t λφ1 h1 x v σ1 p1 s1 t1 vx q1=>(hb _ _ _ _ _ _ _ q1).on s1 t1 λφ2 h2 y u σ2 p2 s2 t2 vy q2=>?_)
 ·refine am (zU q2) λz e q2=>?_
  exact H3 ok e (vx.mono p2) vy (s2.Af O) λrr tk vz=>⟨φ2,h2,z,p1.trans p2,s2.tok,vz,q2⟩
theorem Ia{p:Pos}(ha:au C F ns Γ a l):au C F ns Γ (.not a) (.UnaryOp .Not l p):=by
 intro ρ mf ml φ h ex Q q σ₀ σ Er s t
 refine UnaryOp_ ((ha _ _ _ _ _ _ _ q).on s t λφ1 h1 x v σ1 p1 s1 t1 vx q1=>?_)
 ·refine am (pg q1) λt e q1=>?_
  exact PyProof.Rows.not_of (lG e vx ⟨φ1,h1,_,p1,s1,vBool,q1⟩)
theorem Ib{p:Pos}(ha:au C F ns Γ a l)(hb:au C F ns Γ b r):au C F ns Γ (.and a b) (.BoolOp .And [l,r] p):=by
 intro ρ mf ml φ h ex Q q σ₀ σ Er s t
 refine BoolOp_and ((ha _ _ _ _ _ _ _ q).on s t λφ1 h1 x v σ1 p1 s1 t1 vx q1=>?_)
 split at q1
 ·rename_i e
  refine lG e vx ?_
  exact BoolOp_one ((hb _ _ _ _ _ _ _ q1).on s1 t1 λφ2 h2 y u σ2 p2 s2 t2 vy q2=>⟨φ2,h2,y,p1.trans p2,s2,vy,q2⟩)
 ·rename_i e
  refine lG e vx ?_
  exact⟨φ1,h1,_,p1,s1,vx,q1⟩
 ·exact q1.elim
theorem Ah{p:Pos}{rs:List PySem.Expr}(ha:au C F ns Γ a l)(hb:au C F ns Γ b (.BoolOp .Or rs p))(hne:∃x xs,rs=x::xs):au C F ns Γ (.or a b) (.BoolOp .Or (l::rs) p):=by
 refine iH hne λx0 Ai ae=>?_;clear hne;subst ae
 intro ρ mf ml φ h ex Q q σ₀ σ Er s t
 refine BoolOp_or ((ha _ _ _ _ _ _ _ q).on s t λφ1 h1 x v σ1 p1 s1 t1 vx q1=>?_)
 split at q1
 ·rename_i e
  refine lG e vx ?_
  exact⟨φ1,h1,_,p1,s1,vx,q1⟩
 ·rename_i e
  refine lG e vx ?_
  exact(hb _ _ _ _ _ _ _ q1).on s1 t1 λφ2 h2 y u σ2 p2 s2 t2 vy q2=>⟨φ2,h2,y,p1.trans p2,s2,vy,q2⟩
 ·exact q1.elim
theorem Ic{p:Pos}{op:BoolOp}(ha:au C F ns Γ a l):au C F ns Γ a (.BoolOp op [l] p):=λρ mf ml φ h ex Q q σ₀ σ Er s t=>BoolOp_one (ha ρ mf ml φ h ex Q q σ₀ σ Er s t)
noncomputable abbrev cO(C:Cx)(F:Fx)(ns:List Str)(Γ:ay)(e:E)(pe:PySem.Expr):Prop:=
 ∀(ρ:Loc) (mf ml:Str->Option Value) (φ:Pl) (h:H) (ex:List (Addr×Obj)) (Q:Bool->H->Prop),aj C.T Γ F.n e ρ h (λx h=>∃t,truthy x=some t/\Q t h)->
  ∀(σ₀ σ:Shared) (Er:Value->Shared->Prop),St C F ns ρ mf ml φ h ex σ₀ σ->1<=σ.toks->
   wpAny (model C.prog C.w) F.A (isTrue pe F.env (eval pe F.env)) (λt σ'=>∃φ' h',φ<+:φ'/\St C F ns ρ mf ml φ' h' ex σ₀ σ'/\Q t h') Er σ
theorem Ie{p:Pos}(hc:cO C F ns Γ c l)(ha:au C F ns Γ a r)(hb:au C F ns Γ b r'):au C F ns Γ (.ite c a b) (.IfExp l r r' p):=by
 intro ρ mf ml φ h ex Q q σ₀ σ Er s t
 have q':aj C.T Γ F.n c ρ h (λx h=>∃t,truthy x=some t/\(if t then aj C.T Γ F.n a ρ h Q else aj C.T Γ F.n b ρ h Q)):=by
  refine cast (congrArg (aj C.T Γ F.n c ρ h) ?_) q
  funext x h
  cases e:truthy x with
  |none=>simp
  |some t=>rcases t with⟨⟩<;>simp
 refine IfExp_ (Ti (Uo t (hc _ _ _ _ _ _ _ q' σ₀ σ Er s t)) (λt σ1 hh=>?_) λ_ _ z=>z.2)
 refine Gh hh λt1 φ1 h1 p1 s1 q1=>?_;clear hh
 rcases t with⟨⟩
 ·exact(hb _ _ _ _ _ _ _ q1).on s1 t1 λφ2 h2 y u σ2 p2 s2 t2 vy q2=>⟨φ2,h2,y,p1.trans p2,s2,vy,q2⟩
 ·exact(ha _ _ _ _ _ _ _ q1).on s1 t1 λφ2 h2 y u σ2 p2 s2 t2 vy q2=>⟨φ2,h2,y,p1.trans p2,s2,vy,q2⟩
end
noncomputable def iK:D0->Dat
 | .none=> .none
 | .int i=> .int i
 | .str s=> .str ⟨s.toArray⟩
noncomputable def gz:D->Dat
 | .flat d=>iK d
 | .tup l=> .tuple (l.map iK)
theorem Aj:∀{a b:D0},iK a=iK b->a=b
 | .none,.none,_=>rfl
 | .int i,.int j,h=>by rcases h with⟨⟩;rfl
 | .str s,.str t,h=>by
  rw[show s=t from congrArg Array.toList (by injection (by injection h:(⟨s.toArray⟩:Str)=⟨t.toArray⟩):s.toArray=t.toArray)]
 | .none,.int _,h=>by(rcases h with⟨⟩)
 | .none,.str _,h=>by(rcases h with⟨⟩)
 | .int _,.none,h=>by(rcases h with⟨⟩)
 | .int _,.str _,h=>by(rcases h with⟨⟩)
 | .str _,.none,h=>by(rcases h with⟨⟩)
 | .str _,.int _,h=>by rcases h with⟨⟩
theorem map_inj{α β:Type}{f:α->β}(hf:∀{a b:α},f a=f b->a=b):∀{x y:List α},x.map f=y.map f->x=y
 | [],[],_=>rfl
 | [],_::_,h=>by(rcases h with⟨⟩)
 |_::_,[],h=>by(rcases h with⟨⟩)
 |a::x,b::y,h=>by
  simp only[Th,WA]at h
  rw[hf h.1,map_inj hf h.2]
theorem Ig:∀{a b:D},gz a=gz b->a=b
 | .flat a,.flat b,h=>by rw[Aj h]
 | .tup a,.tup b,h=>by
  rw[map_inj Aj (by injection h:a.map iK=b.map iK)]
 | .flat a,.tup b,h=>by rcases a with⟨⟩<;>(rcases h with⟨⟩)
 | .tup a,.flat b,h=>by rcases b with⟨⟩<;>rcases h with⟨⟩
section
variable{C:Cx}{F:Fx}{ns:List Str}{ρ:Loc}{mf ml:Str->Option Value}{φ:Pl}{h:H}{ex:List (Addr×Obj)}{σ₀ σ:Shared}
theorem vj{news:List (Addr×Obj)}{v:V}{d:D0}(e:jC v=some d){x:Value}(a:VR C.R φ v x):DatIn news x (iK d)/\∀n,kqdOk n (iK d)=true:=by
 cases v with
 |none=>obtain rfl:=Sv e;obtain rfl:=a;exact⟨.none,λn=>by rcases n with⟨⟩<;>rfl⟩
 |int i=>obtain rfl:=Sv e;refine xE a λt ae=>?_;clear a;subst ae;exact⟨.int _ _,λn=>by rcases n with⟨⟩<;>rfl⟩
 |str s=>
  simp only[jC]at e
  split at e
  ·rename_i ho
   obtain rfl:=Sv e
   refine xE a λt ae=>?_;clear a;subst ae
   refine⟨.str _ _,λn=>?_⟩
   have:PyData.strOk (⟨s.toArray⟩:Str)=true:=by
    unfold PyData.strOk
    simpa[cE]using ho
   rcases n with⟨⟩<;>exact this
  ·(exact nn e)
 |bool b=>(exact nn e)
 |ref n=>(exact nn e)
 |gt k=>exact nn e
theorem Ak{news:List (Addr×Obj)}:∀{vs:List V} {ds:List D0},mQ vs=some ds->∀{xs:List Value},aD C.R φ vs xs->DatAll news xs (ds.map iK)/\∀d∈ds.map iK,∀n,kqdOk n d=true
 | [],ds,e,xs,a=>by obtain rfl:=Sv e;rcases a with⟨⟩;exact⟨.nil,λd hd=>nomatch hd⟩
 |v::r,ds,e,xs,a=>by
  cases a with
  |cons hv ht=>
   simp only[mQ]at e
   cases e1:jC v with
   |none=>rw[e1]at e;(exact nn e)
   |some d=>
    cases e2:mQ r with
    |none=>rw[e1,e2]at e;(exact nn e)
    |some ds'=>
     rw[e1,e2]at e;obtain rfl:=Sv e
     have x:=vj (news:=news) e1 hv
     have y:=Ak (news:=news) e2 ht
     refine⟨.cons x.1 y.1,λq hq n=>?_⟩
     rcases SH.mp hq with rfl|hq
     ·exact x.2 n
     ·exact y.2 q hq n
theorem vk{p:Addr×Addr}{o:Obj}{hp:Heap}(hm:p∈φ)(e:hp.get? p.1=some o):(p.1,o)∈cells hp φ++ex:=
 SP _ (U8.mpr ⟨p,hm,by rw[e];exact .head _⟩)
theorem Ih{L:Addr}{h₀ hp:Heap}(r:Re C.R h₀ L φ h ex hp){v:V}{d:D}(e:eF h v=some d){x:Value}(a:VR C.R φ v x):DatIn (cells hp φ++ex) x (gz d)/\kqdOk 8 (gz d)=true:=by
 have flat:∀{v:V},(∀n,v≠ .ref n)->eF h v=some d->VR C.R φ v x->DatIn (cells hp φ++ex) x (gz d)/\kqdOk 8 (gz d)=true:=by
  intro v hv e a
  have e':(jC v).map D.flat=some d:=by rcases v with⟨⟩<;>first|exact e|exact absurd rfl (hv _)
  refine am (TA.mp e') λd0 hd ae=>?_;subst ae
  exact⟨(vj hd a).1,(vj (news:=[]) hd a).2 8⟩
 cases v with
 |ref n=>
  refine am a λp aJ ae=>?_;clear a;subst ae
  simp only[eF]at e
  split at e
  ·rename_i xs hx
   refine am (TA.mp e) λds hds ae=>?_;subst ae
   refine bx (r.objs aJ hx) λvs k g vr _=>?_
   have y:=Ak (news:=cells hp φ++ex) hds vr
   refine⟨.tuple (vs:=vs.toList) (n:=k) ?_ y.1,?_⟩
   ·simpa using(vk (φ:=φ) (ex:=ex) (Sy aJ) g)
   ·show(ds.map iK).all (kqdOk 7)=true
    exact Tl.mpr λd hd=>y.2 d hd 7
  ·(exact nn e)
 |none=>exact flat (λn z=>by rcases z with⟨⟩) e a
 |int i=>exact flat (λn z=>by rcases z with⟨⟩) e a
 |str i=>exact flat (λn z=>by rcases z with⟨⟩) e a
 |bool i=>exact flat (λn z=>by rcases z with⟨⟩) e a
 |gt i=>exact flat (λn z=>by rcases z with⟨⟩) e a
theorem vm{L:Addr}{h₀ hp:Heap}(r:Re C.R h₀ L φ h ex hp):∀{vs:List V} {ds:List D},fg h vs=some ds->∀{xs:List Value},aD C.R φ vs xs->DatAll (cells hp φ++ex) xs (ds.map gz)/\∀d∈ds.map gz,kqdOk 8 d=true
 | [],ds,e,xs,a=>by obtain rfl:=Sv e;rcases a with⟨⟩;exact⟨.nil,λd hd=>nomatch hd⟩
 |v::t,ds,e,xs,a=>by
  cases a with
  |cons hv ht=>
   simp only[fg]at e
   cases e1:eF h v with
   |none=>rw[e1]at e;(exact nn e)
   |some d=>
    cases e2:fg h t with
    |none=>rw[e1,e2]at e;(exact nn e)
    |some ds'=>
     rw[e1,e2]at e;obtain rfl:=Sv e
     have x:=Ih r e1 hv
     have y:=vm r e2 ht
     refine⟨.cons x.1 y.1,λq hq=>?_⟩
     rcases SH.mp hq with rfl|hq
     ·exact x.2
     ·exact y.2 q hq
end
theorem aD.length{R:RT}{φ:Pl}{xs:List V}{vs:List Value}(h:aD R φ xs vs):vs.length=xs.length:=by
 induction h with
 |nil=>rfl
 |cons _ _ ih=>simp[ih]
section
variable{C:Cx}{F:Fx}{ns:List Str}{ρ:Loc}{mf ml:Str->Option Value}{φ:Pl}{h:H}{ex:List (Addr×Obj)}{σ₀ σ:Shared}
theorem gA{L:Addr}{h₀ hp:Heap}(r:Re C.R h₀ L φ h ex hp){v:V}{xs:List V}(e:listAt h v=some xs){x:Value}(a:VR C.R φ v x):
  ∃n p vs k,v= .ref n/\φ[n]? =some p/\h[n]? =some (.list xs)/\x= .ref p.1/\hp.get? p.1=some (listOf vs k)/\aD C.R φ xs vs.toList/\p.2=p.1:=by
 cases v with
 |ref n=>
  simp only[listAt]at e
  split at e
  ·rename_i ys hy
   obtain rfl:=Sv e
   refine am a λp aJ ae=>?_;clear a;subst ae
   refine bx (r.objs aJ hy) λvs k g vr q=>?_
   exact⟨n,p,vs,k,rfl,aJ,hy,rfl,g,vr,q⟩
  ·(exact nn e)
 |_=>exact nn e
theorem dI{hp:Heap}{a:Addr}{vs:Array Value}{k:Nat}(g:hp.get? a=some (listOf vs k)):hp.IsList a vs:=⟨_,g,rfl,k,rfl⟩
theorem mV{hp:Heap}{a:Addr}{vs:Array Value}{k:Nat}(g:hp.get? a=some (jc vs k)):IsTup hp a vs:=⟨_,g,rfl,k,rfl⟩
theorem Ii(neg:Bool){A:Around}(hu:A.units+64<cLine){L:Addr}{h₀:Heap}(r:Re C.R h₀ L φ h ex σ.heap){x y:V}{xs ys:List V}(e1:listAt h x=some xs)(e2:listAt h y=some ys){t:Bool}(e:f9 h xs ys=some t)
  {a b:Value} (va:VR C.R φ x a) (vb:VR C.R φ y b) {Q E:Value->Shared->Prop} (hq:Q (.bool (if neg then !t else t)) σ):
  wpAny (model C.prog C.w) A (compareOp (if neg then .NotEq else .Eq) a b) Q E σ:=by
 refine f8 (gA r e1 va) λn p vs k ae hp hx az g vr _=>?_;subst ae;subst az
 refine f8 (gA r e2 vb) λn' p' vs' k' ae aJ hx' az g' vr' _=>?_;subst ae;subst az
 have l1:vs.size=xs.length:=by rw[←vr.length,S5]
 have l2:vs'.size=ys.length:=by rw[←vr'.length,S5]
 unfold f9 at e
 split at e
 ·rename_i hl
  obtain rfl:=Sv e
  have hs:(vs.size !=vs'.size)=true:=by rw[l1,l2];simpa using hl
  rcases neg with⟨⟩
  ·exact PySem.SeqAt.RcAt.lists_lengths (dI g) (dI g') hs (by exact ah 0x1f201e2910 rfl hu) _ _ _ _ hq
  ·exact PySem.SeqAt.RcNeAt.lists_lengths (dI g) (dI g') hs (by exact ah 0x1f201e2910 rfl hu) _ _ _ _ hq
 ·rename_i hl
  have hs:vs.size=vs'.size:=by rw[l1,l2];simpa using hl
  split at e
  ·rename_i h0
   obtain rfl:=Sv e
   have z':(List.range vs.size).all (λ_=>true)=true:=by rw[(by exact SK (af 0xf0a02e0a12e10 rfl l1 h0) (af 0xf00a3e10 rfl l1):vs.size=0)];rfl
   rcases neg with⟨⟩
   ·exact(PySem.SeqAt.RcAt.lists (e:=λ_=>true) (dI g) (dI g') hs (by exact ah 0x1f201e2910 rfl hu) λj h1 h2=>by lia) _ _ _ _ (by rw[z'];exact hq)
   ·exact(PySem.SeqAt.RcNeAt.lists (e:=λ_=>true) (dI g) (dI g') hs (by exact ah 0x1f201e2910 rfl hu) λj h1 h2=>by lia) _ _ _ _ (by rw[z'];exact hq)
  ·split at e
   ·rename_i d d' hd hd'
    obtain rfl:=Sv e
    have x1:=vm r hd vr
    have x2:=vm r hd' vr'
    have m1:=vk (φ:=φ) (ex:=ex) (Sy hp) g
    have m2:=vk (φ:=φ) (ex:=ex) (Sy aJ) g'
    have dd:∀(i:Decidable (d.map gz=d'.map gz)),@decide (d.map gz=d'.map gz) i=decide (d=d'):=by
     intro i
     by_cases z:d=d'
     ·simp[z]
     ·rw[decide_eq_false z];exact@decide_eq_false _ i λq=>z (map_inj (f:=gz) (λ{a b}=>Ig) q)
    rcases neg with⟨⟩
    ·exact kqd_eq (ka:=k) (kb:=k') r.news m1 rfl (by simp) x1.1 (λ_ z=>z) m2 rfl (by simp) x2.1 (λ_ z=>z) x1.2 x2.2 hu (by rw[dd];exact hq)
    ·exact kqd_ne (ka:=k) (kb:=k') r.news m1 rfl (by simp) x1.1 (λ_ z=>z) m2 rfl (by simp) x2.1 (λ_ z=>z) x1.2 x2.2 hu (by rw[dd];exact hq)
   ·exact nn e
theorem lH{α:Type} [BEq α] [LawfulBEq α] [DecidableEq α] (a b:α):(a==b)=decide (a=b):=by
 by_cases z:a=b<;>simp[z]
theorem str_beq(a b:List Nat):((⟨a.toArray⟩:Str)==⟨b.toArray⟩)=decide (a=b):=by
 rw[lH]
 by_cases z:a=b
 ·simp[z]
 ·rw[decide_eq_false z,decide_eq_false]
  intro q
  exact z (congrArg Array.toList (by injection q:a.toArray=b.toArray))
theorem Al(neg:Bool){A:Around}(hu:A.units+64<cLine){L:Addr}{h₀:Heap}(r:Re C.R h₀ L φ h ex σ.heap){x y:V}{t:Bool}(e:km h x y=some t)
  {a b:Value} (va:VR C.R φ x a) (vb:VR C.R φ y b) {Q E:Value->Shared->Prop} (hq:Q (.bool (if neg then !t else t)) σ):wpAny (model C.prog C.w) A (compareOp (if neg then .NotEq else .Eq) a b) Q E σ:=by
 refine aU (o:=km h x y) (P:=λt=>Q (.bool (if neg then !t else t)) σ->wpAny (model C.prog C.w) A (compareOp (if neg then .NotEq else .Eq) a b) Q E σ) ?_ e hq
 clear e hq
 rcases x with⟨⟩<;>try exact True.intro
 all_goals rcases y with⟨⟩<;>try exact True.intro
 ·intro hq
  obtain⟨u,rfl⟩:=va
  obtain⟨u',rfl⟩:=vb
  rcases neg with⟨⟩
  ·exact PyProof.Rows.eq_int (by rw[lH];exact hq)
  ·exact Wb (by show Q (.bool (!(_==_))) σ;rw[lH];exact hq)
 ·intro hq
  obtain⟨u,rfl⟩:=va
  obtain⟨u',rfl⟩:=vb
  rcases neg with⟨⟩
  ·exact PyProof.Rows.eq_str (by rw[str_beq];exact hq)
  ·exact PyProof.Rows.ne_str (by show Q (.bool (!(_==_))) σ;rw[str_beq];exact hq)
 ·rename_i m n
  show cR (match listAt h (.ref m),listAt h (.ref n)with|some xs,some ys=>f9 h xs ys|_,_=>none) _
  cases h1:listAt h (.ref m)with
  |none=>exact True.intro
  |some xs=>
   cases h2:listAt h (.ref n)with
   |none=>exact True.intro
   |some ys=>
    show cR (f9 h xs ys) _
    cases e:f9 h xs ys with
    |none=>exact True.intro
    |some t=>exactλhq=>Ii neg hu r h1 h2 e va vb hq
theorem lI{op:eA}{o:CmpOp}(ho:jF op o=true){A:Around}(hu:A.units+64<cLine){L:Addr}{h₀:Heap}(r:Re C.R h₀ L φ h ex σ.heap){x y:V}{t:Bool}(e:bX h op x y=some t)
  {a b:Value} (va:VR C.R φ x a) (vb:VR C.R φ y b) {Q E:Value->Shared->Prop} (hq:Q (.bool t) σ):wpAny (model C.prog C.w) A (compareOp o a b) Q E σ:=by
 refine aU (o:=bX h op x y) (P:=λt=>Q (.bool t) σ->wpAny (model C.prog C.w) A (compareOp o a b) Q E σ) ?_ e hq
 obtain rfl:=of_decide_eq_true ho
 clear e hq ho
 rcases op with⟨⟩
 ·show cR (km h x y) _
  cases e:km h x y with
  |none=>exact True.intro
  |some t=>exactλhq=>Al false hu r e va vb hq
 ·show cR ((km h x y).map (!·)) _
  cases e:km h x y with
  |none=>exact True.intro
  |some t=>exactλhq=>Al true hu r e va vb hq
 ·rcases x with⟨⟩<;>try exact True.intro
  ·rcases y with⟨⟩<;>try exact True.intro
   obtain⟨u,rfl⟩:=va
   obtain⟨u',rfl⟩:=vb
   exactλhq=>PyProof.Rows.lt_int hq
  ·rename_i p
   rcases p with _| ⟨c,_| ⟨_,_⟩⟩<;>exact True.intro
 ·rcases x with⟨⟩<;>try exact True.intro
  ·rcases y with⟨⟩<;>try exact True.intro
   obtain⟨u,rfl⟩:=va
   obtain⟨u',rfl⟩:=vb
   exactλhq=>PyProof.Rows.le_int hq
  ·rename_i p
   rcases p with _| ⟨c,_| ⟨_,_⟩⟩<;>try exact True.intro
   rcases y with⟨⟩<;>try exact True.intro
   rename_i q
   rcases q with _| ⟨d,_| ⟨_,_⟩⟩<;>try exact True.intro
   obtain⟨u,rfl⟩:=va
   obtain⟨u',rfl⟩:=vb
   intro hq
   refine PySem.P.le_str (x:=⟨[c].toArray⟩) (y:=⟨[d].toArray⟩) ?_
   have:(!decide (([d]:List Nat)<[c]))=decide (c<=d):=by
    by_cases z:c<=d
    ·rw[decide_eq_true z,decide_eq_false];rfl
     intro q
     have:=VS.mp q
     refine Ts this (λq=>?_) (λz=>xA z λ_ q=>?_)
     ·exact af 0xf1e010e10 rfl z q
     ·exact absurd q (by simp)
    ·rw[decide_eq_false z,decide_eq_true];rfl
     exact VS.mpr (.inl (by exact af 0x1f101e10 rfl (UC z)))
   simp only[List.toList_toArray]
   rw[this];exact hq
 ·rcases x with⟨⟩<;>try exact True.intro
  ·rcases y with⟨⟩<;>try exact True.intro
   obtain⟨u,rfl⟩:=va
   obtain⟨u',rfl⟩:=vb
   exactλhq=>PyProof.Rows.gt_int hq
  ·rename_i p
   rcases p with _| ⟨c,_| ⟨_,_⟩⟩<;>exact True.intro
 ·rcases x with⟨⟩<;>try exact True.intro
  ·rcases y with⟨⟩<;>try exact True.intro
   obtain⟨u,rfl⟩:=va
   obtain⟨u',rfl⟩:=vb
   exactλhq=>PyProof.Rows.ge_int hq
  ·rename_i p
   rcases p with _| ⟨c,_| ⟨_,_⟩⟩<;>exact True.intro
end
noncomputable def lJ(lo:Option Int)(n:Nat):Nat:=match lo with|some x=>gf x n|Option.none=>0
noncomputable def kF(hi:Option Int)(n:Nat):Nat:=match hi with|some x=>gf x n|Option.none=>n
theorem mW{α:Type}(lo hi:Option Int)(xs:List α):bh lo hi xs=(xs.take (kF hi xs.length)).drop (lJ lo xs.length):=by
 unfold bh lJ kF;rcases lo with⟨⟩<;>rcases hi with⟨⟩<;>rfl
theorem Ij(x:Int)(n:Nat):max 0 (min (if x<0 then x+n else x) (n:Int))=(gf x n:Nat):=by
 unfold gf
 split<;>lia
theorem Ik(x:Int)(n:Nat):gf x n<=n:=by
 unfold gf
 split<;>lia
theorem Am(lo hi:Option Int)(n:Nat):sliceBounds lo hi none n=(((lJ lo n:Nat):Int),((kF hi n:Nat):Int),(1:Int)):=by
 unfold sliceBounds lJ kF
 have h1:(1:Int)>0:=by decide
 rcases lo with⟨⟩<;>rcases hi with⟨⟩<;>simp only[VA,h1,if_true,U5,and_true]<;>(try constructor)<;>first|rfl|exact Ij _ _
theorem An{α:Type}(xs:List α)(a b:Nat):(xs.drop a).take (b-a)=(xs.take b).drop a:=by
 rw[UL]
theorem Ao(vs:Array Value)(lo hi:Option Int):slicePick vs lo hi none=(bh lo hi vs.toList).toArray:=by
 unfold slicePick
 rw[Am]
 simp only
 rw[sliceRange_one,pick_run,mW,An,S5]
theorem picked_eq(x:Str)(l u:Option (Int×Tok)):slicePicked x l u none=(List.range (kF (u.map (·.1)) x.length-lJ (l.map (·.1)) x.length)).map (lJ (l.map (·.1)) x.length+ ·):=by
 unfold slicePicked
 show Builtin.Str.strSliceIndices (l.map (·.1)) (u.map (·.1)) (((none:Option (Int×Tok)).map (·.1)).getD 1) x.length=_
 rw[←sliceRange_one]
 have b:=Am (l.map (·.1)) (u.map (·.1)) x.length
 unfold sliceBounds at b
 unfold Builtin.Str.strSliceIndices
 simp only[WB,VA,U5]at b ⊢
 exact congrFun (congr (congrArg sliceRange b.1) b.2.1) 1
theorem Il(x:Str)(l u:Option (Int×Tok)):(slicePicked x l u none).filterMap (x.cps[·]?)=bh (l.map (·.1)) (u.map (·.1)) x.cps.toList:=by
 rw[picked_eq,pick_run,mW,An,S5]
 rfl
theorem Im(hi:Option Int)(n:Nat):kF hi n<=n:=by
 unfold kF;rcases hi with⟨⟩
 ·exact SW _
 ·exact Ik _ _
theorem Io(t:List Nat)(l u:Option (Int×Tok))(h:(slicePicked ⟨t.toArray⟩ l u none).length=t.length):bh (l.map (·.1)) (u.map (·.1)) t=t:=by
 rw[picked_eq,Sn,Wk]at h
 rw[(by simp[Str.length]:(⟨t.toArray⟩:Str).length=t.length)]at h
 have:=Im (u.map (·.1)) t.length
 rw[mW]
 by_cases h0:t.length=0
 ·have:t=[]:=T5 h0
  subst this
  simp
 ·rw[show lJ (l.map (·.1)) t.length=0 by lia,show kF (u.map (·.1)) t.length=t.length by exact SK (af 0xf100e10 rfl this) (ah 0xf210e203e10 rfl h (Vc _ _))]
  simp
theorem rev_eq(vs:Array Value):slicePick vs none none (some (-1))=vs.toList.reverse.toArray:=krv_pick vs
theorem aD.take{R:RT}{φ:Pl}{xs:List V}{vs:List Value}(h:aD R φ xs vs):∀n,aD R φ (xs.take n) (vs.take n):=by
 induction h with
 |nil=>intro n;simp;exact .nil
 |cons a _ ih=>intro n;cases n with
  |zero=>exact .nil
  |succ n=>exact .cons a (ih n)
theorem aD.drop{R:RT}{φ:Pl}{xs:List V}{vs:List Value}(h:aD R φ xs vs):∀n,aD R φ (xs.drop n) (vs.drop n):=by
 induction h with
 |nil=>intro n;simp;exact .nil
 |cons a b ih=>intro n;cases n with
  |zero=>exact .cons a b
  |succ n=>exact ih n
theorem aD.sl{R:RT}{φ:Pl}{xs:List V}{vs:List Value}(h:aD R φ xs vs)(lo hi:Option Int):aD R φ (bh lo hi xs) (bh lo hi vs):=by
 rw[mW,mW,h.length]
 exact(h.take _).drop _
theorem aD.append{R:RT}{φ:Pl}{xs ys:List V}{vs ws:List Value}(h:aD R φ xs vs)(k:aD R φ ys ws):aD R φ (xs++ys) (vs++ws):=by
 induction h with
 |nil=>exact k
 |cons a _ ih=>exact .cons a ih
theorem aD.one{R:RT}{φ:Pl}{x:V}{v:Value}(h:VR R φ x v):aD R φ [x] [v]:= .cons h .nil
theorem aD.reverse{R:RT}{φ:Pl}{xs:List V}{vs:List Value}(h:aD R φ xs vs):aD R φ xs.reverse vs.reverse:=by
 induction h with
 |nil=>exact .nil
 |cons a _ ih=>rw[UH,UH];exact ih.append (.one a)
theorem aD.get{R:RT}{φ:Pl}{xs:List V}{vs:List Value}(h:aD R φ xs vs):∀{i:Nat} {x:V},xs[i]? =some x->∃v,vs[i]? =some v/\VR R φ x v:=by
 induction h with
 |nil=>intro i x e;simp at e
 |cons a _ ih=>intro i x e;cases i with
  |zero=>simp at e;subst e;exact⟨_,rfl,a⟩
  |succ i=>simp at e;simpa using ih e
theorem aD.set{R:RT}{φ:Pl}{xs:List V}{vs:List Value}(h:aD R φ xs vs){x:V}{v:Value}(a:VR R φ x v):∀i,aD R φ (xs.set i x) (vs.set i v):=by
 induction h with
 |nil=>intro i;exact .nil
 |cons b t ih=>intro i;cases i with
  |zero=>exact .cons a t
  |succ i=>exact .cons b (ih i)
section
variable{C:Cx}{F:Fx}{ns:List Str}{ρ:Loc}{mf ml:Str->Option Value}{φ:Pl}{h:H}{ex:List (Addr×Obj)}{σ₀ σ:Shared}
 {Γ:ay} {a b c:E} {l r r':PySem.Expr}
theorem eH{pe:PySem.Expr}{rest:List PySem.Expr}{env:Env}(h:plainHead pe=true):starEach (pe::rest) env=(false,eval pe env)::starEach rest env:=by
 rcases pe with⟨⟩<;>first|rfl|exact bad h
theorem vn{pe:PySem.Expr}{o:CmpOp}(h:plainHead pe=true):behindInMarks o pe=false:=by
 rcases pe with⟨⟩<;>first|rfl|exact bad h
theorem rR{pe:PySem.Expr}(h:plainHead pe=true)(o i:Value):subscripted pe false o i=operate [o,i] (getItem o i):=by
 rcases pe with⟨⟩<;>first|rfl|exact bad h
theorem Ap:hM C F ns Γ .nil []:=by
 intro ρ mf ml φ h ex Q pos q σ₀ σ Er s t
 exact args_nil ⟨φ,h,[],Tj _,s,.nil,q,rfl⟩
theorem Aq{es:Es}{rs:List PySem.Expr}(hp:plainHead l=true)(ha:au C F ns Γ a l)(hr:hM C F ns Γ es rs):hM C F ns Γ (.cons a es) (l::rs):=by
 intro ρ mf ml φ h ex Q pos q σ₀ σ Er s t
 refine args_cons ((ha _ _ _ _ _ _ _ q).on s t λφ1 h1 x v σ1 p1 s1 t1 vx q1=>(hr _ _ _ _ _ _ _ pos q1).on s1 t1 λφ2 h2 xs vs σ2 p2 s2 t2 Ip q2 ln=>?_) (eH hp)
 exact⟨φ2,h2,x::xs,p1.trans p2,s2,.cons (vx.mono p2) Ip,q2,by simp[ln]⟩
theorem pJ{list:Bool}{vs:List Value}{xs:List V}(s:St C F ns ρ mf ml φ h ex σ₀ σ)(vx:aD C.R φ xs vs){k:Nat}{tk:Nat}:
  St C F ns ρ mf ml (φ++[(σ.heap.objs.size,σ.heap.objs.size)]) (h++[if list then .list xs else .tup xs]) ex σ₀
   {σ with heap:=σ.heap.push (if list then listOf vs.toArray k else jc vs.toArray k),toks:=tk}:=by
 refine s.newObj (λb ob e=>SO _ e) (SW _) (SW _) ?_
 rcases list with⟨⟩
 ·exact⟨vs.toArray,k,TF _ rfl,by simpa using vx.mono (S6 _ _),rfl⟩
 ·exact⟨vs.toArray,k,TF _ rfl,by simpa using vx.mono (S6 _ _),rfl⟩
theorem St.len(s:St C F ns ρ mf ml φ h ex σ₀ σ):φ.length=h.length:=s.re.len
theorem iL{R:RT}{p:Addr×Addr}{n:Nat}(e:φ.length=n):VR R (φ++[p]) (.ref n) (.ref p.1):=⟨p,by rw[←e];simp,rfl⟩
theorem Iq{es:Es}{rs:List PySem.Expr}{k:Nat}{p:Pos}(hs:rs.length<=1000)(hr:hM C F ns Γ es rs):au C F ns Γ (.tup es) (.Tuple rs k p):=by
 intro ρ mf ml φ h ex Q q σ₀ σ Er s t
 refine Tuple_ ((hr _ _ _ _ _ _ _ p q).on s t λφ1 h1 xs vs σ1 p1 s1 t1 vx q1 ln=>?_)
 refine UI ?_ ?_
 ·exact⟨_,_,_,p1.trans (S6 _ _),pJ (list:=false) s1 vx,iL s1.len,q1⟩
 ·show vs.toArray.size<=sizeLine
  rw[Vs,ln];exact SQ hs (by decide)
theorem It{es:Es}{rs:List PySem.Expr}{p:Pos}(hs:rs.length<=1000)(hr:hM C F ns Γ es rs):au C F ns Γ (.lst es) (.List rs p):=by
 intro ρ mf ml φ h ex Q q σ₀ σ Er s t
 refine List_ ((hr _ _ _ _ _ _ _ p q).on s t λφ1 h1 xs vs σ1 p1 s1 t1 vx q1 ln=>?_)
 refine UI ?_ ?_
 ·exact⟨_,_,_,p1.trans (S6 _ _),pJ (list:=true) s1 vx,iL s1.len,q1⟩
 ·show vs.toArray.size<=sizeLine
  rw[Vs,ln];exact SQ hs (by decide)
theorem Ar(O:F.Ok C)(s:St C F ns ρ mf ml φ h ex σ₀ σ){v:V}{xs:List V}(e:gi C.T h v=some xs){x:Value}(a:VR C.R φ v x):
  ∃ad vs k,x= .ref ad/\(σ.heap.get? ad=some (listOf vs k)\/σ.heap.get? ad=some (jc vs k))/\aD C.R φ xs vs.toList:=by
 cases v with
 |ref n=>
  refine am a λp aJ ae=>?_;clear a;subst ae
  simp only[gi]at e
  split at e
  ·rename_i ys hy
   obtain rfl:=Sv e
   refine bx (s.re.objs aJ hy) λvs k g vr q=>?_
   exact⟨p.1,vs,k,rfl,.inl g,vr⟩
  ·rename_i ys hy
   obtain rfl:=Sv e
   refine bx (s.re.objs aJ hy) λvs k g vr q=>?_
   exact⟨p.1,vs,k,rfl,.inr g,vr⟩
  ·(exact nn e)
 |gt k=>
  obtain rfl:=a
  obtain rfl:=Sv e
  refine bK (O.bs.gt k) λvs n g vr=>?_
  exact⟨_,vs,n,rfl,.inr (s.fr.keep _ _ g),vr.mono Wz⟩
 |_=>exact nn e
theorem As{α:Type}{xs:List α}{i:Int}{x:α}(e:gc xs i=some x):∃j,seqIndex? i xs.length=some j/\xs[j]? =some x:=by
 unfold gc at e
 split at e
 ·rename_i h0
  have hlt:=(Sr.mp e).1
  refine⟨i.toNat,?_,e⟩
  unfold seqIndex?
  simp only[show¬i<0 by lia,if_false]
  simp;lia
 ·rename_i h0
  split at e
  ·rename_i h1
   have hlt:=(Sr.mp e).1
   refine⟨(i+xs.length).toNat,?_,e⟩
   unfold seqIndex?
   simp only[show i<0 by lia,if_true]
   simp;lia
  ·exact nn e
theorem Iu{i:Int}{n j:Nat}(e:seqIndex? i n=some j): -(n:Int)<=i/\i<n:=by
 unfold seqIndex? at e
 split at e
 all_goals (simp only[]at e;split at e<;>first| (rcases e with⟨⟩;simp_all;lia)|exact nn e)
end
section
variable{C:Cx}{F:Fx}{ns:List Str}{ρ:Loc}{mf ml:Str->Option Value}{φ:Pl}{h:H}{ex:List (Addr×Obj)}{σ₀ σ:Shared}
 {Γ:ay} {a b c:E} {l r r':PySem.Expr}
theorem Iv{p:Pos}(O:F.Ok C)(hp:plainHead r=true)(ha:au C F ns Γ a l)(hb:au C F ns Γ b r):au C F ns Γ (.idx a b) (.Subscript l r p):=by
 intro ρ mf ml φ h ex Q q σ₀ σ Er s t
 refine Subscript_ ((ha _ _ _ _ _ _ _ q).on s t λφ1 h1 x v σ1 p1 s1 t1 vx q1=>(hb _ _ _ _ _ _ _ q1).on s1 t1 λφ2 h2 y u σ2 p2 s2 t2 vy q2=>?_)
 split at q2
 ·rename_i z e
  unfold cq at e
  cases y with
  |int k=>
   refine xE vy λtk ae=>?_;clear vy;subst ae
   simp only at e
   split at e
   ·rename_i hk
    have hk:k.natAbs<=1000000:=hk
    have pK:∀{xs:List V},gi C.T h2 x=some xs->gc xs k=some z->wpAny (model C.prog C.w) F.A (subscriptTail l r v (.int k tk)) (λv σ'=>∃φ' h' x,φ<+:φ'/\St C F ns ρ mf ml φ' h' ex σ₀ σ'/\VR C.R φ' x v/\Q x h') Er σ2:=by
     intro xs e1 e2
     refine g5 (Ar O s2 e1 (vx.mono p2)) λad vs n ae g vr=>?_;subst ae
     refine am (As e2) λj e3 e4=>?_
     refine am (vr.get e4) λw e5 vw=>?_
     have fin:∃φ' h' x,φ<+:φ'/\St C F ns ρ mf ml φ' h' ex σ₀ σ2/\VR C.R φ' x w/\Q x h':=⟨φ2,h2,z,p1.trans p2,s2,vw,q2⟩
     have hsz:vs.size=xs.length:=by rw[←vr.length,S5]
     rw[Array.getElem?_toList]at e5
     refine Ts g (λg=>?_) (λg=>?_)
     ·refine tail_any (T:="list") (dI g).typeIs list_getitem_lookup ?_ (rR hp _ _)
      have hS:=e3
      unfold seqIndex? at hS
      split at hS
      ·rename_i hneg
       simp only[]at hS
       split at hS
       ·rename_i hb
        obtain rfl:=Sv hS
        refine wpAny_getItem_list_neg (dI g) hneg ?_ (by omega) (x:=w) ?_ fin
        ·rw[hsz];have:=Iu e3;omega
        ·rw[hsz];exact e5
       ·exact nn hS
      ·rename_i hneg
       simp only[]at hS
       split at hS
       ·obtain rfl:=Sv hS
        exact wpAny_getItem_list (dI g) (by omega) (by omega) e5 fin
       ·exact nn hS
     ·refine tail_any (T:="tuple") (mV g).typeIs PySem.F.slot_tuple_getitem.lookup ?_ (rR hp _ _)
      exact getItem_tuple (mV g) (by omega) (by omega) (by rw[hsz];exact e3) e5 fin
    cases x with
    |str t=>
     refine xE vx λtx ae=>?_;clear vx;subst ae
     refine am (TA.mp e) λc e1 ae=>?_;subst ae
     refine am (As e1) λj e3 e4=>?_
     refine tail_any (T:="str") (typeIs_str _ _ _) PySem.F.slot_str_getitem.lookup ?_ (rR hp _ _)
     refine PyProof.Rows.getItem_str (c:=c) ?_ ?_ ?_
     ·have: -(1000000:Int)<=k/\k<=1000000:=by omega
      rw[decide_eq_false (by omega),decide_eq_false (by omega)];rfl
     ·rw[str_len,e3];simpa using e4
     ·exact⟨φ2,h2,.str [c],p1.trans p2,s2.tok,vStr,q2⟩
    |ref n=>exact(UE.mp e).elim λxs hx=>pK hx.1 hx.2
    |gt n=>exact(UE.mp e).elim λxs hx=>pK hx.1 hx.2
    |none=>(exact nn e)
    |bool _=>(exact nn e)
    |int _=>exact nn e
   ·(exact nn e)
  |_=>exact nn e
 ·exact q2.elim
end
section
variable{C:Cx}{F:Fx}{ns:List Str}{ρ:Loc}{mf ml:Str->Option Value}{φ:Pl}{h:H}{ex:List (Addr×Obj)}{σ₀ σ:Shared}
 {Γ:ay} {a b c:E} {l r r':PySem.Expr}
noncomputable abbrev bQ(C:Cx)(F:Fx)(ns:List Str)(ρ:Loc)(mf ml:Str->Option Value)(φ:Pl)(ex:List (Addr×Obj))(σ₀:Shared)(Q:Post)(v:Value)(σ':Shared):Prop:=
 ∃φ' h' x,φ<+:φ'/\St C F ns ρ mf ml φ' h' ex σ₀ σ'/\VR C.R φ' x v/\Q x h'
theorem bQ.mk'{Q:Post}{φ':Pl}{h':H}{v:Value}(x:V)(p:φ<+:φ')(s:St C F ns ρ mf ml φ' h' ex σ₀ σ)(vx:VR C.R φ' x v)(q:Q x h'):bQ C F ns ρ mf ml φ ex σ₀ Q v σ:=⟨φ',h',x,p,s,vx,q⟩
theorem bQ.from{Q:Post}{φ1:Pl}{v:Value}(p:φ<+:φ1)(q:bQ C F ns ρ mf ml φ1 ex σ₀ Q v σ):bQ C F ns ρ mf ml φ ex σ₀ Q v σ:=lB q λa b c d e=>⟨a,b,c,p.trans d,e⟩
noncomputable def vo(lo:Option Int)(v:Value):Prop:=match lo with|some i=>∃t,v= .int i t|Option.none=>v= .none
theorem Au{α:Type}(lo hi:Option Int)(xs:List α):(bh lo hi xs).length<=xs.length:=by
 rw[mW,VB,TK];exact ah 0xf120e020e10 rfl (TD _ _) (Vc _ _)
theorem vp{Q:Post}{lo hi:Option Int}{x:V}{v vl vu:Value}(s:St C F ns ρ mf ml φ h ex σ₀ σ)(vx:VR C.R φ x v)(pl:vo lo vl)(pu:vo hi vu)(q:sliceTo lo hi h x Q)
  {value:PySem.Expr} {le ue:Option PySem.Expr} {p:Pos} {Er:Value->Shared->Prop}:
  wpAny (model C.prog C.w) F.A (subscriptTail value (.Slice le ue none p) v (.ref σ.heap.objs.size)) (bQ C F ns ρ mf ml φ ex σ₀ Q) Er {σ with heap:=σ.heap.push {cls:= .type "slice",data:= .fields #[vl,vu,.none]}}:=by
 have ls:∀{xs:List V},listAt h x=some xs->xs.length<=lim->Q (.ref h.length) (h++[.list (bh lo hi xs)])->
   wpAny (model C.prog C.w) F.A (subscriptTail value (.Slice le ue none p) v (.ref σ.heap.objs.size)) (bQ C F ns ρ mf ml φ ex σ₀ Q) Er {σ with heap:=σ.heap.push {cls:= .type "slice",data:= .fields #[vl,vu,.none]}}:=by
  intro xs e hl q'
  refine f8 (gA s.re e vx) λn pp vs k ae hp hx az g vr _=>?_;subst ae;subst az
  have s':St C F ns ρ mf ml φ h ex σ₀ {σ with heap:=σ.heap.push {cls:= .type "slice",data:= .fields #[vl,vu,.none]}}:=s.keep λb o e=>SO _ e
  have g':=SO {cls:= .type "slice",data:= .fields #[vl,vu,.none]} g
  have part:∀{o:Option Int} {w:Value},vo o w->IsPart w o:=by
   intro o w hw
   cases o with
   |none=>obtain rfl:=hw;exact .none
   |some i=>obtain⟨t,rfl⟩:=hw;exact .int i t
  refine tail_any (T:="list") (dI g').typeIs list_getitem_lookup ?_ rfl
  refine VC (dI g') (Wf _ _ _ _) (part pl) (part pu) .none (by simp) ?_ (by rw[(by rw[←vr.length,S5]:vs.size=xs.length)];exact jH hl)
  rw[Ao]
  exact⟨_,_,_,S6 _ _,pJ (list:=true) (tk:=σ.toks) s' (vr.sl lo hi),iL s'.len,q'⟩
 cases x with
 |str t=>
  refine xE vx λtx ae=>?_;clear vx;subst ae
  have s':St C F ns ρ mf ml φ h ex σ₀ {σ with heap:=σ.heap.push {cls:= .type "slice",data:= .fields #[vl,vu,.none]}}:=s.keep λb o e=>SO _ e
  refine am (show∃l':Option (Int×Tok),l'.map (·.1)=lo/\vl=partValue l' from by
   cases lo with
   |none=>exact⟨none,rfl,pl⟩
   |some i=>obtain⟨t,rfl⟩:=pl;exact⟨some (i,t),rfl,rfl⟩) λl' el ae=>?_;subst ae
  refine am (show∃l':Option (Int×Tok),l'.map (·.1)=hi/\vu=partValue l' from by
   cases hi with
   |none=>exact⟨none,rfl,pu⟩
   |some i=>obtain⟨t,rfl⟩:=pu;exact⟨some (i,t),rfl,rfl⟩) λu' eu ae=>?_;subst ae
  refine tail_any (T:="str") (typeIs_str _ _ _) PySem.F.slot_str_getitem.lookup ?_ rfl
  refine wpAny_getItem_str_slice (l:=l') (u:=u') (st:=none) ⟨_,TF _ rfl,rfl,rfl⟩ rfl ?_
  have q:t.length<=lim/\Q (.str (bh lo hi t)) h:=q
  have hlen:(bh lo hi t).length<=lim:=SQ (Au _ _ _) q.1
  have q:=q.2
  unfold sliceMade
  split
  ·rename_i hh
   simp only[WB,VA,beq_self_eq_true,Bool.true_and,beq_iff_eq]at hh
   have full:bh lo hi t=t:=by rw[←el,←eu];exact Io t l' u' (by rw[hh,str_len])
   exact⟨φ,h,_,Tj _,s',vStr,by rw[full]at q;exact q⟩
  ·rw[(Il ⟨t.toArray⟩ l' u'),el,eu]
   exact⟨jH hlen,φ,h,.str (bh lo hi t),Tj _,s'.tok,vStr,q⟩
 |ref n=>
  have q:match listAt h (.ref n)with|some xs=>xs.length<=lim/\Q (.ref h.length) (h++[.list (bh lo hi xs)])|Option.none=>False:=q
  cases e:listAt h (.ref n)with
  |none=>rw[e]at q;exact q.elim
  |some xs=>rw[e]at q;exact ls e q.1 q.2
 |none=>exact(show False from q).elim
 |bool _=>exact(show False from q).elim
 |int _=>exact(show False from q).elim
 |gt _=>exact(show False from q).elim
theorem Iw{p p':Pos}(ha:au C F ns Γ a l)(hb:au C F ns Γ b r):au C F ns Γ (.g7 a b) (.Subscript l (.Slice (some r) none none p') p):=by
 intro ρ mf ml φ h ex Q q σ₀ σ Er s t
 refine Subscript_ ((ha _ _ _ _ _ _ _ q).on s t λφ1 h1 x v σ1 p1 s1 t1 vx q1=>VM ((hb _ _ _ _ _ _ _ q1).on s1 t1 λφ2 h2 y u σ2 p2 s2 t2 vy q2=>SS (SS ?_)))
 rcases y with⟨⟩<;>first|exact q2.elim|skip
 exact Ti (vp (lo:=some _) (hi:=none) s2 (vx.mono p2) vy rfl q2) (λ_ _ z=>bQ.from (p1.trans p2) z) λ_ _ z=>z
theorem Iy{p p':Pos}(ha:au C F ns Γ a l)(hb:au C F ns Γ b r):au C F ns Γ (.g9 a b) (.Subscript l (.Slice none (some r) none p') p):=by
 intro ρ mf ml φ h ex Q q σ₀ σ Er s t
 refine Subscript_ ((ha _ _ _ _ _ _ _ q).on s t λφ1 h1 x v σ1 p1 s1 t1 vx q1=>VM (SS ((hb _ _ _ _ _ _ _ q1).on s1 t1 λφ2 h2 y u σ2 p2 s2 t2 vy q2=>SS ?_)))
 rcases y with⟨⟩<;>first|exact q2.elim|skip
 exact Ti (vp (lo:=none) (hi:=some _) s2 (vx.mono p2) rfl vy q2) (λ_ _ z=>bQ.from (p1.trans p2) z) λ_ _ z=>z
theorem Iz{p p':Pos}(ha:au C F ns Γ a l)(hb:au C F ns Γ b r)(hc:au C F ns Γ c r'):au C F ns Γ (.eB a b c) (.Subscript l (.Slice (some r) (some r') none p') p):=by
 intro ρ mf ml φ h ex Q q σ₀ σ Er s t
 refine Subscript_ ((ha _ _ _ _ _ _ _ q).on s t λφ1 h1 x v σ1 p1 s1 t1 vx q1=>VM ((hb _ _ _ _ _ _ _ q1).on s1 t1 λφ2 h2 y u σ2 p2 s2 t2 vy q2=>(hc _ _ _ _ _ _ _ q2).on s2 t2 λφ3 h3 z t σ3 p3 s3 t3 vz q3=>SS ?_))
 rcases y with⟨⟩<;>first|exact q3.elim|skip
 rcases z with⟨⟩<;>first|exact q3.elim|skip
 exact Ti (vp (lo:=some _) (hi:=some _) s3 ((vx.mono p2).mono p3) (vy.mono p3) vz q3) (λ_ _ z=>bQ.from ((p1.trans p2).trans p3) z) λ_ _ z=>z
theorem IA{p p' p1 p2:Pos}{n:Nat}(ha:au C F ns Γ a l):au C F ns Γ (.rev a) (.Subscript l (.Slice none none (some (.UnaryOp .USub (.Constant (.int 1) n p1) p2)) p') p):=by
 intro ρ mf ml φ h ex Q q σ₀ σ Er s t
 refine Subscript_ ((ha _ _ _ _ _ _ _ q).on s t λφ1 h1 x v σ1 p1 s1 t1 vx q1=>VM (SS (SS (UnaryOp_ (T6 (neg_int ?_))))))
 cases e:listAt h1 x with
 |none=>rw[e]at q1;exact q1.elim
 |some xs=>
  rw[e]at q1
  refine f8 (gA s1.re e vx) λn pp vs k ae hp hx az g vr _=>?_;subst ae;subst az
  have g':=λvl=>SO {cls:= .type "slice",data:= .fields #[Value.none,.none,vl]} g
  refine tail_any (T:="list") (dI (g' _)).typeIs list_getitem_lookup ?_ rfl
  refine VC (dI (g' _)) (Wf _ _ _ _) .none .none (.int _ _) (by simp) ?_ (by rw[(by rw[←vr.length,S5]:vs.size=xs.length)];exact jH q1.1)
  rw[rev_eq]
  exact⟨_,_,_,p1.trans (S6 _ _),pJ (list:=true) ((λvl tk=>s1.keep (tk:=tk) (hp:=σ1.heap.push {cls:= .type "slice",data:= .fields #[Value.none,.none,vl]}) λb o e=>SO _ e) _ _) vr.reverse,iL s1.len,q1.2⟩
end
noncomputable def others(hp:Heap)(φ:Pl)(ex:List (Addr×Obj))(d:Addr):List (Addr×Obj):=(cells hp φ++ex).filter λq=>decide (q.1≠d)
theorem rS{hp:Heap}{φ:Pl}{ex:List (Addr×Obj)}{d:Addr}:∀p∈others hp φ ex d,p.1≠d:=λp hp=>of_decide_eq_true (VK.mp hp).2
theorem Re.rT{R:RT}{h₀ hp:Heap}{L:Addr}{φ:Pl}{h:H}{ex:List (Addr×Obj)}(r:Re R h₀ L φ h ex hp){p:Addr×Addr}{d:Addr}{od:Obj}(hm:p∈φ)(hd:d=p.1\/d=p.2)(e:hp.get? d=some od):
  News h₀ L hp ((d,od)::others hp φ ex d):=by
 intro q hq
 rcases SH.mp hq with rfl|hq
 ·have f:=r.fresh p hm
  rcases hd with rfl|rfl
  ·exact⟨e,f.2.2.1,f.1⟩
  ·exact⟨e,f.2.2.2,f.2.1⟩
 ·exact r.news q (VK.mp hq).1
theorem Re.mX{R:RT}{h₀ hp aJ:Heap}{L:Addr}{φ:Pl}{h:H}{ex:List (Addr×Obj)}(r:Re R h₀ L φ h ex hp){i:Nat}{p:Addr×Addr}{d:Addr}{od':Obj}{o:O}(hi:φ[i]? =some p)(hd:d=p.1\/d=p.2)
  (N:News h₀ L aJ ((d,od')::others hp φ ex d)) (x:aJ.get? d=some od'->(∀b,b≠d->(b=p.1\/b=p.2)->aJ.get? b=hp.get? b)->db R φ aJ p o):Re R h₀ L φ (h.set i o) ex aJ:=by
 have keep:∀b,b≠d->(b∈ex.map (·.1)\/∃p∈φ,b=p.1\/b=p.2)->aJ.get? b=hp.get? b:=by
  intro b hb ht
  refine xE (pj (hp:=hp) ht) λob hob=>?_
  exact(N (b,ob) (.tail _ (VK.mpr ⟨hob,decide_eq_true hb⟩))).1.trans ((r.news _ hob).1).symm
 have hm:=Sy hi
 refine⟨by simp[r.len],λ{j q ob} e e'=>?_,r.fresh,r.apart,λq hq=>?_⟩
 ·by_cases hj:j=i
  ·subst hj
   rw[Uc (by simpa using((Sr.mp e').1))]at e'
   obtain rfl:=Sv e'
   rw[hi]at e;obtain rfl:=Sv e
   exact x (N _ (.head _)).1 λb hb IB=>keep b hb (.inr ⟨p,hm,IB⟩)
  ·rw[S0 (VQ hj)]at e'
   have a:=r.apart e hi hj
   have hq:=Sy e
   refine(r.objs e e').keep (keep _ ?_ (.inr ⟨q,hq,.inl rfl⟩)) (keep _ ?_ (.inr ⟨q,hq,.inr rfl⟩))
   ·rcases hd with rfl|rfl;exact a.1;exact a.2.1
   ·rcases hd with rfl|rfl;exact a.2.2.1;exact a.2.2.2
 ·have a:=r.ex q hq
  have b:=a.2.2.2 p hm
  refine⟨(keep q.1 ?_ (.inl (Ua hq))).trans a.1,a.2⟩
  rcases hd with rfl|rfl;exact b.1;exact b.2
theorem lK{o:PySem.Expr}(h:hK o=true)(n:Str)(env:Env)(whole:Sem Value):attributeBase o n env whole=whole:=by
 rcases o with⟨⟩<;>first|rfl| (rename_i g _ _ _;rcases g with⟨⟩<;>first|rfl|exact Bool.noConfusion (show false=true from h))
section
variable{C:Cx}{F:Fx}{ns:List Str}{ρ:Loc}{mf ml:Str->Option Value}{φ:Pl}{h:H}{ex:List (Addr×Obj)}{σ₀ σ:Shared}
 {Γ:ay} {a b c:E} {l r r':PySem.Expr}
theorem Av{L:Addr}{h₀ hp:Heap}(r:Re C.R h₀ L φ h ex hp){v:V}{n c:Nat}{fs:List (Nat×V)}(e:b6 h v=some (n,c,fs)){x:Value}(a:VR C.R φ v x):
  ∃p es k,v= .ref n/\φ[n]? =some p/\h[n]? =some (.inst c fs)/\x= .ref p.1/\c<3/\fs.length<=20/\hp.get? p.1=some (instObj (C.R.cls c) p.2)/\p.2≠p.1/\hp.get? p.2=some (dictOf es k)/\gv C.R φ fs es:=by
 cases v with
 |ref m=>
  simp only[b6]at e
  split at e
  ·rename_i c' fs' hy
   split at e
   ·rename_i hc
    rcases e with⟨⟩
    refine am a λp aJ ae=>?_;clear a;subst ae
    refine oY (r.objs aJ hy) λg ne es k g2 fr=>?_
    exact⟨p,es,k,rfl,aJ,hy,rfl,hc.1,hc.2,g,ne,g2,fr⟩
   ·exact nn e
  ·(exact nn e)
 |_=>exact nn e
theorem vt(a b:Str):(a==b)=decide (a=b):=lH a b
theorem Aw{K:rO C.R C.K}{fs:List (Nat×V)}{es:List DictEntry}(hf:gv C.R φ fs es){f:Nat}:match bj fs f with
  |some v=>∃w,getL (C.R.fld f) es=some (some w)/\VR C.R φ v w
  |Option.none=>getL (C.R.fld f) es=some none:=by
 induction hf with
 |nil=>exact rfl
 | @cons g x e t fs es hk hv _ ih=>
  unfold bj
  by_cases hg:g=f
  ·subst hg
   rw[if_pos rfl]
   refine⟨e.val,?_,hv⟩
   unfold getL
   rw[List.find?_cons_of_pos (by rw[hk];simp[Value.isStr])]
  ·rw[if_neg hg]
   have e1:getL (C.R.fld f) (e::es)=getL (C.R.fld f) es:=by
    have hne:(e.key.isStr (C.R.fld f))=false:=by
     rw[hk]
     show(C.R.fld g==C.R.fld f)=false
     rw[vt,decide_eq_false λz=>hg (K.inj _ _ z)]
    have hrk:e.refKey=false:=by unfold DictEntry.refKey;rw[hk]
    unfold getL
    rw[List.find?_cons_of_neg (by rw[hne];exact TH),WL,hrk,UQ]
   rw[e1];exact ih
theorem handed{R:RT}{x:V}{v:Value}(a:VR R φ x v):handedIn v=true:=by
 cases x with
 |none=>obtain rfl:=a;rfl
 |bool b=>obtain rfl:=a;rfl
 |int i=>refine xE a λt ae=>?_;clear a;subst ae;rfl
 |str s=>refine xE a λt ae=>?_;clear a;subst ae;rfl
 |ref n=>refine am a λp _ ae=>?_;clear a;subst ae;rfl
 |gt k=>obtain rfl:=a;rfl
theorem Ax(O:F.Ok C)(s:St C F ns ρ mf ml φ h ex σ₀ σ){x y:V}{n c:Nat}{fs:List (Nat×V)}(e:b6 h x=some (n,c,fs)){f:Nat}(vv:f<17)(ef:bj fs f=some y){v:Value}(vx:VR C.R φ x v)
  {A:Around} {Q E:Value->Shared->Prop} {expr:Bool} (hq:∀w,VR C.R φ y w->Q w {σ with toks:=σ.toks+1}):wpAny (model C.prog C.w) A (getAttr v (C.R.fld f) expr) Q E σ:=by
 refine rC (Av s.re e vx) λp es k ae hp hx az hc _ g1 ne g2 fr=>?_;subst ae;subst az
 have K:=O.bs.k
 have q:=Aw (K:=K) fr (f:=f)
 rw[ef]at q
 refine am q λw hw vw=>?_;clear q
 refine get_value (O.bs.x.keeps s.fr.keep) (⟨g1,rfl,rfl,g2⟩:InstAt σ.heap p.1 (instObj (C.R.cls c) p.2) (C.R.cls c) (some (dictOf es k))) (K.ga c hc) ?_ (handed vw) (hq w vw)
 refine am (any_some (K.hd c hc)) λcd hcd IC=>?_
 unfold findObj
 rw[hcd,(K.fld c f hc vv).1]
 simp only[TM]
 unfold PySem.W.ownOf
 rw[if_pos IC]
 simp only[lookIn_dict,hw,TM]
theorem ID{f:Nat}{p:Pos}(O:F.Ok C)(hb:hK l=true)(hf:f<17)(ha:au C F ns Γ a l):au C F ns Γ (.attr a f) (.Attribute l (C.R.fld f) p):=by
 intro ρ mf ml φ h ex Q q σ₀ σ Er s t
 refine Attribute_any_ ((ha _ _ _ _ _ _ _ q).on s t λφ1 h1 x v σ1 p1 s1 t1 vx q1=>?_) ?_
 ·cases e:b6 h1 x with
  |none=>rw[e]at q1;exact q1.elim
  |some t=>
   obtain⟨n,c,fs⟩:=t
   rw[e]at q1
   simp only at q1
   cases ef:bj fs f with
   |none=>rw[ef]at q1;exact q1.elim
   |some y=>
    rw[ef]at q1
    exact Ax O s1 e hf ef vx λw vw=>⟨φ1,h1,y,p1,s1.tok,vw,q1⟩
 ·rw[arm_eval_Attribute,lK hb]
end
section
variable{C:Cx}{F:Fx}{ns:List Str}{ρ:Loc}{mf ml:Str->Option Value}{φ:Pl}{h:H}{ex:List (Addr×Obj)}{σ₀ σ:Shared}
 {a b c:E} {l r r':PySem.Expr}
theorem Ay{env:Env}{p:Pos}:∀{xs:List PySem.Expr},(∀y∈xs,plainHead y=true)->(backTo p (starEach xs env)).any (·.1)=false
 | [],_=>rfl
 |y::ys,hp=>by
  rw[eH (hp y (.head _))]
  show(false||(backTo p (starEach ys env)).any (·.1))=false
  rw[Ay λz hz=>hp z (.tail _ hz)];rfl
theorem St.back{φ':Pl}{h':H}{σ':Shared}(s:St C F ns ρ mf ml φ h ex σ₀ σ)(p:φ<+:φ')(f:Fr F.h₀ F.L σ'.heap mf)(r:Re C.R F.h₀ F.L φ' h' ex σ'.heap)(k:Rest σ σ'):St C F ns ρ mf ml φ' h' ex σ₀ σ':=
 ⟨f,r,s.lo.mono p,s.at_,s.rest.trans k⟩
theorem IE{f:Nat}{x:Str}{es:Es}{xs:List PySem.Expr}{p p':Pos}(O:F.Ok C)(e:C.R.fname f=x)(ok:bz F.env.scope x=true)(hn:C.R.named f=true)(hp:∀y∈xs,plainHead y=true)
  (hr:hM C F ns (Sp C) es xs):au C F ns (Sp C) (.call f es) (.Call (.Name x p') xs [] p):=by
 intro ρ mf ml φ h ex Q q σ₀ σ Er s t
 simp only[bz,S8,beq_iff_eq,To]at ok
 refine rx (O.bs.fn f hn) λhmg o fd ho hd=>?_
 rw[e]at hmg
 refine Call_ (Name_function_global O.kind ok.1 (loadGlobal_global (by rw[O.globals];exact O.bs.g.keeps s.fr.keep) hmg ?_) ok.2)
 have fin:∀{φ1:Pl} {h1:H} {vs:List V} {ws:List Value} {σ1:Shared},φ<+:φ1->St C F ns ρ mf ml φ1 h1 ex σ₀ σ1->1<=σ1.toks->aD C.R φ1 vs ws->(match F.n with| 0=>False|m+1=>Sp C m f vs h1 Q bot)->
   wpAny (model C.prog C.w) F.A (call (.ref (C.R.b7 f)) ws) (bQ C F ns ρ mf ml φ ex σ₀ Q) Er σ1:=by
  intro φ1 h1 vs ws σ1 p1 s1 t1 vx q1
  have hroom:=O.room
  cases hF:F.n with
  |zero=>rw[hF]at q1;exact q1.elim
  |succ m=>
   rw[hF]at q1 hroom
   refine UA (codeAny_mono (q1 F.A F.A₀ F.base F.outer F.fe F.h₀ F.L mf φ1 ex σ1 ws O.below O.frames O.fL O.gy O.ky O.kD O.jG O.kE O.handled O.bs hroom.one s1.fr s1.re vx t1) λr σ' z=>?_)
   rcases r with e| (_|_|_|v)
   ·refine g5 z λ_ _ _ _ z _=>?_;exact z.elim
   ·exact z
   ·exact z
   ·exact z
   ·refine oZ z λφ2 h2 x p2 f2 r2 v2 q2 k2=>?_;clear z
    exact⟨φ2,h2,x,p1.trans p2,s1.back p2 f2 r2 k2,v2,q2⟩
 cases xs with
 |nil=>
  refine callWith_function (o:=o) (fd:=fd) (UR ⟨⟨s.fr.keep _ _ ho,hd⟩,?_⟩)
  have z:=(hr _ _ _ _ _ _ _ p q) σ₀ σ Er s t
  have z':wpAny (model C.prog C.w) F.A (pure []) (λv σ'=>∃φ' h' x,φ<+:φ'/\St C F ns ρ mf ml φ' h' ex σ₀ σ'/\aD C.R φ' x v/\(match F.n with| 0=>False|m+1=>Sp C m f x h' Q bot)/\v.length=0) Er σ:=z
  refine Sz (m:=(pure []:Sem (List Value))) (f:=λvs=>call (.ref (C.R.b7 f)) vs) (Ti (Uo t z') (λv σ1 hh=>?_) λ_ _ z=>z.2)
  refine uV hh λt1 φ1 h1 x p1 s1 vx q1 _=>?_;clear hh
  exact fin p1 s1 t1 vx q1
 |cons y ys=>
  refine callWith_def (o:=o) hd ((hr _ _ _ _ _ _ _ p q).on s t λφ1 h1 vs ws σ1 p1 s1 t1 vx q1 _=>⟨s1.fr.keep _ _ ho,fin p1 s1 t1 vx q1⟩) (eH (hp y (.head _)))
theorem IF{c:Nat}{x:Str}{es:Es}{xs:List PySem.Expr}{p p':Pos}(O:F.Ok C)(e:C.R.jD (1000+c)=x)(ok:bz F.env.scope x=true)(hc:c<3)(hi:C.R.b7 (C.T.init c)=C.R.init c)(hp:∀y∈xs,plainHead y=true)
  (hr:hM C F ns (Sp C) es xs):au C F ns (Sp C) (.new c es) (.Call (.Name x p') xs [] p):=by
 intro ρ mf ml φ h ex Q q σ₀ σ Er s t
 simp only[bz,S8,beq_iff_eq,To]at ok
 have hmg:=O.bs.cls c hc
 rw[e]at hmg
 have K:=O.bs.k
 refine Call_ (Name_function_global O.kind ok.1 (loadGlobal_global (by rw[O.globals];exact O.bs.g.keeps s.fr.keep) hmg ?_) ok.2)
 have fin:∀{φ1:Pl} {h1:H} {vs:List V} {ws:List Value} {σ1:Shared},φ<+:φ1->St C F ns ρ mf ml φ1 h1 ex σ₀ σ1->1<=σ1.toks->aD C.R φ1 vs ws->
   (match F.n with| 0=>False|m+1=>Sp C m (C.T.init c) (.ref h1.length::vs) (h1++[.inst c []]) (λv h'=>v= .none/\Q (.ref h1.length) h') bot)->
   wpAny (model C.prog C.w) F.A (call (.ref (C.R.cls c)) ws) (bQ C F ns ρ mf ml φ ex σ₀ Q) Er σ1:=by
  intro φ1 h1 vs ws σ1 p1 s1 t1 vx q1
  have hroom:=O.room
  cases hF:F.n with
  |zero=>rw[hF]at q1;exact q1.elim
  |succ m=>
   rw[hF]at q1 hroom
   have X:=O.bs.x.keeps s1.fr.keep
   obtain⟨σh,σg,σd,σt,σo⟩:=σ1
   refine UA (make_core (makes_of X (K.makes c hc)) (looks_findIn X (K.init c hc).1) (λself=>bind_fn X self (beq_iff_eq.mp (K.init c hc).2)) (.inl (by simp)) ?_)
   have s2:St C F ns ρ mf ml (φ1++[(σh.objs.size+1,σh.objs.size)]) (h1++[.inst c []]) ex σ₀ ⟨(σh.push emptyDict).push (instObj (C.R.cls c) σh.objs.size),σg,σd,σt,σo⟩:=by
    refine s1.newObj (tk:=σt) (λb ob e=>SO _ (SO _ e)) (VN _) (SW _) ?_
    refine⟨?_,SX (TN _),[],0,?_,.nil⟩
    ·have:=TF (h:=σh.push emptyDict) (o:=instObj (C.R.cls c) σh.objs.size) rfl
     simpa[Heap.push]using this
    ·exact SO _ (TF _ rfl)
   have Az:VR C.R (φ1++[(σh.objs.size+1,σh.objs.size)]) (.ref h1.length) (.ref (σh.objs.size+1)):=iL (p:=(σh.objs.size+1,σh.objs.size)) s1.len
   have pp:φ1<+:φ1++[(σh.objs.size+1,σh.objs.size)]:=S6 _ _
   have hr2:lF (F.A.under (.builtin "type.__call__" ⟨.ref (C.R.cls c)::ws,[]⟩)) m:=by
    have w1:(F.A.under (.builtin "type.__call__" ⟨.ref (C.R.cls c)::ws,[]⟩)).depth=F.A.depth+1:=rfl
    have w2:(F.A.under (.builtin "type.__call__" ⟨.ref (C.R.cls c)::ws,[]⟩)).units=F.A.units+1:=rfl
    unfold room at hroom
    unfold lF
    rw[w1,w2]
    exact⟨ah 0x1f29682b9c13a91a01e29662b9c91a13a0 rfl hroom.1,ah 0x1f298c2b9c1102b91a01e29802b9c91a1102b0 rfl hroom.2⟩
   have z:=q1 (F.A.under (.builtin "type.__call__" ⟨.ref (C.R.cls c)::ws,[]⟩)) F.A₀ F.base F.outer F.fe F.h₀ F.L mf _ ex _ (.ref (σh.objs.size+1)::ws) O.below (show F.A.frames=some (F.fe::F.outer)from O.frames) O.fL O.gy O.ky O.kD O.jG O.kE O.handled O.bs hr2 s2.fr s2.re (.cons Az (vx.mono pp)) t1
   rw[hi]at z
   refine codeAny_mono z λr σ' z=>?_
   rcases r with e| (_|_|_|v)
   ·refine g5 z λ_ _ _ _ z _=>?_;exact z.elim
   ·exact z
   ·exact z
   ·exact z
   ·obtain⟨φ2,h2,x,p2,f2,r2,v2,⟨rfl,q2⟩,k2⟩:=z
    exact⟨v2,φ2,h2,.ref h1.length,p1.trans (pp.trans p2),s2.back p2 f2 r2 k2,Az.mono p2,q2⟩
 cases xs with
 |nil=>
  refine callWith_K0 (K:=C.K) (O.bs.x.keeps s.fr.keep) (K.keep c hc) ?_
  have z:=(hr _ _ _ _ _ _ _ p q) σ₀ σ Er s t
  have z':wpAny (model C.prog C.w) F.A (pure []) (λv σ'=>∃φ' h' x,φ<+:φ'/\St C F ns ρ mf ml φ' h' ex σ₀ σ'/\aD C.R φ' x v/\(match F.n with| 0=>False|m+1=>Sp C m (C.T.init c) (.ref h'.length::x) (h'++[.inst c []]) (λv h''=>v= .none/\Q (.ref h'.length) h'') bot)/\v.length=0) Er σ:=z
  refine Sz (m:=(pure []:Sem (List Value))) (f:=λvs=>call (.ref (C.R.cls c)) vs) (Ti (Uo t z') (λv σ1 hh=>?_) λ_ _ z=>z.2)
  refine uV hh λt1 φ1 h1 x p1 s1 vx q1 _=>?_;clear hh
  exact fin p1 s1 t1 vx q1
 |cons y ys=>
  refine callWith_K (K:=C.K) (O.bs.x) (K.keep c hc) ((hr _ _ _ _ _ _ _ p q).on s t λφ1 h1 vs ws σ1 p1 s1 t1 vx q1 _=>⟨O.bs.x.keeps s1.fr.keep,fin p1 s1 t1 vx q1⟩) (eH (hp y (.head _))) (Ay λz hz=>hp z (.tail _ hz))
end
section
variable{C:Cx}{F:Fx}{ns:List Str}{ρ:Loc}{mf ml:Str->Option Value}{φ:Pl}{h:H}{ex:List (Addr×Obj)}{σ₀ σ:Shared}
 {Γ:ay} {a b c:E} {l r r':PySem.Expr}
theorem kG(O:F.Ok C)(s:St C F ns ρ mf ml φ h ex σ₀ σ){x:Str}{p:Pos}{f:Value}(hx:x∈rN)(e:bootBuiltins x=some f)(ok:bz F.env.scope x=true){Q E:Value->Shared->Prop}(hq:Q f σ):
  wpAny (model C.prog C.w) F.A (eval (.Name x p) F.env) Q E σ:=by
 simp only[bz,S8,beq_iff_eq,To]at ok
 refine mN (O.bs.blt x hx) λh1 v h2 h3=>?_
 rw[e]at h2
 obtain rfl:=Sv h2
 exact Name_function_global O.kind ok.1 (loadGlobal_builtin (by rw[O.globals];exact O.bs.g.keeps s.fr.keep) h1 (by rw[O.builtins];exact O.bs.b.keeps s.fr.keep) h3 hq) ok.2
theorem args1{M:Model}{A:Around}{E:Value->Shared->Prop}{env:Env}{p:Pos}(hp:plainHead l=true){Q:List Value->Shared->Prop}(h:wpAny M A (eval l env) (λv s₁=>Q [v] s₁) E σ):
  wpAny M A (spliced (backTo p (starEach [l] env))) Q E σ:=
 args_cons (Ti h (λ_ _ z=>args_nil z) λ_ _ z=>z) (eH hp)
theorem args2{M:Model}{A:Around}{E:Value->Shared->Prop}{env:Env}{p:Pos}(hp:plainHead l=true)(aJ:plainHead r=true){Q:List Value->Shared->Prop}
  (h:wpAny M A (eval l env) (λv s₁=>wpAny M A (eval r env) (λu s₂=>Q [v,u] s₂) E s₁) E σ):wpAny M A (spliced (backTo p (starEach [l,r] env))) Q E σ:=
 args_cons (Ti h (λv _ z=>args_cons (Ti z (λ_ _ z=>args_nil z) λ_ _ z=>z) (eH aJ)) λ_ _ z=>z) (eH hp)
theorem AA{M:Model}{A:Around}{E:Value->Shared->Prop}{env:Env}{p:Pos}{id:String}(hp:plainHead l=true){Q:Value->Shared->Prop}(h:wpAny M A (eval l env) (λv s₁=>wpAny M A (call (.builtin id) [v]) Q E s₁) E σ):
 wpAny M A (callWith p (.builtin id) [] (backTo p (starEach [l] env)) []) Q E σ:=callWith_builtin1 (args1 hp h) (eH hp)
theorem vA{M:Model}{A:Around}{E:Value->Shared->Prop}{env:Env}{p:Pos}{id:String}(hp:plainHead l=true)(aJ:plainHead r=true){Q:Value->Shared->Prop}
  (h:wpAny M A (eval l env) (λv s₁=>wpAny M A (eval r env) (λu s₂=>wpAny M A (call (.builtin id) [v,u]) Q E s₂) E s₁) E σ):
  wpAny M A (callWith p (.builtin id) [] (backTo p (starEach [l,r] env)) []) Q E σ:=
 callWith_builtin1 (args2 hp aJ h) (eH hp) (by rw[eH aJ];rfl)
theorem rU{M:Model}{A:Around}{E:Value->Shared->Prop}{env:Env}{p:Pos}{T:String}(hp:plainHead l=true){Q:Value->Shared->Prop}(h:wpAny M A (eval l env) (λv s₁=>wpAny M A (call (.type T) [v]) Q E s₁) E σ):
  wpAny M A (callWith p (.type T) [] (backTo p (starEach [l] env)) []) Q E σ:=by
 refine PyProof.Rows.callWith_type (by rw[eH hp];rfl) ?_
 have z:=args1 (p:=p) hp (Q:=λvs s'=>wpAny M A (call (.type T) ([]++vs)) Q E s') h
 rw[eH hp]at z ⊢
 exact evalArgs_plain z
theorem IG{p p':Pos}(O:F.Ok C)(ok:bz F.env.scope "len"=true)(hp:plainHead l=true)(ha:au C F ns Γ a l):au C F ns Γ (.len a) (.Call (.Name "len" p') [l] [] p):=by
 intro ρ mf ml φ h ex Q q σ₀ σ Er s t
 refine Call_ (kG O s (by decide) boot_len ok (AA hp ((ha _ _ _ _ _ _ _ q).on s t λφ1 h1 x v σ1 p1 s1 t1 vx q1=>?_)))
 cases e:kr C.T h1 x with
 |none=>rw[e]at q1;exact q1.elim
 |some k=>
  rw[e]at q1
  refine xA q1 λhk q1=>?_
  have hk:k<=1000000:=hk
  have pK:∀{xs:List V},gi C.T h1 x=some xs->(xs.length:Int)=k->wpAny (model C.prog C.w) F.A (call (.builtin "len") [v]) (bQ C F ns ρ mf ml φ ex σ₀ Q) Er σ1:=by
   intro xs e1 e2
   refine g5 (Ar O s1 e1 vx) λad vs n ae g vr=>?_;subst ae
   have hsz:(vs.size:Int)=k:=by rw[←e2,←vr.length,S5]
   refine Ts g (λg=>?_) (λg=>?_)
   ·exact Calls.call_len_list (dI g) (by lia) (bQ.mk' (.int k) p1 s1.tok (by rw[hsz];exact vInt) q1)
   ·exact PyProof.Rows.len_tuple (mV g) (by lia) (bQ.mk' (.int k) p1 s1.tok (by rw[hsz];exact vInt) q1)
  cases x with
  |str u=>
   obtain rfl:=Sv e
   refine xE vx λtx ae=>?_;clear vx;subst ae
   refine PyProof.Rows.len_str (by rw[str_len];lia) (bQ.mk' (.int u.length) p1 s1.tok (by rw[str_len];exact vInt) q1)
  |ref n=>refine am (TA.mp e) λxs e1 e2=>?_;exact pK e1 e2
  |gt n=>
   have e:(gi C.T h1 (.gt n)).map (λxs=>(xs.length:Int))=some k:=e
   refine am (TA.mp e) λxs e1 e2=>?_
   exact pK e1 e2
  |none=>(exact nn e)
  |bool _=>(exact nn e)
  |int _=>exact nn e
theorem IH{p p':Pos}(O:F.Ok C)(ok:bz F.env.scope "ord"=true)(hp:plainHead l=true)(ha:au C F ns Γ a l):au C F ns Γ (.ord a) (.Call (.Name "ord" p') [l] [] p):=by
 intro ρ mf ml φ h ex Q q σ₀ σ Er s t
 refine Call_ (kG O s (by decide) boot_ord ok (AA hp ((ha _ _ _ _ _ _ _ q).on s t λφ1 h1 x v σ1 p1 s1 t1 vx q1=>?_)))
 ·refine am (u0 q1) λc zz q1=>?_;subst zz
  refine xE vx λtx ae=>?_;clear vx;subst ae
  exact ord_of_one rfl (bQ.mk' (.int c) p1 s1.tok vInt q1)
theorem digits_eq(i:Int)(h:0<=i):Str.ofString (toString i)=⟨(cG i.toNat).toArray⟩:=by
 rw[Str.ofString_eq_byList]
 unfold Str.ofStringByList cG uZ
 refine xE (VH h) λn ae=>?_;subst ae
 rfl
theorem II{p p':Pos}(O:F.Ok C)(ok:bz F.env.scope "str"=true)(hp:plainHead l=true)(ha:au C F ns Γ a l):au C F ns Γ (.strOf a) (.Call (.Name "str" p') [l] [] p):=by
 intro ρ mf ml φ h ex Q q σ₀ σ Er s t
 refine Call_ (kG O s (by decide) PyProof.Rows.boot_str ok (rU hp ((ha _ _ _ _ _ _ _ q).on s t λφ1 h1 x v σ1 p1 s1 t1 vx q1=>?_)))
 ·refine am (zV q1) λi zz q1=>?_;subst zz
  refine du q1 λh0 h2 q1=>?_
  refine xE vx λtx ae=>?_;clear vx;subst ae
  refine PySem.P.str_of_int ?_ ?_
  ·have:i.natAbs<2 ^ 30:=by lia
   by_cases z:i.natAbs=0
   ·rw[z];decide
   ·exact(Nat.log2_lt z).mpr (Ud ‹i.natAbs<2 ^ 30› (Nat.pow_lt_pow_right (by decide) (by decide)))
  ·exact bQ.mk' (.str (cG i.toNat)) p1 s1.tok ⟨σ1.toks,by rw[digits_eq i h0]⟩ q1
theorem IJ{p p':Pos}(O:F.Ok C)(ok:bz F.env.scope "max"=true)(hp:plainHead l=true)(aJ:plainHead r=true)(ha:au C F ns Γ a l)(hb:au C F ns Γ b r):au C F ns Γ (.max2 a b) (.Call (.Name "max" p') [l,r] [] p):=by
 intro ρ mf ml φ h ex Q q σ₀ σ Er s t
 refine Call_ (kG O s (by decide) PyProof.Rows.boot_max ok (vA hp aJ ((ha _ _ _ _ _ _ _ q).on s t λφ1 h1 x v σ1 p1 s1 t1 vx q1=>(hb _ _ _ _ _ _ _ q1).on s1 t1 λφ2 h2 y u σ2 p2 s2 t2 vy q2=>?_)))
 ·refine bx (zW q2) λi j zz zy q2=>?_;subst zz;subst zy
  refine xE vx λtx ae=>?_;clear vx;subst ae
  refine xE vy λty ae=>?_;clear vy;subst ae
  refine max_two_ints O.handled λh' tk k=>?_
  refine bQ.mk' (.int (max i j)) (p1.trans p2) (s2.keep k) ?_ q2
  by_cases z:j>i
  ·rw[if_pos z,Int.max_eq_right (by lia)];exact vInt
  ·rw[if_neg z,Int.max_eq_left (by lia)];exact vInt
theorem IK{p p':Pos}(O:F.Ok C)(ok:bz F.env.scope "divmod"=true)(hp:plainHead l=true)(aJ:plainHead r=true)(ha:au C F ns Γ a l)(hb:au C F ns Γ b r):au C F ns Γ (.dm a b) (.Call (.Name "divmod" p') [l,r] [] p):=by
 intro ρ mf ml φ h ex Q q σ₀ σ Er s t
 refine Call_ (kG O s (by decide) PyProof.Rows.boot_divmod ok (vA hp aJ ((ha _ _ _ _ _ _ _ q).on s t λφ1 h1 x v σ1 p1 s1 t1 vx q1=>(hb _ _ _ _ _ _ _ q1).on s1 t1 λφ2 h2 y u σ2 p2 s2 t2 vy q2=>?_)))
 ·refine bx (zW q2) λi j zz zy q2=>?_;subst zz;subst zy
  refine xA q2 λhj q2=>?_
  refine xE vx λtx ae=>?_;clear vx;subst ae
  refine xE vy λty ae=>?_;clear vy;subst ae
  refine divmod_int (by lia) ?_ (.inr (s2.Af O))
  have e1:i.fdiv j=i/j:=UP _ (by lia)
  have e2:i.fmod j=i%j:=Vp _ (by lia)
  rw[e1,e2]
  exact⟨_,_,_,(p1.trans p2).trans (S6 _ _),pJ (list:=false) (k:=0) (vs:=[.int (i/j) σ2.toks,.int (i%j) (σ2.toks+1)]) s2 (.cons vInt (.cons vInt .nil)),iL s2.len,q2⟩
theorem IL{p p':Pos}(O:F.Ok C)(ok:bz F.env.scope "list"=true)(hp:plainHead l=true)(ha:au C F ns Γ a l):au C F ns Γ (.listOf a) (.Call (.Name "list" p') [l] [] p):=by
 intro ρ mf ml φ h ex Q q σ₀ σ Er s t
 refine Call_ (kG O s (by decide) VO ok (rU hp ((ha _ _ _ _ _ _ _ q).on s t λφ1 h1 x v σ1 p1 s1 t1 vx q1=>?_)))
 cases e:listAt h1 x with
 |none=>rw[e]at q1;exact q1.elim
 |some xs=>
  rw[e]at q1
  refine f8 (gA s1.re e vx) λn pp vs k ae hp hx az g vr _=>?_;subst ae;subst az
  refine call_list_seq _ (.inl rfl) g rfl rfl (λh' c' k gg=>?_) (by rw[(by rw[←vr.length,S5]:vs.size=xs.length)];exact jH q1.1)
  exact⟨_,_,_,p1.trans (S6 _ _),s1.newObj (p:=(σ1.heap.objs.size,σ1.heap.objs.size)) (o:= .list xs) k (SW _) (SW _) ⟨vs,c',gg,vr.mono (S6 _ _),rfl⟩,iL s1.len,q1.2⟩
end
noncomputable def mk(s:List Nat):Str:=⟨s.toArray⟩
theorem AB(a b:List Nat):mk a++mk b=mk (a++b):=vi a b
theorem rV(sep:List Nat):∀ys:List (List Nat),Str.join (mk sep) (ys.map mk)=mk (aG sep ys)
 | []=>rfl
 | [x]=>rfl
 |x::y::r=>by
  show mk x++mk sep++Str.join (mk sep) ((y::r).map mk)=_
  rw[rV sep (y::r),AB,AB];rfl
theorem rW(c:Nat):∀(x acc:List Nat),∃p ps,bH c acc x=p::ps
 | [],acc=>⟨_,_,rfl⟩
 |d::r,acc=>by
  unfold bH
  split
  ·exact⟨_,_,rfl⟩
  ·exact rW c r _
theorem vB(c:Nat):∀(x acc:List Nat),aG [c] (bH c acc x)=acc.reverse++x
 | [],acc=>by simp[bH,aG]
 |d::r,acc=>by
  unfold bH
  split
  ·rename_i e
   subst e
   refine iH (rW d r []) λp ps e=>?_
   have ih:=vB d r []
   rw[e]at ih ⊢
   simp[aG,ih]
  ·rw[vB c r];simp
theorem vC(c:Nat):∀(x acc:List Nat),c∉acc->∀p∈bH c acc x,c∉p
 | [],acc,h,p,hp=>by
  simp[bH]at hp;subst hp;simpa using h
 |d::r,acc,h,p,hp=>by
  unfold bH at hp
  split at hp
  ·rcases SH.mp hp with rfl|hp
   ·simpa using h
   ·exact vC c r [] (by simp) p hp
  ·rename_i ne
   exact vC c r (d::acc) (by simp;exact⟨VQ ne,h⟩) p hp
theorem IM(c:Nat):∀(ps qs:List (List Nat)),ps≠[]->qs≠[]->(∀p∈ps,c∉p)->(∀q∈qs,c∉q)->aG [c] ps=aG [c] qs->ps=qs:=by
 have key:∀(a b x y:List Nat),c∉a->c∉b->a++c::x=b++c::y->a=b/\x=y:=by
  intro a
  induction a with
  |nil=>intro b x y _ hb e;cases b with
   |nil=>simpa using e
   |cons d b=>simp at e hb;exact absurd e.1 hb.1
  |cons d a ih=>intro b x y ha hb e;cases b with
   |nil=>simp at e ha;exact absurd e.1.symm ha.1
   |cons d' b=>
    simp at e ha hb
    refine xA (ih b x y ha.2 hb.2 e.2) λh1 h2=>?_
    exact⟨by rw[e.1,h1],h2⟩
 have none:∀(a b y:List Nat),c∉a->a=b++c::y->False:=by
  intro a b y ha e;rw[e]at ha;simp at ha
 intro ps
 induction ps with
 |nil=>intro qs h;exact absurd rfl h
 |cons p ps ih=>
  intro qs _ hq h1 h2 e
  cases qs with
  |nil=>exact absurd rfl hq
  |cons q qs=>
   cases ps with
   |nil=>cases qs with
    |nil=>simp[aG]at e;rw[e]
    |cons q' qs=>exact(none p q (aG [c] (q'::qs)) (h1 p (.head _)) (by simpa[aG]using e)).elim
   |cons p' ps=>cases qs with
    |nil=>exact(none q p (aG [c] (p'::ps)) (h2 q (.head _)) (by simpa[aG]using e.symm)).elim
    |cons q' qs=>
     refine xA (key p q (aG [c] (p'::ps)) (aG [c] (q'::qs)) (h1 p (.head _)) (h2 q (.head _)) (by simpa[aG]using e)) λe1 e2=>?_
     rw[e1,ih (q'::qs) (by simp) (by simp) (λx hx=>h1 x (.tail _ hx)) (λx hx=>h2 x (.tail _ hx)) e2]
theorem IN(x y:Str):Txt.split x y≠[]:=by
 unfold Txt.split
 split
 ·simp
 ·split
  ·simp
  ·intro e
   rw[StrLaws.partsBetween_eq]at e
   refine iH (StrLaws.partsFrom_ne x y.length 0 (Builtin.Str.occurrences x y 0 x.length (x.length+1))) λp r h=>?_
   rw[h]at e;rcases e with⟨⟩
theorem AC(c:Nat)(x:List Nat):Txt.split (mk x) (mk [c])=(bH c [] x).map mk:=by
 have e1:(Txt.split (mk x) (mk [c]))=((Txt.split (mk x) (mk [c])).map (λp=>p.cps.toList)).map mk:=by rw[Vd];exact(List.map_id' _).symm
 rw[e1]
 congr 1
 refine IM c _ _ (by simpa using IN _ _) (by refine iH (rW c x []) λp ps e=>?_;rw[e];simp) ?_ (vC c x [] (by simp)) ?_
 ·intro p hp
  refine am (TY.mp hp) λq hq ae=>?_;subst ae
  exact StrLaws.split_free (mk x) c q hq
 ·rw[vB]
  have j:=StrLaws.join_split (mk x) (mk [c])
  rw[e1,rV]at j
  simpa using congrArg Array.toList (by injection j:(aG [c] ((Txt.split (mk x) (mk [c])).map λp=>p.cps.toList)).toArray=x.toArray)
theorem vD(c:Nat)(z:List Nat):∀(x acc:List Nat),aG z (bH c acc x)=acc.reverse++cS c z x
 | [],acc=>by simp[bH,aG,cS]
 |d::r,acc=>by
  unfold bH cS
  split
  ·rename_i e
   subst e
   refine iH (rW d r []) λp ps e=>?_
   have ih:=vD d z r []
   rw[e]at ih ⊢
   simp at ih
   simp[aG,ih]
  ·rw[vD c z r];simp
theorem replace_mk(c:Nat)(x z:List Nat):Txt.replace (mk x) (mk [c]) (mk z)=mk (cS c z x):=by
 have:=StrLaws.replace_one (mk x) (mk z) c
 rw[show(⟨#[c]⟩:Str)=mk [c]from rfl]at this
 rw[this,AC,rV,vD];rfl
theorem AD(sep:List Nat):∀ys:List (List Nat),(ys.map List.length).sum<=(aG sep ys).length
 | []=>SW _
 | [x]=>by simp[aG]
 |x::y::r=>by
  have:=AD sep (y::r)
  simp[aG]at this ⊢
  exact ah 0xf91200e10 rfl this
theorem rX{e:PySem.Expr}(h:plainHead e=true)(env:Env)(pos:Pos):backTo pos (starEach [e] env)=[(false,eval e env)]:=by rw[eH h];rfl
theorem IP{e f:PySem.Expr}(h:plainHead e=true)(h':plainHead f=true)(env:Env)(pos:Pos):backTo pos (starEach [e,f] env)=[(false,eval e env),(false,eval f env)]:=by rw[eH h,eH h'];rfl
section
variable{prog:Program}{w:World}{A:Around}{E:Value->Shared->Prop}{s:Shared}{Q:Value->Shared->Prop}{pos:Pos}{id:String}
theorem IQ{first:List Value}(h:wpAny (model prog w) A (call (.builtin id) first) Q E s):wpAny (model prog w) A (callWith pos (.builtin id) first [] []) Q E s:=U4 rfl (UR (by rw[SM];exact h))
theorem rY{v:Value}{t:Sem Value}(h:wpAny (model prog w) A t (λx s₁=>wpAny (model prog w) A (call (.builtin id) [v,x]) Q E s₁) E s):wpAny (model prog w) A (callWith pos (.builtin id) [v] [(false,t)] []) Q E s:=
 U4 rfl (evalArgs_plain (spliced_cons (Ti h (λ_ _ z=>spliced_nil z) λ_ _ z=>z)))
theorem IR{v:Value}{t u:Sem Value}(h:wpAny (model prog w) A t (λx s₁=>wpAny (model prog w) A u (λy s₂=>wpAny (model prog w) A (call (.builtin id) [v,x,y]) Q E s₂) E s₁) E s):wpAny (model prog w) A (callWith pos (.builtin id) [v] [(false,t),(false,u)] []) Q E s:=
 U4 rfl (evalArgs_plain (spliced_cons (Ti h (λ_ _ z=>spliced_cons (Ti z (λ_ _ z=>spliced_nil z) λ_ _ z=>z)) λ_ _ z=>z)))
end
theorem Re.add{R:RT}{h₀ hp:Heap}{L:Addr}{φ:Pl}{h:H}{ex:List (Addr×Obj)}(r:Re R h₀ L φ h ex hp){p:Addr×Addr}{o:O}
  (f1:h₀.get? p.1=none) (f2:h₀.get? p.2=none) (l1:p.1≠L) (l2:p.2≠L) (nw:∀q∈φ,Mine.apart q p) (ne:∀q∈ex,q.1≠p.1/\q.1≠p.2)
  (x:db R (φ++[p]) hp p o):Re R h₀ L (φ++[p]) (h++[o]) ex hp:=by
 refine⟨by simp[r.len],λ{i q ob} e e'=>?_,λq hq=>?_,λ{i j q q'} e e' ne=>?_,λq hq=>?_⟩
 ·by_cases hi:i<φ.length
  ·rw[SA hi]at e
   rw[SA (r.len▸hi)]at e'
   exact(r.objs e e').mono (S6 _ _)
  ·have:i=φ.length:=by have:=(Sr.mp e).1;simp at this;exact SK (af 0xf101e91a10 rfl this) (af 0xf100e10 rfl (S7 hi))
   subst this
   rw[Tt]at e
   rw[r.len,Tt]at e'
   obtain rfl:=Sv e;obtain rfl:=Sv e'
   exact x
 ·refine Ts (SL.mp hq) (λhq=>?_) (λhq=>?_)
  ·exact r.fresh q hq
  ·obtain rfl:=Sx.mp hq
   exact⟨f1,f2,l1,l2⟩
 ·by_cases hi:i<φ.length<;>by_cases hj:j<φ.length
  ·rw[SA hi]at e
   rw[SA hj]at e'
   exact r.apart e e' ne
  ·rw[SA hi]at e
   have:j=φ.length:=by have:=(Sr.mp e').1;simp at this;exact SK (af 0xf101e91a10 rfl this) (af 0xf100e10 rfl (S7 hj))
   subst this
   rw[Tt]at e'
   obtain rfl:=Sv e'
   exact nw _ (Sy e)
  ·rw[SA hj]at e'
   have:i=φ.length:=by have:=(Sr.mp e).1;simp at this;exact SK (af 0xf101e91a10 rfl this) (af 0xf100e10 rfl (S7 hi))
   subst this
   rw[Tt]at e
   obtain rfl:=Sv e
   exact(nw _ (Sy e')).symm
  ·have h1:=(Sr.mp e).1
   have h2:=(Sr.mp e').1
   simp at h1 h2
   lia
 ·have a:=r.ex q hq
  refine⟨a.1,a.2.1,a.2.2.1,λp' u5=>?_⟩
  refine Ts (SL.mp u5) (λz=>?_) (λz=>?_)
  ·exact a.2.2.2 p' z
  ·obtain rfl:=Sx.mp z
   exact ne q hq
section
variable{C:Cx}{F:Fx}{ns:List Str}{ρ:Loc}{mf ml:Str->Option Value}{φ:Pl}{h:H}{ex:List (Addr×Obj)}{σ₀ σ:Shared}
 {Γ:ay} {a b c:E} {l r r':PySem.Expr}
theorem St.IS{h':Heap}{tk:Nat}{D:Addr}{ob:Obj}{o:O}(s:St C F ns ρ mf ml φ h ex σ₀ σ)(F':Fr F.h₀ F.L h' mf)(N':News F.h₀ F.L h' ((D,ob)::(cells σ.heap φ++ex)))
  (lt:∀p∈cells σ.heap φ++ex,p.1<D) (x:h'.get? D=some ob->db C.R (φ++[(D,D)]) h' (D,D) o):St C F ns ρ mf ml (φ++[(D,D)]) (h++[o]) ex σ₀ {σ with heap:=h',toks:=tk}:=by
 have r':Re C.R F.h₀ F.L φ h ex h':=s.re.ofNews λq hq=>N' q (.tail _ hq)
 have n:=N' _ (.head _)
 have lt':∀{b:Addr},(b∈ex.map (·.1)\/∃p∈φ,b=p.1\/b=p.2)->b≠D:=λhb=>by
  refine xE (pj (hp:=σ.heap) hb) λob hob=>?_
  exact SX (lt _ hob)
 refine⟨F',r'.add n.2.2 n.2.2 n.2.1 n.2.1 (λq hq=>?_) (λq hq=>?_) (x n.1),s.lo.mono (S6 _ _),s.at_,s.rest⟩
 ·exact⟨lt' (.inr ⟨q,hq,.inl rfl⟩),lt' (.inr ⟨q,hq,.inl rfl⟩),lt' (.inr ⟨q,hq,.inr rfl⟩),lt' (.inr ⟨q,hq,.inr rfl⟩)⟩
 ·exact⟨lt' (.inl (Ua hq)),lt' (.inl (Ua hq))⟩
theorem St.mX{h':Heap}{tk:Nat}{i:Nat}{p:Addr×Addr}{d:Addr}{od':Obj}{o:O}(s:St C F ns ρ mf ml φ h ex σ₀ σ)(hi:φ[i]? =some p)(hd:d=p.1\/d=p.2)(F':Fr F.h₀ F.L h' mf)
 (N':News F.h₀ F.L h' ((d,od')::others σ.heap φ ex d)) (x:h'.get? d=some od'->(∀b,b≠d->(b=p.1\/b=p.2)->h'.get? b=σ.heap.get? b)->db C.R φ h' p o):
 St C F ns ρ mf ml φ (h.set i o) ex σ₀ {σ with heap:=h',toks:=tk}:=⟨F',s.re.mX hi hd N' x,s.lo,s.at_,s.rest⟩
theorem vF{R:RT}{φ:Pl}:∀{xs:List V} {ss:List (List Nat)},dE xs=some ss->∀{vs:List Value},aD R φ xs vs->StrsAre vs (ss.map Mine.mk)
 | [],ss,e,vs,a=>by obtain rfl:=Sv e;rcases a with⟨⟩;exact .nil
 | .str s::r,ss,e,vs,a=>by
  cases a with
  |cons hv ht=>
   simp only[dE]at e
   refine am (TA.mp e) λss' e' ae=>?_;subst ae
   refine xE hv λt ae=>?_;clear hv;subst ae
   exact .cons _ t (vF e' ht)
 | .none::_,_,e,_,_=>by(exact nn e)
 | .bool _::_,_,e,_,_=>by(exact nn e)
 | .int _::_,_,e,_,_=>by(exact nn e)
 | .ref _::_,_,e,_,_=>by(exact nn e)
 | .gt _::_,_,e,_,_=>by exact nn e
theorem AE{R:RT}{φ:Pl}:∀{l:List (Str×Tok)} {ss:List (List Nat)},l.map (·.1)=ss.map Mine.mk->aD R φ (ss.map V.str) (strValues l)
 | [],[],_=> .nil
 | [],_::_,e=>by(rcases e with⟨⟩)
 |_::_,[],e=>by(rcases e with⟨⟩)
 | (x,t)::l,s::ss,e=>by
  simp only[Th,WA]at e
  refine .cons ⟨t,?_⟩ (AE e.2)
  rw[e.1];rfl
theorem IT{z:Str}{k:Nat}{ap p0 p:Pos}(O:F.Ok C)(hl:(ap.endLine==p.line)=true)(h8:z.cps.toList.length<=8)(hp:plainHead l=true)(ha:au C F ns Γ a l):
  au C F ns Γ (.join z.cps.toList a) (.Call (.Attribute (.Constant (.str z) k p0) "join" ap) [l] [] p):=by
 intro ρ mf ml φ h ex Q q σ₀ σ Er s t
 refine UF (lK rfl _ _ _) hl (rX hp _ _) (Us ⟨"str","str.join",PySem.F.plainAttrs_str,PySem.F.slot_str_join,PySem.F.type_str_join,typeIs_str _ _ _,λa e=>(by rcases e with⟨⟩),rY ?_⟩)
 refine(ha _ _ _ _ _ _ _ q).on (σ:={σ with toks:=σ.toks+1}) s.tok (U2 t) λφ1 h1 x v σ1 p1 s1 t1 vx q1=>?_
 cases e:listAt h1 x with
 |none=>rw[e]at q1;exact q1.elim
 |some xs=>
  rw[e]at q1
  simp only[TM]at q1
  cases e2:dE xs with
  |none=>rw[e2]at q1;exact q1.elim
  |some ss=>
   rw[e2]at q1
   refine du q1 λh1 h2 q1=>?_
   refine f8 (gA s1.re e vx) λn pp vs k ae hp hx az g vr _=>?_;subst ae;subst az
   have sl:=AD z.cps.toList ss
   have h2':(aG z.cps.toList ss).length<=1000000:=h2
   have RA:ss.length<=1000000:=h1
   refine join_list (dI g) (vF e2 vr) ?_ λt' k=>bQ.mk' (.str (aG z.cps.toList ss)) p1 s1.tok ⟨t',?_⟩ q1
   ·have:(ss.map Mine.mk).map (·.length)=ss.map List.length:=by
     rw[Vd];rfl
    rw[this,Sn]
    have:ss.length*z.length<=ss.length*8:=T3 _ (by simpa[Str.length]using h8)
    lia
   ·have:Txt.join z (ss.map Mine.mk)=mk (aG z.cps.toList ss):=by
     show Builtin.Str.glued _ _=_
     rw[StrLaws.glued_eq_join,←rV]
     rfl
    rw[this];rfl
theorem vG{s:List Nat}{e:PySem.Expr}(h:lE s e=true):∃k p,e= .Constant (.str (mk s)) k p:=
 hG (M:=λe=>∃k p,e= .Constant (.str (mk s)) k p) h λc k p h=>rI (M:=λc=>∃k' p',PySem.Expr.Constant c k p= .Constant (.str (mk s)) k' p') h λz h=>⟨k,p,of_decide_eq_true h▸rfl⟩
theorem IU{ap p:Pos}{y:PySem.Expr}(O:F.Ok C)(hl:(ap.endLine==p.line)=true)(hb:hK l=true)(hy:lE [32] y=true)(ha:au C F ns Γ a l):
  au C F ns Γ (.split a) (.Call (.Attribute l "split" ap) [y] [] p):=by
 intro ρ mf ml φ h ex Q q σ₀ σ Er s t
 obtain⟨k0,p0,rfl⟩:=vG hy
 refine UF (lK hb _ _ _) hl (rX rfl _ _) ((ha _ _ _ _ _ _ _ q).on s t λφ1 h1 x v σ1 p1 s1 t1 vx q1=>?_)
 ·refine am (G3 q1) λu zz q1=>?_;subst zz
  refine xE vx λtx ae=>?_;clear vx;subst ae
  refine xA q1 λhlen q1=>?_
  have hlen:u.length<=1000000:=hlen
  refine⟨"str","str.split",PySem.F.plainAttrs_str,PySem.F.slot_str_split,PySem.F.type_str_split,typeIs_str _ _ _,λa e=>(by rcases e with⟨⟩),rY (Us ?_)⟩
  have s2:St C F ns ρ mf ml φ1 h1 ex σ₀ {σ1 with toks:=σ1.toks+1}:=s1.tok
  refine PySem.W.KSpl.split1 (s:={σ1 with toks:=σ1.toks+1}) s2.fr s2.re.news rfl (λD l h' k e _ F' N' lt=>?_) (by rw[str_len,sizeLine_eq];exact av 0xf10000007b92a00ef42405b0 rfl hlen)
  have e':l.map (·.1)=(bH 32 [] u).map Mine.mk:=e.trans (AC 32 u)
  exact⟨_,_,_,p1.trans (S6 _ _),s2.IS (o:= .list ((bH 32 [] u).map V.str)) F' N' lt λg=>⟨_,_,g,by simpa using AE e',rfl⟩,iL s1.len,q1⟩
theorem IV{ap p:Pos}{y z:PySem.Expr}{u v:List Nat}(O:F.Ok C)(hl:(ap.endLine==p.line)=true)(hb:hK l=true)(hy:lE u y=true)(hz:lE v z=true)(hu:u.length=1/\v.length<=8/\u≠v)(ha:au C F ns Γ a l):
  au C F ns Γ (.replace a u v) (.Call (.Attribute l "replace" ap) [y,z] [] p):=by
 intro ρ mf ml φ h ex Q q σ₀ σ Er s t
 obtain⟨k0,p0,rfl⟩:=vG hy
 obtain⟨k1,p1,rfl⟩:=vG hz
 refine wpAny_Call_method2_late (lK hb _ _ _) hl (IP rfl rfl _ _) ((ha _ _ _ _ _ _ _ q).on s t λφ1 h1 x w σ1 p1 s1 t1 vx q1=>?_)
 ·refine bx (G4 q1) λx' c zz zy q1=>?_;subst zz;subst zy
  refine xE vx λtx ae=>?_;clear vx;subst ae
  refine du q1 λ_ hlen q1=>?_
  have hlen:x'.length<=1000000:=hlen
  refine⟨"str","str.replace",PySem.F.plainAttrs_str,PySem.F.slot_str_replace,PySem.F.type_str_replace,typeIs_str _ _ _,λa e=>(by rcases e with⟨⟩),IR (Us (Us ?_))⟩
  refine SC.replaceW (TV t1) (Nat.succ_ne_zero _) (SX (TN _)) ?_ (by rw[str_len];exact av 0xf1000006b00ef42405b0 rfl hlen) ?_ λt' k=>?_
  ·rw[vt]
   refine decide_eq_false λe=>hu.2.2 ?_
   have:[c].toArray=v.toArray:=by injection e
   exact congrArg Array.toList this
  ·have:=hu.2.1;rw[show(mk v).length=v.length from str_len v];exact av 0xfea00e8a0 rfl hu.2.1
  ·refine bQ.mk' (.str (cS c v x')) p1 s1.tok ⟨t',?_⟩ q1
   have:=replace_mk c x' v
   rw[show(⟨x'.toArray⟩:Str)=mk x' from rfl,this];rfl
end
section
variable{C:Cx}{F:Fx}{ns:List Str}{ρ:Loc}{mf ml:Str->Option Value}{φ:Pl}{h:H}{ex:List (Addr×Obj)}{σ₀ σ:Shared}
 {Γ:ay} {a b c:E} {l r r':PySem.Expr}
theorem mY{ad:Addr}{vs:Array Value}{k:Nat}(g:σ.heap.get? ad=some (listOf vs k)):σ.TypeIs (.ref ad) "list"/\∀b,Value.ref ad= .ref b->∃ob,σ.heap.get? b=some ob/\ob.dict=none:=
 ⟨(dI g).typeIs,λb e=>by rcases e with⟨⟩;exact⟨_,g,rfl⟩⟩
theorem IW{ap p:Pos}(O:F.Ok C)(hl:(ap.endLine==p.line)=true)(hb:hK l=true)(hp:plainHead r=true)(ha:au C F ns Γ a l)(hr:au C F ns Γ b r):
  au C F ns Γ (.append a b) (.Call (.Attribute l "append" ap) [r] [] p):=by
 intro ρ mf ml φ h ex Q q σ₀ σ Er s t
 refine UF (lK hb _ _ _) hl (rX hp _ _) ((ha _ _ _ _ _ _ _ q).on s t λφ1 h1 x v σ1 p1 s1 t1 vx q1=>?_)
 cases e:listAt h1 x with
 |none=>rw[e]at q1;exact q1.elim
 |some Ai=>
  rw[e]at q1
  refine f8 (gA s1.re e vx) λn pp pL k0 ae hp0 vH az g0 vI _=>?_;subst ae;subst az
  refine⟨"list","list.append",PySem.F.plainAttrs_list,PySem.F.slot_list_append,PySem.F.type_list_append,(mY g0).1,(mY g0).2,rY ((hr _ _ _ _ _ _ _ q1).on s1 t1 λφ2 h2 y u σ2 p2 s2 t2 vy q2=>?_)⟩
  cases e2:listAt h2 (.ref n)with
  |none=>rw[e2]at q2;exact q2.elim
  |some xs=>
   rw[e2]at q2
   refine xA q2 λhlen q2=>?_
   refine f8 (gA s2.re e2 (vx.mono p2)) λn' pp' vs k en aJ hx ev g vr lL=>?_
   rcases en with⟨⟩
   rw[(by injection ev:pp.1=pp'.1)]
   refine append_K (its:=vs) (n:=k) s2.fr (s2.re.rT (Sy aJ) (.inl rfl) g) (.head rS) (λh' F' N'=>?_) (by rw[(by rw[←vr.length,S5]:vs.size=xs.length)];exact jH (SZ hlen))
   refine bQ.mk' (x:= .none) (p1.trans p2) (s2.mX (o:= .list (xs++[y])) aJ (.inl rfl) F' N' λg' _=>⟨_,_,g',?_,lL⟩) rQ q2
   rw[Wl]
   exact vr.append (.one vy)
theorem IX{ap p:Pos}(O:F.Ok C)(hl:(ap.endLine==p.line)=true)(hb:hK l=true)(hp:plainHead r=true)(ha:au C F ns Γ a l)(hr:au C F ns Γ b r):
  au C F ns Γ (.extend a b) (.Call (.Attribute l "extend" ap) [r] [] p):=by
 intro ρ mf ml φ h ex Q q σ₀ σ Er s t
 refine UF (lK hb _ _ _) hl (rX hp _ _) ((ha _ _ _ _ _ _ _ q).on s t λφ1 h1 x v σ1 p1 s1 t1 vx q1=>?_)
 cases e:listAt h1 x with
 |none=>rw[e]at q1;exact q1.elim
 |some Ai=>
  rw[e]at q1
  refine f8 (gA s1.re e vx) λn pp pL k0 ae hp0 vH az g0 vI _=>?_;subst ae;subst az
  refine⟨"list","list.extend",PySem.F.plainAttrs_list,PySem.F.slot_list_extend,PySem.F.type_list_extend,(mY g0).1,(mY g0).2,rY ((hr _ _ _ _ _ _ _ q1).on s1 t1 λφ2 h2 y u σ2 p2 s2 t2 vy q2=>?_)⟩
  cases e2:listAt h2 (.ref n)with
  |none=>rw[e2]at q2;exact q2.elim
  |some xs=>
   cases e3:listAt h2 y with
   |none=>rw[e2,e3]at q2;exact q2.elim
   |some ys=>
    rw[e2,e3]at q2
    obtain⟨hlen,hne,q2⟩:=q2
    refine f8 (gA s2.re e2 (vx.mono p2)) λn' pp' vs k en aJ hx ev g vr lL=>?_
    rcases en with⟨⟩
    rw[(by injection ev:pp.1=pp'.1)]
    refine f8 (gA s2.re e3 vy) λn2 RB IY k2 ae hp2 vJ az g2 AF _=>?_;subst ae;subst az
    have g':σ2.heap.get? pp'.1=some {cls:= .type "list",data:= .seq vs.toList.toArray k}:=by simpa using g
    refine extend_in (ys:=vs.toList) (n:=k) (own:=[]) s2.fr (s2.re.rT (Sy aJ) (.inl rfl) g') (λp hp=>nomatch hp) rS g2 (λh' n' F' N'=>?_) (by rw[S5,(by rw[←vr.length,S5]:vs.size=xs.length),(by rw[←AF.length,S5]:IY.size=ys.length),sizeLine_eq];exact av 0xf10000007b00ef42405b0 rfl (hlen:xs.length+ys.length<=1000000))
    refine bQ.mk' (x:= .none) (p1.trans p2) (s2.mX (o:= .list (xs++ys)) aJ (.inl rfl) F' N' λg' _=>⟨_,_,g',?_,lL⟩) rQ q2
    simpa using vr.append AF
theorem IZ{l:List Value}{y:Value}(e:l.getLast? =some y):kl_last l=some (l.dropLast,y):=by
 cases e1:kl_last l with
 |none=>rw[kl_last_none e1]at e;(exact nn e)
 |some p=>
  obtain⟨q,z⟩:=p
  have:=kl_last_spec e1
  subst this
  simp at e ⊢
  exact e
theorem aD.dropLast{R:RT}{φ:Pl}{xs:List V}{vs:List Value}(h:aD R φ xs vs):aD R φ xs.dropLast vs.dropLast:=by
 rw[Ui,Ui,h.length];exact h.take _
theorem aD.getLast{R:RT}{φ:Pl}{xs:List V}{vs:List Value}(h:aD R φ xs vs){x:V}(e:xs.getLast? =some x):∃v,vs.getLast? =some v/\VR R φ x v:=by
 rw[Vy]at e ⊢
 rw[h.length];exact h.get e
theorem I0{ap p:Pos}(O:F.Ok C)(hl:(ap.endLine==p.line)=true)(hb:hK l=true)(ha:au C F ns Γ a l):
  au C F ns Γ (.pop a) (.Call (.Attribute l "pop" ap) [] [] p):=by
 intro ρ mf ml φ h ex Q q σ₀ σ Er s t
 refine wpAny_Call_method0_late (lK hb _ _ _) hl ((ha _ _ _ _ _ _ _ q).on s t λφ1 h1 x v σ1 p1 s1 t1 vx q1=>?_)
 cases e:listAt h1 x with
 |none=>rw[e]at q1;rcases x with⟨⟩<;>exact q1.elim
 |some xs=>
  rw[e]at q1
  refine f8 (gA s1.re e vx) λn pp vs k ae aJ hx az g vr lL=>?_;subst ae;subst az
  simp only at q1
  cases e3:xs.getLast? with
  |none=>rw[e3]at q1;exact q1.elim
  |some y=>
   rw[e3]at q1
   refine xA q1 λhlen q1=>?_
   refine am (vr.getLast e3) λw ew vw=>?_
   refine⟨"list","list.pop",PySem.F.plainAttrs_list,PySem.F.slot_list_pop,PySem.F.type_list_pop,(mY g).1,(mY g).2,IQ ?_⟩
   refine kl_pop (its:=vs) (n:=k) s1.fr (s1.re.rT (Sy aJ) (.inl rfl) g) (IZ ew) (.head rS) (by rw[vr.length];exact jH hlen) λh' F' N'=>?_
   exact bQ.mk' y p1 (s1.mX (o:= .list xs.dropLast) aJ (.inl rfl) F' N' λg' _=>⟨_,_,g',by simpa using vr.dropLast,lL⟩) vw q1
theorem I3{T:Top}{x y:V}{t:Bool}(e:mR T x y=some t):(∃c z,x= .str [c]/\y= .str z/\t=decide (c∈z))\/∃x' k,x= .str x'/\y= .gt k/\t=(T.gt k).contains x':=by
 refine aU (o:=mR T x y) (P:=λt=>(∃c z,x= .str [c]/\y= .str z/\t=decide (c∈z))\/∃x' k,x= .str x'/\y= .gt k/\t=(T.gt k).contains x') ?_ e
 clear e
 rcases x with⟨⟩<;>try exact True.intro
 rename_i l
 rcases y with⟨⟩
 case str=>rcases l with _| ⟨c,_|_⟩<;>first|exact True.intro|exact .inl ⟨_,_,rfl,rfl,rfl⟩
 case gt=>rcases l with _| ⟨c,_|_⟩<;>exact .inr ⟨_,_,rfl,rfl,rfl⟩
 all_goals rcases l with _| ⟨c,_|_⟩<;>exact True.intro
theorem AG:∀l:List (List Nat),dE (l.map V.str)=some l
 | []=>rfl
 |a::l=>congrArg (Option.map (a:: ·)) (AG l)
theorem any_mk(x:List Nat):∀l:List (List Nat),(l.map mk).any (· ==mk x)=l.contains x
 | []=>rfl
 |a::l=>by rw[Th,WL,List.contains_cons,any_mk x l,show(mk a==mk x)=(x==a)from by rw[show mk a=⟨a.toArray⟩from rfl,show mk x=⟨x.toArray⟩from rfl,str_beq,lH];exact decide_eq_decide.mpr eq_comm]
theorem I4{neg:Bool}{o:CmpOp}{p:Pos}(O:F.Ok C)(ho:o=if neg then .NotIn else .In)(hp:plainHead r=true)(ha:au C F ns Γ a l)(hr:au C F ns Γ b r):au C F ns Γ (.dD neg a b) (.Compare l [o] [r] p):=by
 subst ho
 intro ρ mf ml φ h ex Q q σ₀ σ Er s t
 refine Vi ((ha _ _ _ _ _ _ _ q).on s t λφ1 h1 x v σ1 p1 s1 t1 vx q1=>(hr _ _ _ _ _ _ _ q1).on s1 t1 λφ2 h2 y u σ2 p2 s2 t2 vy q2=>?_) (vn hp)
 refine am (pg q2) λtt e q2=>?_
 have fin:∀tk,bQ C F ns ρ mf ml φ ex σ₀ Q (.bool (if neg then !tt else tt)) {σ2 with toks:=tk}:=λtk=>bQ.mk' (.bool (if neg then !tt else tt)) (p1.trans p2) s2.tok vBool q2
 clear q q1 q2
 rcases I3 e with w|w
 ·refine bx w λc z ae az bB=>?_;subst ae az bB
  refine xE vx λtx ae=>?_;clear vx;subst ae
  refine xE vy λty ae=>?_;clear vy;subst ae
  have e1:(!(Builtin.Str.occurrences (mk z) (mk [c]) 0 (mk z).length 1).isEmpty)=decide (c∈z):=by
   rw[show(mk [c])=(⟨#[c]⟩:Str)from rfl,(StrLaws.found_one (mk z) c)]
   exact decide_eq_decide.mpr (by simp[mk])
  rcases neg with⟨⟩
  ·exact PySem.P.in_str (x:=mk z) (y:=mk [c]) (e1▸fin _)
  ·exact PySem.P.notIn_str (x:=mk z) (y:=mk [c]) (e1▸fin _)
 ·refine bx w λx' k ae az bB=>?_;subst ae az bB
  refine xE vx λtx ae=>?_;clear vx;subst ae
  obtain rfl:=vy
  refine bK (O.bs.gt k) λvs n g vr=>?_
  have g:=s2.fr.keep _ _ g
  have sa:=vF (AG (C.T.gt k)) vr
  rcases neg with⟨⟩
  ·exact in_tuple_strs (mV g) sa (any_mk x' (C.T.gt k)▸fin _)
  ·exact notin_tuple_strs (mV g) sa (any_mk x' (C.T.gt k)▸fin _)
theorem lookup_tab(c:Nat):∀l:List (Nat×Int),Spec.lookup (.str ⟨#[c]⟩) (rP l)=(l.lookup c).map PyData.int
 | []=>rfl
 | (d,k)::r=>by
  have ih:=lookup_tab c r
  unfold rP at ih ⊢
  rw[Th,Spec.lookup,TO,ih]
  have:same (PyData.str ⟨#[d]⟩) (.str ⟨#[c]⟩)=(c==d):=by
   rw[PyProof.V.same_str,lH]
   refine decide_eq_decide.mpr ⟨λq=>?_,λq=>by rw[q]⟩
   exact(TZ (congrArg Array.toList (by injection q: #[d]= #[c]):[d]=[c])).1.symm
  rw[this]
  rcases(c==d)with⟨⟩<;>rfl
theorem I5{o:Option Int}{F:Int->Prop}(q:match (generalizing:=false) o with|some v=>F v|none=>False):∃v,o=some v/\F v:=by rcases o with _|v;exact q.elim;exact⟨v,rfl,q⟩
theorem int_is{h:Heap}{k:Int}{w:Value}(f:Reads h w (.int k) []):∃tw,w= .int k tw:=
 Reads.casesOn (motive_1:=λv d _ _=>d= .int k->∃tw,v= .int k tw) f (λe=>nomatch e) (λ_ e=>nomatch e) (λ_ t e=>⟨t,PyData.int.inj e▸rfl⟩) (λ_ _ e=>nomatch e) (λ_ _ _ _ e=>nomatch e) (λ_ _ _ _ e=>nomatch e) (λ_ _ _ _ _ e=>nomatch e) rfl
theorem I6{p p':Pos}(O:F.Ok C)(ok:bz F.env.scope "SINGLES"=true)(ha:au C F ns Γ a l):au C F ns Γ (.inD a) (.Compare l [.In] [.Name "SINGLES" p'] p):=by
 intro ρ mf ml φ h ex Q q σ₀ σ Er s t
 simp only[bz,S8,beq_iff_eq,To]at ok
 refine Vi ((ha _ _ _ _ _ _ _ q).on s t λφ1 h1 x v σ1 p1 s1 t1 vx q1=>?_) rfl
 refine Name_function_global O.kind ok.1 (loadGlobal_global (by rw[O.globals];exact O.bs.g.keeps s1.fr.keep) O.bs.pI ?_) ok.2
 refine am (u0 q1) λc ae q1=>?_;subst ae
 refine xE vx λtx ae=>?_;clear vx;subst ae
 refine in_strTab (O.bs.single.keep s1.fr.keep) ?_
 rw[show(⟨[c].toArray⟩:Str)=⟨#[c]⟩from rfl,(lookup_tab c C.T.single),Option.isSome_map]
 exact bQ.mk' _ p1 s1.tok vBool q1
theorem I7{p p':Pos}(O:F.Ok C)(ok:bz F.env.scope "SINGLES"=true)(hp:plainHead l=true)(ha:au C F ns Γ a l):au C F ns Γ (.getD a) (.Subscript (.Name "SINGLES" p') l p):=by
 intro ρ mf ml φ h ex Q q σ₀ σ Er s t
 simp only[bz,S8,beq_iff_eq,To]at ok
 refine Subscript_ (Name_function_global O.kind ok.1 (loadGlobal_global (by rw[O.globals];exact O.bs.g.keeps s.fr.keep) O.bs.pI ?_) ok.2)
 refine(ha _ _ _ _ _ _ _ q).on s t λφ1 h1 x v σ1 p1 s1 t1 vx q1=>?_
 refine am (u0 q1) λc ae q1=>?_;subst ae
 refine xE vx λtx ae=>?_;clear vx;subst ae
 refine am (I5 q1) λk e q1=>?_
 refine item_strTab (dv:= .int k) (O.bs.single.keep s1.fr.keep) ?_ (λw fw=>?_) (rR hp _ _) (λ_=>rfl)
 ·rw[show(⟨[c].toArray⟩:Str)=⟨#[c]⟩from rfl,lookup_tab,e];rfl
 ·refine xE (int_is (fw σ.heap)) λtw ae=>?_;subst ae
  exact bQ.mk' (.int k) p1 s1.tok vInt q1
theorem I8{neg:Bool}{o:CmpOp}{k:Nat}{p p':Pos}(O:F.Ok C)(ho:o=if neg then .IsNot else .Is)(ha:au C F ns Γ a l):au C F ns Γ (.isNone neg a) (.Compare l [o] [.Constant .none k p'] p):=by
 subst ho
 intro ρ mf ml φ h ex Q q σ₀ σ Er s t
 refine Vi ((ha _ _ _ _ _ _ _ q).on s t λφ1 h1 x v σ1 p1 s1 t1 vx q1=>V9 ?_) rfl
 have e:(v==Value.none)=decide (x=V.none):=by
  rw[lH]
  cases x with
  |none=>obtain rfl:=vx;rfl
  |bool b=>obtain rfl:=vx;simp
  |int i=>refine xE vx λu ae=>?_;clear vx;subst ae;simp
  |str i=>refine xE vx λu ae=>?_;clear vx;subst ae;simp
  |ref n=>refine am vx λu _ ae=>?_;clear vx;subst ae;simp
  |gt n=>obtain rfl:=vx;simp
 rcases neg with⟨⟩
 ·refine is_none ?_
  rw[e];exact bQ.mk' _ p1 s1 vBool q1
 ·refine isNot_none ?_
  rw[e];exact bQ.mk' _ p1 s1 vBool q1
end
section
variable{C:Cx}{F:Fx}{ns:List Str}{ρ:Loc}{mf ml:Str->Option Value}{φ:Pl}{h:H}{ex:List (Addr×Obj)}{σ₀ σ:Shared}
 {Γ:ay} {a b c:E} {l r r':PySem.Expr}
theorem I9{n n':Nat}{p p' p'':Pos}:au C F ns Γ (.pow 10 9) (.BinOp (.Constant (.int 10) n p) .Pow (.Constant (.int 9) n' p') p''):=by
 intro ρ mf ml φ h ex Q q σ₀ σ Er s t
 refine wpAny_BinOp (T6 (T6 (PyProof.Rows.pow_int (by decide) (by decide) ?_)))
 exact⟨φ,h,.int ((10 ^ 9:Nat):Int),Tj _,s.tok,⟨_,by congr 1⟩,q⟩
theorem Fx.Ok.cmp(O:F.Ok C):F.A.units+64<cLine:=by
 show _<9900
 exact ah 0x1f29402b01e29802b910 rfl O.room.2
theorem Ja{op:eA}{o:CmpOp}{p:Pos}(O:F.Ok C)(ok:jF op o=true)(hp:plainHead r=true)(ha:au C F ns Γ a l)(hb:au C F ns Γ b r):au C F ns Γ (.cmp op a b) (.Compare l [o] [r] p):=by
 intro ρ mf ml φ h ex Q q σ₀ σ Er s t
 refine Vi ((ha _ _ _ _ _ _ _ q).on s t λφ1 h1 x v σ1 p1 s1 t1 vx q1=>(hb _ _ _ _ _ _ _ q1).on s1 t1 λφ2 h2 y u σ2 p2 s2 t2 vy q2=>?_) (vn hp)
 ·refine am (pg q2) λz e q2=>?_
  exact lI ok O.cmp s2.re e (vx.mono p2) vy ⟨φ2,h2,_,p1.trans p2,s2,vBool,q2⟩
theorem AH{o o':CmpOp}(hp:plainHead r'=true):lastMarks [o,o'] [r,r']=false:=vn hp
theorem AI{o:Option Bool}{A B:Prop}(q:match (generalizing:=false) o with|some true=>A|some false=>B|none=>False):(o=some true/\A)\/(o=some false/\B):=by
 rcases o with _|_|_
 ·exact q.elim
 ·exact .inr ⟨rfl,q⟩
 ·exact .inl ⟨rfl,q⟩
theorem Jb{op oq:eA}{o o':CmpOp}{p:Pos}(O:F.Ok C)(ok:jF op o=true)(ok':jF oq o'=true)(hp:plainHead r'=true)(ha:au C F ns Γ a l)(hb:au C F ns Γ b r)(hc:au C F ns Γ c r'):
  au C F ns Γ (.fI op oq a b c) (.Compare l [o,o'] [r,r'] p):=by
 intro ρ mf ml φ h ex Q q σ₀ σ Er s t
 refine Compare_chain ((ha _ _ _ _ _ _ _ q).on s t λφ1 h1 x v σ1 p1 s1 t1 vx q1=>chain_link ((hb _ _ _ _ _ _ _ q1).on s1 t1 λφ2 h2 y u σ2 p2 s2 t2 vy q2=>?_)) (AH hp)
 refine(AI q2).elim (λz=>xA z λe q2=>?_) λz=>xA z λe q2=>?_
 ·refine lI ok O.cmp s2.re e (vx.mono p2) vy (Um ?_)
  refine chain_last ((hc _ _ _ _ _ _ _ q2).on s2 t2 λφ3 h3 z w σ3 p3 s3 t3 vz q3=>?_)
  ·refine am (pg q3) λ_ e' q3=>?_
   exact lI ok' O.cmp s3.re e' (vy.mono p3) vz ⟨φ3,h3,_,(p1.trans p2).trans p3,s3,vBool,q3⟩
 ·exact lI ok O.cmp s2.re e (vx.mono p2) vy (Um ⟨φ2,h2,_,p1.trans p2,s2,vBool,q2⟩)
theorem Jc{e:E}(ha:au C F ns Γ e l)(he:isTrue l F.env (eval l F.env)=(do let v ←eval l F.env;standAt l.pos;holding [v] (PySem.truthy v))):cO C F ns Γ e l:=by
 intro ρ mf ml φ h ex Q q σ₀ σ Er s t
 refine isTrue_plain ((ha _ _ _ _ _ _ _ q).on s t λφ1 h1 x v σ1 p1 s1 t1 vx q1=>?_) he
 refine am q1 λt e q1=>?_
 exact lG e vx ⟨φ1,h1,p1,s1,q1⟩
theorem Jd{e:E}{o:CmpOp}{p:Pos}(ha:au C F ns Γ e (.Compare l [o] [r] p)):cO C F ns Γ e (.Compare l [o] [r] p):=by
 intro ρ mf ml φ h ex Q q σ₀ σ Er s t
 have e1:isTrue (.Compare l [o] [r] p) F.env (eval (.Compare l [o] [r] p) F.env)=(do let v ←eval (.Compare l [o] [r] p) F.env;holding [v] (PySem.truthy v)):=by
  rw[isTrue_Compare1,eval_Compare1]
  simp only[bind_assoc]
 rw[e1]
 refine Sz ((ha _ _ _ _ _ _ _ q).on s t λφ1 h1 x v σ1 p1 s1 t1 vx q1=>UG ?_)
 refine am q1 λt e q1=>?_
 exact lG e vx ⟨φ1,h1,p1,s1,q1⟩
theorem Je{op oq:eA}{o o':CmpOp}{p:Pos}(O:F.Ok C)(ok:jF op o=true)(ok':jF oq o'=true)(hp:plainHead r'=true)(ha:au C F ns Γ a l)(hb:au C F ns Γ b r)(hc:au C F ns Γ c r'):
  cO C F ns Γ (.fI op oq a b c) (.Compare l [o,o'] [r,r'] p):=by
 intro ρ mf ml φ h ex Q q σ₀ σ Er s t
 refine isTrue_chain ((ha _ _ _ _ _ _ _ q).on s t λφ1 h1 x v σ1 p1 s1 t1 vx q1=>test_link ((hb _ _ _ _ _ _ _ q1).on s1 t1 λφ2 h2 y u σ2 p2 s2 t2 vy q2=>?_)) (AH hp)
 refine(AI q2).elim (λz=>xA z λe q2=>?_) λz=>xA z λe q2=>?_
 ·refine lI ok O.cmp s2.re e (vx.mono p2) vy (Um ?_)
  refine test_last ((hc _ _ _ _ _ _ _ q2).on s2 t2 λφ3 h3 z w σ3 p3 s3 t3 vz q3=>?_)
  ·refine am (pg q3) λ_ e' q3=>?_
   refine am q3 λ_ ht q3=>?_
   obtain rfl:=Sv ht
   exact lI ok' O.cmp s3.re e' (vy.mono p3) vz (Um ⟨φ3,h3,(p1.trans p2).trans p3,s3,q3⟩)
 ·rename_i e
  refine am q2 λ_ ht q2=>?_
  obtain rfl:=Sv ht
  exact lI ok O.cmp s2.re e (vx.mono p2) vy (Um ⟨φ2,h2,p1.trans p2,s2,q2⟩)
theorem Jf{p:Pos}(ha:cO C F ns Γ a l):cO C F ns Γ (.not a) (.UnaryOp .Not l p):=by
 intro ρ mf ml φ h ex Q q σ₀ σ Er s t
 have q':aj C.T Γ F.n a ρ h (λx h=>∃t,truthy x=some t/\Q (!t) h):=by
  refine cast (congrArg (aj C.T Γ F.n a ρ h) ?_) q
  funext x h
  cases e:truthy x with
  |none=>simp
  |some t=>rcases t with⟨⟩<;>simp[truthy]
 exact isTrue_not (ha _ _ _ _ _ _ _ q' σ₀ σ Er s t)
theorem cO.on{e:E}{Q:Bool->H->Prop}(ha:cO C F ns Γ e l)(q:aj C.T Γ F.n e ρ h (λx h=>∃t,truthy x=some t/\Q t h))(s:St C F ns ρ mf ml φ h ex σ₀ σ)(t:1<=σ.toks)
  {Q':Bool->Shared->Prop} {Er:Value->Shared->Prop} (k:∀φ' h' x σ',φ<+:φ'->St C F ns ρ mf ml φ' h' ex σ₀ σ'->1<=σ'.toks->Q x h'->Q' x σ'):
  wpAny (model C.prog C.w) F.A (isTrue l F.env (eval l F.env)) Q' Er σ:=
 Ti (Uo t (ha _ _ _ _ _ _ _ q σ₀ σ Er s t)) (λv σ' z=>bx z.2 λφ' h' a b c=>k φ' h' v σ' a b z.1 c) λ_ _ z=>z.2
theorem Jg{p:Pos}(ha:cO C F ns Γ a l)(hb:cO C F ns Γ b r){whole:Sem Value}:cO C F ns Γ (.and a b) (.BoolOp .And [l,r] p):=by
 intro ρ mf ml φ h ex Q q σ₀ σ Er s t
 rw[GZ]at q
 have q':aj C.T Γ F.n a ρ h (λx h=>∃t,truthy x=some t/\(if t then aj C.T Γ F.n b ρ h (λx h=>∃t,truthy x=some t/\Q t h)else Q false h)):=by
  refine cast (congrArg (aj C.T Γ F.n a ρ h) ?_) q
  funext x h
  cases e:truthy x with
  |none=>simp
  |some t=>rcases t with⟨⟩<;>simp
 refine isTrue_and (ha.on q' s t λφ1 h1 x σ1 p1 s1 t1 q1=>?_)
 rcases x with⟨⟩
 ·exact⟨φ1,h1,p1,s1,q1⟩
 ·refine isTrue_and (hb.on q1 s1 t1 λφ2 h2 y σ2 p2 s2 t2 q2=>?_)
  rcases y with⟨⟩
  ·exact⟨φ2,h2,p1.trans p2,s2,q2⟩
  ·exact isTrue_and_nil ⟨φ2,h2,p1.trans p2,s2,q2⟩
theorem AJ{p:Pos}{rs:List PySem.Expr}(ha:cO C F ns Γ a l)(hb:cO C F ns Γ b (.BoolOp .Or rs p)):cO C F ns Γ (.or a b) (.BoolOp .Or (l::rs) p):=by
 intro ρ mf ml φ h ex Q q σ₀ σ Er s t
 rw[G0]at q
 have q':aj C.T Γ F.n a ρ h (λx h=>∃t,truthy x=some t/\(if t then Q true h else aj C.T Γ F.n b ρ h (λx h=>∃t,truthy x=some t/\Q t h))):=by
  refine cast (congrArg (aj C.T Γ F.n a ρ h) ?_) q
  funext x h
  cases e:truthy x with
  |none=>simp
  |some t=>rcases t with⟨⟩<;>simp
 refine isTrue_or (ha.on q' s t λφ1 h1 x σ1 p1 s1 t1 q1=>?_)
 rcases x with⟨⟩
 ·refine hb.on (l:= .BoolOp .Or rs p) q1 s1 t1 λφ2 h2 y σ2 p2 s2 t2 q2=>?_
  exact⟨φ2,h2,p1.trans p2,s2,q2⟩
 ·exact⟨φ1,h1,p1,s1,q1⟩
theorem Jh{p:Pos}(ha:cO C F ns Γ a l):cO C F ns Γ a (.BoolOp .Or [l] p):=by
 intro ρ mf ml φ h ex Q q σ₀ σ Er s t
 refine isTrue_or (ha.on q s t λφ1 h1 x σ1 p1 s1 t1 q1=>?_)
 rcases x with⟨⟩
 ·exact isTrue_or_nil ⟨φ1,h1,p1,s1,q1⟩
 ·exact⟨φ1,h1,p1,s1,q1⟩
theorem Ji{p:Pos}(hc:cO C F ns Γ c l)(ha:cO C F ns Γ a r)(hb:cO C F ns Γ b r'):cO C F ns Γ (.ite c a b) (.IfExp l r r' p):=by
 intro ρ mf ml φ h ex Q q σ₀ σ Er s t
 have q':aj C.T Γ F.n c ρ h (λx h=>∃t,truthy x=some t/\(if t then aj C.T Γ F.n a ρ h (λx h=>∃t,truthy x=some t/\Q t h)else aj C.T Γ F.n b ρ h (λx h=>∃t,truthy x=some t/\Q t h))):=by
  refine cast (congrArg (aj C.T Γ F.n c ρ h) ?_) q
  funext x h
  cases e:truthy x with
  |none=>simp
  |some t=>rcases t with⟨⟩<;>simp
 refine isTrue_IfExp (hc.on q' s t λφ1 h1 x σ1 p1 s1 t1 q1=>?_)
 rcases x with⟨⟩
 ·exact hb.on q1 s1 t1 λφ2 h2 y σ2 p2 s2 t2 q2=>⟨φ2,h2,p1.trans p2,s2,q2⟩
 ·exact ha.on q1 s1 t1 λφ2 h2 y σ2 p2 s2 t2 q2=>⟨φ2,h2,p1.trans p2,s2,q2⟩
end
noncomputable def jI(m:Str->Option Value):List Str->List Value->(Str->Option Value)
 | [],_=>m
 |_::_,[]=>m
 |x::xs,v::vs=>jI (λy=>if y=x then some v else m y) xs vs
termination_by structural xs _=>xs
section
variable{prog:Program}{w:World}{A:Around}{Er:Value->Shared->Prop}{σ:Shared}{env:Env}{R:RT}{φ:Pl}
theorem AK{t:PySem.Expr}{r:List PySem.Expr}{xs:List Str}(e:fK (t::r)=some xs):∃x p ys,t= .Name x p/\fK r=some ys/\xs=x::ys:=by
 refine aU (o:=fK (t::r)) (P:=λxs=>∃x p ys,t= .Name x p/\fK r=some ys/\xs=x::ys) ?_ e
 rcases t with⟨⟩<;>try exact True.intro
 show cR ((fK r).map (_:: ·)) _
 cases fK r with
 |none=>exact True.intro
 |some ys=>exact⟨_,_,ys,rfl,rfl,rfl⟩
theorem AL{t:PySem.Expr}{xs:List Str}(e:dH t=some xs):(∃y p,t= .Name y p/\xs=[y])\/∃es c p y z r,t= .Tuple es c p/\fK es=some (y::z::r)/\xs=y::z::r:=by
 refine aU (o:=dH t) (P:=λxs=>(∃y p,t= .Name y p/\xs=[y])\/∃es c p y z r,t= .Tuple es c p/\fK es=some (y::z::r)/\xs=y::z::r) ?_ e
 clear e
 rcases t with⟨⟩<;>try exact True.intro
 ·exact .inl ⟨_,_,rfl,rfl⟩
 ·rename_i es c p
  show cR (match fK es with|some (x::y::r)=>some (x::y::r)|_=>none) _
  rcases h:fK es with _| ⟨_| ⟨y,_| ⟨z,r⟩⟩⟩<;>first|exact True.intro|exact .inr ⟨es,c,p,y,z,r,rfl,h,rfl⟩
theorem Jj{es:List PySem.Expr}:∀{xs:List Str},fK es=some xs->es.length=xs.length/\(assignEach es env).length=xs.length/\(assignEach es env).findIdx? (·.1)=none:=by
 induction es with
 |nil=>intro xs e;obtain rfl:=Sv e;exact⟨rfl,rfl,rfl⟩
 |cons t r ih=>
  intro xs e
  ·obtain⟨x,p,ys,rfl,e1,rfl⟩:=AK e
   refine du (ih e1) λa b c=>?_
   refine⟨by simp[a],?_,?_⟩
   ·show(assignEach r env).length+1=_
    simp[b]
   ·show((false,_)::assignEach r env).findIdx? (·.1)=none
    rw[List.findIdx?_cons];simp[c]
theorem Jk(hp:(env.scope.kind== .class||(env.scope.kind== .module&&env.locals !=env.globals))=false){Q:Unit->Shared->Prop}:
  ∀(es:List PySem.Expr) (xs:List Str) (vs:List Value) (m:Str->Option Value) (σ:Shared),fK es=some xs->(∀x∈xs,env.kindOf x=some .local)->xs.length=vs.length->σ.heap.Ns env.locals m->
   (∀h' tk,σ.toks<=tk->h'.Ns env.locals (jI m xs vs)->(∀b o,b≠env.locals->σ.heap.get? b=some o->h'.get? b=some o)->Q () {σ with heap:=h',toks:=tk})->
   wpAny (model prog w) A (assignInOrder ((assignEach es env).map (·.2)) vs) Q Er σ:=by
 intro es
 induction es with
 |nil=>
  intro xs vs m σ e hl hn ns k
  obtain rfl:=Sv e
  exact assignInOrder_nil (k σ.heap σ.toks (SW _) ns λ_ _ _ e=>e)
 |cons t r ih=>
  intro xs vs m σ e hl hn ns k
  ·obtain⟨x,p,ys,rfl,e1,rfl⟩:=AK e
   cases vs with
   |nil=>(rcases hn with⟨⟩)
   |cons v vs=>
    refine assignInOrder_cons (Vt (TG (hl x Sq) ns (λh₂ hn₂ hs₂=>?_) hp))
    refine ih ys vs _ _ e1 (λy hy=>hl y (Su _ hy)) (by simpa using hn) hn₂ λh' tk htk hns hk=>?_
    exact k h' tk (Wm htk) hns λb o hb e=>hk b o hb (hs₂.extBut b o hb e)
theorem AM{h₀:Heap}{L:Addr}{h:H}{ex:List (Addr×Obj)}{hp:Heap}(r:Re R h₀ L φ h ex hp){v:V}{xs:List V}(e:fJ h v=some xs){x:Value}(a:VR R φ v x):
  ∃ad vs k,x= .ref ad/\hp.get? ad=some (jc vs k)/\aD R φ xs vs.toList:=by
 cases v with
 |ref n=>
  refine am a λp aJ ae=>?_;clear a;subst ae
  simp only[fJ]at e
  split at e
  ·rename_i ys hy
   obtain rfl:=Sv e
   refine bx (r.objs aJ hy) λvs k g vr q=>?_
   exact⟨p.1,vs,k,rfl,g,vr⟩
  ·(exact nn e)
 |_=>exact nn e
theorem AN{t:PySem.Expr}{xs:List Str}(ht:dH t=some xs)(hl:∀x∈xs,env.kindOf x=some .local)
  (hp:(env.scope.kind== .class||(env.scope.kind== .module&&env.locals !=env.globals))=false) (hh:A.handled=none)
  {h₀:Heap} {L:Addr} {h:H} {ex:List (Addr×Obj)} (r:Re R h₀ L φ h ex σ.heap) {v:V} {vals:List V} (hb:dY h xs.length v=some vals) {x:Value} (vr:VR R φ v x)
  {m:Str->Option Value} (ns:σ.heap.Ns env.locals m) {Q:Unit->Shared->Prop}
  (k:∀rs h' tk,σ.toks<=tk->aD R φ vals rs->rs.length=xs.length->h'.Ns env.locals (jI m xs rs)->(∀b o,b≠env.locals->σ.heap.get? b=some o->h'.get? b=some o)->Q () {σ with heap:=h',toks:=tk}):
  wpAny (model prog w) A (assign t env x) Q Er σ:=by
 rcases AL ht with⟨y,p,rfl,rfl⟩| ⟨es,c,p,y,z,rr,rfl,e,rfl⟩
 ·have hb:some [v]=some vals:=hb
  obtain rfl:=Sv hb
  refine Vt (TG (hl y Sq) ns (λh₂ hn₂ hs₂=>?_) hp)
  exact k [x] h₂ _ (VN _) (.cons vr .nil) rfl hn₂ λb o hb e=>hs₂.extBut b o hb e
 ··have hne:¬((y::z::rr).length=1):=by simp
   rw[dY,if_neg hne]at hb
   refine am (UE.mp hb) λys hy hb=>?_
   split at hb
   ·rename_i hlen
    obtain rfl:=Sv hb
    refine g5 (AM r hy vr) λad vs n ae g jJ=>?_;subst ae
    have P:=Jj (env:=env) e
    have hsz:vs.size=(y::z::rr).length:=by rw[←hlen,←jJ.length,S5]
    refine assign_Tuple_tuple hh ⟨_,g,rfl,_,rfl⟩ (by rw[P.2.1,hsz]) P.2.2 λh₁ he₁=>?_
    refine Jk hp _ _ _ m _ e hl (by rw[S5];exact hsz.symm) (ns.at' λo e=>he₁ _ o (SX ns.lt:env.locals≠σ.heap.objs.size) e) λh' tk htk hns hk=>?_
    exact k vs.toList h' tk htk jJ (by rw[S5];exact hsz) hns λb o hb e=>hk b o hb ((λc o e=>he₁ c o (SX (TC e)) e:∀c o,σ.heap.get? c=some o->h₁.get? c=some o) b o e)
   ·exact nn hb
noncomputable def gB(sc:Scope)(ns:List Str):List Nat->List Str->Bool
 | [],[]=>true
 |i::is,x::xs=>cF sc ns i x&&gB sc ns is xs
 |_,_=>false
theorem rZ{sc:Scope}{ns:List Str}{M:List Nat->List Str->Prop}(n:M [] [])(c:∀i x is xs,cF sc ns i x=true->M is xs->M (i::is) (x::xs)):∀{is:List Nat} {xs:List Str},gB sc ns is xs=true->M is xs
 | [],[],_=>n
 |_::_,_::_,h=>c _ _ _ _ (an h).1 (rZ n c (an h).2)
 | [],_::_,h=>bad h
 |_::_,[],h=>bad h
theorem AO{sc:Scope}{ns:List Str}{is:List Nat}{xs:List Str}(h:gB sc ns is xs=true):is.length=xs.length:=
 rZ (M:=λis xs=>is.length=xs.length) rfl (λ_ _ _ _ _ e=>congrArg (· +1) e) h
theorem Jl{ns:List Str}{is:List Nat}{xs:List Str}(h:gB env.scope ns is xs=true):∀x∈xs,env.kindOf x=some .local:=
 rZ (M:=λ_ xs=>∀x∈xs,env.kindOf x=some .local) (λ_=>nm) (λ_ _ _ _ a ih x hx=>(SH.mp hx).elim (λz=>z▸eq_of_beq (an (an a).1).2) (ih x)) h
theorem lM{ns:List Str}(nd:ns.Nodup){ρ:Loc}{m:Str->Option Value}(l:Lo R φ ns ρ m){i:Nat}{x:Str}(hi:ns[i]? =some x){v:V}{r:Value}(vr:VR R φ v r):
  Lo R φ ns (bE ρ i v) (λy=>if y=x then some r else m y):=by
 refine⟨by simp[bE,l.1],λj y u a b=>?_⟩
 by_cases hj:j=i
 ·subst hj
  rw[hi]at a;obtain rfl:=Sv a
  rw[bE,Uc (by rw[l.1];exact((Sr.mp hi).1))]at b
  rcases b with⟨⟩
  exact⟨r,by simp,vr⟩
 ·have hne:y≠x:=by
   rintro rfl
   exact hj ((List.getElem_inj nd).mp ((Sr.mp a).2.trans (Sr.mp hi).2.symm))
  rw[bE,S0 (VQ hj)]at b
  refine am (l.2 j y u a b) λr' a1 a2=>?_
  exact⟨r',by simp[hne,a1],a2⟩
theorem Jm{sc:Scope}{ns:List Str}(nd:ns.Nodup){is:List Nat}{xs:List Str}{vals:List V}{rs:List Value}{ρ:Loc}{m:Str->Option Value}(h:gB sc ns is xs=true)(vr:aD R φ vals rs)(hl:rs.length=xs.length)(l:Lo R φ ns ρ m):Lo R φ ns (dF ρ is vals) (jI m xs rs):=
 rZ (M:=λis xs=>∀vals rs ρ m,aD R φ vals rs->rs.length=xs.length->Lo R φ ns ρ m->Lo R φ ns (dF ρ is vals) (jI m xs rs)) (λ_ _ _ _ _ _ l=>l) (λi x is xs a ih vals rs ρ m vr hl l=>
  aD.casesOn (motive:=λvals rs _=>rs.length=xs.length+1->Lo R φ ns (dF ρ (i::is) vals) (jI m (x::xs) rs)) vr (λhl=>nomatch hl) (λv1 v2 hl=>ih _ _ _ _ v2 (Ve hl) (lM nd l (eq_of_beq (an (an a).1).1) v1)) hl) h vals rs ρ m vr hl l
theorem AP{y:Str}:∀{xs:List Str} {rs:List Value} {m:Str->Option Value},y∉xs->jI m xs rs y=m y
 | [],_,_,_=>rfl
 |_::_,[],_,_=>rfl
 |x::xs,r::rs,m,h=>(AP (xs:=xs) (rs:=rs) λz=>h (Su _ z)).trans (if_neg (c:=y=x) λz=>h (z▸Sq))
theorem Jn{xs:List Str}:∀{vals:List V} {rs:List Value} {m:Str->Option Value},xs.Nodup->aD R φ vals rs->rs.length=xs.length->Lo R φ xs (vals.map some) (jI m xs rs):=by
 induction xs with
 |nil=>exactλ{vals rs m} nd vr hl=>aD.casesOn (motive:=λvals rs _=>rs.length=0->Lo R φ [] (vals.map some) m) vr (λ_=>⟨rfl,λi x v a b=>nomatch b⟩) (λ_ _ hl=>nomatch hl) hl
 |cons x xs ih=>
  refineλ{vals rs m} nd vr hl=>aD.casesOn (motive:=λvals rs _=>rs.length=xs.length+1->Lo R φ (x::xs) (vals.map some) (jI m (x::xs) rs)) vr (λhl=>nomatch hl) (λ{x0 r0 pL RC} v1 v2 hl=>?_) hl
  have ih:=ih (m:=λy=>if y=x then some r0 else m y) (TX.mp nd).2 v2 (Ve hl)
  refine⟨congrArg (· +1) ih.1,λi y u a b=>?_⟩
  rcases i with _|i
  ·obtain rfl:=Sv a
   obtain rfl:=Sv (Sv b)
   exact⟨r0,(AP (TX.mp nd).1).trans (if_pos rfl),v1⟩
  ·exact ih.2 i y u a b
end
section
variable{C:Cx}{F:Fx}{ns:List Str}{ρ:Loc}{mf ml:Str->Option Value}{φ:Pl}{h:H}{ex:List (Addr×Obj)}{σ₀ σ:Shared}
theorem St.names{ρ':Loc}{m m':Str->Option Value}{hp:Heap}{tk:Nat}(s:St C F ns ρ m m φ h ex σ₀ σ)(at_:F.env.locals=F.L)(n:hp.Ns F.L m')(k:∀b o,b≠F.L->σ.heap.get? b=some o->hp.get? b=some o)
  (l:Lo C.R φ ns ρ' m'):St C F ns ρ' m' m' φ h ex σ₀ {σ with heap:=hp,toks:=tk}:=
 ⟨⟨n,λb o e=>k b o (SX (SV (TC e) s.fr.above)) (s.fr.keep b o e),s.fr.above⟩,s.re.keep λb o hb _ e=>k b o hb e,l,.inl ⟨at_,rfl⟩,s.rest⟩
theorem Fx.Ok.store(O:F.Ok C):(F.env.scope.kind== .class||(F.env.scope.kind== .module&&F.env.locals !=F.env.globals))=false:=by
 rw[O.kind];rfl
theorem AQ(O:F.Ok C)(at_:F.env.locals=F.L)(nd:ns.Nodup){t:PySem.Expr}{xs:List Str}{is:List Nat}(ht:dH t=some xs)(hi:gB F.env.scope ns is xs=true)
  {m:Str->Option Value} (s:St C F ns ρ m m φ h ex σ₀ σ) {v:V} {vals:List V} (hb:dY h is.length v=some vals) {x:Value} (vr:VR C.R φ v x)
  {Q:Unit->Shared->Prop} {Er:Value->Shared->Prop} (hh:F.A.handled=none) (k:∀m' σ',σ.toks<=σ'.toks->St C F ns (dF ρ is vals) m' m' φ h ex σ₀ σ'->Q () σ'):wpAny (model C.prog C.w) F.A (assign t F.env x) Q Er σ:=by
 refine AN ht (Jl hi) O.store hh s.re (by rw[←(AO hi)];exact hb) vr (by rw[at_];exact s.fr.ns) λrs h' tk htk jJ hl hns hk=>?_
 rw[at_]at hns hk
 exact k _ _ htk (s.names at_ hns hk (Jm nd hi jJ hl s.lo))
end
noncomputable def de(F:Fx)(ex:List (Addr×Obj))(a:Addr):Prop:=a≠F.env.locals/\∀q∈ex,a≠q.1
noncomputable def mZ(ob:Obj)(ad:Addr)(i:Nat):Prop:=ob.cls= .type "list_iterator"/\ob.data= .fields #[.ref ad,.int i 0]
section
variable{C:Cx}{F:Fx}{ns:List Str}{ρ:Loc}{mf ml:Str->Option Value}{φ:Pl}{h:H}{ex es es':List (Addr×Obj)}{σ₀ σ:Shared}{hp:Heap}{tk:Nat}
theorem St.AR(s:St C F ns ρ mf ml φ h (es++ex) σ₀ σ)(sc:∀q∈es,de F ex q.1):(F.env.locals=F.L/\ml=mf)\/∃ob,(F.env.locals,ob)∈ex/\∀hp:Heap,hp.get? F.env.locals=some ob->hp.Ns F.env.locals ml:=by
 rcases s.at_ with a| ⟨ob,hm,k⟩
 ·exact .inl a
 ·rcases SL.mp hm with hm|hm
  ·exact absurd rfl (sc _ hm).1
  ·exact .inr ⟨ob,hm,k⟩
theorem St.ext(s:St C F ns ρ mf ml φ h ex σ₀ σ)(k:∀b o,σ.heap.get? b=some o->hp.get? b=some o)(g:∀q∈es,hp.get? q.1=some q.2/\σ.heap.objs.size<=q.1):
  St C F ns ρ mf ml φ h (es++ex) σ₀ {σ with heap:=hp,toks:=tk}/\∀q∈es,de F ex q.1:=by
 have s':St C F ns ρ mf ml φ h ex σ₀ {σ with heap:=hp,toks:=tk}:=s.keep k
 refine⟨⟨s'.fr,⟨s'.re.len,s'.re.objs,s'.re.fresh,s'.re.apart,λq hq=>?_⟩,s'.lo,?_,s'.rest⟩,λq hq=>⟨?_,λq' hq'=>?_⟩⟩
 ·rcases SL.mp hq with hq|hq
  ·have a:=g q hq
   refine⟨a.1,s.free a.2,TV (SV s.lt a.2),λp hp=>?_⟩
   obtain⟨⟨o1,e1⟩,⟨o2,e2⟩⟩:=s.re.live hp
   exact⟨TV (SV (TC e1) a.2),TV (SV (TC e2) a.2)⟩
  ·exact s'.re.ex q hq
 ·rcases s'.at_ with a| ⟨ob,hm,k⟩
  ·exact .inl a
  ·exact .inr ⟨ob,SY _ hm,k⟩
 ·exact TV (SV s.ns.lt (g q hq).2)
 ·exact TV (SV (TC (s.re.ex q' hq').1) (g q hq).2)
theorem St.kH(s:St C F ns ρ mf ml φ h (es++ex) σ₀ σ)(sc:∀q∈es,de F ex q.1)(sub:∀q∈es',∃q'∈es,q'.1=q.1)(g:∀q∈es',hp.get? q.1=some q.2)
  (k:∀b o,(∀q∈es,b≠q.1)->σ.heap.get? b=some o->hp.get? b=some o):St C F ns ρ mf ml φ h (es'++ex) σ₀ {σ with heap:=hp,toks:=tk}:=by
 have X:∀q∈es,_:=λq hq=>s.re.ex q (SP _ hq)
 have r0:Re C.R F.h₀ F.L φ h ex hp:=by
  refine(s.re.less (ex':=ex) λq hq=>SY _ hq).move λb hb=>?_
  have f:(∃o,σ.heap.get? b=some o)/\F.h₀.get? b=none/\b≠F.L/\∀q∈es,b≠q.1:=by
   rcases hb with hb| ⟨p,hp,hb⟩
   ·refine am (TY.mp hb) λq hq ae=>?_;subst ae
    have a:=s.re.ex q (SY _ hq)
    exact⟨⟨_,a.1⟩,a.2.1,a.2.2.1,λq' hq'=>((sc q' hq').2 q hq).symm⟩
   ·have a:=s.re.fresh p hp
    refine xA (s.re.live hp) λl1 l2=>?_
    rcases hb with rfl|rfl
    ·exact⟨l1,a.1,a.2.2.1,λq hq=>((X q hq).2.2.2 p hp).1.symm⟩
    ·exact⟨l2,a.2.1,a.2.2.2,λq hq=>((X q hq).2.2.2 p hp).2.symm⟩
  obtain⟨⟨o,e⟩,f2,f3,f4⟩:=f
  exact⟨(k _ _ f4 e).trans e.symm,f2,f3⟩
 refine⟨⟨s.fr.ns.at' λo e=>k _ _ (λq hq=>(X q hq).2.2.1.symm) e,λb o e=>k _ _ (λq hq z=>by rw[z,(X q hq).2.1]at e;exact nn e) (s.fr.keep b o e),s.fr.above⟩,
  ⟨r0.len,r0.objs,r0.fresh,r0.apart,λq hq=>?_⟩,s.lo,?_,s.rest⟩
 ·rcases SL.mp hq with hq|hq
  ·refine am (sub q hq) λq' hq' e=>?_
   have a:=X q' hq'
   rw[e]at a
   exact⟨g q hq,a.2⟩
  ·exact r0.ex q hq
 ·rcases s.AR sc with a| ⟨ob,hm,k⟩
  ·exact .inl a
  ·exact .inr ⟨ob,SY _ hm,k⟩
theorem St.drop(s:St C F ns ρ mf ml φ h (es++ex) σ₀ σ)(sc:∀q∈es,de F ex q.1):St C F ns ρ mf ml φ h ex σ₀ σ:=
 ⟨s.fr,s.re.less λq hq=>SY _ hq,s.lo,s.AR sc,s.rest⟩
theorem AS{I:Addr}{dh:Obj}{i:Nat}(s:St C F ns ρ mf ml φ h (((I,dh)::es)++ex) σ₀ σ)(sc:∀q∈(I,dh)::es,de F ex q.1)(nd:∀q∈es,q.1≠I)(hh:F.A.handled=none)
  {m:Nat} {xs:List V} {p:Addr×Addr} (hx:h[m]? =some (.list xs)) (hp:φ[m]? =some p) (hI:mZ dh p.1 i) {Q:Option Value->Shared->Prop} {Er:Value->Shared->Prop}
  (hs:∀cI x v h',xs[i]? =some x->VR C.R φ x v->mZ cI p.1 (i+1)->St C F ns ρ mf ml φ h (((I,cI)::es)++ex) σ₀ {σ with heap:=h'}->Q (some v) {σ with heap:=h'})
  (hn:xs[i]? =none->∀h',St C F ns ρ mf ml φ h (es++ex) σ₀ {σ with heap:=h'}->Q none {σ with heap:=h'}):wpAny (model C.prog C.w) F.A (pyNext (.ref I)) Q Er σ:=by
 refine bx (s.re.objs hp hx) λvs k g vr q=>?_
 have hit:σ.heap.IsListIter I p.1 i:=⟨dh,(s.re.ex (I,dh) (SP _ Sq)).1,hI.1,hI.2⟩
 have hl:σ.heap.IsList p.1 vs:=⟨_,g,rfl,_,rfl⟩
 cases e:xs[i]? with
 |none=>
  have e':vs[i]? =none:=by
   have:vs.toList.length<=i:=by rw[vr.length];exact Tz.mp e
   simpa using this
  refine wpAny_pyNext_list_end hh hit hl e' λh' he=>?_
  refine hn e h' (s.kH (es':=es) (tk:=σ.toks) sc (λq hq=>⟨q,Su _ hq,rfl⟩) (λq hq=>he _ _ (nd q hq) (s.re.ex q (SP _ (Su _ hq))).1) λb o hb e=>he b o (hb _ Sq) e)
 |some x=>
  refine am (vr.get e) λv ev vx=>?_
  refine wpAny_pyNext_list_item hit hl (by simpa using ev:vs[i]? =some v) λh' ⟨cI,g',c',d'⟩ gE=>?_
  refine hs cI x v h' e vx ⟨c',by rw[d']⟩ (s.kH (es':=(I,cI)::es) (tk:=σ.toks) sc (λq hq=>?_) (λq hq=>?_) λb o hb e=>gE.extBut b o (hb _ Sq) e)
  ·rcases SH.mp hq with rfl|hq
   ·exact⟨(I,dh),Sq,rfl⟩
   ·exact⟨q,Su _ hq,rfl⟩
  ·rcases SH.mp hq with rfl|hq
   ·exact g'
   ·exact gE.extBut _ _ (nd q hq) (s.re.ex q (SP _ (Su _ hq))).1
theorem St.adopt{D:Addr}{ob:Obj}{o:O}(s:St C F ns ρ mf ml φ h ((D,ob)::ex) σ₀ σ)(sc:de F ex D)(x:σ.heap.get? D=some ob->db C.R (φ++[(D,D)]) σ.heap (D,D) o):
  St C F ns ρ mf ml (φ++[(D,D)]) (h++[o]) ex σ₀ σ:=by
 have sc':∀q∈[(D,ob)],de F ex q.1:=λq hq=>by rw[Sx.mp hq];exact sc
 have s':=St.drop (es:=[(D,ob)]) s sc'
 have a:=s.re.ex (D,ob) Sq
 refine⟨s'.fr,s'.re.add a.2.1 a.2.1 a.2.2.1 a.2.2.1 (λq hq=>?_) (λq hq=>⟨(sc.2 q hq).symm,(sc.2 q hq).symm⟩) (x a.1),s'.lo.mono (S6 _ _),s'.at_,s'.rest⟩
 have b:=a.2.2.2 q hq
 exact⟨b.1.symm,b.1.symm,b.2.symm,b.2.symm⟩
end
noncomputable def compEnv(sc:Scope)(a:Addr)(env:Env):Env:=
 {scope:=sc,locals:=a,globals:=env.globals,cells:=[],qual:=env.qual,func:=none,code:=env.code,frame:=env.frame,builtins:=env.builtins}
noncomputable def m5(o:Obj)(a:Addr)(m:Str->Option Value):Prop:=∀hp:Heap,hp.get? a=some o->hp.Ns a m
theorem ns_obj{hp:Heap}{a:Addr}{m:Str->Option Value}(n:hp.Ns a m):∃ob,hp.get? a=some ob/\m5 ob a m:=by
 refine lC n λo es ep ho hd hk hm=>?_;clear n
 exact⟨o,ho,λaJ e=>⟨o,es,ep,e,hd,hk,hm⟩⟩
section
variable{C:Cx}{F:Fx}{ns:List Str}{ρ:Loc}{mf ml:Str->Option Value}{φ:Pl}{h:H}{ex:List (Addr×Obj)}{σ₀ σ:Shared}
 {Γ:ay} {a b c:E} {l r r':PySem.Expr}
theorem AT{target:PySem.Expr}{I:Addr}{ob:Obj}{ad:Addr}{i:Nat}{v:Value}{A:Around}{Q:Unit->Shared->Prop}{E:Value->Shared->Prop}{prog:Program}{w:World}(g:σ.heap.get? I=some ob)(hI:mZ ob ad i)(hQ:Q () σ):
  wpAny (model prog w) A (letOwnedTupleGo target (.ref I) v) Q E σ:=by
 have hit:σ.heap.IsListIter I ad i:=⟨ob,g,hI.1,hI.2⟩
 rcases target with⟨⟩<;>(try exact SS hQ)
 all_goals
  rcases v with⟨⟩<;>(try exact SS hQ)
  rename_i T
  obtain⟨o,ho,hc,hd⟩:=hit
  unfold letOwnedTupleGo
  refine Sz (wpAny_load ho ?_)
  rw[hc,hd]
  show wpAny _ A (if (["enumerate","zip","dict_itemiterator","dict_reverseitemiterator","odict_iterator","itertools.zip_longest","itertools.pairwise"].contains "list_iterator"&&
    (#[.ref ad,.int i 0]:Array Value)[0]? ==some (rawInt T))=true then _ else _) Q E σ
  rw[if_neg (by
   intro h
   rw[show(["enumerate","zip","dict_itemiterator","dict_reverseitemiterator","odict_iterator","itertools.zip_longest","itertools.pairwise"].contains "list_iterator")=false from by decide,Bool.false_and]at h
   exact bad h)]
  exact SS hQ
theorem St.into{es:List (Addr×Obj)}{F':Fx}{xs:List Str}{vals:List V}{mC:Str->Option Value}{oC:Obj}(s:St C F ns ρ mf ml φ h (es++ex) σ₀ σ)(hF:F'.h₀=F.h₀/\F'.L=F.L)(hm:(F'.env.locals,oC)∈es)(hn:m5 oC F'.env.locals mC)
  (lo:Lo C.R φ xs (vals.map some) mC):St C F' xs (vals.map some) mf mC φ h (es++ex) σ₀ σ:=
 ⟨by rw[hF.1,hF.2];exact s.fr,by rw[hF.1,hF.2];exact s.re,lo,.inr ⟨oC,SP _ hm,hn⟩,s.rest⟩
theorem St.Jo{es:List (Addr×Obj)}{F':Fx}{xs:List Str}{ρ':Loc}{mC:Str->Option Value}{φ':Pl}{h':H}{σ':Shared}(s:St C F ns ρ mf ml φ h (es++ex) σ₀ σ)(hF:F'.h₀=F.h₀/\F'.L=F.L)(p:φ<+:φ')
  (s':St C F' xs ρ' mf mC φ' h' (es++ex) σ₀ σ'):St C F ns ρ mf ml φ' h' (es++ex) σ₀ σ':=by
 obtain⟨fr,re,_,_,rest⟩:=s'
 rw[hF.1,hF.2]at fr re
 exact⟨fr,re,s.lo.mono p,s.at_,rest⟩
theorem vK{pe:PySem.Expr}(h:plainHead pe=true)(env:Env)(x:Value):foldedSetIterable pe env x=pure x:=by
 rcases pe with⟨⟩<;>first|rfl|exact bad h
theorem Jp{elt:E}{dJ target iter:PySem.Expr}{sc:Scope}{xs:List Str}{p:Pos}(hh:F.A.handled=none)(hkk:sc.kind= .function)(ht:dH target=some xs)(hl:∀x∈xs,sc.names.lookup x=some .local)(nd:xs.Nodup)
  {I D C0:Addr} (ih:au C {F with env:=compEnv sc C0 F.env} xs Γ elt dJ) (AU:D≠I) (AV:C0≠I) (kI:C0≠D) (lN:∀a,a=I\/a=D\/a=C0->de F ex a)
  {m:Nat} {pp:Addr×Addr} (hpp:φ[m]? =some pp) {Qf:List V->H->Prop} {R:Result->Shared->Prop}
  (vL:∀φ' h' acc vals n oC mC σ',φ<+:φ'->St C F ns ρ mf ml φ' h' ([(D,listOf vals n),(C0,oC)]++ex) σ₀ σ'->m5 oC C0 mC->aD C.R φ' acc vals.toList->Qf acc h'->acc.length<=lim->1<=σ'.toks->R (.ok .next) σ'):
  ∀(fuel i:Nat) (acc:List V) (φ':Pl) (h':H) (dh oC:Obj) (vals:Array Value) (n:Nat) (mC:Str->Option Value) (σ':Shared),
   gj (λv h' Q'=>match dY h' xs.length v with|some vs=>aj C.T Γ F.n elt (vs.map some) h' Q'|Option.none=>False) m Qf fuel i acc h'->φ<+:φ'->acc.length<=lim->
   St C F ns ρ mf ml φ' h' ([(I,dh),(D,listOf vals n),(C0,oC)]++ex) σ₀ σ'->mZ dh pp.1 i->m5 oC C0 mC->aD C.R φ' acc vals.toList->1<=σ'.toks->
   codeAny (model C.prog C.w) F.A (.compLoop (.ListComp dJ [⟨target,iter,[],0⟩] sc p) 0 (.ref I) (.ref D) (compEnv sc C0 F.env)) R σ':=by
 intro fuel i acc φ' h' dh oC vals n mC σ' q pf hlen st hI hC hv tk
 refine kcp_loop (λk s=>∃(i:Nat) (acc:List V) (φ':Pl) (h':H) (dh oC:Obj) (vals:Array Value) (n:Nat) (mC:Str->Option Value),
   gj (λv h' Q'=>match dY h' xs.length v with|some vs=>aj C.T Γ F.n elt (vs.map some) h' Q'|Option.none=>False) m Qf k i acc h'/\φ<+:φ'/\acc.length<=lim/\
   St C F ns ρ mf ml φ' h' ([(I,dh),(D,listOf vals n),(C0,oC)]++ex) σ₀ s/\mZ dh pp.1 i/\m5 oC C0 mC/\aD C.R φ' acc vals.toList/\1<=s.toks) ?_ fuel ⟨i,acc,φ',h',dh,oC,vals,n,mC,q,pf,hlen,st,hI,hC,hv,tk⟩
 clear q pf hlen st hI hC hv tk
 intro k s zz
 refine GW zz λi acc φ' h' dh oC vals n mC q pf hlen st hI hC hv tk=>?_;clear zz
 have SC:∀(o1 o2 o3:Obj),∀q∈[(I,o1),(D,o2),(C0,o3)],de F ex q.1:=λo1 o2 o3 q hq=>by
  simp only[SH,TJ,or_false]at hq
  rcases hq with rfl|rfl|rfl
  ·exact lN _ (.inl rfl)
  ·exact lN _ (.inr (.inl rfl))
  ·exact lN _ (.inr (.inr rfl))
 cases k with
 |zero=>exact q.elim
 |succ k=>
  rw[gj]at q
  ·refine am (rE q) λys hy q=>?_
   have Jq:φ'[m]? =some pp:=by
    refine xE pf λu ae=>?_;clear pf;subst ae
    rw[SA (Sr.mp hpp).1];exact hpp
   refine AS (es:=[(D,listOf vals n),(C0,oC)]) st (SC _ _ _) (λq hq=>?_) hh hy Jq hI (λcI x v aJ ex' vx hI' st'=>?_) λen aJ st'=>?_
   ·simp only[SH,TJ,or_false]at hq
    rcases hq with rfl|rfl
    ·exact AU
    ·exact AV
   ·simp only[ex']at q
    refine am (rD q) λus hb q=>?_
    refine AT (st'.re.ex (I,cI) (SP _ Sq)).1 hI' ?_
    refine AN (env:=compEnv sc C0 F.env) ht hl (by show(sc.kind== .class||(sc.kind== .module&&_))=false;rw[hkk];rfl) hh st'.re hb vx (hC _ ((st'.re.ex (C0,oC) (SP _ (Su _ (Su _ Sq)))).1)) λrs hp3 Jr htk jJ hrl hns hk=>?_
    refine am (ns_obj hns) λlO Js AW=>?_
    have st3:St C F ns ρ mf ml φ' h' ([(I,cI),(D,listOf vals n),(C0,lO)]++ex) σ₀ {({s with heap:=aJ}:Shared)with heap:=hp3,toks:=Jr}:=by
     refine st'.kH (es:=[(I,cI),(D,listOf vals n),(C0,oC)]) (SC _ _ _) (λq hq=>?_) (λq hq=>?_) λb o hb e=>hk b o (hb (C0,oC) (Su _ (Su _ Sq))) e
     ·simp only[SH,TJ,or_false]at hq
      rcases hq with rfl|rfl|rfl
      ·exact⟨(I,cI),Sq,rfl⟩
      ·exact⟨(D,listOf vals n),Su _ Sq,rfl⟩
      ·exact⟨(C0,oC),Su _ (Su _ Sq),rfl⟩
     ·simp only[SH,TJ,or_false]at hq
      rcases hq with rfl|rfl|rfl
      ·exact hk _ _ AV.symm (st'.re.ex (I,cI) (SP _ Sq)).1
      ·exact hk _ _ kI.symm (st'.re.ex (D,listOf vals n) (SP _ (Su _ Sq))).1
      ·exact Js
    have AX:(C0,lO)∈[(I,cI),(D,listOf vals n),(C0,lO)]:=Su _ (Su _ Sq)
    refine(ih _ _ _ _ _ _ _ q).on (st3.into (F':={F with env:=compEnv sc C0 F.env}) ⟨rfl,rfl⟩ AX AW (Jn nd jJ hrl)) (SQ tk htk) λφ5 h5 y u s5 p5 se Jt vy q5=>?_
    refine xA q5 λhlt q5=>?_
    have sf:=st3.Jo (F':={F with env:=compEnv sc C0 F.env}) ⟨rfl,rfl⟩ p5 se
    refine append_at (its:=vals) (n:=n) ((sf.re.ex (D,listOf vals n) (SP _ (Su _ Sq))).1) (λRD vM Ju=>⟨k,TN _,i+1,acc++[y],φ5,h5,cI,lO,vals.push u,n+1,_,q5,pf.trans p5,?_,?_,hI',AW,?_,Jt⟩) (by rw[(by rw[←hv.length,S5]:vals.size=acc.length)];exact jH (SZ hlt))
    ·simp;exact hlt
    ·refine sf.kH (es:=[(I,cI),(D,listOf vals n),(C0,lO)]) (tk:=s5.toks) (SC _ _ _) (λq hq=>?_) (λq hq=>?_) λb o hb e=>vM.extBut b o (hb (D,listOf vals n) (Su _ Sq)) e
     ·simp only[SH,TJ,or_false]at hq
      rcases hq with rfl|rfl|rfl
      ·exact⟨(I,cI),Sq,rfl⟩
      ·exact⟨(D,listOf vals n),Su _ Sq,rfl⟩
      ·exact⟨(C0,lO),Su _ (Su _ Sq),rfl⟩
     ·simp only[SH,TJ,or_false]at hq
      rcases hq with rfl|rfl|rfl
      ·exact vM.extBut _ _ AU.symm (sf.re.ex (I,cI) (SP _ Sq)).1
      ·exact Ju
      ·exact vM.extBut _ _ kI (sf.re.ex (C0,lO) (SP _ AX)).1
    ·rw[Wl]
     exact(hv.mono p5).append (.one vy)
   ·simp only[en]at q
    exact vL φ' h' acc vals n oC mC _ pf st' hC hv q hlen tk
theorem AY{elt src:E}{dJ target iter:PySem.Expr}{sc:Scope}{xs:List Str}{p:Pos}(hh:F.A.handled=none)(ht:dH target=some xs)(ok:iJ sc xs=true)
  (ha:au C F ns Γ src iter) (ih:∀a,au C {F with env:=compEnv sc a F.env} xs Γ elt dJ) {Q:Post} (q:aj C.T Γ F.n (.comp elt xs.length src) ρ h Q) (s:St C F ns ρ mf ml φ h ex σ₀ σ) (t:1<=σ.toks)
  {RR:Value->Env->Result->Shared->Prop} {Er:Value->Shared->Prop}
  (vL:∀D C0 φ' h' acc vals n oC mC σ',φ<+:φ'->de F ex D->de F ex C0->D≠C0->St C F ns ρ mf ml φ' h' ([(D,listOf vals n),(C0,oC)]++ex) σ₀ σ'->m5 oC C0 mC->aD C.R φ' acc vals.toList->Q (.ref h'.length) (h'++[.list acc])->
   1<=σ'.toks->RR (.ref D) (compEnv sc C0 F.env) (.ok .next) σ'):
  wpAny (model C.prog C.w) F.A (eval iter F.env) (λx s₁=>wpAny (model C.prog C.w) F.A (pyIter x) (λit s₂=>wpAny (model C.prog C.w) F.A (newList []) (λacc s₃=>
   wpAny (model C.prog C.w) F.A (newFunctionEnv sc F.env.globals [] [] F.env.qual none .none (some F.env)) (λcenv s₄=>
    codeAny (model C.prog C.w) F.A (.compStart (.ListComp dJ [⟨target,iter,[],0⟩] sc p) 0 it acc {cenv with scope:=sc}) (RR acc {cenv with scope:=sc}) s₄) Er s₃) Er s₂) Er s₁) Er σ:=by
 simp only[iJ,S8,beq_iff_eq,Tl,VL,bne_iff_ne,decide_eq_true_eq]at ok
 obtain⟨⟨⟨kJ,okn⟩,AZ⟩,A0⟩:=ok
 refine(ha _ _ _ _ _ _ _ q).on s t λφ1 h1 x v σ1 p1 s1 t1 vx q1=>?_
 rcases x with⟨⟩<;>(try exact q1.elim)
 rename_i m
 refine xE q1 λfuel q1=>?_
 refine am vx λpp hpp ae=>?_;clear vx;subst ae
 have sh:∃ys,h1[m]? =some (.list ys):=by
  cases fuel with
  |zero=>exact q1.elim
  |succ k=>
   rw[gj]at q1
   ·refine am (rE q1) λys e q1=>?_
    exact⟨ys,e⟩
 refine xE sh λRE Jv=>?_;clear sh
 refine bx (s1.re.objs hpp Jv) λpL k0 g0 vI _=>?_
 refine Wn ⟨_,g0,rfl,_,rfl⟩ ?_
 refine UI ?_ (by size_fits)
 refine wpAny_newFunctionEnv (λx hx=>(okn x hx).1.2) (λx hx=>nomatch hx) (λhp2 Jw vN=>?_) kJ
 obtain⟨σh,σg,σd,σt,σo⟩:=σ1
 have eD:(σh.push {cls:=Value.type "list_iterator",data:=Data.fields #[.ref pp.1,.int 0 0]}).objs.size=σh.objs.size+1:=by simp[Heap.push]
 have eC:((σh.push {cls:=Value.type "list_iterator",data:=Data.fields #[.ref pp.1,.int 0 0]}).push (listOf #[] 0)).objs.size=σh.objs.size+2:=by simp[Heap.push]
 have gI:((σh.push {cls:=Value.type "list_iterator",data:=Data.fields #[.ref pp.1,.int 0 0]}).push (listOf #[] 0)).get? σh.objs.size=some {cls:=Value.type "list_iterator",data:=Data.fields #[.ref pp.1,.int 0 0]}:=
  SO _ (TF _ rfl)
 have gD:((σh.push {cls:=Value.type "list_iterator",data:=Data.fields #[.ref pp.1,.int 0 0]}).push (listOf #[] 0)).get? (σh.push {cls:=Value.type "list_iterator",data:=Data.fields #[.ref pp.1,.int 0 0]}).objs.size=some (listOf #[] 0):=
  TF _ rfl
 have up:∀b o,σh.get? b=some o->hp2.get? b=some o:=λb o e=>by
  refine(vN.2 b ?_).trans (SO _ (SO _ (SO _ e)))
  exact SX (SV (TC e) (by rw[eC];exact S9 _ 2))
 refine am (ns_obj Jw) λoC gC hC=>?_
 have A1:=(vN.2 σh.objs.size (by rw[eC];exact SX (VI (by decide)))).trans (SO _ gI)
 have A3:=(vN.2 _ (by rw[eC,eD];exact SX (TN _))).trans (SO _ gD)
 rw[eC]at gC hC
 rw[eD]at A3
 refine xA (s1.ext (hp:=hp2) (tk:=σt+0) (es:=[(σh.objs.size,{cls:=Value.type "list_iterator",data:=Data.fields #[.ref pp.1,.int 0 0]}),(σh.objs.size+1,listOf #[] 0),(σh.objs.size+2,oC)]) up (λq hq=>by
  simp only[SH,TJ,or_false]at hq
  rcases hq with rfl|rfl|rfl
  ·exact⟨A1,SW _⟩
  ·exact⟨A3,VN _⟩
  ·exact⟨gC,S9 _ 2⟩)) λs2 lN=>?_
 have vO:∀a,a=σh.objs.size\/a=σh.objs.size+1\/a=σh.objs.size+2->de F ex a:=λa ha=>by
  rcases ha with rfl|rfl|rfl
  ·exact lN _ Sq
  ·exact lN _ (Su _ Sq)
  ·exact lN _ (Su _ (Su _ Sq))
 show codeAny _ _ (.compStart _ 0 (.ref σh.objs.size) (.ref _) (compEnv sc _ F.env)) (RR _ (compEnv sc _ F.env)) _
 rw[eC,eD]
 have loop:=Jp (target:=target) (iter:=iter) (p:=p) (φ:=φ1) (Qf:=λvs h'=>Q (.ref h'.length) (h'++[.list vs])) (I:=σh.objs.size) (D:=σh.objs.size+1) (C0:=σh.objs.size+2) (elt:=elt) (dJ:=dJ) (ρ:=ρ) (mf:=mf) (ml:=ml) (ns:=ns) (σ₀:=σ₀) hh kJ ht AZ A0
  (ih _) (Wt _) (TV (VI (by decide))) (Wt _) vO hpp
  (R:=RR (.ref (σh.objs.size+1)) (compEnv sc (σh.objs.size+2) F.env))
  (λφ' h' acc vals n oC mC σ' pf st hC hv q hlen tk=>vL _ _ φ' h' acc vals n oC mC σ' (p1.trans pf) (vO _ (.inr (.inl rfl))) (vO _ (.inr (.inr rfl))) (SX (TN _)) st hC hv q tk)
  fuel 0 [] φ1 h1 _ oC #[] 0 _ ⟨hp2,σg,σd,σt+0,σo⟩ q1 (Tj _) (Ub _) s2 ⟨rfl,rfl⟩ hC .nil t1
 refine codeAny_compStart_list loop (wpAny_pyIter_listiter (l:=pp.1) (i:=0) ⟨_,A1,rfl,rfl⟩ ?_)
 exact loop
theorem Jx{D C0:Addr}{vals:Array Value}{n:Nat}{oC:Obj}{acc:List V}{hq:Heap}(sD:de F ex D)(sC:de F ex C0)(kI:D≠C0)(st:St C F ns ρ mf ml φ h ([(D,listOf vals n),(C0,oC)]++ex) σ₀ σ)(hv:aD C.R φ acc vals.toList)
  (gE:Heap.SameBut C0 σ.heap hq):St C F ns ρ mf ml (φ++[(D,D)]) (h++[.list acc]) ex σ₀ {σ with heap:=hq,toks:=σ.toks}:=by
 have st2:St C F ns ρ mf ml φ h ([(D,listOf vals n)]++ex) σ₀ {σ with heap:=hq,toks:=σ.toks}:=by
  refine st.kH (es:=[(D,listOf vals n),(C0,oC)]) (λq hq=>?_) (λq hq=>⟨q,?_,rfl⟩) (λq hq=>?_) λb o hb e=>gE.extBut b o (hb _ (Su _ Sq)) e
  ·simp only[SH,TJ,or_false]at hq
   rcases hq with rfl|rfl
   ·exact sD
   ·exact sC
  ·rw[Sx.mp hq];exact Sq
  ·rw[Sx.mp hq];exact gE.extBut _ _ kI ((st.re.ex (D,listOf vals n) (SP _ Sq)).1)
 exact st2.adopt (ex:=ex) (o:= .list acc) sD λg=>⟨vals,n,g,hv.mono (S6 _ _),rfl⟩
theorem A4{sc:Scope}{xs:List Str}(ok:iJ sc xs=true):(∀x∈sc.names,x.2≠ .free)/\sc.kind= .function/\(∀x∈sc.names,x.2= .local->sc.names.lookup x.1=some .local):=by
 simp only[iJ,S8,beq_iff_eq,Tl,VL,bne_iff_ne,decide_eq_true_eq]at ok
 obtain⟨⟨⟨kJ,okn⟩,AZ⟩,A0⟩:=ok
 refine⟨λx hx=>(okn x hx).1.1,kJ,λx hx hl=>?_⟩
 rcases(okn x hx).2 with z|z
 ·exact absurd hl z
 ·exact z
theorem Jy{elt src:E}{dJ target iter:PySem.Expr}{sc:Scope}{xs:List Str}{p:Pos}(O:F.Ok C)(hh:F.A.handled=none)(ht:dH target=some xs)(ok:iJ sc xs=true)
  (hi:plainHead iter=true) (ha:au C F ns Γ src iter) (ih:∀a,au C {F with env:=compEnv sc a F.env} xs Γ elt dJ):
  au C F ns Γ (.comp elt xs.length src) (.ListComp dJ [⟨target,iter,[],0⟩] sc p):=by
 intro ρ mf ml φ h ex Q q σ₀ σ Er s t
 have fj:=A4 ok
 refine wpAny_ListComp fj.1 fj.2.1 fj.2.2 ?_ λx=>vK hi _ _
 refine AY (target:=target) (iter:=iter) (Q:=Q) hh ht ok ha ih q s t
  (RR:=λacc cenv r s'=>∃m',s'.heap.Ns cenv.locals m'/\∀h',Heap.SameBut cenv.locals s'.heap h'->
   match r with| .ok _=>bQ C F ns ρ mf ml φ ex σ₀ Q acc {s' with heap:=h'}| .error x=>wpAny (model C.prog C.w) F.A (passOn "comprehension.variables-let-go" x cenv) (bQ C F ns ρ mf ml φ ex σ₀ Q) Er {s' with heap:=h'})
  λD C0 φ' h' acc vals n oC mC σ' pf sD sC kI st hC hv q tk=>?_
 refine⟨mC,hC _ ((st.re.ex (C0,oC) (SP _ (Su _ Sq))).1),λhq gE=>?_⟩
 exact⟨_,_,.ref h'.length,pf.trans (S6 _ _),Jx sD sC kI st hv gE,iL (p:=(D,D)) st.len,q⟩
end
theorem A5{sc:Scope}{n:Str}{f:Ex}(h:vf sc n f=true):∃p,f= .Name n p/\bz sc n=true:=
 fh (M:=λf=>∃p,f= .Name n p/\bz sc n=true) h λx p h=>⟨p,congrArg (PySem.Expr.Name · p) (eq_of_beq (an h).1),eq_of_beq (an h).1▸(an h).2⟩
theorem Fx.Ok.comp{F:Fx}{C:Cx}(O:F.Ok C){sc:Scope}(k:sc.kind= .function)(a:Addr):Fx.Ok {F with env:=compEnv sc a F.env} C:=
 {below:=O.below,frames:=O.frames,fL:=O.fL,gy:=O.gy,ky:=O.ky,kD:=O.kD,jG:=O.jG,kE:=O.kE,handled:=O.handled,kind:=k,globals:=O.globals,builtins:=O.builtins,bs:=O.bs,room:=O.room}
theorem b8{a b c:Bool}(h:(a&&b&&c)=true):(a=true/\b=true)/\c=true:=⟨an (an h).1,(an h).2⟩
theorem jh{a b c d:Bool}(h:(a&&b&&c&&d)=true):((a=true/\b=true)/\c=true)/\d=true:=⟨b8 (an h).1,(an h).2⟩
theorem pM{a b c d e:Bool}(h:(a&&b&&c&&d&&e)=true):(((a=true/\b=true)/\c=true)/\d=true)/\e=true:=⟨jh (an h).1,(an h).2⟩
section
variable{C:Cx}
noncomputable abbrev SE(C:Cx)(F:Fx)(ns:List Str)(e:E)(pe:PySem.Expr):Prop:=au C F ns (Sp C) e pe/\cO C F ns (Sp C) e pe
theorem pc{F:Fx}{ns:List Str}{e:E}{l r:PySem.Expr}{o:CmpOp}{p:Pos}(ha:au C F ns (Sp C) e (.Compare l [o] [r] p)):SE C F ns e (.Compare l [o] [r] p):=⟨ha,Jd ha⟩
theorem pl{F:Fx}{ns:List Str}{e:E}{l:PySem.Expr}(ha:au C F ns (Sp C) e l)(he:isTrue l F.env (eval l F.env)=(do let v ←eval l F.env;standAt l.pos;holding [v] (PySem.truthy v)):=by rfl):SE C F ns e l:=⟨ha,Jc ha he⟩
theorem c8{f:Ex->Bool}{x:Ex}(h:pk f x=true):plainHead x=true/\f x=true:=an h
theorem si{R:RT}{gn:Nat}{sc:Scope}{ns:List Str}:∀{es:Es} {xs:List Ex},ku R gn sc ns es xs=true->∀y∈xs,plainHead y=true
 | .nil,xs,h=>TP.mp h▸λ_ hy=>nm hy
 | .cons e r,xs,h=>iC (M:=λxs=>∀y∈xs,plainHead y=true) h λx xs h y hy=>(SH.mp hy).elim (λz=>z▸(c8 (an h).1).1) (si (an h).2 y)
theorem vP{α:Type} [DecidableEq α] {o a:α}{M:α->Prop}(h:decide (o=a)=true)(k:M a):M o:=(of_decide_eq_true h).symm▸k
section
variable{F:Fx}{ns:List Str}{n:Str}{e:E}{x:Ex}
theorem sk{p:Ex->Bool}(h:pH F.env.scope n x p=true)(k:∀l q q',bz F.env.scope n=true->plainHead l=true->p l=true->SE C F ns e (.Call (.Name n q') [l] [] q)):SE C F ns e x:=
 jf h λ_ _ _ q h=>i1 h λl h=>iE h λh=>am (A5 (an h).1) λq' z g=>z▸k l q q' g (c8 (an h).2).1 (c8 (an h).2).2
theorem A6{p p':Ex->Bool}(h:vg F.env.scope n x p p'=true)(k:∀l r q q',bz F.env.scope n=true->plainHead l=true->plainHead r=true->p l=true->p' r=true->SE C F ns e (.Call (.Name n q') [l,r] [] q)):SE C F ns e x:=
 jf h λ_ _ _ q h=>i2 h λl r h=>iE h λh=>am (A5 (an h).1) λq' z g=>z▸k l r q q' g (c8 (an (an h).2).1).1 (c8 (an (an h).2).2).1 (c8 (an (an h).2).1).2 (c8 (an (an h).2).2).2
theorem vQ{p:Str->List Ex->Bool}{M:Ex->Prop}{sc:Scope}(h:oG sc x p=true)(k:∀y l q q',bz sc y=true->p y l=true->M (.Call (.Name y q') l [] q)):M x:=
 jf h λ_ l _ q h=>fh h λy q' h=>iE h λh=>k y l q q' (an h).1 (an h).2
theorem iG{p:Str->List Ex->Bool}(h:oG F.env.scope x p=true)(k:∀y l q q',bz F.env.scope y=true->p y l=true->SE C F ns e (.Call (.Name y q') l [] q)):SE C F ns e x:=vQ h k
end
theorem Jz{F:Fx}{ns:List Str}{elt src:E}{k:Nat}{x t it:Ex}{sc':Scope}{p:Pos}(O:F.Ok C)(hx:∀{xs:List Str} {a:Addr},aF C.R C.gn sc' xs elt x=true->Fx.Ok {F with env:=compEnv sc' a F.env} C->au C {F with env:=compEnv sc' a F.env} xs (Sp C) elt x)
  (ha:aF C.R C.gn F.env.scope ns src it=true->au C F ns (Sp C) src it)
  (h:oS (dH t) (λxs=>decide (k=xs.length)&&(iJ sc' xs&&aF C.R C.gn sc' xs elt x&&pk (aF C.R C.gn F.env.scope ns src) it))=true):SE C F ns (.comp elt k src) (.ListComp x [⟨t,it,[],0⟩] sc' p):=by
 generalize ht:dH t=o at h
 refine iS (M:=λo=>dH t=o->_) h (λxs h ht=>?_) ht
 obtain rfl:=of_decide_eq_true (an h).1
 have h:=b8 (an h).2
 have z:=c8 h.2
 have hk:=h.1.1
 simp only[iJ,S8,beq_iff_eq]at hk
 exact pl (Jy O O.handled ht h.1.1 z.1 (ha z.2) λl=>hx h.1.2 (O.comp hk.1.1.1 l))
set_option maxHeartbeats 4000000 in
theorem sound(hi:∀c,c<3->C.R.b7 (C.T.init c)=C.R.init c)(e:E):∀(pe:Ex) (F:Fx) (ns:List Str),F.Ok C->aF C.R C.gn F.env.scope ns e pe=true->SE C F ns e pe:=
 E.rec (motive_1:=λe=>∀(pe:Ex) (F:Fx) (ns:List Str),F.Ok C->aF C.R C.gn F.env.scope ns e pe=true->SE C F ns e pe)
 (motive_2:=λes=>∀(xs:List Ex) (F:Fx) (ns:List Str),F.Ok C->ku C.R C.gn F.env.scope ns es xs=true->hM C F ns (Sp C) es xs)
 (λ_ pe F ns O h=>fh h λ_ _ h=>pl (H5 O h))
 (λ_ pe F ns O h=>hG h λ_ _ _ h=>pl (H6 h))
 (λ_ pe F ns O h=>rH h λ_ _ _ h=>dG (M:=λo=>SE C F ns _ (.UnaryOp o _ _)) h λh=>hG h λ_ _ _ h=>vP (M:=λo=>SE C F ns _ (.UnaryOp _ (.Constant o _ _) _)) h (pl H7))
 (λ_ _ pe F ns O h=>z7 h λ_ _ _ _ h=>dG (M:=λo=>SE C F ns _ (.BinOp _ o _ _)) h λh=>dG (M:=λo=>SE C F ns (.pow o _) _) h λh=>dG (M:=λo=>SE C F ns (.pow _ o) _) h λh=>hG (an h).1 λ_ _ _ h1=>hG (an h).2 λ_ _ _ h2=>vP (M:=λo=>SE C F ns _ (.BinOp (.Constant o _ _) _ _ _)) h1 (vP (M:=λo=>SE C F ns _ (.BinOp _ _ (.Constant o _ _) _)) h2 (pl I9)))
 (λ_ pe F ns O h=>fh h λ_ _ h=>pl (H8 O (eq_of_beq (b8 h).1.1) (b8 h).1.2 (of_decide_eq_true (b8 h).2)))
 (λ_ ih pe F ns O h=>u7 h λ_ _ _ h=>pl (Iq (of_decide_eq_true (an h).2) (ih _ _ _ O (an h).1)))
 (λ_ ih pe F ns O h=>HX h λ_ _ h=>pl (It (of_decide_eq_true (an h).2) (ih _ _ _ O (an h).1)))
 (λ_ _ _ a b pe F ns O h=>z7 h λ_ _ _ _ h=>pl (H9 O (b8 h).1.1 (a _ _ _ O (b8 h).1.2).1 (b _ _ _ O (b8 h).2).1))
 (λ_ a pe F ns O h=>rH h λ_ _ _ h=>dG (M:=λo=>SE C F ns _ (.UnaryOp o _ _)) h λh=>have a:=a _ _ _ O h;⟨Ia a.1,Jf a.2⟩)
 (λ_ _ _ a b pe F ns O h=>pF h λ_ _ _ _ h=>have h:=b8 h;have z:=c8 h.2;pc (Ja O h.1.1 z.1 (a _ _ _ O h.1.2).1 (b _ _ _ O z.2).1))
 (λ_ _ _ _ _ a b c pe F ns O h=>z8 h λ_ _ _ _ h=>i2 h λ_ _ h=>i2 h λ_ _ h=>have h:=pM h;have z:=c8 h.2;have a:=(a _ _ _ O h.1.1.2).1;have b:=(b _ _ _ O h.1.2).1;have c:=(c _ _ _ O z.2).1;⟨Jb O h.1.1.1.1 h.1.1.1.2 z.1 a b c,Je O h.1.1.1.1 h.1.1.1.2 z.1 a b c⟩)
 (λ_ _ a b pe F ns O h=>z9 h λ_ _ _ h=>dG (M:=λo=>SE C F ns _ (.BoolOp o _ _)) h λh=>i2 h λ_ _ h=>have a:=a _ _ _ O (an h).1;have b:=b _ _ _ O (an h).2;⟨Ib a.1 b.1,Jg (whole:=pure .none) a.2 b.2⟩)
 (λ_ _ a b pe F ns O h=>z9 h λ_ _ p h=>dG (M:=λo=>SE C F ns _ (.BoolOp o _ _)) h λh=>HZ (M:=λl=>SE C F ns _ (.BoolOp .Or l p)) h (λ_ _ h1 h2=>have a:=a _ _ _ O h1;have b:=b _ _ _ O h2;⟨Ah a.1 (Ic b.1) ⟨_,_,rfl⟩,AJ a.2 (Jh b.2)⟩) λ_ _ _ _ h1 h2=>have a:=a _ _ _ O h1;have b:=b _ _ _ O h2;⟨Ah a.1 b.1 ⟨_,_,rfl⟩,AJ a.2 b.2⟩)
 (λ_ _ _ c a b pe F ns O h=>HY h λ_ _ _ _ h=>have h:=b8 h;have c:=c _ _ _ O h.1.1;have a:=a _ _ _ O h.1.2;have b:=b _ _ _ O h.2;⟨Ie c.2 a.1 b.1,Ji c.2 a.2 b.2⟩)
 (λ_ _ a b pe F ns O h=>pB h λ_ _ _ h=>have z:=c8 (an h).2;pl (Iv O z.1 (a _ _ _ O (an h).1).1 (b _ _ _ O z.2).1))
 (λ_ _ a b pe F ns O h=>rK h λ_ _ _ _ _ _ h=>iS h λ_ h=>iN h λh=>iN h λh=>pl (Iw (a _ _ _ O (an h).1).1 (b _ _ _ O (an h).2).1))
 (λ_ _ a b pe F ns O h=>rK h λ_ _ _ _ _ _ h=>iN h λh=>iS h λ_ h=>iN h λh=>pl (Iy (a _ _ _ O (an h).1).1 (b _ _ _ O (an h).2).1))
 (λ_ _ _ a b c pe F ns O h=>rK h λ_ _ _ _ _ _ h=>iS h λ_ h=>iS h λ_ h=>iN h λh=>pl (Iz (a _ _ _ O (b8 h).1.1).1 (b _ _ _ O (b8 h).1.2).1 (c _ _ _ O (b8 h).2).1))
 (λ_ a pe F ns O h=>rK h λ_ _ _ _ _ _ h=>iN h λh=>iN h λh=>iS h λ_ h=>rH h λ_ _ _ h=>dG (M:=λo=>SE C F ns _ (.Subscript _ (.Slice _ _ (some (.UnaryOp o _ _)) _) _)) h λh=>hG h λ_ _ _ h=>dG (M:=λo=>SE C F ns _ (.Subscript _ (.Slice _ _ (some (.UnaryOp _ (.Constant o _ _) _)) _) _)) h λh=>pl (IA (a _ _ _ O h).1))
 (λ_ _ a pe F ns O h=>jd h λ_ _ _ h=>dZ (M:=λo=>SE C F ns _ (.Attribute _ o _)) h λh=>pl (ID O (b8 h).1.2 (of_decide_eq_true (b8 h).2) (a _ _ _ O (b8 h).1.1).1))
 (λ_ _ ih pe F ns O h=>iG h λ_ _ _ _ g h=>have h:=b8 h;pl (IE O (eq_of_beq h.1.1) g h.2 (si h.1.2) (ih _ _ _ O h.1.2)))
 (λ_ _ ih pe F ns O h=>iG h λ_ _ _ _ g h=>have h:=b8 h;have h3:=of_decide_eq_true h.2;pl (IF O (eq_of_beq h.1.1) g h3 (hi _ h3) (si h.1.2) (ih _ _ _ O h.1.2)))
 (λ_ a pe F ns O h=>sk h λ_ _ _ g z h=>pl (IG O g z (a _ _ _ O h).1))
 (λ_ a pe F ns O h=>sk h λ_ _ _ g z h=>pl (IH O g z (a _ _ _ O h).1))
 (λ_ a pe F ns O h=>sk h λ_ _ _ g z h=>pl (II O g z (a _ _ _ O h).1))
 (λ_ _ a b pe F ns O h=>A6 h λ_ _ _ _ g z y h h2=>pl (IJ O g z y (a _ _ _ O h).1 (b _ _ _ O h2).1))
 (λ_ _ a b pe F ns O h=>A6 h λ_ _ _ _ g z y h h2=>pl (IK O g z y (a _ _ _ O h).1 (b _ _ _ O h2).1))
 (λ_ a pe F ns O h=>sk h λ_ _ _ g z h=>pl (IL O g z (a _ _ _ O h).1))
 (λ_ _ a pe F ns O h=>jf h λ_ _ _ _ h=>jd h λ_ _ _ h=>hG h λ_ _ _ h=>rI h λ_ h=>i1 h λ_ h=>iE h λh=>dZ (M:=λo=>SE C F ns _ (.Call (.Attribute _ o _) _ _ _)) h λh=>have e:=of_decide_eq_true (an h).1;have h:=b8 (an h).2;have z:=c8 h.1.2;e▸pl (IT O h.2 (e▸of_decide_eq_true h.1.1) z.1 (a _ _ _ O z.2).1))
 (λ_ a pe F ns O h=>ve h λ_ _ _ _ z y h=>pl (IU O z y (an h).2 (a _ _ _ O (an h).1).1))
 (λ_ _ _ a pe F ns O h=>jf h λ_ _ _ _ h=>jd h λ_ _ _ h=>i2 h λ_ _ h=>iE h λh=>dZ (M:=λo=>SE C F ns _ (.Call (.Attribute _ o _) _ _ _)) h λh=>have hl:=(an h).2;have hb:=(an (an h).1).2;have h:=jh (an (an h).1).1;pl (IV O hl hb h.1.1.2 h.1.2 (of_decide_eq_true h.2) (a _ _ _ O h.1.1.1).1))
 (λ_ _ a b pe F ns O h=>ve h λ_ _ _ _ z y h=>have w:=c8 (an h).2;pl (IW O z y w.1 (a _ _ _ O (an h).1).1 (b _ _ _ O w.2).1))
 (λ_ _ a b pe F ns O h=>ve h λ_ _ _ _ z y h=>have w:=c8 (an h).2;pl (IX O z y w.1 (a _ _ _ O (an h).1).1 (b _ _ _ O w.2).1))
 (λ_ a pe F ns O h=>jf h λ_ _ _ _ h=>jd h λ_ _ _ h=>iE h λh=>iE h λh=>dZ (M:=λo=>SE C F ns _ (.Call (.Attribute _ o _) _ _ _)) h λh=>have h:=b8 h;pl (I0 O h.2 h.1.2 (a _ _ _ O h.1.1).1))
 (λ_ _ _ a b pe F ns O h=>pF h λ_ _ _ _ h=>have h:=b8 h;have z:=c8 h.2;pc (I4 O (of_decide_eq_true h.1.1) z.1 (a _ _ _ O h.1.2).1 (b _ _ _ O z.2).1))
 (λ_ a pe F ns O h=>pF h λ_ _ _ _ h=>fh h λ_ _ h=>dG (M:=λo=>SE C F ns _ (.Compare _ [o] _ _)) h λh=>dZ (M:=λo=>SE C F ns _ (.Compare _ _ [.Name o _] _)) h λh=>pc (I6 O (an h).1 (a _ _ _ O (an h).2).1))
 (λ_ a pe F ns O h=>pB h λ_ _ _ h=>fh h λ_ _ h=>dZ (M:=λx=>SE C F ns _ (.Subscript (.Name x _) _ _)) h λh=>have z:=c8 (an h).2;pl (I7 O (an h).1 z.1 (a _ _ _ O z.2).1))
 (λ_ _ a pe F ns O h=>pF h λ_ _ _ _ h=>hG h λ_ _ _ h=>dG (M:=λc=>SE C F ns _ (.Compare _ _ [.Constant c _ _] _)) h λh=>pc (I8 O (of_decide_eq_true (an h).1) (a _ _ _ O (an h).2).1))
 (λ_ _ _ x a pe F ns O h=>Ac h λ_ _ _ _ h=>i1 h λ_ h=>Ad h λt it h=>Jz O (λl O=>(x _ _ _ O l).1) (λl=>(a _ _ _ O l).1) h)
 (λxs F ns O h=>TP.mp h▸Ap)
 (λ_ _ a b xs F ns O h=>iC (M:=λxs=>hM C F ns (Sp C) _ xs) h λ_ _ h=>have z:=c8 (an h).1;Aq z.1 (a _ _ _ O z.2).1 (b _ _ _ O (an h).2)) e
theorem A7(hi:∀c,c<3->C.R.b7 (C.T.init c)=C.R.init c):∀(es:Es) (xs:List Ex) (F:Fx) (ns:List Str),F.Ok C->ku C.R C.gn F.env.scope ns es xs=true->hM C F ns (Sp C) es xs
 | .nil=>λxs F ns O h=>TP.mp h▸Ap
 | .cons e r=>λxs F ns O h=>iC (M:=λxs=>hM C F ns (Sp C) _ xs) h λ_ _ h=>have z:=c8 (an h).1;Aq z.1 (sound hi e _ _ _ O z.2).1 (A7 hi r _ _ _ O (an h).2)
end
section
variable(C:Cx)(F:Fx)(ns:List Str)(φ:Pl)(ex:List (Addr×Obj))(σ₀:Shared)
structure ExcAt(C:Cx)(φ:Pl)(oe:Obj)(d:Addr)(od:Obj)(vs:Array Value)(x:V):Prop where
 cls:oe.cls= .ref C.bad
 dict:oe.dict=some d
 data:oe.data= .fields vs
 word:∃v,lookIn "at" od=some (some v)/\VR C.R φ x v
noncomputable def Zs(C:Cx)(F:Fx)(φ:Pl)(h:H)(ex:List (Addr×Obj))(σ₀:Shared)(e:Value)(x:V)(σ:Shared):Prop:=
 ∃m a d od oe vs,e= .ref a/\Fr F.h₀ F.L σ.heap m/\Re C.R F.h₀ F.L φ h ((a,oe)::(d,od)::ex) σ.heap/\a≠d/\(∀q∈ex,q.1≠a/\q.1≠d)/\Rest σ₀ σ/\ExcAt C φ oe d od vs x/\vs[0]? ≠none/\vs[1]? =some .none
noncomputable def fM(P:PS):Flow->Shared->Prop
 | .next,σ'=>∃φ' h' ρ' m',φ<+:φ'/\St C F ns ρ' m' m' φ' h' ex σ₀ σ'/\P.N ρ' h'
 | .ret v,σ'=>∃φ' h' ρ' m' x,φ<+:φ'/\St C F ns ρ' m' m' φ' h' ex σ₀ σ'/\VR C.R φ' x v/\P.R x h'
 |_,_=>False
end
noncomputable def TS(C:Cx)(F:Fx)(ns:List Str)(ρ:Loc)(m:Str->Option Value)(φ:Pl)(h:H)(ex:List (Addr×Obj))(t:Sem Flow)(P:PS):Prop:=
 ∀(σ₀ σ:Shared) (Er:Value->Shared->Prop),St C F ns ρ m m φ h ex σ₀ σ->1<=σ.toks->PassesOwn (model C.prog C.w) F.A F.env Er->(∀φ' h' x e σ',φ<+:φ'->P.X x h'->Zs C F φ' h' ex σ₀ e x σ'->Er e σ')->
  wpAny (model C.prog C.w) F.A t (fM C F ns φ ex σ₀ P) Er σ
section
variable{C:Cx}{F:Fx}{ns:List Str}{ρ:Loc}{m mf ml:Str->Option Value}{φ:Pl}{h:H}{ex:List (Addr×Obj)}{σ₀ σ:Shared}
 {Γ:ay} {a b c:E} {l r r':PySem.Expr} {P:PS}
noncomputable abbrev bM(C:Cx)(F:Fx)(ns:List Str)(Γ:ay)(s:S)(st:Stmt):Prop:=∀(ρ:Loc) (m:Str->Option Value) (φ:Pl) (h:H) (ex:List (Addr×Obj)) (P:PS),wpS C.T Γ F.n s ρ h P->TS C F ns ρ m φ h ex (exec st F.env) P
noncomputable abbrev hU(C:Cx)(F:Fx)(ns:List Str)(Γ:ay)(ss:Ss)(sts:List Stmt):Prop:=∀(ρ:Loc) (m:Str->Option Value) (φ:Pl) (h:H) (ex:List (Addr×Obj)) (P:PS),ag C.T Γ F.n ss ρ h P->TS C F ns ρ m φ h ex (execs sts F.env) P
theorem fM.from{φ1:Pl}{f:Flow}(p:φ<+:φ1)(q:fM C F ns φ1 ex σ₀ P f σ):fM C F ns φ ex σ₀ P f σ:=by
 cases f with
 |next=>refine fH q λφ' h' ρ' m' a b c=>?_;clear q;exact⟨φ',h',ρ',m',p.trans a,b,c⟩
 |ret v=>refine uU q λφ' h' ρ' m' x a b c=>?_;clear q;exact⟨φ',h',ρ',m',x,p.trans a,b,c⟩
 |_=>exact q
theorem TS.on{t:Sem Flow}{φ1:Pl}{ρ1:Loc}{m1:Str->Option Value}{h1:H}(e:TS C F ns ρ1 m1 φ1 h1 ex t P)(p:φ<+:φ1)(s:St C F ns ρ1 m1 m1 φ1 h1 ex σ₀ σ)(tk:1<=σ.toks){Er:Value->Shared->Prop}(hP:PassesOwn (model C.prog C.w) F.A F.env Er)
  (hE:∀φ' h' x e σ',φ<+:φ'->P.X x h'->Zs C F φ' h' ex σ₀ e x σ'->Er e σ'):wpAny (model C.prog C.w) F.A t (fM C F ns φ ex σ₀ P) Er σ:=
 Ti (e σ₀ σ Er s tk hP λφ' h' x e σ' p'=>hE φ' h' x e σ' (p.trans p')) (λf σ' q=>q.from p) λ_ _ z=>z
theorem TS.vR{t:Sem Flow}{φ1:Pl}{ρ1:Loc}{m1:Str->Option Value}{h1:H}(e:TS C F ns ρ1 m1 φ1 h1 ex t P)(p:φ<+:φ1)(s:St C F ns ρ1 m1 m1 φ1 h1 ex σ₀ σ)(tk:1<=σ.toks){Er:Value->Shared->Prop}(hP:PassesOwn (model C.prog C.w) F.A F.env Er)
  (hE:∀φ' h' x e σ',φ<+:φ'->P.X x h'->Zs C F φ' h' ex σ₀ e x σ'->Er e σ'):wpAny (model C.prog C.w) F.A t (λf σ'=>1<=σ'.toks/\fM C F ns φ ex σ₀ P f σ') Er σ:=
 Ti (Uo tk (e.on p s tk hP hE)) (λf σ' q=>q) λ_ _ z=>z.2
structure Fx.Own(F:Fx)(ns:List Str):Prop where
 at_:F.env.locals=F.L
 nd:ns.Nodup
noncomputable def iM(e:Ex):Bool:= !(decide (e.ctorIdx=8)||decide (e.ctorIdx=9)||decide (e.ctorIdx=10))
theorem m7{e:PySem.Expr}(h:iM e=true){t:Option PySem.Expr}{line:Nat}{env:Env}:swapsWith e t line env=pure false:=by
 rcases e with⟨⟩<;>first|rfl|exact Bool.noConfusion (show false=true from h)
theorem JA:hU C F ns Γ .nil []:=by
 intro ρ m φ h ex P q σ₀ σ Er s t hP hE
 exact Uw ⟨φ,h,ρ,m,Tj _,s,q⟩
theorem JB{s:S}{ss:Ss}{st:Stmt}{sts:List Stmt}(ha:bM C F ns Γ s st)(hr:hU C F ns Γ ss sts):hU C F ns Γ (.cons s ss) (st::sts):=by
 intro ρ m φ h ex P q σ₀ σ Er s t hP hE
 refine T7 (Ti ((ha _ m φ h ex _ q).vR (Tj _) s t hP hE) (λf σ' hh=>?_) λ_ _ z=>z)
 refine xA hh λt1 hh=>?_
 cases f with
 |next=>
  refine fH hh λφ1 h1 ρ1 m1 p1 s1 q1=>?_;clear hh
  exact(hr _ m1 φ1 h1 ex _ q1).on p1 s1 t1 hP hE
 |ret v=>
  refine uU hh λφ1 h1 ρ1 m1 x p1 s1 q1=>?_;clear hh
  exact⟨φ1,h1,ρ1,m1,x,p1,s1,q1⟩
 |_=>exact hh
theorem JC{i:Nat}{x:Str}{p p':Pos}(O:F.Ok C)(W:F.Own ns)(hi:cF F.env.scope ns i x=true)(hc:iM l=true)(ha:au C F ns Γ a l):bM C F ns Γ (.assign i a) (.Assign [.Name x p'] l p):=by
 intro ρ m φ h ex P q σ₀ σ Er s t hP hE
 refine Wo ((ha _ _ _ _ _ _ _ q).on s t λφ1 h1 y v σ1 p1 s1 t1 vy q1=>?_) (m7 hc)
 simp only[cF,S8,beq_iff_eq,To]at hi
 refine TG (show F.env.kindOf x=some .local from hi.1.2) (by rw[W.at_];exact s1.fr.ns) (λh₂ hn₂ hs₂=>?_) O.store
 rw[W.at_]at hn₂ hs₂
 exact⟨φ1,h1,_,_,p1,s1.names W.at_ hn₂ hs₂.extBut (lM W.nd s1.lo hi.1.1 vy),q1⟩
theorem JD{i:Nat}{x:Str}{p p' pc:Pos}{elt src:E}{dJ target iter:PySem.Expr}{sc:Scope}{xs:List Str}(O:F.Ok C)(W:F.Own ns)(hi:cF F.env.scope ns i x=true)
  (ht:dH target=some xs) (ok:iJ sc xs=true) (hit:plainHead iter=true) (hl:p'.line=pc.line) (hns:sc.names.any (λy=>y.1==x&&(y.2== .local||y.2== .cell))=false)
  (ha:au C F ns Γ src iter) (ih:∀a,au C {F with env:=compEnv sc a F.env} xs Γ elt dJ):
  bM C F ns Γ (.assign i (.comp elt xs.length src)) (.Assign [.Name x p'] (.ListComp dJ [⟨target,iter,[],0⟩] sc pc) p):=by
 intro ρ m φ h ex P q σ₀ σ Er s t hP hE
 rw[G1]at q
 simp only[cF,S8,beq_iff_eq,To]at hi
 have hk:F.env.kindOf x=some .local:=hi.1.2
 have hsw:swapsWith (.ListComp dJ [⟨target,iter,[],0⟩] sc pc) (some (.Name x p')) p.line F.env=pure true:=by
  have hb:F.env.blockKind= .function:=by
   unfold Env.blockKind
   rw[O.kind];rfl
  show(pure (F.env.blockKind== .function&&F.env.kindOf x==some .local&&p'.line==pc.line&& !(sc.names.any λy=>y.1==x&&(y.2== .local||y.2== .cell))):Sem Bool)=pure true
  rw[hb,hk,hl,hns]
  simp
 have fj:=A4 ok
 rw[exec_Assign_Name_used _ _ _ _ hsw]
 refine Sz (Vq (Sz ?_))
 show wpAny _ F.A (do let _ ←comprehension (.ListComp dJ [⟨target,iter,[],0⟩] sc pc) sc F.env _ (newList []) false (eval iter F.env) (some (assign (.Name x p') F.env))) _ _ σ
 refine Sz (Ti (wpAny_comprehension_use (Q:=λ_ s'=>fM C F ns φ ex σ₀ P .next s') rfl (λx=>vK hit _ _) fj.1 fj.2.1 fj.2.2 ?_)
  (λ_ s' hq=>SS (SS hq)) λ_ _ e=>e)
 refine AY (target:=target) (iter:=iter) O.handled ht ok ha ih q s t
  (RR:=λacc cenv r s'=>match r with
    | .ok _=>wpAny (model C.prog C.w) F.A (assign (.Name x p') F.env acc) (λ_ s''=>∃m,s''.heap.Ns cenv.locals m/\∀h',Heap.SameBut cenv.locals s''.heap h'->fM C F ns φ ex σ₀ P .next {s'' with heap:=h'}) Er s'
    | .error x=>∃m,s'.heap.Ns cenv.locals m/\∀h',Heap.SameBut cenv.locals s'.heap h'->wpAny (model C.prog C.w) F.A (passOn "comprehension.variables-let-go" x cenv) (λ_ s'=>fM C F ns φ ex σ₀ P .next s') Er {s' with heap:=h'})
  λD C0 φ' h' acc vals n oC mC σ' pf sD sC kI st hC hv q tk=>?_
 have st1:St C F ns ρ m m (φ'++[(D,D)]) (h'++[.list acc]) ((C0,oC)::ex) σ₀ σ':=
  St.adopt (ex:=(C0,oC)::ex) (o:= .list acc) st ⟨sD.1,λq hq=>by rcases SH.mp hq with rfl|hq;exact kI;exact sD.2 q hq⟩ λg=>⟨vals,n,g,hv.mono (S6 _ _),rfl⟩
 refine Vt (TG hk (by rw[W.at_];exact st1.fr.ns) (λh₂ hn₂ hs₂=>?_) O.store)
 rw[W.at_]at hn₂ hs₂
 have st2:St C F ns (bE ρ i (.ref h'.length)) (λy=>if y=x then some (.ref D)else m y) (λy=>if y=x then some (.ref D)else m y) (φ'++[(D,D)]) (h'++[.list acc]) ((C0,oC)::ex) σ₀ {σ' with heap:=h₂,toks:=σ'.toks+1}:=
  st1.names W.at_ hn₂ hs₂.extBut (lM W.nd st1.lo hi.1.1 (iL (p:=(D,D)) st.len))
 refine⟨mC,hC _ (st2.re.ex (C0,oC) Sq).1,λh₃ hs₃=>?_⟩
 have st3:St C F ns (bE ρ i (.ref h'.length)) (λy=>if y=x then some (.ref D)else m y) (λy=>if y=x then some (.ref D)else m y) (φ'++[(D,D)]) (h'++[.list acc]) ex σ₀ {({σ' with heap:=h₂,toks:=σ'.toks+1}:Shared)with heap:=h₃,toks:=σ'.toks+1}:=
  St.kH (es:=[(C0,oC)]) (es':=[]) st2 (λq hq=>by rw[Sx.mp hq];exact sC) (λq hq=>nomatch hq) (λq hq=>nomatch hq) λb o hb e=>hs₃.extBut b o (hb _ Sq) e
 exact⟨_,_,_,_,pf.trans (S6 _ _),st3,q⟩
end
section
variable{prog:Program}{w:World}{A:Around}{E:Value->Shared->Prop}{s:Shared}
theorem A8(its:Array Value)(n j:Nat)(v:Value):Obj.mapSeq (·.setIfInBounds j v) (listOf its n)=listOf (its.setIfInBounds j v) n:=by
 simp[Obj.mapSeq]
theorem JE{l:Addr}{items:Array Value}{n:Nat}{k:Int}{t:Tok}{v:Value}{j:Nat}{Q:Unit->Shared->Prop}(ho:s.heap.get? l=some (listOf items n))
  (hj:j<items.size) (hk:(if 0<=k then k else k+items.size)=j) (hfit: -(2 ^ 63)<=k/\k<2 ^ 63)
  (hQ:∀h',Heap.SameBut l s.heap h'->h'.get? l=some (listOf (items.setIfInBounds j v) n)->Q () {s with heap:=h'}):
  wpAny (model prog w) A (setItem (.ref l) (.int k t) v) Q E s:=by
 have hl:s.heap.IsList l items:=⟨_,ho,rfl,n,rfl⟩
 unfold setItem
 try with_reducible refine UG ?_
 first|refine Sz (SS ?_)|skip
 refine Sz (wpAny_sequenceKey hl.typeIs (by decide) ?_)
 refine Sz (wpAny_callSpecial?_slot (name:=Str.ofString "__setitem__") hl.typeIs slot_list_setitem
  (wpAny_call_entry slot_list_setitem hl.typeIs entry_list_setitem ?_ (args_list_setitem _ _ _)))
 show wpAny _ _ (Builtin.List.listSubscript? (.int k t)>>=_) _ _ s
 have hx':items[j]? =some items[j]:=Array.getElem?_eq_getElem hj
 have lP:Heap.SameBut l s.heap (s.heap.update l (Obj.mapSeq (·.setIfInBounds j v))):=Heap.SameBut.update ..
 have hget:(s.heap.update l (Obj.mapSeq (·.setIfInBounds j v))).get? l=some (listOf (items.setIfInBounds j v) n):=by
  rw[Ux _ ho (by rw[A8];rfl),A8]
 have last:wpAny (model prog w) A.in1 (setSeqItemAt l j v) (λ_ s'=>Q () s') E s:=Vn ho rfl (hQ _ lP hget)
 have fit:Builtin.List.listFitsIndex k=true:=by
  unfold Builtin.List.listFitsIndex
  simp only[S8,decide_eq_true_eq]
  omega
 refine Sz (wpAny_listSubscript_int fit ?_)
 by_cases h0:0<=k
 ·rw[if_pos h0]at hk
  subst hk
  clear fit hfit
  show wpAny _ _ ((seqItemAt l j>>=λr=>pure (r.map (j,·)))>>=_) _ _ s
  refine Sz (Sz (wpAny_seqItemAt ho rfl (SS ?_)))
  rw[hx']
  show wpAny _ _ (setSeqItemAt l j v>>=_) _ _ s
  refine Sz (Vn ho rfl ?_)
  first
   |exact Sz (SS (SS ⟨.none,rfl,SS (hQ _ lP hget)⟩))
   |exact SS ⟨.none,rfl,SS (hQ _ lP hget)⟩
 ·rw[if_neg h0]at hk
  have hidx:seqIndex? k items.size=some j:=by
   rw[seqIndex_neg (by omega) (by omega),hk];rfl
  clear fit hfit
  refine xE (show∃i:Nat,k=Int.negSucc i from by
   cases k with
   |ofNat n=>exact absurd (T8 n) h0
   |negSucc n=>exact⟨n,rfl⟩) λi ae=>?_;subst ae
  show wpAny _ _ ((Builtin.List.listItems (.ref l)>>=λxs=>pure ((seqIndex? (Int.negSucc i) xs.size).bind λi=>xs[i]?.map (i,·)))>>=_) _ _ s
  refine Sz (Sz ?_)
  show wpAny _ _ (seqItems? (.ref l)>>=_) _ _ s
  refine Sz (wpAny_seqItems ho rfl (SS (SS ?_)))
  rw[hidx]
  simp only[TM,hx',Uk]
  show wpAny _ _ (setSeqItemAt l j v>>=_) _ _ s
  refine Sz (Vn ho rfl ?_)
  first
   |exact Sz (SS (SS ⟨.none,rfl,SS (hQ _ lP hget)⟩))
   |exact SS ⟨.none,rfl,SS (hQ _ lP hget)⟩
end
section
variable{C:Cx}{F:Fx}{ns:List Str}{ρ:Loc}{m mf ml:Str->Option Value}{φ:Pl}{h:H}{ex:List (Addr×Obj)}{σ₀ σ:Shared}
 {Γ:ay} {a b c:E} {l r r':PySem.Expr} {P:PS}
theorem JF{R:RT}{K:rO R C.K}{fs:List (Nat×V)}{es:List DictEntry}(hf:gv R φ fs es){f:Nat}{y:V}{w:Value}(vy:VR R φ y w){hs:Int}{tk:Tok}:gv R φ (gh fs f y) (putL (R.fld f) hs (.str (R.fld f) tk) w es):=by
 induction hf with
 |nil=>exact .cons (t:=tk) rfl vy .nil
 | @cons g x e t fs es hk hv hr ih=>
  unfold gh putL
  have e1:e.key.isStr (R.fld f)=decide (R.fld g=R.fld f):=by
   rw[hk];exact vt _ _
  by_cases hg:g=f
  ·subst hg
   rw[if_pos rfl,e1,if_pos (by simp)]
   exact .cons (t:=t) hk vy hr
  ·rw[if_neg hg,e1,if_neg (by simpa usingλz=>hg (K.inj _ _ z))]
   exact .cons hk hv ih
theorem A9(name:Str)(hs:Int)(k v:Value):∀es:List DictEntry,(putL name hs k v es).length<=es.length+1
 | []=>by simp[putL]
 |e::r=>by
  unfold putL
  split
  ·simp
  ·have:=A9 name hs k v r
   simp;exact af 0xf100e10 rfl this
theorem gv.length{R:RT}{fs:List (Nat×V)}{es:List DictEntry}(hf:gv R φ fs es):es.length=fs.length:=by
 induction hf with
 |nil=>rfl
 |cons _ _ _ ih=>simp[ih]
theorem Ba(O:F.Ok C)(s:St C F ns ρ mf ml φ h ex σ₀ σ){x y:V}{n c:Nat}{fs:List (Nat×V)}(e:b6 h x=some (n,c,fs)){f:Nat}(vv:f<17){v w:Value}(vx:VR C.R φ x v)(vy:VR C.R φ y w)
  {Q:Unit->Shared->Prop} {E:Value->Shared->Prop} (hq:∀σ',St C F ns ρ mf ml φ (h.set n (.inst c (gh fs f y))) ex σ₀ σ'->Q () σ'):wpAny (model C.prog C.w) F.A (setAttr v (C.R.fld f) w) Q E σ:=by
 refine rC (Av s.re e vx) λp es k ae hp hx az hc hl g1 ne g2 fr=>?_;subst ae;subst az
 have K:=O.bs.k
 have ht:takerIn C.K (C.R.cls c) (C.R.fld f)=some none:=by
  unfold takerIn
  rw[(K.fld c f hc vv).1];rfl
 have hget:(getL (C.R.fld f) es).isSome=true:=by
  have q:=Aw (K:=K) fr (f:=f)
  cases e2:bj fs f with
  |none=>rw[e2]at q;rw[q];rfl
  |some y=>rw[e2]at q;refine am q λw hw _=>?_;clear q;rw[hw];rfl
 refine set_dict s.fr O.bs.x (s.re.rT (Sy hp) (.inr rfl) g2) (⟨g1,rfl,rfl,g2⟩:InstAt σ.heap p.1 (instObj (C.R.cls c) p.2) (C.R.cls c) (some (dictOf es k))) rfl (K.sa c hc) (K.over c hc) ht (K.hd c hc) hget rfl (.head rS) ?_ λh' F' N'=>hq _ ?_
 ·have:=A9 (C.R.fld f) (PyData.keyHash C.w.params (C.R.fld f)) (.str (C.R.fld f) (σ.toks+1)) w es
  rw[fr.length]at this
  exact af 0xf3e83b10e91a010e142b0 rfl hl this
 ·refine s.mX hp (.inr rfl) F' N' λg' keep=>?_
  refine⟨(keep p.1 ne.symm (.inl rfl)).trans g1,ne,_,_,g',JF (K:=K) fr vy⟩
theorem JG{f:Nat}{p p':Pos}(O:F.Ok C)(hf:f<17)(hc:iM r=true)(ha:au C F ns Γ a l)(hb:au C F ns Γ b r):bM C F ns Γ (.setattr a f b) (.Assign [.Attribute l (C.R.fld f) p'] r p):=by
 intro ρ m φ h ex P q σ₀ σ Er s t hP hE
 refine plainObj_wpAny_Assign_Attribute ((hb _ _ _ _ _ _ _ q).on s t λφ1 h1 y w σ1 p1 s1 t1 vy q1=>(ha _ _ _ _ _ _ _ q1).on s1 t1 λφ2 h2 x v σ2 p2 s2 t2 vx q2=>?_) (m7 hc)
 cases e:b6 h2 x with
 |none=>rw[e]at q2;exact q2.elim
 |some z=>
  obtain⟨n,c,fs⟩:=z
  rw[e]at q2
  exact Ba O s2 e hf vx (vy.mono p2) λσ' s'=>⟨φ2,_,_,_,p1.trans p2,s',q2⟩
theorem JH{f:Nat}{op:Op}{o:Operator}{p p':Pos}(O:F.Ok C)(hf:f<17)(ok:kt op o=true)(ok':op= .add\/op= .sub)(ha:au C F ns Γ a l)(hb:au C F ns Γ b r):bM C F ns Γ (.kj a f op b) (.AugAssign (.Attribute l (C.R.fld f) p') o r p):=by
 intro ρ m φ h ex P q σ₀ σ Er s t hP hE
 refine wpAny_AugAssign_AttributeAny ((ha _ _ _ _ _ _ _ q).on s t λφ1 h1 x v σ1 p1 s1 t1 vx q1=>?_)
 cases e:b6 h1 x with
 |none=>rw[e]at q1;exact q1.elim
 |some z=>
  obtain⟨n,c,fs⟩:=z
  rw[e]at q1
  simp only at q1
  cases e2:bj fs f with
  |none=>rw[e2]at q1;exact q1.elim
  |some y=>
   rw[e2]at q1
   refine Ax O s1 e hf e2 vx λw vw=>?_
   refine(hb _ _ _ _ _ _ _ q1).on (s1.tok (tk:=σ1.toks+1)) (UV _ _) λφ2 h2 z u σ2 p2 s2 t2 vz q2=>?_
   ·refine fH (G5 q2) λg m2 c2 RF e3 e4 q2=>?_
    refine Ae ok ok' e3 (vw.mono p2) vz λrr tk vr=>?_
    exact Ba O s2.tok e4 hf (vx.mono p2) vr λσ' s'=>⟨φ2,_,_,_,p1.trans p2,s',q2⟩
theorem JI{i:Nat}{x:Str}{op:Op}{o:Operator}{p p':Pos}(O:F.Ok C)(W:F.Own ns)(hi:cF F.env.scope ns i x=true)(ok:kt op o=true)(ok':op= .add\/op= .sub)(hb:au C F ns Γ b r):bM C F ns Γ (.aug i op b) (.AugAssign (.Name x p') o r p):=by
 intro ρ m φ h ex P q σ₀ σ Er s t hP hE
 rw[G2]at q
 simp only[cF,S8,beq_iff_eq,To]at hi
 cases e:cg ρ i with
 |none=>rw[e]at q;exact q.elim
 |some v=>
  rw[e]at q
  have e':ρ[i]? =some (some v):=by
   unfold cg at e
   split at e
   ·rename_i w hw;obtain rfl:=Sv e;exact hw
   ·exact nn e
  refine am (s.lo.2 i x v hi.1.1 e') λrv hr vr=>?_
  have hk:F.env.kindOf x=some .local:=hi.1.2
  refine wpAny_AugAssign_Name (UN O.kind hk s.ns hr ((hb _ _ _ _ _ _ _ q).on s t λφ1 h1 y u σ1 p1 s1 t1 vy q1=>?_))
  ·refine am (zU q1) λz e3 q1=>?_
   refine Ae ok ok' e3 (vr.mono p1) vy λrr tk vz=>?_
   have s1':=s1.tok (tk:=tk)
   refine TG hk (by rw[W.at_];exact s1'.fr.ns) (λh₂ hn₂ hs₂=>?_) O.store
   rw[W.at_]at hn₂ hs₂
   exact⟨φ1,h1,_,_,p1,s1'.names W.at_ hn₂ hs₂.extBut (lM W.nd s1.lo hi.1.1 vz),q1⟩
theorem JJ{p:Pos}(O:F.Ok C)(hc:iM l=true)(ha:au C F ns Γ a l):bM C F ns Γ (.expr a) (.Expr l p):=by
 intro ρ m φ h ex P q σ₀ σ Er s t hP hE
 refine WC ((ha _ _ _ _ _ _ _ q).on s t λφ1 h1 x v σ1 p1 s1 t1 vx q1=>?_) (by unfold interactive;rw[O.kind];rfl) (m7 hc)
 obtain⟨rfl,q1⟩:=q1
 obtain rfl:=vx
 exact⟨φ1,h1,ρ,m,p1,s1,q1⟩
theorem JK{p:Pos}(ha:au C F ns Γ a l):bM C F ns Γ (.ret a) (.Return (some l) p):=by
 intro ρ m φ h ex P q σ₀ σ Er s t hP hE
 exact Wp ((ha _ _ _ _ _ _ _ q).on s t λφ1 h1 x v σ1 p1 s1 t1 vx q1=>⟨φ1,h1,ρ,m,x,p1,s1,vx,q1⟩)
theorem JL{p:Pos}{aa bb:Ss}{xs ys:List Stmt}(hc:cO C F ns Γ c l)(ha:hU C F ns Γ aa xs)(hb:hU C F ns Γ bb ys):bM C F ns Γ (.ite c aa bb) (.If l xs ys p):=by
 intro ρ m φ h ex P q σ₀ σ Er s t hP hE
 have q':aj C.T Γ F.n c ρ h (λx h=>∃t,truthy x=some t/\(if t then ag C.T Γ F.n aa ρ h P else ag C.T Γ F.n bb ρ h P)):=by
  refine cast (congrArg (aj C.T Γ F.n c ρ h) ?_) q
  funext x h
  cases e:truthy x with
  |none=>simp
  |some t=>rcases t with⟨⟩<;>simp
 refine wpAny_If (hc.on q' s t λφ1 h1 x σ1 p1 s1 t1 q1=>?_)
 rcases x with⟨⟩
 ·exact(hb _ m φ1 h1 ex _ q1).on p1 s1 t1 hP hE
 ·exact(ha _ m φ1 h1 ex _ q1).on p1 s1 t1 hP hE
theorem JM{x y:V}{o:Option (List V)}{F:Nat->List V->Int->Prop}(q:match (generalizing:=false) x,o,y with| .ref i,some j,.int l=>F i j l|_,_,_=>False):∃i j l,x= .ref i/\o=some j/\y= .int l/\F i j l:=by
 rcases x with⟨⟩<;>try exact q.elim
 rcases o with _|j
 ·exact q.elim
 rcases y with⟨⟩<;>first|exact⟨_,_,_,rfl,rfl,rfl,q⟩|exact q.elim
theorem JN{p p':Pos}(O:F.Ok C)(hc:iM r=true)(ha:au C F ns Γ a l)(hi:au C F ns Γ c r')(hb:au C F ns Γ b r):bM C F ns Γ (.jB a c b) (.Assign [.Subscript l r' p'] r p):=by
 intro ρ m φ h ex P q σ₀ σ Er s t hP hE
 refine wpAny_Assign_Subscript ((hb _ _ _ _ _ _ _ q).on s t λφ1 h1 y w σ1 p1 s1 t1 vy q1=>(ha _ _ _ _ _ _ _ q1).on s1 t1 λφ2 h2 x v σ2 p2 s2 t2 vx q2=>(hi _ _ _ _ _ _ _ q2).on s2 t2 λφ3 h3 z u σ3 p3 s3 t3 vz q3=>?_) (m7 hc)
 refine lC (JM (F:=λn xs k=>0<=(if 0<=k then k else k+(xs.length:Int))/\(if 0<=k then k else k+(xs.length:Int))<xs.length/\xs.length<=lim/\P.N ρ (h3.set n (.list (xs.set (if 0<=k then k else k+(xs.length:Int)).toNat y)))) q3) λn xs k e1 e e3 q4=>?_;clear q q1 q2 q3;subst e1 e3
 refine f8 (gA s3.re e (vx.mono p3)) λn' pp vs kk en hp hx ae g vr lL=>?_;subst ae
 obtain rfl:=V.ref.inj en
 refine xE vz λtk ae=>?_;clear vz;subst ae
 refine kf q4 λj0 j1 hlen q3=>?_
 have hlen:xs.length<=1000000:=hlen
 have hsz:vs.size=xs.length:=by rw[←vr.length,S5]
 have e0:∃jn:Nat,(if 0<=k then k else k+(xs.length:Int))=jn/\jn<xs.length:=by
  refine xE (VH j0) λjn hj=>?_
  exact⟨jn,hj,by omega⟩
 refine am e0 λjn ej hjn=>?_;clear e0
 rw[ej]at q3
 refine JE (j:=jn) g (by exact ah 0x1f021e123e10 rfl hsz hjn) (by rw[hsz];exact ej) (by split at ej<;>omega) λh' hs hg=>?_
 have fm:=s3.re.fresh pp (Sy hp)
 have sE:=hs.extBut
 refine⟨φ3,_,ρ,m,(p1.trans p2).trans p3,⟨⟨s3.fr.ns.at' λo e=>sE _ _ (fm.2.2.1:pp.1≠F.L).symm e,λb o e=>?_,s3.fr.above⟩,s3.re.upd (o:= .list (xs.set jn y)) hp (λb ob b1 b2 b3 b4 e=>sE b ob b1 e) ?_,s3.lo,s3.at_,s3.rest⟩,(q3:P.N ρ (h3.set n (.list (xs.set jn y))))⟩
 ·refine sE b o ?_ (s3.fr.keep b o e)
  intro z;rw[z]at e;rw[fm.1]at e;exact nn e
 ·refine⟨_,_,hg,?_,lL⟩
  rw[Array.toList_setIfInBounds]
  exact vr.set (vy.mono (p2.trans p3)) _
end
section
variable{C:Cx}{F:Fx}{ns:List Str}{ρ:Loc}{m mf ml:Str->Option Value}{φ:Pl}{h:H}{ex:List (Addr×Obj)}{σ₀ σ:Shared}
 {Γ:ay} {a b c:E} {l r r':PySem.Expr} {P:PS}
noncomputable def vS(e:Ex):Bool:= !decide (e.ctorIdx=25)
noncomputable def isStar(x:Ex):Bool:=PySem.swappedStores.match_5 (λ_=>Bool) x (λ_ _=>true) λ_=>false
theorem JO{ts:List PySem.Expr}{k:Nat}{tp:Pos}{r:PySem.Expr}{env:Env}(h:vS r=true):swappedStores [.Tuple ts k tp] r env=pure none:=by
 rcases r with⟨⟩<;>first|rfl|exact Bool.noConfusion (show false=true from h)
theorem JP{h:H}{is:List Nat}(h2:is.length≠1){v:V}{vs:List V}(e:fJ h v=some vs)(hl:vs.length=is.length):dY h is.length v=some vs:=by
 unfold dY
 rw[if_neg h2,e]
 simp[hl]
theorem JQ{is:List Nat}{ts:List PySem.Expr}{k:Nat}{tp p:Pos}{xs:List Str}(O:F.Ok C)(W:F.Own ns)(ht:dH (.Tuple ts k tp)=some xs)(hi:gB F.env.scope ns is xs=true)
  (hc:iM r=true) (hn:vS r=true) (ha:au C F ns Γ a r):bM C F ns Γ (.unpack is a) (.Assign [.Tuple ts k tp] r p):=by
 intro ρ m φ h ex P q σ₀ σ Er s t hP hE
 refine Assign_Tuple ((ha _ _ _ _ _ _ _ q).on s t λφ1 h1 x v σ1 p1 s1 t1 vx q1=>?_) (show swapsWith r (some (.Tuple ts k tp)) p.line F.env=pure false from m7 hc) (JO hn)
 ·refine am (rD q1) λvs e q1=>?_
  refine xA q1 λhl q1=>?_
  have h2:is.length≠1:=by
   rw[AO hi]
   exact(AL ht).elim (λz=>bK z λ_ _ e _=>nomatch e) λz=>zM z λ_ _ _ _ z=>bx z λ_ _ _ _ e=>e▸(nomatch ·)
  exact AQ O W.at_ W.nd ht hi s1 (JP h2 e hl) vx O.handled λm' σ' htk s'=>⟨φ1,h1,_,_,p1,s',q1⟩
theorem JR{prog:Program}{w:World}{A:Around}{E:Value->Shared->Prop}{s:Shared}{t:Addr}{items:Array Value}{n:Nat}{Q:List Value->Shared->Prop}(hh:A.handled=none)(ht:IsTup s.heap t items)(hn:n=items.size)
  (hQ:∀h',Heap.ExtBut s.heap.objs.size s.heap h'->Q items.toList {s with heap:=h'}):wpAny (model prog w) A (unpackItems (.ref t) n none) Q E s:=by
 subst hn;exact unpackItems_tuple hh ht hQ
theorem JS{α:Type}{l:List α}(h:l.length=2):∃a b,l=[a,b]:=by
 rcases l with _| ⟨a,_| ⟨b,_| ⟨_,_⟩⟩⟩<;>first|exact⟨_,_,rfl⟩|exact absurd h (by simp)
theorem vT{R:RT}{φ:Pl}{a:List V}{l:List Value}(h:aD R φ a l):a.casesOn (l=[]) λx xs=>∃v vs,l=v::vs/\VR R φ x v/\aD R φ xs vs:=
 aD.casesOn (motive:=λa l _=>a.casesOn (l=[]) λx xs=>∃v vs,l=v::vs/\VR R φ x v/\aD R φ xs vs) h rfl λh t=>⟨_,_,rfl,h,t⟩
theorem JT{R:RT}{φ:Pl}{x y:V}{l:List Value}(h:aD R φ [x,y] l):∃a b,l=[a,b]/\VR R φ x a/\VR R φ y b:=
 bx (vT h) λa vs e h1 t=>bx (vT t) λb vs' e' h2 t'=>⟨a,b,by rw[e,e',vT t'],h1,h2⟩
theorem JU{ρ:Loc}{i j:Nat}(h:i≠j)(v w:V):bE (bE ρ i v) j w=bE (bE ρ j w) i v:=by
 unfold bE
 rw[List.set_comm _ _ h]
theorem JV{i j:Nat}{x y:Str}{px py tp p2 p:Pos}{k k2:Nat}{vs:List PySem.Expr}(O:F.Ok C)(W:F.Own ns)(hx:cF F.env.scope ns i x=true)(hy:cF F.env.scope ns j y=true)(hne:(x==y)=false)
  (hline:px.line=py.line) (hlen:vs.length=2) (hst:vs.any isStar=false) (h1:vs.all (foldedForSure 8)=false) (h2:vs.all (constantsAlone 8)=false)
  (ha:au C F ns Γ a (.Tuple vs k2 p2)):bM C F ns Γ (.unpack [i,j] a) (.Assign [.Tuple [.Name x px,.Name y py] k tp] (.Tuple vs k2 p2) p):=by
 intro ρ m φ h ex P q σ₀ σ Er s t hP hE
 simp only[cF,S8,beq_iff_eq,To]at hx hy
 have hkx:F.env.kindOf x=some .local:=hx.1.2
 have Bb:F.env.kindOf y=some .local:=hy.1.2
 have hb:F.env.blockKind= .function:=by
  unfold Env.blockKind
  rw[O.kind];rfl
 have hne':x≠y:=by simpa using hne
 have hsw:swappedStores [.Tuple [.Name x px,.Name y py] k tp] (.Tuple vs k2 p2) F.env=pure (some [x,y]):=by
  have hn:∀f:PySem.Expr->Option Str,f (.Name x px)=some x->f (.Name y py)=some y->[PySem.Expr.Name x px,.Name y py].filterMap f=[x,y]:=λf e1 e2=>by rw[Up,e1,Up,e2];rfl
  show(if _ then _ else if _ then _ else if _ then _ else if _ then _ else if _ then _ else _)=_
  refine(if_neg (by rw[hlen,hb];exact TH)).trans ((if_neg (λhh=>Bool.noConfusion (hst.symm.trans hh))).trans ?_)
  rw[hn,(by simp[List.filter,(by simpa using VQ hne':(y==x)=false),List.eraseDups_cons]:[x,y].eraseDups=[x,y]),if_neg (by exact TH),if_neg (by rw[h1];exact TH),if_neg (by rw[h2];exact TH)]
  ·exact if_pos (by rw[hkx];exact(by simp:(some NameKind.local==some NameKind.local&&px.line==px.line)=true))
  ·exact if_pos (by rw[Bb];exact(by simp[hline]:(some NameKind.local==some NameKind.local&&py.line==px.line)=true))
 refine Assign_Tuple_swapped (names:=[x,y]) ((ha _ _ _ _ _ _ _ q).on s t λφ1 h1 u v σ1 p1 s1 t1 vx q1=>?_) (by rfl) hsw
 ·refine am (rD q1) λus e q1=>?_
  refine xA q1 λhl q1=>?_
  refine g5 (AM s1.re e vx) λad ws n ae g jJ=>?_;subst ae
  have hsz:ws.size=2:=by rw[←S5,jJ.length,hl];rfl
  obtain⟨u1,u2,rfl⟩:=JS hl
  refine bx (JT jJ) λw1 w2 ew v1 v2=>?_
  refine JR O.handled (mV g) hsz.symm λh₁ he₁=>?_
  rw[ew]
  have s2:St C F ns ρ m m φ1 h1 ex σ₀ {σ1 with heap:=h₁,toks:=σ1.toks}:=s1.keep λb o e=>he₁ b o (SX (TC e)) e
  show wpAny _ F.A (assignInOrder [bindName F.env y,bindName F.env x] [w2,w1]) _ _ _
  refine assignInOrder_cons (wpAny_bindName (TG Bb (by rw[W.at_];exact s2.fr.ns) (λh₂ hn₂ hs₂=>?_) O.store))
  rw[W.at_]at hn₂ hs₂
  have s3:=s2.names (tk:=σ1.toks+1) W.at_ hn₂ hs₂.extBut (lM W.nd s2.lo hy.1.1 v2)
  refine assignInOrder_cons (wpAny_bindName (TG hkx (by rw[W.at_];exact s3.fr.ns) (λh₃ hn₃ hs₃=>?_) O.store))
  rw[W.at_]at hn₃ hs₃
  have s4:=s3.names (tk:=σ1.toks+1+1) W.at_ hn₃ hs₃.extBut (lM W.nd s3.lo hx.1.1 v1)
  refine assignInOrder_nil ?_
  have hij:i≠j:=by
   intro zq;obtain rfl:=zq.symm
   have:=hx.1.1.symm.trans hy.1.1
   simp at this
   exact hne' this
  rw[JU hij.symm]at s4
  exact⟨φ1,h1,_,_,p1,s4,q1⟩
end
section
variable{C:Cx}{F:Fx}{ns:List Str}{ρ:Loc}{m mf ml:Str->Option Value}{φ:Pl}{h:H}{ex:List (Addr×Obj)}{σ₀ σ:Shared}
 {Γ:ay} {a b c:E} {l r r':PySem.Expr} {P:PS}
theorem JW{p:Pos}{cc:E}{bb:Ss}{xs:List Stmt}(O:F.Ok C)(hc:cO C F ns Γ cc l)(hb:hU C F ns Γ bb xs):bM C F ns Γ (.while cc bb) (.While l xs [] p):=by
 intro ρ m φ h ex P q σ₀ σ Er s t hP hE
 refine xE q λk q=>?_
 refine wpAny_While ?_
 refine codeAny_whileLoop (λk s=>∃ρ m φ' h',gp (aj C.T Γ F.n cc) (λρ h N=>ag C.T Γ F.n bb ρ h {P with N:=N}) P.N k ρ h'/\φ<+:φ'/\St C F ns ρ m m φ' h' ex σ₀ s/\1<=s.toks) ?_ k ⟨ρ,m,φ,h,q,Tj _,s,t⟩
 clear q s t
 intro k s zz
 refine zQ zz λρ m φ1 h1 q p1 s1 t1=>?_;clear zz
 cases k with
 |zero=>exact q.elim
 |succ k=>
  rw[gp]at q
  have q':aj C.T Γ F.n cc ρ h1 (λx h=>∃t,truthy x=some t/\(if t then ag C.T Γ F.n bb ρ h {P with N:=gp (aj C.T Γ F.n cc) (λρ h N=>ag C.T Γ F.n bb ρ h {P with N:=N}) P.N k}else P.N ρ h)):=by
   refine cast (congrArg (aj C.T Γ F.n cc ρ h1) ?_) q
   funext x h
   cases e:truthy x with
   |none=>simp
   |some t=>rcases t with⟨⟩<;>simp
  refine hc.on q' s1 t1 λφ2 h2 x σ2 p2 s2 t2 q2=>?_
  rcases x with⟨⟩
  ·exact Uw ⟨φ2,h2,ρ,m,p1.trans p2,s2,q2⟩
  ·have q2:ag C.T Γ F.n bb ρ h2 {P with N:=gp (aj C.T Γ F.n cc) (λρ h N=>ag C.T Γ F.n bb ρ h {P with N:=N}) P.N k}:=q2
   show wpAny _ F.A (execs xs F.env) _ _ _
   refine Ti (TS.vR (hb ρ m φ2 h2 ex _ q2) (p1.trans p2) s2 t2 hP hE) (λf σ3 hh=>?_) λe s z=>hP e s z
   ·refine xA hh λt3 hh=>?_
    cases f with
    |next=>
     refine fH hh λφ3 h3 ρ3 m3 p3 s3 q3=>?_;clear hh
     exact⟨k,TN _,ρ3,m3,φ3,h3,q3,p3,s3,t3⟩
    |ret v=>exact hh
    |_=>exact hh.elim
theorem vU{target:PySem.Expr}{xs:List Str}{is:List Nat}(O:F.Ok C)(W:F.Own ns)(ht:dH target=some xs)(hi:gB F.env.scope ns is xs=true){I:Addr}(sc:de F ex I){bb:Ss}{body:List Stmt}(hb:hU C F ns Γ bb body)
  {N:Loc->H->Prop} {Rt Xx:V->H->Prop} (Inv:Nat->Obj->Loc->H->Prop) {Er:Value->Shared->Prop}
  (draw:∀(k:Nat) (ob:Obj) (ρ:Loc) (m:Str->Option Value) (φ':Pl) (h':H) (s:Shared) (Q:Option Value->Shared->Prop) (E:Value->Shared->Prop),Inv k ob ρ h'->φ<+:φ'->St C F ns ρ m m φ' h' ((I,ob)::ex) σ₀ s->1<=s.toks->
   (∀s',St C F ns ρ m m φ' h' ex σ₀ s'->N ρ h'->Q none s')->
   (∀gF x v s' N',St C F ns ρ m m φ' h' ((I,gF)::ex) σ₀ s'->VR C.R φ' x v->(∀Q' E',Q' () s'->wpAny (model C.prog C.w) F.A (letOwnedTupleGo target (.ref I) v) Q' E' s')->
    (match dY h' is.length x with|some vs=>ag C.T Γ F.n bb (dF ρ is vs) h' ⟨N',Rt,bot⟩|none=>False)->(∀ρ h,N' ρ h->∃j,j<k/\Inv j gF ρ h)->Q (some v) s')->
   wpAny (model C.prog C.w) F.A (pyNext (.ref I)) Q E s)
  (k:Nat) (ob:Obj) (ρ:Loc) (m:Str->Option Value) (φ':Pl) (h':H) (s:Shared) (iv:Inv k ob ρ h') (p':φ<+:φ') (st:St C F ns ρ m m φ' h' ((I,ob)::ex) σ₀ s) (t:1<=s.toks):
  codeAny (model C.prog C.w) F.A (.forLoop target (.ref I) body [] F.env) (λr s'=>match r with| .ok f=>fM C F ns φ ex σ₀ ⟨N,Rt,Xx⟩ f s'| .error e=>cameBackBy (model C.prog C.w) F.A F.env Er e s') s:=by
 have SC:∀o:Obj,∀q∈[(I,o)],de F ex q.1:=λo q hq=>by rw[Sx.mp hq];exact sc
 refine codeAny_forLoop_any (λk s=>∃ob ρ m φ' h',Inv k ob ρ h'/\φ<+:φ'/\St C F ns ρ m m φ' h' ((I,ob)::ex) σ₀ s/\1<=s.toks) ?_ k ⟨ob,ρ,m,φ',h',iv,p',st,t⟩
 clear iv p' st t
 intro k s zz
 refine pd zz λob ρ m φ1 h1 iv p1 s1 t1=>?_;clear zz
 refine Ti (Uo t1 (draw k ob ρ m φ1 h1 s (λr s₁=>1<=s₁.toks->match r with
   |none=>wpAny (model C.prog C.w) F.A (execs [] F.env) (λf s₃=>fM C F ns φ ex σ₀ ⟨N,Rt,Xx⟩ f s₃) (notedBy (model C.prog C.w) F.A F.env λe s'=>cameBackBy (model C.prog C.w) F.A F.env Er e s') s₁
   |some v=>wpAny (model C.prog C.w) F.A (letOwnedTupleGo target (.ref I) v) (λ_ s₁'=>
     wpAny (model C.prog C.w) F.A (assign target F.env v) (λ_ s₂=>wpAny (model C.prog C.w) F.A (execs body F.env) (λf s₃=>match f with
      | .next| .cont=>∃m,m<k/\∃ob ρ m' φ' h',Inv m ob ρ h'/\φ<+:φ'/\St C F ns ρ m' m' φ' h' ((I,ob)::ex) σ₀ s₃/\1<=s₃.toks
      | .brk=>fM C F ns φ ex σ₀ ⟨N,Rt,Xx⟩ .next s₃
      | .ret v=>fM C F ns φ ex σ₀ ⟨N,Rt,Xx⟩ (.ret v) s₃) (notedBy (model C.prog C.w) F.A F.env λe s'=>cameBackBy (model C.prog C.w) F.A F.env Er e s') s₂)
      (notedBy (model C.prog C.w) F.A F.env λe s'=>cameBackBy (model C.prog C.w) F.A F.env Er e s') s₁') (notedBy (model C.prog C.w) F.A F.env λe s'=>cameBackBy (model C.prog C.w) F.A F.env Er e s') s₁)
   (notedBy (model C.prog C.w) F.A F.env λe s'=>cameBackBy (model C.prog C.w) F.A F.env Er e s') iv p1 s1 t1 (λs' st' hN _=>?_) λgF x v s' N' st' vx lg q JX t2=>?_)) (λr s' hh=>?_) λ_ _ z=>z.2
 ·exact Uw ⟨φ1,h1,ρ,m,p1,st',hN⟩
 ·refine lg _ _ ?_
  ·refine am (rD q) λus hu q=>?_
   refine AQ O W.at_ W.nd ht hi st' hu vx O.handled λm' σ' htk s3=>?_
   refine Ti (TS.vR (hb _ m' φ1 h1 _ _ q) p1 s3 (SQ t2 htk) WD λφ' h' x e σ' pp hx hz=>hx.elim) (λf σ3 hh=>?_) λ_ _ z=>z.elim
   refine xA hh λt3 hh=>?_
   cases f with
   |next=>
    refine fH hh λφ3 h3 ρ3 m3 p3 s3 q3=>?_;clear hh
    refine am (JX _ _ q3) λj hj JY=>?_
    exact⟨j,hj,gF,ρ3,m3,φ3,h3,JY,p3,s3,t3⟩
   |ret w=>
    refine pd hh λφ3 h3 ρ3 m3 y p3 s3 vy q3=>?_;clear hh
    exact⟨φ3,h3,ρ3,m3,y,p3,St.drop (es:=[(I,gF)]) s3 (SC _),vy,q3⟩
   |_=>exact hh.elim
 ·refine xA hh λt2 hh=>?_
  rcases r with⟨⟩<;>exact hh t2
end
section
variable{C:Cx}{F:Fx}{ns:List Str}{ρ:Loc}{m mf ml:Str->Option Value}{φ:Pl}{h:H}{ex:List (Addr×Obj)}{σ₀ σ:Shared}
 {Γ:ay} {a b c:E} {l r r':PySem.Expr} {P:PS}
noncomputable def vV(ob:Obj)(ty:String)(x:Str)(t:Tok)(i:Nat):Prop:=ob.cls= .type ty/\ob.data= .fields #[.str x t,.int i 0]
theorem St.one{I:Addr}{ob gF:Obj}{hp:Heap}{tk:Nat}(s:St C F ns ρ mf ml φ h ((I,ob)::ex) σ₀ σ)(sc:de F ex I)(g:hp.get? I=some gF)(k:Heap.ExtBut I σ.heap hp):
  St C F ns ρ mf ml φ h ((I,gF)::ex) σ₀ {σ with heap:=hp,toks:=tk}:=
 St.kH (es:=[(I,ob)]) (es':=[(I,gF)]) s (λq hq=>by rw[Sx.mp hq];exact sc) (λq hq=>by rw[Sx.mp hq];exact⟨(I,ob),Sq,rfl⟩) (λq hq=>by rw[Sx.mp hq];exact g)
  λb o hb e=>k b o (hb _ Sq) e
theorem St.gone{I:Addr}{ob:Obj}{hp:Heap}{tk:Nat}(s:St C F ns ρ mf ml φ h ((I,ob)::ex) σ₀ σ)(sc:de F ex I)(k:Heap.ExtBut I σ.heap hp):St C F ns ρ mf ml φ h ex σ₀ {σ with heap:=hp,toks:=tk}:=
 St.kH (es:=[(I,ob)]) (es':=[]) s (λq hq=>by rw[Sx.mp hq];exact sc) (λq hq=>nomatch hq) (λq hq=>nomatch hq) λb o hb e=>k b o (hb _ Sq) e
theorem St.put{ob:Obj}{tk:Nat}(s:St C F ns ρ mf ml φ h ex σ₀ σ)(hf:ob.isFreed=false):St C F ns ρ mf ml φ h ((σ.heap.objs.size,ob)::ex) σ₀ {σ with heap:=σ.heap.push ob,toks:=tk}/\de F ex σ.heap.objs.size:=by
 refine xA (s.ext (es:=[(σ.heap.objs.size,ob)]) (tk:=tk) (hp:=σ.heap.push ob) (λb o e=>SO _ e) λq hq=>by
  rw[Sx.mp hq];exact⟨TF _ hf,SW _⟩) λa b=>?_
 exact⟨a,b _ Sq⟩
theorem JZ{I:Addr}{dh:Obj}{ty:String}{x:Str}{t:Tok}{i:Nat}(hty:ty="str_ascii_iterator"\/ty="str_iterator")(s:St C F ns ρ mf ml φ h ((I,dh)::ex) σ₀ σ)(sc:de F ex I)(hh:F.A.handled=none)(hI:vV dh ty x t i)
  {Q:Option Value->Shared->Prop} {Er:Value->Shared->Prop}
  (hs:∀cI c h',x.cps[i]? =some c->vV cI ty x t (i+1)->St C F ns ρ mf ml φ h ((I,cI)::ex) σ₀ {σ with heap:=h',toks:=σ.toks+1}->Q (some (.str ⟨#[c]⟩ σ.toks)) {σ with heap:=h',toks:=σ.toks+1})
  (hn:x.cps[i]? =none->∀h',St C F ns ρ mf ml φ h ex σ₀ {σ with heap:=h'}->Q none {σ with heap:=h'}):wpAny (model C.prog C.w) F.A (pyNext (.ref I)) Q Er σ:=by
 have hit:σ.heap.IsStrIter I ty x t i:=⟨dh,((s.re.ex (I,dh) Sq).1),hI.1,hI.2⟩
 cases e:x.cps[i]? with
 |none=>
  rcases hty with rfl|rfl
  ·exact wpAny_pyNext_ascii_end hh hit e λh' he=>hn e h' (s.gone (tk:=σ.toks) sc he)
  ·exact wpAny_pyNext_wide_end hh hit e λh' he=>hn e h' (s.gone (tk:=σ.toks) sc he)
 |some c=>
  rcases hty with rfl|rfl
  ·refine wpAny_pyNext_ascii_item hit e λh' hi gE=>?_
   refine aN hi λgF g' hc' hd'=>?_;clear hi
   exact hs gF c h' e ⟨hc',hd'⟩ (s.one sc g' gE.extBut)
  ·refine wpAny_pyNext_wide_item hit e λh' hi gE=>?_
   refine aN hi λgF g' hc' hd'=>?_;clear hi
   exact hs gF c h' e ⟨hc',hd'⟩ (s.one sc g' gE.extBut)
theorem J0{M:Model}{A:Around}{Q:Unit->Shared->Prop}{E:Value->Shared->Prop}{target:PySem.Expr}{a:Addr}{c:Str}{n:Nat}{s:Shared}(hq:Q () s):wpAny M A (letOwnedTupleGo target (.ref a) (.str c n)) Q E s:=by
 rcases target with⟨⟩<;>exact SS hq
theorem J1{p:Pos}{target:PySem.Expr}{is:List Nat}{xs:List Str}{bb:Ss}{body:List Stmt}(O:F.Ok C)(W:F.Own ns)(ht:dH target=some xs)(hi:gB F.env.scope ns is xs=true)(hp:plainHead l=true)
  (ha:au C F ns Γ a l) (hb:hU C F ns Γ bb body):bM C F ns Γ (.for is a bb) (.For target l body [] p):=by
 intro ρ m φ h ex P q σ₀ σ Er s t hP hE
 refine wpAny_For ((ha _ _ _ _ _ _ _ q).on s t λφ1 h1 x v σ1 p1 s1 t1 vx q1=>?_) λx=>vK hp _ _
 cases x with
 |none=>exact q1.elim
 |bool b=>exact q1.elim
 |int i=>exact q1.elim
 |gt k=>exact q1.elim
 |ref n=>
  refine am vx λpp hpp ae=>?_;clear vx;subst ae
  simp only[lD]at q1
  ·refine am (rE q1) λys hy q1=>?_
   refine xE q1 λk q1=>?_
   refine bx (s1.re.objs hpp hy) λpL k0 g0 vI _=>?_
   refine Wn ⟨_,g0,rfl,_,rfl⟩ ?_
   refine xA (s1.put (ob:={cls:= .type "list_iterator",data:= .fields #[.ref pp.1,.int 0 0]}) (tk:=σ1.toks) rfl) λs2 sc=>?_
   have hφ:∀φ',φ1<+:φ'->φ'[n]? =some pp:=λφ' pf=>by
    refine xE pf λu ae=>?_;clear pf;subst ae
    rw[SA (Sr.mp hpp).1];exact hpp
   refine codeAny_mono (vU (N:=P.N) (Rt:=P.R) (Xx:=P.X) (φ:=φ1) (Er:=Er) O W ht hi sc hb (λk ob ρ h'=>∃i,mZ ob pp.1 i/\gq (λx ρ h N=>match dY h is.length x with|some vs=>ag C.T Γ F.n bb (dF ρ is vs) h ⟨N,P.R,bot⟩|Option.none=>False) n P.N k i ρ h')
    (λk ob ρ m φ' h' s Q E iv pf st tk hn hs=>?_) k _ ρ m φ1 h1 _ ⟨0,⟨rfl,rfl⟩,q1⟩ (Tj _) s2 t1) λr s' z=>?_
   ·refine am iv λi hI q=>?_;clear iv
    cases k with
    |zero=>exact q.elim
    |succ k=>
     rw[gq]at q
     ·refine am (rE q) λys hy q=>?_
      refine AS (es:=[]) st (λq hq=>by rw[Sx.mp hq];exact sc) (λq hq=>nomatch hq) O.handled hy (hφ _ pf) hI (λcI x v aJ ex' vx hI' st'=>?_) λen aJ st'=>?_
      ·simp only[ex']at q
       exact hs cI x v _ _ st' vx (λQ' E' hq=>AT (st'.re.ex (_,cI) Sq).1 hI' hq) q λρ h hN=>⟨k,TN _,i+1,hI',hN⟩
      ·simp only[en]at q
       exact hn _ st' q
   ·cases r with
    |ok f=>exact z.from p1
    |error e=>exact z
 |str x=>
  refine xE vx λtx ae=>?_;clear vx;subst ae
  simp only[lD]at q1
  have main:∀(ty:String),(ty="str_ascii_iterator"\/ty="str_iterator")->codeAny (model C.prog C.w) F.A (.forLoop target (.ref σ1.heap.objs.size) body [] F.env) (λr s'=>match r with| .ok f=>fM C F ns φ ex σ₀ P f s'| .error e=>cameBackBy (model C.prog C.w) F.A F.env Er e s')
    {σ1 with heap:=σ1.heap.push {cls:= .type ty,data:= .fields #[.str ⟨x.toArray⟩ tx,.int 0 0]}}:=by
   intro ty hty
   refine xA (s1.put (ob:={cls:= .type ty,data:= .fields #[.str ⟨x.toArray⟩ tx,.int 0 0]}) (tk:=σ1.toks) rfl) λs2 sc=>?_
   refine codeAny_mono (vU (N:=P.N) (Rt:=P.R) (Xx:=P.X) (φ:=φ1) (Er:=Er) O W ht hi sc hb (λk ob ρ h'=>∃i,vV ob ty ⟨x.toArray⟩ tx i/\k=x.length-i/\gr (λx ρ h N=>match dY h is.length x with|some vs=>ag C.T Γ F.n bb (dF ρ is vs) h ⟨N,P.R,bot⟩|Option.none=>False) P.N ((x.drop i).map λc=>V.str [c]) ρ h')
    (λk ob ρ m φ' h' s Q E iv pf st tk hn hs=>?_) x.length _ ρ m φ1 h1 _ ⟨0,⟨rfl,rfl⟩,rfl,q1⟩ (Tj _) s2 t1) λr s' z=>?_
   ·refine aN iv λi hI hk q=>?_;clear iv
    refine JZ hty st sc O.handled hI (λcI c aJ ex' hI' st'=>?_) λen aJ st'=>?_
    ·have ex':x[i]? =some c:=by simpa using ex'
     have hlt:=(Sr.mp ex').1
     rw[Tr hlt,(Sr.mp ex').2,Th,gr]at q
     refine hs cI (.str [c]) _ _ _ st' ⟨_,rfl⟩ (λQ' E' hq=>?_) q λρ h hN=>⟨x.length-(i+1),by exact aZ 0x1f023e49312e4991a323e10 rfl hk (SJ (af 0xf191a01e10 rfl hlt)) (SJ (af 0xf101e10 rfl hlt)),i+1,hI',rfl,hN⟩
     exact J0 hq
    ·have en:x[i]? =none:=by simpa using en
     rw[TR (Tz.mp en),Ut,gr]at q
     exact hn _ st' q
   ·cases r with
    |ok f=>exact z.from p1
    |error e=>exact z
  cases ha:(⟨x.toArray⟩:Str).cps.all (· <128)with
  |true=>exact wpAny_pyIter_ascii ha (main _ (.inl rfl))
  |false=>exact wpAny_pyIter_wide ha (main _ (.inr rfl))
theorem J2{p pr pn pt:Pos}{i:Nat}{x:Str}{bb:Ss}{body:List Stmt}(O:F.Ok C)(W:F.Own ns)(hi:cF F.env.scope ns i x=true)(hr:bz F.env.scope "range"=true)(hp:plainHead l=true)
  (ha:au C F ns Γ a l) (hb:hU C F ns Γ bb body):bM C F ns Γ (.dX i a bb) (.For (.Name x pt) (.Call (.Name "range" pn) [l] [] pr) body [] p):=by
 intro ρ m φ h ex P q σ₀ σ Er s t hP hE
 refine wpAny_For (Call_ (kG O s (by decide) PyProof.Rows.boot_range hr (rU hp ((ha _ _ _ _ _ _ _ q).on s t λφ1 h1 y v σ1 p1 s1 t1 vy q1=>?_)))) λx=>rfl
 ·refine am (zV q1) λk zz q1=>?_;subst zz
  refine xE vy λtk ae=>?_;clear vy;subst ae
  refine du q1 λhk0 hk q1=>?_
  have hk:k<=1000000:=hk
  refine call_range_1 ?_
  have up:∀b o,σ1.heap.get? b=some o->(σ1.heap.push {cls:= .type "range",data:= .fields #[.int 0 σ1.toks,.int k tk,.int 1 (σ1.toks+1)]}).get? b=some o:=λb o e=>SO _ e
  have hsz:Builtin.Range.rangeSize 0 k 1=k:=by
   unfold Builtin.Range.rangeSize
   simp only[Int.sub_zero,Int.ediv_one,gt_iff_lt,show(0:Int)<1 by decide,if_true]
   split<;>lia
  have hsmall:Builtin.Range.small 0 k 1=true:=by
   unfold Builtin.Range.small Builtin.Range.rangeFitsLong
   rw[hsz]
   simp
   lia
  refine wpAny_pyIter_range (.new _ _ _ _ _ _ _) hsmall ?_
  refine xA ((s1.keep (tk:=σ1.toks+1+1) up).put (ob:={cls:= .type "range_iterator",data:= .fields #[rawInt 0,rawInt (Builtin.Range.rangeSize 0 k 1),rawInt 1]}) (tk:=σ1.toks+1+1) rfl) λs2 sc=>?_
  refine codeAny_mono (vU (N:=P.N) (Rt:=P.R) (Xx:=P.X) (φ:=φ1) (Er:=Er) O W (target:= .Name x pt) (xs:=[x]) rfl (by simp[gB,hi]:gB F.env.scope ns [i] [x]=true) sc hb
   (λj ob ρ h'=>∃d:Nat,ob={cls:= .type "range_iterator",data:= .fields #[rawInt d,rawInt (k-d),rawInt 1]}/\j=k.toNat-d/\gr (λx ρ h N=>ag C.T Γ F.n bb (bE ρ i x) h ⟨N,P.R,bot⟩) P.N (((List.range k.toNat).drop d).map λj=>V.int (Int.ofNat j)) ρ h')
   (λj ob ρ m φ' h' s Q E iv pf st tk hn hs=>?_) k.toNat _ ρ m φ1 h1 _ ⟨0,by rw[hsz];simp,rfl,q1⟩ (Tj _) s2 (UV _ _)) λr s' z=>?_
  ·refine aN iv λd ae hj q=>?_;clear iv;subst ae
   have g:=(st.re.ex _ Sq).1
   by_cases hd:d<k.toNat
   ·have hlt:d<(List.range k.toNat).length:=by simpa using hd
    rw[Tr hlt,Th,gr,List.getElem_range]at q
    refine wpAny_pyNext_range_item (x:=d) (left:=k-d) (step:=1) g (by lia) λaJ J3 gE=>?_
    refine hs _ (.int d) _ _ _ (st.one (tk:=s.toks+1) sc J3 gE.extBut) ⟨_,rfl⟩ (λQ' E' hq=>SS hq) (show ag C.T Γ F.n bb (bE ρ i (.int d)) h' _ from q) λρ h hN=>⟨k.toNat-(d+1),by exact aZ 0x1f023e49312e4991a323e10 rfl hj (SJ (af 0xf191a01e10 rfl hd)) (SJ (af 0xf101e10 rfl hd)),d+1,?_,rfl,hN⟩
    have e1:((d+1:Nat):Int)=(d:Int)+1:=by lia
    rw[e1,Int.sub_sub]
   ·have hle:(List.range k.toNat).length<=d:=by simpa using hd
    rw[TR hle,Ut,gr]at q
    refine wpAny_pyNext_range_end O.handled (x:=d) (left:=k-d) (step:=1) g (by lia) λaJ he=>?_
    exact hn _ (st.gone (tk:=s.toks) sc he) q
  ·cases r with
   |ok f=>exact z.from p1
   |error e=>exact z
end
noncomputable def vW(e:PySem.Stmt)(p:Option Ex->Pos->Bool):Bool:=if h:e.ctorIdx=3 then PySem.Stmt.Return.elim (motive_2:=λ_=>Bool) e h p else false
@[elab_as_elim] theorem Bc{e:PySem.Stmt}{p:Option Ex->Pos->Bool}{M:PySem.Stmt->Prop}(h:vW e p=true)(k:∀x0 x1,p x0 x1=true->M (.Return x0 x1)):M e:=dk h λhc hp=>PySem.Stmt.Return.elim (motive_2:=λt=>∀hc:t.ctorIdx=3,PySem.Stmt.Return.elim (motive_2:=λ_=>Bool) t hc p=true->M t) e hc (λx0 x1 _=>k x0 x1) hc hp
noncomputable def lQ(e:PySem.Stmt)(p:List Ex->Ex->Pos->Bool):Bool:=if h:e.ctorIdx=5 then PySem.Stmt.Assign.elim (motive_2:=λ_=>Bool) e h p else false
@[elab_as_elim] theorem m8{e:PySem.Stmt}{p:List Ex->Ex->Pos->Bool}{M:PySem.Stmt->Prop}(h:lQ e p=true)(k:∀x0 x1 x2,p x0 x1 x2=true->M (.Assign x0 x1 x2)):M e:=dk h λhc hp=>PySem.Stmt.Assign.elim (motive_2:=λt=>∀hc:t.ctorIdx=5,PySem.Stmt.Assign.elim (motive_2:=λ_=>Bool) t hc p=true->M t) e hc (λx0 x1 x2 _=>k x0 x1 x2) hc hp
noncomputable def vX(e:PySem.Stmt)(p:Ex->Operator->Ex->Pos->Bool):Bool:=if h:e.ctorIdx=7 then PySem.Stmt.AugAssign.elim (motive_2:=λ_=>Bool) e h p else false
@[elab_as_elim] theorem Bd{e:PySem.Stmt}{p:Ex->Operator->Ex->Pos->Bool}{M:PySem.Stmt->Prop}(h:vX e p=true)(k:∀x0 x1 x2 x3,p x0 x1 x2 x3=true->M (.AugAssign x0 x1 x2 x3)):M e:=dk h λhc hp=>PySem.Stmt.AugAssign.elim (motive_2:=λt=>∀hc:t.ctorIdx=7,PySem.Stmt.AugAssign.elim (motive_2:=λ_=>Bool) t hc p=true->M t) e hc (λx0 x1 x2 x3 _=>k x0 x1 x2 x3) hc hp
noncomputable def vY(e:PySem.Stmt)(p:Ex->Ex->List Stmt->List Stmt->Pos->Bool):Bool:=if h:e.ctorIdx=9 then PySem.Stmt.For.elim (motive_2:=λ_=>Bool) e h p else false
@[elab_as_elim] theorem Be{e:PySem.Stmt}{p:Ex->Ex->List Stmt->List Stmt->Pos->Bool}{M:PySem.Stmt->Prop}(h:vY e p=true)(k:∀x0 x1 x2 x3 x4,p x0 x1 x2 x3 x4=true->M (.For x0 x1 x2 x3 x4)):M e:=dk h λhc hp=>PySem.Stmt.For.elim (motive_2:=λt=>∀hc:t.ctorIdx=9,PySem.Stmt.For.elim (motive_2:=λ_=>Bool) t hc p=true->M t) e hc (λx0 x1 x2 x3 x4 _=>k x0 x1 x2 x3 x4) hc hp
noncomputable def Bf(e:PySem.Stmt)(p:Ex->List Stmt->List Stmt->Pos->Bool):Bool:=if h:e.ctorIdx=11 then PySem.Stmt.While.elim (motive_2:=λ_=>Bool) e h p else false
@[elab_as_elim] theorem J4{e:PySem.Stmt}{p:Ex->List Stmt->List Stmt->Pos->Bool}{M:PySem.Stmt->Prop}(h:Bf e p=true)(k:∀x0 x1 x2 x3,p x0 x1 x2 x3=true->M (.While x0 x1 x2 x3)):M e:=dk h λhc hp=>PySem.Stmt.While.elim (motive_2:=λt=>∀hc:t.ctorIdx=11,PySem.Stmt.While.elim (motive_2:=λ_=>Bool) t hc p=true->M t) e hc (λx0 x1 x2 x3 _=>k x0 x1 x2 x3) hc hp
noncomputable def vZ(e:PySem.Stmt)(p:Ex->List Stmt->List Stmt->Pos->Bool):Bool:=if h:e.ctorIdx=12 then PySem.Stmt.If.elim (motive_2:=λ_=>Bool) e h p else false
@[elab_as_elim] theorem Bg{e:PySem.Stmt}{p:Ex->List Stmt->List Stmt->Pos->Bool}{M:PySem.Stmt->Prop}(h:vZ e p=true)(k:∀x0 x1 x2 x3,p x0 x1 x2 x3=true->M (.If x0 x1 x2 x3)):M e:=dk h λhc hp=>PySem.Stmt.If.elim (motive_2:=λt=>∀hc:t.ctorIdx=12,PySem.Stmt.If.elim (motive_2:=λ_=>Bool) t hc p=true->M t) e hc (λx0 x1 x2 x3 _=>k x0 x1 x2 x3) hc hp
noncomputable def Bh(e:PySem.Stmt)(p:Option Ex->Option Ex->Pos->Bool):Bool:=if h:e.ctorIdx=16 then PySem.Stmt.Raise.elim (motive_2:=λ_=>Bool) e h p else false
@[elab_as_elim] theorem J5{e:PySem.Stmt}{p:Option Ex->Option Ex->Pos->Bool}{M:PySem.Stmt->Prop}(h:Bh e p=true)(k:∀x0 x1 x2,p x0 x1 x2=true->M (.Raise x0 x1 x2)):M e:=dk h λhc hp=>PySem.Stmt.Raise.elim (motive_2:=λt=>∀hc:t.ctorIdx=16,PySem.Stmt.Raise.elim (motive_2:=λ_=>Bool) t hc p=true->M t) e hc (λx0 x1 x2 _=>k x0 x1 x2) hc hp
noncomputable def Bi(e:PySem.Stmt)(p:List Stmt->List ExceptHandler->List Stmt->List Stmt->Pos->Bool):Bool:=if h:e.ctorIdx=17 then PySem.Stmt.Try.elim (motive_2:=λ_=>Bool) e h p else false
@[elab_as_elim] theorem J6{e:PySem.Stmt}{p:List Stmt->List ExceptHandler->List Stmt->List Stmt->Pos->Bool}{M:PySem.Stmt->Prop}(h:Bi e p=true)(k:∀x0 x1 x2 x3 x4,p x0 x1 x2 x3 x4=true->M (.Try x0 x1 x2 x3 x4)):M e:=dk h λhc hp=>PySem.Stmt.Try.elim (motive_2:=λt=>∀hc:t.ctorIdx=17,PySem.Stmt.Try.elim (motive_2:=λ_=>Bool) t hc p=true->M t) e hc (λx0 x1 x2 x3 x4 _=>k x0 x1 x2 x3 x4) hc hp
noncomputable def so(e:PySem.Stmt)(p:Ex->Pos->Bool):Bool:=if h:e.ctorIdx=24 then PySem.Stmt.Expr.elim (motive_2:=λ_=>Bool) e h p else false
@[elab_as_elim] theorem v3{e:PySem.Stmt}{p:Ex->Pos->Bool}{M:PySem.Stmt->Prop}(h:so e p=true)(k:∀x0 x1,p x0 x1=true->M (.Expr x0 x1)):M e:=dk h λhc hp=>PySem.Stmt.Expr.elim (motive_2:=λt=>∀hc:t.ctorIdx=24,PySem.Stmt.Expr.elim (motive_2:=λ_=>Bool) t hc p=true->M t) e hc (λx0 x1 _=>k x0 x1) hc hp
theorem nt{b:Bool}(h:(!b)=true):b=false:=by rcases b with⟨⟩;rfl;exact bad h
noncomputable def m1(a:Ex)(b:Bool):Bool:=pA a λo c _=>decide (o= .USub)&&gw c λc _ _=>decide (c= .int 1)&&b
@[elab_as_elim] theorem im{a:Ex}{b:Bool}{M:Ex->Prop}(h:m1 a b=true)(k:∀n p p',b=true->M (.UnaryOp .USub (.Constant (.int 1) n p) p')):M a:=
 rH h λ_ _ p' h=>dG (M:=λo=>M (.UnaryOp o _ p')) h λh=>hG h λ_ n p h=>dG (M:=λc=>M (.UnaryOp .USub (.Constant c n p) p')) h (k n p p')
noncomputable def v4(b:Bool)(s:Stmt)(q:Bool):Bool:=vW s λv _=>oS v λv=>gw v λc _ _=>decide (c= .bool b)&&q
@[elab_as_elim] theorem Bj{b:Bool}{s:Stmt}{q:Bool}{M:Stmt->Prop}(h:v4 b s q=true)(k:∀n p p',q=true->M (.Return (some (.Constant (.bool b) n p)) p')):M s:=
 Bc h λ_ p' h=>iS h λ_ h=>hG h λ_ n p h=>dG (M:=λc=>M (.Return (some (.Constant c n p)) p')) h (k n p p')
noncomputable def sq(o:Op):Bool:=o.casesOn true true false false false false false
theorem Bk{o:Op}(h:sq o=true):o= .add\/o= .sub:=Op.casesOn (motive:=λo=>sq o=true->o= .add\/o= .sub) o (λ_=> .inl rfl) (λ_=> .inr rfl) bad bad bad bad bad h
noncomputable def Bl:E->Bool
 | .neg k=>decide (k=1)
 |_=>false
theorem J7{e:E}(h:Bl e=true):e= .neg 1:=by
 rcases e with⟨⟩<;>first|exact bad h|exact congrArg E.neg (of_decide_eq_true h)
section
variable(R:RT)(gn:Nat)(sc:Scope)(ns:List Str)(top:Bool)
noncomputable def J8(x:Str)(p':Pos)(v:Ex):E->Bool
 | .comp elt k src=>vd v λdJ gs sc' pc=>o1 gs λg=>rJ g λt it=>oS (dH t) λxs=>decide (k=xs.length)&&(iJ sc' xs&&aF R gn sc' xs elt dJ&&pk (aF R gn sc ns src) it&&p'.line==pc.line&& !(sc'.names.any λy=>y.1==x&&(y.2== .local||y.2== .cell)))
 |_=>false
noncomputable def Bm(i:Nat)(x:Str)(p':Pos)(v:PySem.Expr)(e:E):Bool:=cF sc ns i x&&(J8 R gn sc ns x p' v e||iM v&&aF R gn sc ns e v)
noncomputable def Bn(is:List Nat)(ts:List PySem.Expr)(k:Nat)(tp:Pos)(v:PySem.Expr)(e:E):Bool:=oS (dH (.Tuple ts k tp)) λxs=>gB sc ns is xs&&iM v&&vS v&&aF R gn sc ns e v
noncomputable def Bo(is:List Nat)(ts:List Ex)(v:Ex)(e:E):Bool:=o2 is λi j=>o2 ts λa b=>eG a λx px=>eG b λy py=>oTup v λvs k2 p2=>cF sc ns i x&&cF sc ns j y&& !(x==y)&&px.line==py.line&&decide (vs.length=2)&& !(vs.any isStar)&& !(vs.all (foldedForSure 8))&& !(vs.all (constantsAlone 8))&&aF R gn sc ns e (.Tuple vs k2 p2)
noncomputable def m9:Str:="BadPgn"
noncomputable def v6(e:E)(v:Ex):Bool:=hJ v λf xs kw _=>eG f λn _=>o2 xs λa t=>oE kw (n==m9&&m1 a (gw t λc _ _=>pC c λ_=>bz sc m9&&Bl e))
noncomputable def Bp(n:Str)(s:Stmt)(q:Bool):Bool:=vZ s λc b y _=>mU c λa o r=>iI a λx m _=>eG x λx _=>x==n&&(m==("at":Str)&&(decide (o= .NotEq)&&m1 r (o1 b λs=>v4 false s (oE y q))))
@[elab_as_elim] theorem J9{n:Str}{s:Stmt}{q:Bool}{M:Stmt->Prop}(h:Bp n s q=true)(k:∀k1 k2 p1 p2 p3 p4 p5 p6 p7 p8,q=true->M (.If (.Compare (.Attribute (.Name n p1) ("at":Str) p2) [.NotEq] [.UnaryOp .USub (.Constant (.int 1) k1 p3) p4] p5) [.Return (some (.Constant (.bool false) k2 p6)) p7] [] p8)):M s:=
 Bg h λc b y p8 h=>pF h λa o r p5 h=>jd h λx m p2 h=>fh h λx p1 h=>dZ (M:=λx=>M (.If (.Compare (.Attribute (.Name x p1) m p2) [o] [r] p5) b y p8)) h λh=>dZ (M:=λm=>M (.If (.Compare (.Attribute (.Name n p1) m p2) [o] [r] p5) b y p8)) h λh=>dG (M:=λo=>M (.If (.Compare (.Attribute (.Name n p1) "at" p2) [o] [r] p5) b y p8)) h λh=>im h λk1 p3 p4 h=>i1 h λs h=>Bj h λk2 p6 p7 h=>iE h λh=>k k1 k2 p1 p2 p3 p4 p5 p6 p7 p8 h
noncomputable def Ka(h:ExceptHandler):Bool:=h.casesOn λt n b _=>oS t λt=>oS n λn=>eG t λy _=>o1 b λs=>y==m9&&Bp n s (bz sc m9&&sc.names.lookup n==some .local&& !(n==("__debug__":Str))&& !ns.contains n)
noncomputable def v7(f:Nat)(es:Es)(body:List Stmt)(hs:List ExceptHandler):Bool:=o2 body λs1 s2=>so s1 λv _=>v4 false s2 (o1 hs λh=>Ka sc ns h&&aF R gn sc ns (.call f es) v)
mutual
noncomputable def Bq:S->Stmt->Bool
 | .assign i e=>λs=>lQ s λts v _=>o1 ts λt=>eG t λx p'=>Bm R gn sc ns i x p' v e
 | .unpack is e=>λs=>lQ s λts v _=>o1 ts λt=>oTup t λts k tp=>Bn R gn sc ns is ts k tp v e||Bo R gn sc ns is ts v e
 | .setattr a f e=>λs=>lQ s λts v _=>o1 ts λt=>iI t λo n _=>n==R.fld f&&(iM v&&aF R gn sc ns e v&&aF R gn sc ns a o&&decide (f<17))
 | .jB a i e=>λs=>lQ s λts v _=>o1 ts λt=>mT t λo ix _=>iM v&&aF R gn sc ns e v&&aF R gn sc ns a o&&aF R gn sc ns i ix
 | .aug i op e=>λs=>vX s λt o v _=>eG t λx _=>cF sc ns i x&&kt op o&&sq op&&aF R gn sc ns e v
 | .kj a f op e=>λs=>vX s λt o v _=>iI t λb n _=>n==R.fld f&&(aF R gn sc ns a b&&decide (f<17)&&kt op o&&sq op&&aF R gn sc ns e v)
 | .expr e=>λs=>so s λv _=>iM v&&aF R gn sc ns e v
 | .ite c a b=>λs=>vZ s λt x y _=>aF R gn sc ns c t&&hV a x&&hV b y
 | .while c b=>λs=>Bf s λt x y _=>oE y (aF R gn sc ns c t&&hV b x)
 | .for is e b=>λs=>vY s λt v x y _=>oE y (oS (dH t) λxs=>gB sc ns is xs&&pk (aF R gn sc ns e) v&&hV b x)
 | .dX i e b=>λs=>vY s λt v x y _=>eG t λt _=>oE y (oG sc v λr l=>r==("range":Str)&&o1 l λv=>cF sc ns i t&&pk (aF R gn sc ns e) v&&hV b x)
 | .ret e=>λs=>vW s λv _=>oS v λv=>aF R gn sc ns e v
 | .raise e=>λs=>Bh s λv c _=>oS v λv=>oN c (v6 sc e v)
 | .ff f es=>λs=>Bi s λbody hs x y _=>oE x (oE y (top&&v7 R gn sc ns f es body hs))
 | .dead=>λ_=>true
noncomputable def hV:Ss->List Stmt->Bool
 | .nil=>λxs=>xs.isEmpty
 | .cons s r=>λxs=>oC xs λx xs=>Bq s x&&hV r xs
end
end
structure Raises(C:Cx):Prop where
 raise:∀{F:Fx} {ns:List Str} {e:E} {v:PySem.Expr} {p:Pos},F.Ok C->F.Own ns->F.env=F.fe->v6 F.env.scope e v=true->bM C F ns (Sp C) (.raise e) (.Raise (some v) none p)
 Br:∀{F:Fx} {ns:List Str} {f:Nat} {es:Es} {body:List Stmt} {hs:List ExceptHandler} {p:Pos},F.Ok C->F.Own ns->F.env=F.fe->F.outer=[]->v7 C.R C.gn F.env.scope ns f es body hs=true->bM C F ns (Sp C) (.ff f es) (.Try body hs [] [] p)
 leave:∀{F:Fx} {h₀:Heap} {L:Addr} {m:Str->Option Value} {env:Env} {outer:List Env} {φ:Pl} {h:H} {ex:List (Addr×Obj)} {σ₀ σ:Shared} {e:Value} {x:V} {Q:Unit->Shared->Prop} {E:Value->Shared->Prop},
  F.Ok C->F.outer=env::outer->Fr h₀ L F.h₀ m->env.frame=some L->
  Zs C F φ h ex σ₀ e x σ->(∀σ',Rest σ₀ σ'->C.Z h₀ L m (env::outer) φ h ex e x σ'->Q () σ')->wpAny (model C.prog C.w) F.A (leaving F.fe e) Q E σ
section
variable{C:Cx}{F:Fx}{ns:List Str}
theorem Kb(hi:∀c,c<3->C.R.b7 (C.T.init c)=C.R.init c)(O:F.Ok C)(W:F.Own ns){i:Nat}{x:Str}{p p':Pos}{v:Ex}{e:E}(h:Bm C.R C.gn F.env.scope ns i x p' v e=true):bM C F ns (Sp C) (.assign i e) (.Assign [.Name x p'] v p):=by
 refine xA (an h) λh1 h0=>?_
 clear h
 refine Ts (Vh.mp h0) (λh=>?_) λh=>JC O W h1 (an h).1 (sound hi _ _ _ _ O (an h).2).1
 clear h0
 rcases e with⟨⟩<;>try exact bad h
 refine Ac h λdJ gs sc' pc h=>i1 h λg h=>Ad h λt it h=>am (pD h) λxs ht h=>?_
 obtain rfl:=of_decide_eq_true (an h).1
 have h:=pM (an h).2
 have z:=c8 h.1.1.2
 have hk:=h.1.1.1.1
 simp only[iJ,S8,beq_iff_eq]at hk
 exact JD O W h1 ht h.1.1.1.1 z.1 (eq_of_beq h.1.2) (nt h.2) (sound hi _ _ _ _ O z.2).1 λa=>(sound hi _ _ _ _ (O.comp hk.1.1.1 a) h.1.1.1.2).1
theorem Kc(hi:∀c,c<3->C.R.b7 (C.T.init c)=C.R.init c)(O:F.Ok C)(W:F.Own ns){is:List Nat}{ts:List Ex}{k:Nat}{tp p:Pos}{v:Ex}{e:E}(h:(Bn C.R C.gn F.env.scope ns is ts k tp v e||Bo C.R C.gn F.env.scope ns is ts v e)=true):bM C F ns (Sp C) (.unpack is e) (.Assign [.Tuple ts k tp] v p):=
 (Vh.mp h).elim (λh=>am (pD h) λxs ht h=>have h:=jh h;JQ O W ht h.1.1.1 h.1.1.2 h.1.2 (sound hi _ _ _ _ O h.2).1) λh=>
  i2 h λi j h=>i2 h λa b h=>fh h λx px h=>fh h λy py h=>u7 h λvs k2 p2 h=>have h9:=(an h).2;have h:=jh (an h).1;have g:=pM h.1.1.1;JV O W g.1.1.1.1 g.1.1.1.2 (nt g.1.1.2) (eq_of_beq g.1.2) (of_decide_eq_true g.2) (nt h.1.1.2) (nt h.1.2) (nt h.2) (sound hi _ _ _ _ O h9).1
set_option maxHeartbeats 4000000 in
theorem Bt(hi:∀c,c<3->C.R.b7 (C.T.init c)=C.R.init c)(Z:Raises C)(O:F.Ok C)(W:F.Own ns)(hfe:F.env=F.fe){top:Bool}(ht:top=true->F.outer=[])(ss:Ss):∀(sts:List Stmt),hV C.R C.gn F.env.scope ns top ss sts=true->hU C F ns (Sp C) ss sts:=
 Ss.rec (motive_1:=λs=>∀st,Bq C.R C.gn F.env.scope ns top s st=true->bM C F ns (Sp C) s st) (motive_2:=λss=>∀sts,hV C.R C.gn F.env.scope ns top ss sts=true->hU C F ns (Sp C) ss sts)
 (λ_ _ st h=>m8 h λ_ _ _ h=>i1 h λ_ h=>fh h λ_ _ h=>Kb hi O W h)
 (λ_ _ st h=>m8 h λ_ _ _ h=>i1 h λ_ h=>u7 h λ_ _ _ h=>Kc hi O W h)
 (λ_ _ _ st h=>m8 h λ_ _ p h=>i1 h λ_ h=>jd h λ_ _ _ h=>dZ (M:=λn=>bM C F ns (Sp C) _ (.Assign [.Attribute _ n _] _ p)) h λh=>have h:=jh h;JG O (of_decide_eq_true h.2) h.1.1.1 (sound hi _ _ _ _ O h.1.2).1 (sound hi _ _ _ _ O h.1.1.2).1)
 (λ_ _ _ st h=>m8 h λ_ _ _ h=>i1 h λ_ h=>pB h λ_ _ _ h=>have h:=jh h;JN O h.1.1.1 (sound hi _ _ _ _ O h.1.2).1 (sound hi _ _ _ _ O h.2).1 (sound hi _ _ _ _ O h.1.1.2).1)
 (λ_ _ _ st h=>Bd h λ_ _ _ _ h=>fh h λ_ _ h=>have h:=jh h;JI O W h.1.1.1 h.1.1.2 (Bk h.1.2) (sound hi _ _ _ _ O h.2).1)
 (λ_ _ _ _ st h=>Bd h λ_ _ _ p h=>jd h λ_ _ _ h=>dZ (M:=λn=>bM C F ns (Sp C) _ (.AugAssign (.Attribute _ n _) _ _ p)) h λh=>have h:=pM h;JH O (of_decide_eq_true h.1.1.1.2) h.1.1.2 (Bk h.1.2) (sound hi _ _ _ _ O h.1.1.1.1).1 (sound hi _ _ _ _ O h.2).1)
 (λ_ st h=>v3 h λ_ _ h=>JJ O (an h).1 (sound hi _ _ _ _ O (an h).2).1)
 (λ_ _ _ a b st h=>Bg h λ_ _ _ _ h=>have h:=b8 h;JL (sound hi _ _ _ _ O h.1.1).2 (a _ h.1.2) (b _ h.2))
 (λ_ _ b st h=>J4 h λ_ _ _ _ h=>iE h λh=>JW O (sound hi _ _ _ _ O (an h).1).2 (b _ (an h).2))
 (λ_ _ _ b st h=>Be h λ_ _ _ _ _ h=>iE h λh=>am (pD h) λ_ ht' h=>have h:=b8 h;have z:=c8 h.1.2;J1 O W ht' h.1.1 z.1 (sound hi _ _ _ _ O z.2).1 (b _ h.2))
 (λ_ _ _ b st h=>Be h λ_ _ _ _ p h=>fh h λ_ _ h=>iE h λh=>vQ (M:=λv=>bM C F ns (Sp C) _ (.For _ v _ [] p)) h λ_ _ _ _ g h=>dZ (M:=λr=>bz F.env.scope r=true->bM C F ns (Sp C) _ (.For _ (.Call (.Name r _) _ [] _) _ [] p)) h (λh g=>i1 h λ_ h=>have h:=b8 h;have z:=c8 h.1.2;J2 O W h.1.1 g z.1 (sound hi _ _ _ _ O z.2).1 (b _ h.2)) g)
 (λ_ st h=>Bc h λ_ _ h=>iS h λ_ h=>JK (sound hi _ _ _ _ O h).1)
 (λ_ st h=>J5 h λ_ _ _ h=>iS h λ_ h=>iN h λh=>Z.raise O W hfe h)
 (λ_ _ st h=>J6 h λ_ _ _ _ _ h=>iE h λh=>iE h λh=>Z.Br O W hfe (ht (an h).1) (an h).2)
 (λ_ _ _ _ _ _ _ _ q=>q.elim)
 (λsts h=>TP.mp h▸JA)
 (λ_ _ a b sts h=>iC (M:=λsts=>hU C F ns (Sp C) _ sts) h λ_ _ h=>JB (a _ (an h).1) (b _ (an h).2)) ss
end
end Mine
namespace Mine
open PySem PySem.W PySem.Calls PyProof.Rows PySem.Spec
structure pN(C:Cx)(top:Bool)(fd:FuncData)(fn:Fn)(ns:List Str)(body:List Stmt):Prop where
 text:fd.body= .stmts body
 globals:fd.globals=mainGlobals
 closure:fd.closure=[]
 builtins:fd.builtins=builtinsNs
 kind:fd.scope.kind= .function
 gen:fd.scope.isGenerator=false
 co:fd.scope.isCoroutine=false
 cell:∀x∈fd.scope.names,x.2≠ .cell
 nd:ns.Nodup
 len:ns.length=fn.slots
 par:fn.params<=fn.slots
 loc:∀x∈ns.take fn.params,fd.scope.names.lookup x=some .local
 binds:∀xs:List Value,xs.length=fn.params->bindArgs fd ⟨xs,[]⟩=pure ((ns.take fn.params).zip xs)
 ok:hV C.R C.gn fd.scope ns top fn.body body=true
theorem Bu{xs:List Str}:∀{ns:List Str} {vs:List Value} {i:Nat} {x:Str} {v:Value},ns.Nodup->ns[i]? =some x->vs[i]? =some v->(ns.zip vs).lookup x=some v
 | [],vs,i,x,v,_,h,_=>by simp at h
 |n::ns,[],i,x,v,_,_,h=>by simp at h
 |n::ns,w::vs,0,x,v,nd,h,h'=>by
  simp at h h'
  subst h;subst h'
  simp
 |n::ns,w::vs,i+1,x,v,nd,h,h'=>by
  simp at h h'
  rw[Uu,TO]
  have hne:(x==n)=false:=by
   have:x∈ns:=Sy h
   simp
   rintro rfl
   exact((TX.mp nd).1) ‹_›
  rw[hne]
  exact Bu (xs:=[]) (TX.mp nd).2 h h'
theorem Kd{l:List (Str×Value)}(nd:(l.map (·.1)).Nodup)(x:Str):l.reverse.lookup x=l.lookup x:=by
 induction l with
 |nil=>rfl
 |cons p r ih=>
  rw[Th,TX]at nd
  rw[UH,List.lookup_append,ih nd.2,TO]
  obtain⟨p1,p2⟩:=p
  by_cases hx:x=p1
  ·subst hx
   have:r.lookup x=none:=by
    rw[List.lookup_eq_none_iff]
    intro q hq
    have:q.1≠x:=λz=>nd.1 (by rw[←z];exact Ua (f:=(·.1)) hq)
    simpa usingλz=>this z.symm
   rw[this,TO]
   simp
  ·have hx':(x==p1)=false:=by simpa using hx
   rw[TO]
   simp only[hx']
   cases r.lookup x<;>rfl
section
variable{C:Cx}
theorem Ke{R:RT}{φ:Pl}{fn:Fn}{ns:List Str}(nd:ns.Nodup)(len:ns.length=fn.slots)(par:fn.params<=fn.slots){vs:List V}{xs:List Value}(hv:aD R φ vs xs)(hl:vs.length=fn.params):
  Lo R φ ns (frame fn vs) (λy=>((ns.take fn.params).zip xs).reverse.lookup y):=by
 have Bv:(ns.take fn.params).Nodup:=nd.sublist (Vu _ _)
 have hz:((ns.take fn.params).zip xs).map (·.1)=ns.take fn.params:=by
  rw[List.map_fst_zip]
  rw[(hv.length.trans hl:xs.length=fn.params),TK];exact Uy _ _
 refine⟨by simp[frame,hl];exact SK (aK 0xf09232e19323e10 rfl len (SJ (af 0xf100e10 rfl par))) (aK 0xf92303e19322e10 rfl len (SJ (af 0xf100e10 rfl par))),λi x v a b=>?_⟩
 unfold frame at b
 by_cases hi:i<fn.params
 ·rw[SA (by simp[hl];exact hi)]at b
  rw[TT]at b
  cases e:vs[i]? with
  |none=>rw[e]at b;(exact nn b)
  |some w=>
   rw[e]at b
   rcases b with⟨⟩
   refine am (hv.get e) λr er vr=>?_
   refine⟨r,?_,vr⟩
   show((ns.take fn.params).zip xs).reverse.lookup x=some r
   rw[Kd (by rw[hz];exact Bv)]
   exact Bu (xs:=[]) Bv (by rw[VD hi];exact a) er
 ·rw[Tn (by simp[hl];exact af 0xf100e10 rfl (S7 hi))]at b
  rw[U0]at b
  split at b<;>rcases b with⟨⟩
theorem Bw{fd:FuncData}{body:List Stmt}(kb:fd.body= .stmts body)(kg:fd.globals=mainGlobals)(kc:fd.closure=[])(pO:fd.builtins=builtinsNs):fd=fnX fd.name fd.qualname fd.params body fd.scope [] fd.defaults fd.kwdefaults fd.doc fd.pyModule fd.annotations fd.code fd.closureTuple:=by
 show fd=⟨fd.name,fd.qualname,fd.params,.stmts body,fd.scope,mainGlobals,[],fd.defaults,fd.kwdefaults,fd.doc,fd.pyModule,fd.annotations,fd.code,fd.closureTuple,builtinsNs⟩
 rw[←kb,←kg,←kc,←pO]
theorem v8{prog:Program}{w:World}{A₀ A:Around}{s:Shared}{base h₀:Heap}{outer:List Env}{L:Addr}{m:Str->Option Value}{env:Env}{news:List (Addr×Obj)}{fd:FuncData}{body:List Stmt}{f:Addr}{fo:Obj}{args:Args}{binds:List (Str×Value)}{R:Result->Shared->Prop}(kb:fd.body= .stmts body)(kg:fd.globals=mainGlobals)(kc:fd.closure=[])(pO:fd.builtins=builtinsNs)
  (B:Below A₀ base outer h₀) (F:Fr h₀ L s.heap m) (N:News h₀ L s.heap news) (hlim:h₀.NoLimit) (hA:A.frames=some (env::outer)) (hf:env.frame=some L) (hke:env.scope.kind= .function)
  (ho:s.heap.get? f=some fo) (hd:fo.data= .func fd) (hcd:s.heap.CodeRec fd.code fd.qualname) (hroom:A.depth<recursionLimit) (hbind:BindsTo s fd args binds) (hloc:∀y∈binds,fd.scope.names.lookup y.1=some .local)
  (h:∀g L' h₁,Fr h₀ L g m->Fr g L' h₁ (λy=>binds.reverse.lookup y)->News g L' h₁ news->Below A base (env::outer) g->h₀.StaysIn g->
   wpAny (model prog w) (A.deeper (envX fd.qualname fd.scope L' f fd.code [])) (execs body (envX fd.qualname fd.scope L' f fd.code []))
    (λfl s'=>LeaveK h₀ L m g R (match fl with| .ret v=>v|_=> .none) s')
    (λe s'=>wpAny (model prog w) (A.deeper (envX fd.qualname fd.scope L' f fd.code [])) (leaving (envX fd.qualname fd.scope L' f fd.code []) e) (λ_ s''=>R (.error e) s'') (λe' s''=>R (.error e') s'') s')
    {s with heap:=h₁,toks:=s.toks+binds.length})
  (hcell:∀x∈fd.scope.names,x.2≠ .cell) (hco:fd.scope.isCoroutine=false) (hgen:fd.scope.isGenerator=false) (hk:fd.scope.kind= .function):codeAny (model prog w) A (.call (.ref f) args) R s:=by
 have e:=Bw kb kg kc pO
 exact callX_plain B F N hlim hA hf hke ho (hd.trans (congrArg Data.func e)) hcd hroom (Eq.mp (congrArg (λd=>BindsTo s d args binds) e) hbind) hloc (λg L' h₁ a b c d e _=>h g L' h₁ a b c d e) hcell hco hgen hk
theorem Kf(hi:∀c,c<3->C.R.b7 (C.T.init c)=C.R.init c)(Z:Raises C){top:Bool}{f:Nat}{fn:Fn}{ns:List Str}{body:List Stmt}(hf:C.fns f=some fn)(K:pN C top (C.jg f) fn ns body)
  {n:Nat} {vs:List V} {h:H} {Q X:Post} (q:u3 C.T (Sp C) n fn vs h Q X)
  (A A₀:Around) (base:Heap) (outer:List Env) (env:Env) (h₀:Heap) (L:Addr) (m:Str->Option Value) (φ:Pl) (ex:List (Addr×Obj)) (σ:Shared) (xs:List Value) (ht:top=true->False)
  (B:Below A₀ base outer h₀) (hfr:A.frames=some (env::outer)) (hfm:env.frame=some L) (hk:env.scope.kind= .function) (hh:A.handled=none) (hB:Bs C h₀) (room:lF A n)
  (F:Fr h₀ L σ.heap m) (r:Re C.R h₀ L φ h ex σ.heap) (hv:aD C.R φ vs xs) (t:1<=σ.toks):
  codeAny (model C.prog C.w) A (.call (.ref (C.R.b7 f)) ⟨xs,[]⟩) (λr σ'=>match r with
   | .ok (.ret v)=>∃φ' h' x,φ<+:φ'/\Fr h₀ L σ'.heap m/\Re C.R h₀ L φ' h' ex σ'.heap/\VR C.R φ' x v/\Q x h'/\Rest σ σ'
   | .ok _=>False
   | .error e=>∃φ' h' x,φ<+:φ'/\X x h'/\Rest σ σ'/\C.Z h₀ L m (env::outer) φ' h' ex e x σ') σ:=by
 refine aN (hB.code f fn hf) λo ho hd hcd=>?_
 refine xA q λhl q=>?_
 have Bx:xs.length=fn.params:=hv.length.trans hl
 generalize C.jg f=fd at K hd hcd
 have lR:((ns.take fn.params).zip xs).length=fn.params:=by have:=K.len;have:=K.par;simp[Bx];lia
 refine v8 K.text K.globals K.closure K.builtins B F r.news hB.nolimit hfr hfm hk (F.keep _ _ ho) hd (hcd.keeps F.keep) (by show _<1000;exact aK 0x1f301e392910 rfl room.1) (Vr (K.binds xs Bx)) (λy hy=>K.loc _ (Vf hy).1) (λg L' h₁ Fg F' N' B' st=>?_) K.cell K.co K.gen K.kind
 let e':Env:=envX fd.qualname fd.scope L' (C.R.b7 f) fd.code []
 let kK:Fx:={A:=A.deeper e',A₀:=A,base:=base,outer:=env::outer,fe:=e',env:=e',h₀:=g,L:=L',n:=n}
 have Kg:A.depth+1+3*n+102<1000/\A.units+3+16*n+128<9900:=by
  unfold lF at room
  exact⟨ah 0x1f29662b9191a01e29682b910 rfl room.1,ah 0x1f29802b9193a01e298c2b910 rfl room.2⟩
 have O:kK.Ok C:={below:=B',frames:=by show A.frames.map (e':: ·)=_;rw[hfr];rfl,fL:=rfl,gy:=K.kind,ky:=K.gen,kD:=K.co,jG:=rfl,kE:=rfl,handled:=hh,kind:=K.kind,globals:=rfl,builtins:=rfl,bs:=hB.keeps st,room:=Kg}
 have s0:St C kK ns (frame fn vs) (λy=>((ns.take fn.params).zip xs).reverse.lookup y) (λy=>((ns.take fn.params).zip xs).reverse.lookup y) φ h ex σ {σ with heap:=h₁,toks:=σ.toks+((ns.take fn.params).zip xs).length}:=
  ⟨F',r.ofNews N',Ke K.nd K.len K.par hv hl,.inl ⟨rfl,rfl⟩,Rest.refl⟩
 have done:∀{v:Value} {φ':Pl} {h':H} {ρ':Loc} {m':Str->Option Value} {x:V} {σ':Shared},φ<+:φ'->St C kK ns ρ' m' m' φ' h' ex σ σ'->VR C.R φ' x v->Q x h'->
   LeaveK h₀ L m g (λr σ'=>match r with
    | .ok (.ret v)=>∃φ' h' x,φ<+:φ'/\Fr h₀ L σ'.heap m/\Re C.R h₀ L φ' h' ex σ'.heap/\VR C.R φ' x v/\Q x h'/\Rest σ σ'
    | .ok _=>False
    | .error e=>∃φ' h' x,φ<+:φ'/\X x h'/\Rest σ σ'/\C.Z h₀ L m (env::outer) φ' h' ex e x σ') v σ':=λp s' vx qx=>
  leaveK_ s'.fr s'.re.news λF2 N2=>⟨_,_,_,p,F2,s'.re.ofNews N2,vx,qx,s'.rest⟩
 refine Ti ((Bt hi Z O (⟨rfl,K.nd⟩:kK.Own ns) rfl (top:=top) (λz=>(ht z).elim) _ _ K.ok _ (λy=>((ns.take fn.params).zip xs).reverse.lookup y) φ _ ex _ q) σ _ (λe s'=>wpAny (model C.prog C.w) (A.deeper e') (leaving e' e) (λ_ s''=>∃φ' h' x,φ<+:φ'/\X x h'/\Rest σ s''/\C.Z h₀ L m (env::outer) φ' h' ex e x s'') (λ_ s''=>False) s') s0 (SQ t (S9 _ _)) PassesOwn.leaving λφ' h' x e σ' p hX hz=>?_) (λfl s' hh=>?_) λe s' z=>Ti z (λ_ _ z=>z) λ_ _ z=>z.elim
 ·refine Z.leave O rfl Fg hfm hz λσ'' hr' hz'=>⟨φ',h',x,p,hX,hr',hz'⟩
 ·cases fl with
  |next=>
   refine fH hh λφ' h' ρ' m' p s' qx=>?_;clear hh
   exact done p s' (x:= .none) rQ qx
  |ret v=>
   refine pd hh λφ' h' ρ' m' x p s' vx qx=>?_;clear hh
   exact done p s' vx qx
  |_=>exact hh.elim
end
theorem closed{C:Cx}(hi:∀c,c<3->C.R.b7 (C.T.init c)=C.R.init c)(Z:Raises C)(K:∀f fn,C.fns f=some fn->∃ns body,pN C false (C.jg f) fn ns body):G6 C.T C.fns (Sp C):=⟨λ{n f F vs h Q X} hf q=>by
  intro A A₀ base outer env h₀ L m φ ex σ xs B hfr hfm hk hg hco pP gG hh v9 hroom hF wb hvs tk
  refine iH (K f F hf) λns body k=>?_
  exact Kf hi Z hf k q A A₀ base outer env h₀ L m φ ex σ xs (λz=>nomatch z) B hfr hfm hk hh v9 hroom hF wb hvs tk,
 λ{n f vs h Q Q' X X'} hQ hX q=>by
  intro A A₀ base outer env h₀ L m φ ex σ xs B hfr hfm hk hg hco pP gG hh v9 hroom hF wb hvs tk
  refine codeAny_mono (q A A₀ base outer env h₀ L m φ ex σ xs B hfr hfm hk hg hco pP gG hh v9 hroom hF wb hvs tk) λr σ' z=>?_
  rcases r with e| (_|_|_|v)
  ·refine g5 z λφ' h' x p hx z=>?_;exact⟨φ',h',x,p,hX _ _ hx,z⟩
  ·exact z
  ·exact z
  ·exact z
  ·refine oZ z λφ' h' x p a b c d e=>?_;clear z;exact⟨φ',h',x,p,a,b,c,hQ _ _ d,e⟩⟩
end Mine
namespace Mine
open PySem PySem.W PySem.Calls PyProof.Rows
noncomputable def nf(ok:Thread->Bool)(st:SharedT->Thread->Option (SharedT×Thread)):Nat->SharedT->Thread->Option SharedT
 | 0,_,_=>none
 |n+1,s,t=>match through t with
  |true=>some s
  |false=>match ok t with
   |false=>none
   |true=>match st s t with
    |some (s',t')=>nf ok st n s' t'
    |none=>none
theorem By{tb:String->Option Builtin}{p:Program}{w:World}{n₀:Nat}{ann:Option Value}:∀(n:Nat) (s s':SharedT) (t:Thread),nf (stepOk n₀ ann) (stepT (denote tb) p w) n s t=some s'->topRun tb p w n₀ ann n s.abs t=some s'.abs
 | 0,_,_,_,h=>nomatch h
 |n+1,s,s',t,h=>by
  unfold nf at h
  unfold topRun
  cases ht:through t with
  |true=>rw[ht]at h;obtain rfl:=Sv h;rfl
  |false=>
   rw[ht]at h
   cases hk:stepOk n₀ ann t with
   |false=>rw[hk]at h;(rcases h with⟨⟩)
   |true=>
    rw[hk]at h
    cases hs:stepT (denote tb) p w s t with
    |none=>rw[hs]at h;(rcases h with⟨⟩)
    |some r=>obtain⟨s₂,t₂⟩:=r;rw[hs]at h;rw[stepT_spec hs];exact By n _ _ _ h
noncomputable def nh:List Obj->Nat->BT->Option BT
 | [],_,t=>some t
 |o::r,n,t=>match ((t.ins n o).get n).isSome with
  |true=>nh r (n+1) (t.ins n o)
  |false=>none
theorem Bz{life:Life}:∀(l:List Obj) (n:Nat) (t t':BT),nh l n t=some t'->absHeap t' (n+l.length) life=⟨(absHeap t n life).objs++l.toArray,life⟩
 | [],n,t,t',h=>by
  obtain rfl:=Sv h
  show absHeap t n life=_
  simp[absHeap]
 |o::r,n,t,t',h=>by
  unfold nh at h
  cases e:((t.ins n o).get n).isSome with
  |false=>rw[e]at h;(rcases h with⟨⟩)
  |true=>
   rw[e]at h
   rw[SD,show n+(r.length+1)=n+1+r.length by exact SK (af 0xf9191a0991a10 rfl) (af 0xf991a109191a0 rfl),(Bz (life:=life) r (n+1) _ _ h),absHeap_ins e]
   congr 1
   show((absHeap t n life).objs.push o)++r.toArray=_
   simp
theorem Kh{life:Life}{l:List Obj}{t:BT}(h:nh l 0 .nil=some t):absHeap t l.length life=⟨l.toArray,life⟩:=by
 have:=Bz (life:=life) l 0 .nil t h
 rw[Uj]at this
 rw[this]
 simp[absHeap,BT.list]
noncomputable def ends{α:Type}(p q:Program)(loose:List Str)(Xt:Shared->Bool)(Yf:Shared->α)(g0:Bool)(h₀:Heap)(s:Shared):=
 (staticsOk (importedModules p.main.body) h₀ s.heap&&namesBound p s.heap&&gensDone s&&laidKept h₀ s.heap,openSeen q loose (importedModules p.main.body) Xt g0 s,Yf s)
theorem LeftO.mine{p q:Program}{loose:List Str}{Xt:Shared->Bool}{α:Type}{Yf:Shared->α}{Ya:World->α}{N:Nat}{g0:Bool}{H₀:Params->Heap}{T₀:Params->BT}{gs₀:Array GenState}{d₀:Drawn}{k₀:Nat}{m₀:Nat}{ann:Option Value}
  (open_:∀w:World,(fencedOpening treeTable p w N).map (λs=>(s.heap,s.gens,s.drawn,s.toks))=some (H₀ w.params,gs₀,d₀,k₀))
  (size:∀w:World,((H₀ w.params).isNs mainGlobals&&gs₀.size==0,(H₀ w.params).objs.size,(H₀ w.params).nsMap mainGlobals "__annotations__")=(true,m₀,ann))
  (tree:∀w:World,∃life,H₀ w.params=absHeap (T₀ w.params) m₀ life/\∀os:OsState,(nf (stepOk m₀ ann) (stepT (denote treeTable) p w) N ⟨T₀ w.params,m₀,life,gs₀,d₀,k₀,os⟩ (topStub p)).map (λs=>ends p q loose Xt Yf g0 (absHeap (T₀ w.params) m₀ life) s.abs)=some (true,openGood q loose,Ya w)):
  LeftO p q loose Xt Yf Ya N g0:=λw=>by
 obtain⟨⟨h,gs,d,k,os⟩,e,e'⟩:=TA.mp (open_ w)
 obtain⟨rfl,rfl,rfl,rfl⟩:h=H₀ w.params/\gs=gs₀/\d=d₀/\k=k₀:=by simpa using e'
 obtain⟨z1,z2,z3⟩:_/\_/\_:=by simpa only[U5]using size w
 obtain⟨life,hH,run⟩:=tree w
 obtain⟨s,r,x⟩:=TA.mp (run os)
 rw[←hH]at x
 unfold ends at x
 obtain⟨l1,l2,l3⟩:_/\_/\_:=by simpa only[U5]using x
 have t:topFrom treeTable p w N ⟨H₀ w.params,gs,d,k,os⟩=some s.abs:=by
  unfold topFrom
  dsimp only
  rw[z1,z2,z3]
  rw[show(⟨H₀ w.params,gs,d,k,os⟩:Shared)=(⟨T₀ w.params,m₀,life,gs,d,k,os⟩:SharedT).abs by rw[hH];rfl,(By _ _ _ _ r)]
  show(match staticsOk (importedModules p.main.body) (H₀ w.params) s.abs.heap&&namesBound p s.abs.heap&&gensDone s.abs&&laidKept (H₀ w.params) s.abs.heap with|true=>_|false=>_)=_
  rw[l1]
 unfold openEnds
 rw[e]
 show(topFrom treeTable p w N _).map _=_
 rw[t]
 exact congrArg some (Prod.ext l2 l3)
end Mine
namespace Mine
open PySem PySem.W PySem.Calls PyProof.Rows PySem.Spec
theorem BA:∀{xs:List Str} {vs:List Value} {x:Str},xs.length=vs.length->x∈xs->((xs.zip vs).lookup x).isNone=false
 | [],_,_,_,h=>nomatch h
 |y::xs,[],x,e,_=>by simp at e
 |y::xs,v::vs,x,e,h=>by
  rw[Uu,TO]
  by_cases hxy:x=y
  ·subst hxy;simp
  ·have:(x==y)=false:=by simpa using hxy
   rw[this]
   refine Ts (SH.mp h) (λh=>?_) (λh=>?_)
   ·exact absurd h hxy
   ·exact BA (by simpa using e) h
theorem BB{α β:Type}{f g:α->Option β}:∀{l:List α},(∀n∈l,f n=g n)->l.filterMap f=l.filterMap g
 | [],_=>rfl
 |x::l,h=>by
  rw[Up,Up,h x (.head _),BB λn hn=>h n (.tail _ hn)]
theorem BC:∀{xs:List Str} {vs:List Value},xs.Nodup->xs.length=vs.length->xs.filterMap (λn=>((xs.zip vs).lookup n).map λv=>(n,v))=xs.zip vs
 | [],vs,_,_=>rfl
 |y::xs,[],_,e=>by simp at e
 |y::xs,v::vs,nd,e=>by
  have ih:=BC (TX.mp nd).2 (by simpa using e:xs.length=vs.length)
  rw[Uu,Up]
  simp only[TO,beq_self_eq_true,Uk]
  congr 1
  rw[←ih]
  refine BB λn hn=>?_
  have:(n==y)=false:=by
   simp
   rintro rfl
   exact((TX.mp nd).1) hn
  rw[this,ih]
theorem BD{fd:FuncData}{xs:List Str}(h1:fd.params.posonlyargs=[])(h2:fd.params.args.map (·.arg)=xs)(h3:fd.params.vararg.isNone=true)(h4:fd.params.kwonlyargs=[])(h6:fd.params.kwarg.isNone=true)(h7:fd.defaults= .none)(nd:xs.Nodup){vs:List Value}(hl:vs.length=xs.length):
  bindArgs fd ⟨vs,[]⟩=pure (xs.zip vs):=by
 obtain⟨name,qual,⟨po,ar,va,ko,kd,kw,df⟩,body,scope,gl,cl,dV,kV,doc,pm,an,cd,ct,bl⟩:=fd
 dsimp only at h1 h2 h3 h4 h6 h7
 subst h1 h4 h7
 have Ki:va=none:=by rcases va with⟨⟩;rfl;exact bad h3
 have hkw:kw=none:=by rcases kw with⟨⟩;rfl;exact bad h6
 subst Ki hkw
 have hf:xs.filter (λn=>((xs.zip vs).lookup n).isNone)=[]:=by
  rw[List.filter_eq_nil_iff]
  intro x hx
  rw[BA hl.symm hx];simp
 refine(pure_bind _ _).trans ?_
 refine(pure_bind _ _).trans ?_
 refine(if_neg ?_).trans ((if_neg ?_).trans ?_)
 ·show¬(decide (vs.length>(ar.map (·.arg)).length)&&true)=true
  rw[h2,decide_eq_false (by exact Ug (af 0xf102e10 rfl hl):¬vs.length>xs.length)];exact TH
 ·show¬(!(((ar.map (·.arg)).take ((ar.map (·.arg)).length-(([]:List Value).drop (([]:List Value).length-(ar.map (·.arg)).length)).length)).filter λn=>(((ar.map (·.arg)).zip vs).lookup n).isNone).isEmpty)=true
  rw[h2,WM,SU,Nat.sub_zero,Tc,hf];exact TH
 refine(congrArg (λl=>forIn (m:=Sem) l _ _>>=_) (by rw[WM,List.zip_nil_right]:((ar.map (λx:Arg=>x.arg)).drop ((ar.map (λx:Arg=>x.arg)).length-(([]:List Value).drop (([]:List Value).length-(ar.map (λx:Arg=>x.arg)).length)).length)).zip (([]:List Value).drop (([]:List Value).length-(ar.map (λx:Arg=>x.arg)).length))=[])).trans ?_
 refine(pure_bind _ _).trans ((pure_bind _ _).trans ?_)
 refine(if_neg TH).trans ?_
 show pure (((ar.map (λx:Arg=>x.arg))++[]).filterMap λn=>(((ar.map (λx:Arg=>x.arg)).zip vs).lookup n).map (n,·))=_
 rw[h2,SM,BC nd hl.symm]
noncomputable def ga:List Nat:=[90,91,412,413,414,415,416]
noncomputable def fa:List Nat:=[67,81,88,98,105,112,119,126,133,140,147,154,161,168,175,182,189,196,203,210,217,224,231,238,245,259,280,294,301,308,315,322,329,336,343,350,357,364,371,378,385,392,399,406,411,423,430,437,444,451,458,465,472,479,484]
noncomputable def Kj:Nat->String| 0=>"GameNode"| 1=>"Record"|_=>"LineReader"
noncomputable def aP:RT where
 mS:=λk=>ga.getD k 11
 cls:=λc=>match c with| 0=>70| 1=>262|_=>283
 init:=λc=>match c with| 0=>67| 1=>259|_=>280
 fld:=λf=>match rF[f]? with|some s=>Str.ofString s|none=>⟨(List.replicate (f+1) 48).toArray⟩
 fname:=λf=>Str.ofString (((fnNames.lookup f).map (·.1)).getD "read_sign")
 jD:=λg=>if g<1000 then Str.ofString (((z4[g]?).map (·.1)).getD "")else Str.ofString (Kj (g-1000))
 b7:=λf=>fa.getD f 0
 named:=λf=>decide (f<55)&&f !=0&&f !=25&&f !=26
 gu:=89
noncomputable def eI(f:Nat):List Str:=(((fnNames.lookup f).map (·.2)).getD []).map λx=>if x=="fault" then Str.ofString "-" else Str.ofString x
noncomputable def BE:List Nat:=[70,69,67,71,262,261,259,263,283,282,280,284,51,50,48,31,30,28,47,27,2]
noncomputable def pQ(h:Heap):Frag:=BE.filterMap λa=>(h.get? a).map λo=>(a,o)
theorem Kk(h:Heap):(pQ h).In h:=by
 intro a o e
 unfold pQ at e
 generalize BE=l at e
 induction l with
 |nil=>(exact nn e)
 |cons b l ih=>
  rw[Up]at e
  cases hb:h.get? b with
  |none=>rw[hb]at e;exact ih e
  |some ob=>
   rw[hb]at e
   simp only[Uk,TO]at e
   by_cases hab:a=b
   ·subst hab
    simp only[beq_self_eq_true]at e
    obtain rfl:=Sv e;exact hb
   ·have:(a==b)=false:=by simpa using hab
    rw[this]at e
    exact ih e
theorem Kl:∀f g,aP.fld f=aP.fld g->f=g:=by
 have small:∀f g,f<17->g<17->aP.fld f=aP.fld g->f=g:=by
  exactλf g hf hg e=>(by decide+kernel:∀f:Fin 17,∀g:Fin 17,aP.fld f.1=aP.fld g.1->f.1=g.1) ⟨f,hf⟩ ⟨g,hg⟩ e
 have big:∀f,¬f<17->aP.fld f=⟨(List.replicate (f+1) 48).toArray⟩:=λf hf=>by
  show(match rF[f]? with|some s=>Str.ofString s|none=>⟨(List.replicate (f+1) 48).toArray⟩)=_
  rw[U9 (by show 17<=f;exact af 0xf100e10 rfl (S7 hf))]
 have sr:∀f,¬f<17->(aP.fld f).cps.size=f+1:=λf hf=>by rw[big f hf];simp
 have lens:∀f,f<17->(aP.fld f).cps.size<=10:=λf hf=>by
  refine am ((by decide+kernel:∀f,f<17->∃s,rF[f]? =some s/\(Str.ofString s).cps.size<=10) f hf) λs e l=>?_
  show(match rF[f]? with|some s=>Str.ofString s|none=>_).cps.size<=10
  rw[e];exact l
 intro f g e
 have el:(aP.fld f).cps.size=(aP.fld g).cps.size:=by rw[e]
 by_cases hf:f<17<;>by_cases hg:g<17
 ·exact small f g hf hg e
 ·have:=lens f hf;rw[sr g hg]at el;exact SK (ah 0xf200e211e10 rfl hf (S7 hg)) (ah 0xf218eaa04e1112bbe91a10 rfl el (S7 hg) this)
 ·have:=lens g hg;rw[sr f hf]at el;exact SK (ah 0xf208eaa14e0112bae191a0 rfl el (S7 hf) this) (ah 0xf121e020e10 rfl (S7 hf) hg)
 ·rw[sr f hf,sr g hg]at el;exact SK (af 0xf102e91a191a0 rfl el) (af 0xf013e91a191a0 rfl el)
theorem Km{α:Type}{c:Prop} [Decidable c] {f:c->Option α}{q:α}{G:Prop}(h:(if hc:c then f hc else none)=some q)(k:∀hc:c,f hc=some q->G):G:=
 if hc:c then k hc ((dif_pos (c:=c) (t:=f) (e:=λ_=>none) hc).symm.trans h)else nn ((dif_neg (c:=c) (t:=f) (e:=λ_=>none) hc).symm.trans h)
noncomputable def wd(e:Data):Option (FuncData):=if h:e.ctorIdx=7 then Data.func.elim (motive:=λ_=>Option (FuncData)) e h some else none
theorem BF{e:Data}{q:FuncData}(h:wd e=some q):e= .func q:=Km h λhc hq=>Data.func.elim (motive:=λt=>∀hc:t.ctorIdx=7,Data.func.elim (motive:=λ_=>Option (FuncData)) t hc some=some q->t= .func q) e hc (λ_ _ hq=>congrArg Data.func (Sv hq)) hc hq
noncomputable def we(e:Value)(p:String->Bool):Bool:=if h:e.ctorIdx=8 then Value.type.elim (motive:=λ_=>Bool) e h p else false
@[elab_as_elim] theorem BG{e:Value}{p:String->Bool}{M:Value->Prop}(h:we e p=true)(k:∀x0,p x0=true->M (.type x0)):M e:=dk h λhc hp=>Value.type.elim (motive:=λt=>∀hc:t.ctorIdx=8,Value.type.elim (motive:=λ_=>Bool) t hc p=true->M t) e hc (λx0 _=>k x0) hc hp
noncomputable def BH(e:Value)(p:String->Bool):Bool:=if h:e.ctorIdx=9 then Value.builtin.elim (motive:=λ_=>Bool) e h p else false
@[elab_as_elim] theorem Ko{e:Value}{p:String->Bool}{M:Value->Prop}(h:BH e p=true)(k:∀x0,p x0=true->M (.builtin x0)):M e:=dk h λhc hp=>Value.builtin.elim (motive:=λt=>∀hc:t.ctorIdx=9,Value.builtin.elim (motive:=λ_=>Bool) t hc p=true->M t) e hc (λx0 _=>k x0) hc hp
noncomputable def wf(e:Value)(p:Addr->Bool):Bool:=if h:e.ctorIdx=10 then Value.ref.elim (motive:=λ_=>Bool) e h p else false
@[elab_as_elim] theorem BI{e:Value}{p:Addr->Bool}{M:Value->Prop}(h:wf e p=true)(k:∀x0,p x0=true->M (.ref x0)):M e:=dk h λhc hp=>Value.ref.elim (motive:=λt=>∀hc:t.ctorIdx=10,Value.ref.elim (motive:=λ_=>Bool) t hc p=true->M t) e hc (λx0 _=>k x0) hc hp
noncomputable def wg(e:Value)(p:Str->Tok->Bool):Bool:=if h:e.ctorIdx=6 then Value.str.elim (motive:=λ_=>Bool) e h p else false
@[elab_as_elim] theorem BJ{e:Value}{p:Str->Tok->Bool}{M:Value->Prop}(h:wg e p=true)(k:∀x0 x1,p x0 x1=true->M (.str x0 x1)):M e:=dk h λhc hp=>Value.str.elim (motive:=λt=>∀hc:t.ctorIdx=6,Value.str.elim (motive:=λ_=>Bool) t hc p=true->M t) e hc (λx0 x1 _=>k x0 x1) hc hp
noncomputable def BK(e:Data)(p:Array Value->Bool):Bool:=if h:e.ctorIdx=9 then Data.fields.elim (motive:=λ_=>Bool) e h p else false
@[elab_as_elim] theorem Kp{e:Data}{p:Array Value->Bool}{M:Data->Prop}(h:BK e p=true)(k:∀x0,p x0=true->M (.fields x0)):M e:=dk h λhc hp=>Data.fields.elim (motive:=λt=>∀hc:t.ctorIdx=9,Data.fields.elim (motive:=λ_=>Bool) t hc p=true->M t) e hc (λx0 _=>k x0) hc hp
noncomputable def BL(e:Data)(p:ClassData->Bool):Bool:=if h:e.ctorIdx=8 then Data.cls.elim (motive:=λ_=>Bool) e h p else false
@[elab_as_elim] theorem Kq{e:Data}{p:ClassData->Bool}{M:Data->Prop}(h:BL e p=true)(k:∀x0,p x0=true->M (.cls x0)):M e:=dk h λhc hp=>Data.cls.elim (motive:=λt=>∀hc:t.ctorIdx=8,Data.cls.elim (motive:=λ_=>Bool) t hc p=true->M t) e hc (λx0 _=>k x0) hc hp
noncomputable def BM(e:Data)(p:Array Value->Nat->Bool):Bool:=if h:e.ctorIdx=2 then Data.seq.elim (motive:=λ_=>Bool) e h p else false
@[elab_as_elim] theorem Kr{e:Data}{p:Array Value->Nat->Bool}{M:Data->Prop}(h:BM e p=true)(k:∀x0 x1,p x0 x1=true->M (.seq x0 x1)):M e:=dk h λhc hp=>Data.seq.elim (motive:=λt=>∀hc:t.ctorIdx=2,Data.seq.elim (motive:=λ_=>Bool) t hc p=true->M t) e hc (λx0 x1 _=>k x0 x1) hc hp
noncomputable def su(e:FuncBody)(p:List Stmt->Bool):Bool:=if h:e.ctorIdx=0 then FuncBody.stmts.elim (motive:=λ_=>Bool) e h p else false
@[elab_as_elim] theorem wh{e:FuncBody}{p:List Stmt->Bool}{M:FuncBody->Prop}(h:su e p=true)(k:∀x0,p x0=true->M (.stmts x0)):M e:=dk h λhc hp=>FuncBody.stmts.elim (motive:=λt=>∀hc:t.ctorIdx=0,FuncBody.stmts.elim (motive:=λ_=>Bool) t hc p=true->M t) e hc (λx0 _=>k x0) hc hp
noncomputable def BN(e:CFound)(p:Value->Bool):Bool:=if h:e.ctorIdx=0 then PySem.W.CFound.val.elim (motive:=λ_=>Bool) e h p else false
@[elab_as_elim] theorem Ks{e:CFound}{p:Value->Bool}{M:CFound->Prop}(h:BN e p=true)(k:∀x0,p x0=true->M (.val x0)):M e:=dk h λhc hp=>PySem.W.CFound.val.elim (motive:=λt=>∀hc:t.ctorIdx=0,PySem.W.CFound.val.elim (motive:=λ_=>Bool) t hc p=true->M t) e hc (λx0 _=>k x0) hc hp
noncomputable def pR(top:Bool)(fn:Fn)(ns:List Str)(fd:FuncData):Bool:=su fd.body λbody=>decide (fd.globals=mainGlobals)&&fd.closure.isEmpty&&decide (fd.builtins=builtinsNs)&&decide (fd.scope.kind= .function)&& !fd.scope.isGenerator&& !fd.scope.isCoroutine&&
 fd.scope.names.all (λx=>decide (x.2≠ .cell))&&decide ns.Nodup&&decide (ns.length=fn.slots)&&decide (fn.params<=fn.slots)&&(ns.take fn.params).all (λx=>decide (fd.scope.names.lookup x=some .local))&&
 fd.params.posonlyargs.isEmpty&&decide (fd.params.args.map (·.arg)=ns.take fn.params)&&fd.params.vararg.isNone&&fd.params.kwonlyargs.isEmpty&&fd.params.kwarg.isNone&&decide (fd.defaults= .none)&&hV aP 25 fd.scope ns top fn.body body
theorem BO{C:Cx}(hR:C.R=aP)(hg:C.gn=25){top:Bool}{fn:Fn}{ns:List Str}{fd:FuncData}(e:pR top fn ns fd=true):∃body,pN C top fd fn ns body:=
 wh (M:=λb=>fd.body=b->∃body,pN C top fd fn ns body) e (λbody e hb=>uN e λe1 e2 e3 e4 e5 e6 e7 e8 e9 pS lS pT pU pV pW pX pY pZ=>
  have nd:=of_decide_eq_true e8
  have hp:=of_decide_eq_true pS
  ⟨body,hb,of_decide_eq_true e1,TP.mp e2,of_decide_eq_true e3,of_decide_eq_true e4,nt e5,nt e6,λx hx=>of_decide_eq_true (Tl.mp e7 x hx),nd,of_decide_eq_true e9,hp,λx hx=>of_decide_eq_true (Tl.mp lS x hx),
   λxs hx=>BD (TP.mp pT) (of_decide_eq_true pU) pV (TP.mp pW) pX (of_decide_eq_true pY) (nd.sublist (Vu _ _)) (hx.trans ((TK.trans (UW (of_decide_eq_true e9▸hp))).symm)),hR.symm▸hg.symm▸pZ⟩) rfl
theorem qa{α:Type}{o:Option α}{f:α->Bool}(h:o.any f=true):∃x,o=some x/\f x=true:=Option.casesOn (motive:=λo=>o.any f=true->∃x,o=some x/\f x=true) o bad (λx h=>⟨x,rfl,h⟩) h
noncomputable def codeB(h:Heap)(fd:FuncData):Bool:=wf fd.code λc=>(h.get? c).any λo=>BK o.data λvs=>oS vs[1]? λv=>wg v λq _=>decide (q=fd.qualname)
theorem BP{h:Heap}{fd:FuncData}(e:codeB h fd=true):h.CodeRec fd.code fd.qualname:=
 BI (M:=λa=>h.CodeRec a fd.qualname) e λc e=>am (qa e) λo ho e=>Kp (M:=λd=>o.data=d->h.CodeRec (.ref c) fd.qualname) e (λvs e hd=>iS (M:=λw=>vs[1]? =w->h.CodeRec (.ref c) fd.qualname) e (λv e hq=>BJ (M:=λv=>vs[1]? =some v->h.CodeRec (.ref c) fd.qualname) e (λq t e hq=>⟨c,o,vs,t,rfl,ho,hd,of_decide_eq_true e▸hq⟩) hq) rfl) rfl
noncomputable def jK(h:Heap)(a:Addr):Option FuncData:=(h.get? a).bind λo=>wd o.data
theorem wi{h:Heap}{a:Addr}{fd:FuncData}(e:jK h a=some fd):∃o,h.get? a=some o/\o.data= .func fd:=am (UE.mp e) λo ho e=>⟨o,ho,BF e⟩
noncomputable def oA{α:Type}(o:Option α)(p:α->Bool):Bool:=o.casesOn true p
noncomputable def wj(h:Heap)(f:Nat):Bool:=oA (fns f) λfn=>oS (jK h (aP.b7 f)) λfd=>pR (f==54) fn (eI f) fd&&codeB h fd
theorem BQ{h:Heap}{f:Nat}{fn:Fn}(e:wj h f=true)(hf:fns f=some fn):∃fd,jK h (aP.b7 f)=some fd/\pR (f==54) fn (eI f) fd=true/\codeB h fd=true:=by
 unfold wj at e
 rw[hf]at e
 exact am (pD e) λfd a b=>⟨fd,a,(an b).1,(an b).2⟩
noncomputable def Kt(h:Heap)(f:Nat):Bool:= !aP.named f||(decide (h.nsMap mainGlobals (aP.fname f)=some (.ref (aP.b7 f)))&&(jK h (aP.b7 f)).isSome)
noncomputable def BR(e:Value)(p:Int->Tok->Bool):Bool:=if h:e.ctorIdx=4 then Value.int.elim (motive:=λ_=>Bool) e h p else false
@[elab_as_elim] theorem Ku{e:Value}{p:Int->Tok->Bool}{M:Value->Prop}(h:BR e p=true)(k:∀x0 x1,p x0 x1=true->M (.int x0 x1)):M e:=dk h λhc hp=>Value.int.elim (motive:=λt=>∀hc:t.ctorIdx=4,Value.int.elim (motive:=λ_=>Bool) t hc p=true->M t) e hc (λx0 x1 _=>k x0 x1) hc hp
noncomputable def wm(r:Option Value)(v:V):Bool:=v.casesOn false (λ_=>false) (λj=>oS r λr=>BR r λi _=>decide (i=j)) (λ_=>false) (λ_=>false) (λn=>oS r λr=>wf r λa=>decide (a=aP.mS n))
theorem Kv{r:Option Value}{v:V}(e:wm r v=true):∃x,r=some x/\VR aP [] v x:=
 V.casesOn (motive:=λv=>wm r v=true->∃x,r=some x/\VR aP [] v x) v bad (λ_=>bad) (λj e=>iS (M:=λr=>∃x,r=some x/\VR aP [] (.int j) x) e λr e=>Ku (M:=λr=>∃x,some r=some x/\VR aP [] (.int j) x) e λi t e=>⟨_,rfl,t,of_decide_eq_true e▸rfl⟩) (λ_=>bad) (λ_=>bad) (λn e=>iS (M:=λr=>∃x,r=some x/\VR aP [] (.gt n) x) e λr e=>BI (M:=λr=>∃x,some r=some x/\VR aP [] (.gt n) x) e λa e=>⟨_,rfl,of_decide_eq_true e▸rfl⟩) e
noncomputable def Kw(h:Heap)(k:Nat):Bool:=wm (h.nsMap mainGlobals (aP.jD k)) (aw.glob k)
noncomputable def wn:List (List Nat)->List Value->Bool
 | []=>λvs=>vs.isEmpty
 |x::xs=>λvs=>oC vs λv vs=>wg v (λs _=>decide (s=⟨x.toArray⟩))&&wn xs vs
theorem BS{φ:Pl}:∀{xs:List (List Nat)} {vs:List Value},wn xs vs=true->aD aP φ (xs.map V.str) vs
 | [],vs,e=>(TP.mp e).symm▸ .nil
 |x::xs,vs,e=>iC (M:=λvs=>aD aP φ ((x::xs).map V.str) vs) e λv vs e=> .cons (BJ (M:=λv=>VR aP φ (.str x) v) (an e).1 λs t e=>⟨t,of_decide_eq_true e▸rfl⟩) (BS (an e).2)
noncomputable def BU(xs:List (List Nat))(o:Obj):Bool:=we o.cls λt=>BM o.data λvs _=>decide (t="tuple")&&decide (o.slots= #[])&&o.dict.isNone&&wn xs vs.toList
theorem Kx{xs:List (List Nat)}{o:Obj}(e:BU xs o=true):∃vs n,o=jc vs n/\aD aP [] (xs.map V.str) vs.toList:=by
 rcases o with⟨c,dc,d,sl⟩
 exact BG (M:=λc=>∃vs n,(⟨c,dc,d,sl⟩:Obj)=jc vs n/\aD aP [] (xs.map V.str) vs.toList) e λt e=>Kr (M:=λd=>∃vs n,(⟨.type t,dc,d,sl⟩:Obj)=jc vs n/\aD aP [] (xs.map V.str) vs.toList) e λvs n e=>
  have e:=jh e
  ⟨vs,n,by rw[of_decide_eq_true e.1.1.1,show sl=_ from of_decide_eq_true e.1.1.2,show dc=_ from Vz.mp e.1.2],BS e.2⟩
noncomputable def gtB(h:Heap)(a:Addr)(xs:List (List Nat)):Bool:=(h.get? a).any (BU xs)
theorem BV{h:Heap}{a:Addr}{xs:List (List Nat)}(e:gtB h a xs=true):∃vs n,h.get? a=some (jc vs n)/\aD aP [] (xs.map V.str) vs.toList:=
 am (qa e) λo ho e=>bK (Kx e) λvs n eo r=>⟨vs,n,eo▸ho,r⟩
noncomputable def kB(K:Frag):Bool:=(List.range 3).all λc=>
 decide (findIn K (.ref (aP.cls c)) "__getattribute__"=some (some (.builtin "object.__getattribute__")))&&
 decide (findIn K (.ref (aP.cls c)) "__setattr__"=some (some (.builtin "object.__setattr__")))&&
 plainOver K (aP.cls c)&&hasDictIn K (aP.cls c)&&
 ((List.range 17).all λf=>decide (findIn K (.ref (aP.cls c)) (aP.fld f)=some none)&& !copiedNames.contains (aP.fld f))&&
 makesIn K (aP.cls c)&&decide (findIn K (.ref (aP.cls c)) "__init__"=some (some (.ref (aP.init c))))&&isFn K (.ref (aP.init c))&&keepIn K (.ref (aP.cls c))
theorem Ky{K:Frag}(e:kB K=true):rO aP K:=by
 have e:=λc hc=>Tl.mp e c (Vj.mpr hc)
 exact⟨λc hc=>ly (e c hc) λh _ _ _ _ _ _ _ _=>of_decide_eq_true h,λc hc=>ly (e c hc) λ_ h _ _ _ _ _ _ _=>of_decide_eq_true h,λc hc=>ly (e c hc) λ_ _ h _ _ _ _ _ _=>h,λc hc=>ly (e c hc) λ_ _ _ h _ _ _ _ _=>h,λc f hc hf=>ly (e c hc) λ_ _ _ _ h _ _ _ _=>have z:=an (Tl.mp h f (Vj.mpr hf));⟨of_decide_eq_true z.1,nt z.2⟩,λc hc=>ly (e c hc) λ_ _ _ _ _ h _ _ _=>h,
  λc hc=>ly (e c hc) λ_ _ _ _ _ _ h h' _=>⟨of_decide_eq_true h,h'⟩,Kl,λc hc=>(an (e c hc)).2⟩
noncomputable def Kz(h:Heap):Bool:=(List.range 3).all λc=>decide (h.nsMap mainGlobals (aP.jD (1000+c))=some (.ref (aP.cls c)))
noncomputable def KA(h:Heap):Bool:=rN.all λx=>(h.nsMap mainGlobals x).isNone
noncomputable def qb(w:World):Obj:={cls:= .type "dict",data:= .dict #[⟨hashStr w ⟨#[91]⟩,.str ⟨#[91]⟩ 327,.int 1 305⟩,⟨hashStr w ⟨#[93]⟩,.str ⟨#[93]⟩ 328,.int 2 307⟩,⟨hashStr w ⟨#[46]⟩,.str ⟨#[46]⟩ 329,.int 5 313⟩,⟨hashStr w ⟨#[40]⟩,.str ⟨#[40]⟩ 330,.int 9 321⟩,⟨hashStr w ⟨#[41]⟩,.str ⟨#[41]⟩ 331,.int 10 323⟩] 5}
theorem KB{prog:Program}{w:World}{h:Heap}(e:h.get? 89=some (qb w)):StrTab prog w h aP.gu (rP aw.single):=by
 refine TabAt.ofObj (kvs:=[(⟨#[91]⟩,.int 1 305),(⟨#[93]⟩,.int 2 307),(⟨#[46]⟩,.int 5 313),(⟨#[40]⟩,.int 9 321),(⟨#[41]⟩,.int 10 323)]) rfl e ⟨_,_,⟨rfl,rfl,rfl⟩,rfl,?_,?_,?_⟩ ?_
 ·intro e he
  simp only[List.mem_toArray,SH,TJ,or_false]at he
  rcases he with rfl|rfl|rfl|rfl|rfl<;>exact⟨_,strKind_is _ _ _ _,rfl⟩
 ·exact .cons (strKind_is _ _ _ _) rfl (.cons (strKind_is _ _ _ _) rfl (.cons (strKind_is _ _ _ _) rfl (.cons (strKind_is _ _ _ _) rfl (.cons (strKind_is _ _ _ _) rfl .nil))))
 ·decide
 ·exact .cons (.int _ _) (.cons (.int _ _) (.cons (.int _ _) (.cons (.int _ _) (.cons (.int _ _) .nil))))
noncomputable def allB(h:Heap):Bool:=h.isNs mainGlobals&&(List.range 55).all (wj h)&&(List.range 55).all (Kt h)&&(List.range 25).all (Kw h)&&gtB h 11 []&&(List.range 7).all (λk=>gtB h (aP.mS k) (aw.gt k))&&
 kB (pQ h)&&Kz h&&KA h&&decide (h.nsMap mainGlobals "SINGLES"=some (.ref 89))
noncomputable abbrev kL(D:Addr):List Value:=[.ref D,.type "Exception",.type "BaseException",.type "object"]
noncomputable def ni(h:Heap)(C N D:Addr):Prop:=∃nm q bs sn sub ab col dd k0 k1 k2 k3 k5,h.get? C=some (excClassObj nm q C N bs (kL D) true sn sub ab col dd k0 k1 k2 k3 k5 "Exception.__new__")
noncomputable abbrev dK(C t:Addr):Obj:={cls:= .ref C,data:= .fields #[.ref t,.none,.none,.none,.bool false,.none]}
noncomputable abbrev ji(l:List Value):Obj:={cls:= .type "tuple",data:= .seq l.toArray}
section
variable{prog:Program}{w:World}{A:Around}{R:Result->Shared->Prop}{h:Heap}{g:Array GenState}{d:Drawn}{t:Nat}{os:OsState}{C N D:Addr}
theorem nj{M:Model}{A:Around}{E:Value->Shared->Prop}{nm q:Str}{bs bm:List Value}{hdct:Bool}{sn:List Str}{sub:List Value}{ab:Bool}{col:Option Bool}{dd:Option Addr}{k0 k1 k2 k3 k5:Option Value}{newId:String}{base:Value}{b:Bool}{Q:Bool->Shared->Prop}(hC:h.get? C=some (excClassObj nm q C N bs bm hdct sn sub ab col dd k0 k1 k2 k3 k5 newId))(e:(Value.ref C::bm).contains base=b)
 (hq:Q b ⟨h,g,d,t,os⟩):wpAny M A (isSubtype (.ref C) base) Q E ⟨h,g,d,t,os⟩:=wpAny_isSubtype_exc hC (e▸hq)
theorem KC{rest:List Value}(hB:ni h C N D)(hq:R (.ok (.ret (.ref (h.objs.size+1)))) ⟨(h.push (ji rest)).push (dK C h.objs.size),g,d,t,os⟩)(hrest:rest.length<=sizeLine):
  codeAny (model prog w) A (.call (.builtin "Exception.__new__") ⟨.ref C::rest,[]⟩) R ⟨h,g,d,t,os⟩:=by
 refine ki hB λnm q bs sn sub ab col dd k0 k1 k2 k3 k5 hC=>?_;clear hB
 have F:=PySem.F.excBase_Exception
 refine codeAny_call_builtin_code (Wg _ F.quiet) ?_
 unfold checkBuiltinCall
 rw[F.newKind,F.newSplit]
 dsimp only
 repeat (first|refine Un hC ?_|refine nj hC rfl ?_|refine wpAny_staticBase_exc hC ?_|refine wpAny_madeBy_exc hC ?_|with_reducible refine wpAny_ite_false ((Bool.decide_eq_true _).trans (bne_self_eq_false _)) ?_|wp_step)
 have ends:=F.ends
 refine codeAny_builtinAt F.entry ?_
 unfold Builtin.«BaseException.__new__»
 refine PySem.wpAt_bind ?_
 show PySem.wpAt _ _ _ (stack>>=_) _ _ _
 refine PySem.wpAt_bind (PySem.wpAt_stack λp below=>PySem.wpAt_of_wpAny ?_)
 wp_walk
 refine PySem.wpAt_of_wpAny ?_
 rw[F.owner]
 repeat (first|with_reducible refine wpAny_madeHere_exc F.canon hC ?_|with_reducible refine Un hC ?_| ((with_reducible refine nj hC (b:=true) ?_ ?_);(first|rfl|decide))| ((with_reducible refine nj hC (b:=false) ?_ ?_);rfl)|wp_step)
 show R _ _
 rw[VT]
 exact hq
end
section
variable{prog:Program}{w:World}{A:Around}{R:Result->Shared->Prop}{h:Heap}{g:Array GenState}{d:Drawn}{t:Nat}{os:OsState}{C N D f:Addr}{K:Frag}
theorem KD{rest:List Value}(hB:ni h C N D)(X:K.In h)(hcall:specialIn K (.ref C) "__call__"=some (some (.builtin "type.__call__")))(KE:instIn K (.ref C) (.type "type")=some true)
  (hi:findIn K (.ref C) "__init__"=some (some (.ref f))) (hf:typeIn K (.ref f)=some (.type "function")) (hrest:rest.length<=sizeLine)
  (hq:codeAny (model prog w) (A.under (.builtin "type.__call__" ⟨.ref C::rest,[]⟩)) (.call (.ref f) ⟨.ref (h.objs.size+1)::rest,[]⟩) (InitBack (h.objs.size+1) R) ⟨(h.push (ji rest)).push (dK C h.objs.size),g,d,t,os⟩):
  codeAny (model prog w) A (.call (.ref C) ⟨rest,[]⟩) R ⟨h,g,d,t,os⟩:=by
 have KF:=hB
 refine ki hB λnm q bs sn sub ab col dd k0 k1 k2 k3 k5 hC=>?_;clear hB
 refine codeAny_of_tree ?_
 show wpAny _ _ (callAny (.ref C) _) _ _ _
 refine nd_load hC ?_
 show wpAny _ _ (callAny.viaDunder (.ref C) _) _ _ _
 unfold callAny.viaDunder
 refine Sz ((looks_specialIn (M:=model prog w) X hcall).at ?_)
 dsimp only
 rw[tc_bind]
 refine Sz (SS (Sz (SS ?_)))
 refine SS (a:=PySem.Fin.again (.call (.builtin "type.__call__") ⟨.ref C::rest,[]⟩)) (And.intro rfl ?_)
 refine codeAny_call_builtin_at (Wg _ (by decide+kernel)) entry_typeCall (check_slot tc_kind tc_split (looks_instIn (M:=model prog w) X KE) (tc_args _ _ _) ?_)
 unfold Builtin.«type.__call__»
 repeat (first|with_reducible refine Un hC ?_|with_reducible refine wpAny_madeBy_exc hC ?_|with_reducible refine wpAny_mroOf_exc hC ?_|with_reducible refine UA ?_|wp_step)
 refine KC KF ?_ hrest
 have k:∀b o,h.get? b=some o->((h.push (ji rest)).push (dK C h.objs.size)).get? b=some o:=λb o e=>SO _ (SO _ e)
 have t1:Looks (model prog w) ((h.push (ji rest)).push (dK C h.objs.size)) (typeOf (.ref (h.objs.size+1))) (.ref C):=(Looks.ld (by heap_get:((h.push (ji rest)).push (dK C h.objs.size)).get? (h.objs.size+1)=some (dK C h.objs.size))).andThen .now
 show wpAny _ _ _ _ _ _
 unfold isInstance callSpecial? specialOf
 refine Sz (Sz (t1.at (nj (k _ _ hC) (b:=true) (by simp) ?_)))
 refine Sz (UG (Sz (Sz (t1.at (((looks_findIn (M:=model prog w) X hi).keeps k).at (UG (Sz ((bind_fn (λa o e=>k _ _ (X a o e)) _ hf:Looks (model prog w) ((h.push (ji rest)).push (dK C h.objs.size)) (bindSpecial (.ref f) (.ref (h.objs.size+1))) (.ref f,[.ref (h.objs.size+1)])).at (Sz (UA ?_))))))))))
 refine codeAny_mono hq λr s' z=>?_
 rcases r with e| (v|_|_|_)<;>first|exact z|exact z.elim|skip
 obtain⟨rfl,z⟩:=z
 exact SS (SS z)
end
end Mine
namespace Mine
open PySem PySem.W PySem.Calls PyProof.Rows PySem.Spec PySem.Builtin.ObjectAttr
theorem KG(self:Value)(C D:Addr):refuseLoop self "__setattr__" (.ref C::kL D)=pure ():=by
 rw[refuseLoop_ref,refuseLoop_ref];exact PySem.F.store_Exception.passes self
section
variable{prog:Program}{w:World}{A:Around}{R:Result->Shared->Prop}{E:Value->Shared->Prop}{s:Shared}{C D x:Addr}{K:Frag}{ox:Obj}{od:Option Obj}{cd:ClassData}{name:Str}{v:Value}
theorem BW{Q:Unit->Shared->Prop}(X:K.In s.heap)(I:InstAt s.heap x ox C od)(hs:findIn K (.ref C) "__setattr__"=some (some (.builtin "object.__setattr__")))
  (hc:clsIn K C=some cd) (hm:cd.mro= .ref C::kL D) (ha:findIn K (.ref C) name=some none)
  (h:∀A',wpAny (model prog w) A' (storeInOwnDict (.ref x) (.ref C) (.str name s.toks) name v false) (λfin s'=>match fin with| .done (.ret _)=>Q () s'|_=>False) (λe s'=>E e s') {s with toks:=s.toks+1}):
  wpAny (model prog w) A (setAttr (.ref x) name v) Q E s:=by
 refine set_plain X I hs ?_
 have SF:=PySem.F.store_object
 have ne:cd.mro.isEmpty=false:=by rw[hm];rfl
 have sub:Looks (model prog w) s.heap (isInstance (.ref x) (.type "object")) true:=I.type.andThen (looks_mroIn X (by unfold mroIn;rw[hc,TM,if_neg (by rw[ne];decide),hm];simp))
 refine codeAny_call_builtin SF.slot.plain SF.entry (@check_slot (model prog w) _ _ {s with toks:=s.toks+1} "object.__setattr__" "object" "__setattr__" (.ref x) [.str name s.toks,v] [] _ SF.kind SF.split sub (SF.args (.ref x) (.str name s.toks) v) ?_)
 have KH:Looks (model prog w) s.heap (mroOf (.ref C)) cd.mro:=(looks_clsIn X hc).andThen .now
 rw[osa_eq,refuse_eq]
 refine Sz (Sz ((I.type (M:=model prog w)).here (s:={s with toks:=s.toks+1}) (Sz (KH.here (s:={s with toks:=s.toks+1}) ?_))))
 rw[hm,KG]
 refine SS (Sz ((I.type (M:=model prog w)).here (s:={s with toks:=s.toks+1}) (Sz ((looks_findIn (M:=model prog w) X ha).here (s:={s with toks:=s.toks+1}) (Sz (SS ?_))))))
 refine Ti (h A.in1) (λfin s' z=>?_) λ_ _ z=>z
 rcases fin with(_|_|_|_)|_<;>first|exact z|exact z.elim
theorem KI{Q:PySem.Fin->Shared->Prop}{tk:Tok}{b:Bool}(X:K.In s.heap)(hx:s.heap.get? x=some ox)(hcl:ox.cls= .ref C)(hno:notCls ox=true)(hdn:ox.dict=none)(hc:clsIn K C=some cd)(hh:cd.hasDict=true)
  (h:∀h' d tk',d=s.heap.objs.size->h'.get? x=some {ox with dict:=some d}->h'.Ns1 d (λy=>if y=name then some v else none)->(∀b o,b≠x->s.heap.get? b=some o->h'.get? b=some o)->d≠x->
   Q (.done (.ret .none)) {s with heap:=h',toks:=tk'}):
  wpAny (model prog w) A (storeInOwnDict (.ref x) (.ref C) (.str name tk) name v b) Q E s:=by
 obtain⟨fq,g,d,t,os⟩:=s
 obtain⟨oc,BX,nr,osl⟩:=ox
 dsimp only at hcl hdn X hx h
 subst hcl hdn
 have hxs:x≠fq.objs.size:=SX (TC hx)
 have hx₁:(fq.push emptyDict).get? x=some ⟨.ref C,none,nr,osl⟩:=SO _ hx
 refine Sz (SS (Sz ?_))
 show wpAny _ _ (instanceDict x true) _ _ _
 unfold instanceDict
 refine Sz (wpAny_loadPart hx (Sz ((looks_clsIn (M:=model prog w) X hc).at ?_)))
 rw[hh]
 have fin:wpAny (model prog w) A (do
   let d ←alloc {cls:= .type "dict",data:= .dict #[]}
   update x λo=>{o with dict:=some d}
   dictMade (.ref C) x d) (λr s'=>wpAny (model prog w) A (match r with|some d=>storeInDict d (.str name tk) name v|none=>noDictFor (.ref x) (.ref C) name b) Q E s') E ⟨fq,g,d,t,os⟩:=by
  refine Sz (wpAny_alloc (Sz (wpAny_update hx₁ (SS ?_))))
  have hfr:=(Heap.get?_some_iff.mp hx).2
  have hxx:((fq.push emptyDict).update x λo=>{o with dict:=some fq.objs.size}).get? x=some ⟨.ref C,some fq.objs.size,nr,osl⟩:=Ux _ hx₁ (by rcases nr with⟨⟩<;>first|rfl|exact hfr)
  have hgd:((fq.push emptyDict).update x λo=>{o with dict:=some fq.objs.size}).get? fq.objs.size=some emptyDict:=(Wc _ _ _ _ hxs.symm).trans (Heap.get?_push_at rfl rfl)
  have hnd:((fq.push emptyDict).update x λo=>{o with dict:=some fq.objs.size}).Ns fq.objs.size (λ_=>none):=⟨_,#[],_,hgd,rfl,λe he=>absurd he (by simp),λ_=>rfl⟩
  show wpAny _ _ (storeInDict fq.objs.size (.str name tk) name v) _ _ _
  unfold storeInDict newKeyGuard
  refine Sz (SS (Sz (wpAny_nsSet1 (Heap.Ns1.of_empty hnd) λh' hn' hs=>?_)))
  refine g5 (hn'.count (Ws name v WS)) λoD esD KJ wo wq sv=>?_
  refine Sz (wpAny_lookBehind wo (by rw[wq];exact pastItsLine_dict (SQ sv (by rw[SD,SU,sizeLine_eq];exact av 0xf91a10000007b91a0a0e91a0a0 rfl sv))) (SS ?_))
  exact h h' fq.objs.size _ rfl ((hs.2 x hxs).trans hxx) hn' (λb o hb sx=>(hs.2 b (SX (TC sx))).trans ((Wc _ _ _ _ hb).trans (SO _ sx))) hxs.symm
 rcases nr with⟨⟩<;>first|exact fin|exact bad hno
theorem KL{Q:PySem.Fin->Shared->Prop}{tk:Tok}{b:Bool}{d:Addr}{m:Str->Option Value}{ns:List Str}(X:K.In s.heap)(hx:s.heap.get? x=some ox)(hcl:ox.cls= .ref C)(nv:ox.dict=some d)(hc:clsIn K C=some cd)(hh:cd.hasDict=true)
  (hn:s.heap.Ns1 d m) (hw:Within m ns) (hz:ns.length<=1000)
  (h:∀h' tk',h'.Ns1 d (λy=>if y=name then some v else m y)->(∀b o,b≠d->s.heap.get? b=some o->h'.get? b=some o)->Q (.done (.ret .none)) {s with heap:=h',toks:=tk'}):
  wpAny (model prog w) A (storeInOwnDict (.ref x) (.ref C) (.str name tk) name v b) Q E s:=by
 obtain⟨fq,g,dr,t,os⟩:=s
 obtain⟨oc,BX,nr,osl⟩:=ox
 dsimp only at hcl nv X hx h hn
 subst hcl nv
 refine Sz (SS (Sz ?_))
 show wpAny _ _ (instanceDict x true) _ _ _
 unfold instanceDict
 refine Sz (wpAny_loadPart hx (Sz ((looks_clsIn (M:=model prog w) X hc).at ?_)))
 rw[hh]
 refine SS (a:=some d) ?_
 show wpAny _ _ (storeInDict d (.str name tk) name v) _ _ _
 unfold storeInDict newKeyGuard
 refine Sz (SS (Sz (wpAny_nsSet1 hn λh' hn' hs=>?_)))
 refine g5 (hn'.count (Ws name v hw)) λoD esD KJ wo wq sv=>?_
 refine Sz (wpAny_lookBehind wo (by rw[wq];exact pastItsLine_dict (SQ sv (by rw[SD,sizeLine_eq];exact av 0xf91a10000007b91a00e3e83b0 rfl hz))) (SS ?_))
 exact h h' _ hn' λb o hb sx=>(hs.2 b hb).trans sx
end
theorem KM{h:Heap}{d:Addr}{m:Str->Option Value}{name:Str}{v:Value}{o:Obj}(hn:h.Ns1 d m)(ho:h.get? d=some o)(hm:m name=some v):lookIn name o=some (some v):=by
 refine mP hn λo' es ep e hd _ _ f=>?_;clear hn
 rw[ho]at e;obtain rfl:=Sv e
 have:=f name
 rw[hm]at this
 unfold nsFind findBy at this
 unfold lookIn
 rw[hd]
 dsimp only
 rw[←Array.find?_toList]at this
 cases q:es.toList.find? (·.key.isStr name)with
 |none=>rw[q]at this;(exact nn this)
 |some en=>rw[q]at this;obtain rfl:=Sv this;rfl
section
variable{prog:Program}{w:World}{A:Around}{E:Value->Shared->Prop}{s:Shared}{C D x:Addr}{K:Frag}{ox:Obj}{od:Option Obj}{name:Str}{v:Value}
theorem KN(self:Value)(tk:Tok):Builtin.«object.__getattribute__» ⟨[self,.str name tk],[]⟩=(typeOf self>>=λtp=>find self tp name>>=λr=>match r with
 | .value v=>ret v
 | .bind g a=>bindTo g a self tp
 | .missing=>do
  if tp== .type "module" then
   if ←isOpaqueModuleObj self then
    let KO:=match (←stack).drop 1 with
     | (.builtin "module.__getattribute__" ⟨m::_,_⟩,_)::_=>m==self
     |_=>false
    if !KO then unsupported "thirdparty:object.__getattribute__:a-miss-on-an-opaque-module"
  if tp== .type "type" then
   if let some key ←opaqueClassAbove self then unsupported s!"thirdparty:{key.toString}.{name.toString}:object.__getattribute__-misses-on-an-opaque-class"
  noSuchAttribute self name):=by kernel_rfl
theorem KP{expr:Bool}{Q:Value->Shared->Prop}(X:K.In s.heap)(I:InstAt s.heap x ox C od)(hga:findIn K (.ref C) "__getattribute__"=some (some (.builtin "BaseException.__getattribute__")))
  (hgt:findIn K (.ref C) "__getattr__"=some none) (hb:subIn K (.ref C) (.type "BaseException")=some true) (hf:findObj K C od name=some (.value v)) (hh:handedIn v=true)
  (h:Q v {s with toks:=s.toks+1}):wpAny (model prog w) A (getAttr (.ref x) name expr) Q E s:=by
 obtain⟨hp,g,d,t,os⟩:=s
 dsimp only at X I
 have L0:=I.type (M:=model prog w)
 have FB:=PySem.F.attrBase_Exception
 have vJ:(onTheHeap (Value.ref C)&&Value.builtin "BaseException.__getattribute__"==Value.builtin "object.__getattribute__")=false:=by
  rw[show(Value.builtin "BaseException.__getattribute__"==Value.builtin "object.__getattribute__")=false by decide+kernel,Bool.and_false]
 have vH:(expr&&onTheHeap (Value.builtin "BaseException.__getattribute__"))=false:=by rcases expr with⟨⟩<;>rfl
 unfold getAttr getAttrBy
 refine Sz (wpAny_mkText (UG (Sz (L0.at (Sz ((looks_findIn (M:=model prog w) X hga).at ?_))))))
 dsimp only
 rw[vJ,if_neg TH]
 unfold getAttrByItsOwn hookBefore
 refine Sz ((looks_findIn (M:=model prog w) X hgt).at (Sz (wpAny_attempt (UG ?_))))
 unfold callGetattribute boundAndCalled
 rw[vH,if_neg TH,FB.ga.bind (.ref x)]
 refine Sz (SS ?_)
 refine UA (codeAny_call_builtin FB.ga.plain PySem.F.entry_bexc_ga (@check_slot (model prog w) _ _ ⟨hp,g,d,t+1,os⟩ "BaseException.__getattribute__" "BaseException" "__getattribute__" (.ref x) [.str name t] [] _ (by decide+kernel:builtinKind "BaseException.__getattribute__"=some .slot) (by decide+kernel:splitId "BaseException.__getattribute__"=some ("BaseException","__getattribute__")) (L0.andThen (looks_subIn X hb):Looks (model prog w) hp (isInstance (.ref x) (.type "BaseException")) true) (PySem.F.args_bexc_ga _ _) ?_))
 show wpAny _ _ (Builtin.«object.__getattribute__» ⟨[.ref x,.str name t],[]⟩) _ _ _
 rw[KN]
 refine Sz (L0.at (Sz ((looks_find (M:=model prog w) X I hf).at ?_)))
 refine SS ?_
 show wpAny _ _ (handedOut v) _ _ _
 rw[handedOut_of hh]
 exact SS h
end
section
variable{prog:Program}{w:World}{A:Around}{E:Value->Shared->Prop}{s:Shared}{env:Env}{K:Frag}{C N D x t:Addr}
theorem BY{o:PySem.Expr}{name:Str}{ap p:Pos}{args:List PySem.Expr}{Q:Value->Shared->Prop}(hbase:attributeBase o name env (eval o env)=eval o env)
  (hfew:methodCallForm (args.length+([]:List Keyword).length) (backTo p (starEach args env)) (backToKw p (keywordEach [] env))=true) (hl:(ap.endLine==p.line)=true)
  (h:wpAny (model prog w) A (eval o env) (λov s₁=>∀pl,wpAny (model prog w) A (getMethod ov name pl) (λfx s₂=>wpAny (model prog w) A (callWith p fx.1 fx.2 (backTo p (starEach args env)) []) Q E s₂) E s₁) E s):
  wpAny (model prog w) A (eval (.Call (.Attribute o name ap) args [] p) env) Q E s:=by
 rw[arm_eval_Call,hbase]
 refine Sz (Ti h (λov s₁ h₁=>Sz (Vq ?_)) λ_ _ e=>e)
 unfold methodCall
 rw[hfew]
 refine Sz (UG (Ti (h₁ _) (λfx s₂ h₂=>?_) λ_ _ e=>e))
 have hpos:methodCallPos true o env ap p=pure p:=by unfold methodCallPos;simp[hl]
 refine Sz (wpAny_of_eq hpos ?_)
 exact h₂
theorem KQ{D:Addr}{name:Str}{v:Value}{pl:Sem Bool}{Q:Value×List Value->Shared->Prop}(X:K.In s.heap)(hg:specialIn K (.ref D) "__getattribute__"=some (some (.builtin "type.__getattribute__")))(hr:readsIn K D (.type "type")=true)
  (e:findCls K (.ref D) (.type "type") name=some (.val v)) (hh:handedIn v=true) (h:Q (v,[]) {s with toks:=s.toks+1}):wpAny (model prog w) A (getMethod (.ref D) name pl) Q E s:=
 method_cls X hg (cls_value X hr e hh h)
theorem method_type{T:String}{name:Str}{v:Value}{pl:Sem Bool}{Q:Value×List Value->Shared->Prop}(X:K.In s.heap)(ht:typeOf (.type T)=pure (.type "type"))(ho:opaqueClassAbove (.type T)=pure none)
  (e:findCls K (.type T) (.type "type") name=some (.val v)) (hh:handedIn v=true) (h:Q (v,[]) {s with toks:=s.toks+1}):wpAny (model prog w) A (getMethod (.type T) name pl) Q E s:=by
 have hga:findIn K (.type "type") "__getattribute__"=some (some (.builtin "type.__getattribute__")):=by
  show fastLookup "type" "__getattribute__"=_;decide+kernel
 unfold getMethod specialOf
 refine Sz (Sz (wpAny_of_eq ht ((looks_findIn (M:=model prog w) X hga).here ?_)))
 dsimp only
 rw[if_pos canon_tga]
 refine Sz ?_
 refine cls_open X (WN ho) (WN ht) hga (hook:=none) .now (by show(fastBuiltinMro "type").map (·.contains (.type "type"))=some true;decide+kernel) e ?_
 refine SS ?_
 show wpAny _ _ (handedOut v) _ _ _
 rw[handedOut_of hh]
 exact SS (SS h)
theorem KR{M:Model}{h:Heap}{g:Array GenState}{d:Drawn}{t:Nat}{os:OsState}{oe:Obj}{rest:List Value}{Q:Unit->Shared->Prop}(hB:ni h C N D)(he:h.get? x=some oe)(hcl:oe.cls= .ref C)(hq:Q () ⟨h,g,d,t,os⟩):
  wpAny M A (checkBuiltinCall "Exception.__init__" ⟨.ref x::rest,[]⟩) Q E ⟨h,g,d,t,os⟩:=by
 refine ki hB λnm q bs sn sub ab col dd k0 k1 k2 k3 k5 hC=>?_;clear hB
 rcases oe with⟨_,od,_,_⟩
 subst hcl
 have F:=PySem.F.excBase_Exception
 have ns:=F.noStar
 unfold checkBuiltinCall
 rw[F.initKind,F.initSplit]
 dsimp only
 repeat (first|with_reducible refine Un he ?_|with_reducible refine Un hC ?_| ((with_reducible refine nj hC (b:=true) ?_ ?_);rfl)|wp_step)
 refine wpAny_onRaise ?_
 rw[show∀(a b:String) (n:Nat),Bind.check ⟨.positional,"*","Exception",.self,[⟨"args",.varPos,false⟩]⟩ a b n (List.map (λx=>x.fst) ({pos:=Value.ref x::rest}:Args).kw)=pure ()fromλa b n=>check_star_args _ _ _ _ _ _]
 exact SS hq
theorem KS{R:Result->Shared->Prop}{ox:Obj}{vs:Array Value}{v:Value}(X:K.In s.heap)(hx:s.heap.get? x=some ox)(hcl:ox.cls= .ref C)(hd:ox.data= .fields vs)(hv:vs[0]? =some (.ref t))(hsz:5<vs.size)
  (hB:ni s.heap C N D)
  (h:∀h' t',h'.get? x=some (ox.mapFields (·.setIfInBounds 0 (.ref t')))->(∀b o,b≠x->s.heap.get? b=some o->h'.get? b=some o)->R (.ok (.ret .none)) {s with heap:=h'}):
  codeAny (model prog w) A (.call (.builtin "Exception.__init__") ⟨[.ref x,v],[]⟩) R s:=by
 obtain⟨hp,g,d,tk,os⟩:=s
 dsimp only at X hx h hB
 have F:=PySem.F.excBase_Exception
 refine codeAny_call_builtin F.init.plain F.initEntry (KR hB hx hcl ?_)
 unfold Builtin.«BaseException.__init__»
 have wu:(hp.push (ji [v])).get? x=some ox:=SO _ hx
 have lP:wpAny (model prog w) A.in1 (do Builtin.BaseException.bexcPut (.ref x) 0 (.ref hp.objs.size);ret .none) (λfin s'=>match fin with| .done f=>R (.ok f) s'| .again c'=>c'.quiet=true/\codeAny (model prog w) A c' R s') (λe s'=>R (.error e) s') ⟨hp.push (ji [v]),g,d,tk,os⟩:=by
  unfold Builtin.BaseException.bexcPut
  refine Sz (Sz (Vl wu hd hv (Sz (VU wu hd (by exact av 0x1f00a1e05a rfl hsz) ?_))))
  dsimp only
  unfold letGo
  repeat (any_goals (first|assumption|wp_step))
  refine h _ hp.objs.size ?_ λb o hb ho=>?_
  ·exact Ux _ wu (VV (Vo hd _))
  ·exact(Ue _ _ (VQ hb)).trans (SO _ ho)
 have hnt:wpAny (model prog w) A.in1 (do Builtin.BaseException.bexcPut (.ref x) 0 (←newTuple [v]);ret .none) (λfin s'=>match fin with| .done f=>R (.ok f) s'| .again c'=>c'.quiet=true/\codeAny (model prog w) A c' R s') (λe s'=>R (.error e) s') ⟨hp,g,d,tk,os⟩:=by
  unfold newTuple
  refine Sz (UI ?_ (by show([v]:List Value).toArray.size<=sizeLine;rw[Vs,sizeLine_eq];simp))
  exact lP
 exact hnt
end
structure sy(fd:FuncData)(base attr:Str)(ps:List Str):Prop where
 body:∃q1 q2 q3 q4 q5 q6 p1 p2 p3 p4:Pos,fd.body= .stmts [.Expr (.Call (.Attribute (.Name base q1) "__init__" p1) [.Name "self" q2,.Name "text" q3] [] p2) p3,.Assign [.Attribute (.Name "self" q4) attr p4] (.Name attr q5) q6]/\(p1.endLine==p2.line)=true
 globals:fd.globals=mainGlobals
 closure:fd.closure=[]
 builtins:fd.builtins=builtinsNs
 kind:fd.scope.kind= .function
 gen:fd.scope.isGenerator=false
 co:fd.scope.isCoroutine=false
 cell:∀x∈fd.scope.names,x.2≠ .cell
 nd:ps.Nodup
 loc:∀x∈ps,fd.scope.names.lookup x=some .local
 BZ:fd.scope.names.lookup base=some .globalImplicit
 nb:(base==("__debug__":Str))=false
 binds:∀xs:List Value,xs.length=ps.length->bindArgs fd ⟨xs,[]⟩=pure (ps.zip xs)
structure gH(C:Cx):Prop where
 bad:C.bad=51
 obj:∃nm q bs sn sub ab col dd k0 k1 k2 k3 k5,C.K.lookup 51=some (excClassObj nm q 51 50 bs (kL 31) true sn sub ab col dd k0 k1 k2 k3 k5 "Exception.__new__")
 call:specialIn C.K (.ref 51) "__call__"=some (some (.builtin "type.__call__"))
 typ:instIn C.K (.ref 51) (.type "type")=some true
 ini:findIn C.K (.ref 51) "__init__"=some (some (.ref 48))
 KT:typeIn C.K (.ref 48)=some (.type "function")
 keep:keepIn C.K (.ref 51)=true
 sa:findIn C.K (.ref 51) "__setattr__"=some (some (.builtin "object.__setattr__"))
 ga:findIn C.K (.ref 51) "__getattribute__"=some (some (.builtin "BaseException.__getattribute__"))
 gt:findIn C.K (.ref 51) "__getattr__"=some none
 tx:findIn C.K (.ref 51) "text"=some none
 at_:findIn C.K (.ref 51) "at"=some none
 sub:subIn C.K (.ref 51) (.type "BaseException")=some true
 KU:readsIn C.K 31 (.type "type")=true
 KW:specialIn C.K (.ref 31) "__getattribute__"=some (some (.builtin "type.__getattribute__"))
 KX:findCls C.K (.ref 31) (.type "type") "__init__"=some (.val (.ref 28))
 vE:findCls C.K (.type "Exception") (.type "type") "__init__"=some (.val (.builtin "Exception.__init__"))
 KY:∃o fd,C.K.lookup 48=some o/\o.data= .func fd/\sy fd "ChessError" "at" ["self","at","text"]/\codeIn C.K fd.code fd.qualname=true
 sB:∃o fd,C.K.lookup 28=some o/\o.data= .func fd/\sy fd "Exception" "text" ["self","text"]/\codeIn C.K fd.code fd.qualname=true
 B0:C.mg "BadPgn"=some (.ref 51)
 KZ:C.mg "ChessError"=some (.ref 31)
 K6:C.mg "Exception"=none
 K8:C.mb "Exception"=some (.type "Exception")
theorem gH.sF{C:Cx}(X:gH C){h:Heap}(k:C.K.In h):ni h 51 50 31:=by
 refine ki X.obj λnm q bs sn sub ab col dd k0 k1 k2 k3 k5 e=>?_
 exact⟨nm,q,bs,sn,sub,ab,col,dd,k0,k1,k2,k3,k5,k _ _ e⟩
theorem gH.cd{C:Cx}(X:gH C):∃cd,clsIn C.K 51=some cd/\cd.mro= .ref 51::kL 31/\cd.hasDict=true:=by
 refine ki X.obj λnm q bs sn sub ab col dd k0 k1 k2 k3 k5 e=>?_
 exact⟨_,by unfold clsIn;rw[e],rfl,rfl⟩
theorem qc{g h h':Heap}{L x:Addr}{m:Str->Option Value}(F:Fr g L h m)(hx:g.get? x=none)(hL:x≠L)(k:∀b o,b≠x->h.get? b=some o->h'.get? b=some o):Fr g L h' m:=by
 obtain⟨⟨o,es,ep,e,r⟩,kp,ab⟩:=F
 exact⟨⟨o,es,ep,k _ _ hL.symm e,r⟩,λb ob e=>k _ _ (λz=>by rw[z,hx]at e;exact nn e) (kp b ob e),ab⟩
theorem ww{g h h':Heap}{L x:Addr}{news:List (Addr×Obj)}(N:News g L h news)(nx:∀q∈news,q.1≠x)(k:∀b o,b≠x->h.get? b=some o->h'.get? b=some o):News g L h' news:=λq hq=>
 ⟨k _ _ (nx q hq) (N q hq).1,(N q hq).2⟩
theorem K9{g h:Heap}{L:Addr}{m:Str->Option Value}(F:Fr g L h m):g.get? h.objs.size=none:=by
 cases e:g.get? h.objs.size with
 |none=>rfl
 |some o=>exact absurd (TC (F.keep _ _ e)) (Tv _)
theorem jL{M:Model}{A:Around}{E:Value->Shared->Prop}{s:Shared}{env:Env}{name:Str}{p:Pos}{m:Str->Option Value}{v:Value}{Q:Value->Shared->Prop}(hk:env.scope.kind= .function)(hl:env.scope.names.lookup name=some .local)(hn:s.heap.Ns env.locals m)
 (hv:m name=some v) (nd:(name==("__debug__":Str))=false) (h:Q v s):wpAny M A (eval (.Name name p) env) Q E s:=Wy (UN hk hl hn hv h) nd
section
variable{C:Cx}{A A₀:Around}{base h₀:Heap}{outer:List Env}{env:Env}{L x t:Addr}{m:Str->Option Value}{σ:Shared}{news:List (Addr×Obj)}{v:Value}{R:Result->Shared->Prop}
theorem La(X:gH C)(hB:Bs C h₀)(B:Below A₀ base outer h₀)(hA:A.frames=some (env::outer))(hf:env.frame=some L)(hke:env.scope.kind= .function)(room:A.depth<1000)
  (F:Fr h₀ L σ.heap m) (N:News h₀ L σ.heap ((x,dK 51 t)::news)) (nx:∀q∈news,q.1≠x)
  (k:∀h' tk t' d od,Fr h₀ L h' m->News h₀ L h' ((x,{dK 51 t' with dict:=some d})::(d,od)::news)->h'.Ns1 d (λy=>if y="text" then some v else none)->d≠x->(∀q∈news,q.1≠d)->R (.ok (.ret .none)) {σ with heap:=h',toks:=tk}):
  codeAny (model C.prog C.w) A (.call (.ref 28) ⟨[.ref x,v],[]⟩) R σ:=by
 refine mO X.sB λo fd ho hd K hcd=>?_
 replace ho:=hB.x _ _ ho
 replace hcd:=codeRec_of hB.x hcd
 refine uT K.body λq1 q2 q3 q4 q5 q6 z=>uQ z λp1 p2 p3 p4 kb kl=>?_
 refine v8 kb K.globals K.closure K.builtins B F N hB.nolimit hA hf hke (F.keep _ _ ho) hd (hcd.keeps F.keep) room (Vr (K.binds [.ref x,v] rfl)) (λy hy=>K.loc _ (Vf hy).1) (λg L' h₁ Fg F' N' B' st=>?_) K.cell K.co K.gen K.kind
 have ls:fd.scope.names.lookup ("self":Str)=some NameKind.local:=K.loc _ (by simp)
 have lt':fd.scope.names.lookup ("text":Str)=some NameKind.local:=K.loc _ (by simp)
 have kx:C.K.In g:=hB.x.keeps st
 have xg:=(N' _ (.head _)).2.2
 have xL:=(N' _ (.head _)).2.1
 refine T7 (WC (BY rfl rfl kl (Name_function_global K.kind K.BZ (loadGlobal_builtin ((hB.keeps st).g.keeps F'.keep) X.K6 ((hB.keeps st).b.keeps F'.keep) X.K8 λpl=>?_) K.nb)) (by unfold interactive;show(fd.scope.kind==_&&_)=false;rw[K.kind];rfl) rfl)
 refine method_type (kx.keeps F'.keep) (by kernel_rfl) (by kernel_rfl) X.vE (by decide+kernel) ?_
 refine vA rfl rfl (jL K.kind ls F'.ns (v:= .ref x) (by kernel_rfl) (by decide) (jL K.kind lt' F'.ns (v:=v) (by kernel_rfl) (by decide) (UA ?_)))
 refine KS (C:=51) (kx.keeps F'.keep) (N' _ (.head _)).1 rfl rfl rfl (by show 5<6;decide) (X.sF (kx.keeps F'.keep)) λh2 t' g2 k2=>?_
 have F2:=qc F' xg xL k2
 have g2:h2.get? x=some (dK 51 t'):=g2
 refine T7 (plainObj_wpAny_Assign_Attribute (jL K.kind lt' F2.ns (v:=v) (by kernel_rfl) (by decide) (jL K.kind ls F2.ns (v:= .ref x) (by kernel_rfl) (by decide) ?_)) rfl)
 refine aN X.cd λcd hcl hm hh=>?_
 refine BW (od:=none) (kx.keeps F2.keep) ⟨g2,rfl,rfl,trivial⟩ X.sa hcl hm X.tx λA'=>?_
 refine KI (kx.keeps F2.keep) g2 rfl rfl rfl hcl hh λh3 d tk' B1 gx hn k3 dx=>?_
 refine Uw ?_
 refine lB (id hn) λod es ep ed r=>?_
 have hlive:∀{b:Addr} {o:Obj},h2.get? b=some o->b≠d:=λe=>by rw[B1];exact SX (TC e)
 have N2:News g L' h2 news:=ww (λq hq=>N' q (.tail _ hq)) nx k2
 have N3:News g L' h3 ((x,{dK 51 t' with dict:=some d})::(d,od)::news):=λq hq=>by
  rcases SH.mp hq with rfl|hq
  ·exact⟨gx,xL,xg⟩
  rcases SH.mp hq with rfl|hq
  ·refine⟨ed,?_,?_⟩
   ·refine lB F2.ns λoL _ _ eL _=>?_
    exact(hlive eL).symm
   ·show g.get? d=none;rw[B1];exact K9 F2
  ·exact ww N2 nx k3 q hq
 exact leaveK_ (qc F2 xg xL k3) N3 λF4 N4=>k h3 _ t' d od F4 N4 hn dx λq hq=>hlive (N2 q hq).1
theorem Lb{a:Value}(X:gH C)(hB:Bs C h₀)(B:Below A₀ base outer h₀)(hA:A.frames=some (env::outer))(hf:env.frame=some L)(hke:env.scope.kind= .function)(room:A.depth+1<1000)
  (F:Fr h₀ L σ.heap m) (N:News h₀ L σ.heap ((x,dK 51 t)::news)) (nx:∀q∈news,q.1≠x)
  (k:∀h' tk t' d od,Fr h₀ L h' m->News h₀ L h' ((x,{dK 51 t' with dict:=some d})::(d,od)::news)->lookIn "at" od=some (some a)->d≠x->(∀q∈news,q.1≠d)->R (.ok (.ret .none)) {σ with heap:=h',toks:=tk}):
  codeAny (model C.prog C.w) A (.call (.ref 48) ⟨[.ref x,a,v],[]⟩) R σ:=by
 refine mO X.KY λo fd ho hd K hcd=>?_
 replace ho:=hB.x _ _ ho
 replace hcd:=codeRec_of hB.x hcd
 refine uT K.body λq1 q2 q3 q4 q5 q6 z=>uQ z λp1 p2 p3 p4 kb kl=>?_
 refine v8 kb K.globals K.closure K.builtins B F N hB.nolimit hA hf hke (F.keep _ _ ho) hd (hcd.keeps F.keep) (show A.depth<1000 by exact af 0x1f101e191a0 rfl room) (Vr (K.binds [.ref x,a,v] rfl)) (λy hy=>K.loc _ (Vf hy).1) (λg L' h₁ Fg F' N' B' st=>?_) K.cell K.co K.gen K.kind
 have ls:fd.scope.names.lookup ("self":Str)=some NameKind.local:=K.loc _ (by simp)
 have kx:C.K.In g:=hB.x.keeps st
 have B2:=hB.keeps st
 refine T7 (WC (BY rfl rfl kl (Name_function_global K.kind K.BZ (loadGlobal_global (B2.g.keeps F'.keep) X.KZ λpl=>?_) K.nb)) (by unfold interactive;show(fd.scope.kind==_&&_)=false;rw[K.kind];rfl) rfl)
 refine KQ (kx.keeps F'.keep) X.KW X.KU X.KX rfl ?_
 refine mO X.sB λsB RG Lc Ld _ _=>?_
 refine callWith_def (o:=sB) Ld (args2 rfl rfl (jL K.kind ls F'.ns (v:= .ref x) (by kernel_rfl) (by decide) (jL K.kind (K.loc _ (by simp):fd.scope.names.lookup ("text":Str)=some NameKind.local) F'.ns (v:=v) (by kernel_rfl) (by decide) ⟨F'.keep _ _ (kx _ _ Lc),UA ?_⟩)))
 let e':Env:=envX fd.qualname fd.scope L' 48 fd.code []
 refine La X B2 B' (A:=A.deeper e') (env:=e') (outer:=env::outer) (by show A.frames.map (e':: ·)=_;rw[hA];rfl) rfl K.kind (show A.depth+1<1000 from room) F' N' nx λh2 RH t' d od F2 N2 hn dx nd=>?_
 refine T7 (plainObj_wpAny_Assign_Attribute (jL K.kind (K.loc _ (by simp):fd.scope.names.lookup ("at":Str)=some NameKind.local) F2.ns (v:=a) (by kernel_rfl) (by decide) (jL K.kind ls F2.ns (v:= .ref x) (by kernel_rfl) (by decide) ?_)) rfl)
 refine aN X.cd λcd hcl hm hh=>?_
 have gx:=(N2 _ (.head _)).1
 have dg:=(N2 _ (.tail _ (.head _))).2.2
 have dL:=(N2 _ (.tail _ (.head _))).2.1
 refine BW (od:=some od) (kx.keeps F2.keep) ⟨gx,rfl,rfl,((N2 _ (.tail _ (.head _))).1)⟩ X.sa hcl hm X.at_ λA'=>?_
 refine KL (kx.keeps F2.keep) gx rfl rfl hcl hh hn (Ws _ _ WS) (by simp) λh3 tk' B3 k3=>?_
 refine Uw ?_
 refine lB (id B3) λB4 es ep ed r=>?_
 have N3:News g L' h3 ((x,{dK 51 t' with dict:=some d})::(d,B4)::news):=λq hq=>by
  rcases SH.mp hq with rfl|hq
  ·exact⟨k3 _ _ dx.symm gx,(N2 _ (.head _)).2⟩
  rcases SH.mp hq with rfl|hq
  ·exact⟨ed,dL,dg⟩
  ·exact ww (λq hq=>N2 q (.tail _ (.tail _ hq))) nd k3 q hq
 exact leaveK_ (qc F2 dg dL k3) N3 λF4 N4=>k h3 _ t' d B4 F4 N4 (KM B3 ed (by simp)) dx nd
end
theorem Lg{M:Model}{A:Around}{E:Value->Shared->Prop}{env:Env}{s:Shared}{x:Sem Value}{Q:Flow->Shared->Prop}{C N D:Addr}(hh:A.handled=none)
  (h:wpAny M A x (λv s₁=>∃e d vs sl,v= .ref e/\ni s₁.heap C N D/\s₁.heap.get? e=some ⟨.ref C,d,.fields vs,sl⟩/\vs[1]? =some .none/\E (.ref e) s₁) E s):wpAny M A (raiseStmt env (some x) none) Q E s:=by
 unfold raiseStmt
 refine Sz (Ti h (λv s₁ h₁=>?_) λ_ _ x=>x)
 refine zS h₁ λe d vs sl ae hB he h1 hE=>?_;clear h₁;subst ae
 refine ki hB λnm q bs sn sub ab col dd k0 k1 k2 k3 k5 hC=>?_;clear hB
 obtain⟨hp,g,dr,tk,os⟩:=s₁
 repeat (first|with_reducible refine Vl he rfl h1 ?_|with_reducible refine Un he ?_|with_reducible refine Un hC ?_| ((with_reducible refine nj hC (b:=true) ?_ ?_);rfl)|wp_step)
 exact wpAny_raiseNew_none hh hE
section
variable{C:Cx}{F:Fx}{ns:List Str}
theorem Lh(X:gH C){e:E}{v:PySem.Expr}{p:Pos}(O:F.Ok C)(W:F.Own ns)(hfe:F.env=F.fe)(ok:v6 F.env.scope e v=true):bM C F ns (Sp C) (.raise e) (.Raise (some v) none p):=by
 refine jf (M:=λv=>bM C F ns (Sp C) (.raise e) (.Raise (some v) none p)) ok λf xs kw pq ok=>fh ok λn pf ok=>i2 ok λa t ok=>iE ok λok=>dZ (M:=λn=>bM C F ns (Sp C) (.raise e) (.Raise (some (.Call (.Name n pf) [a,t] [] pq)) none p)) ok λok=>im ok λk1 pc pu ok=>hG ok λc k2 p2 ok=>rI ok λs0 ok=>?_
 obtain rfl:=J7 (an ok).2
 have hg:=(an ok).1
 clear ok
 intro ρ m φ h ex P q σ₀ σ Er s t hP hE
 simp only[bz,S8,beq_iff_eq,To]at hg
 obtain⟨σh,σg,σd,σt,σo⟩:=σ
 rw[arm_exec_Raise]
 refine Sz (Vq (Lg (C:=51) (N:=50) (D:=31) O.handled (Sz ?_)))
 refine Call_ (Name_function_global O.kind hg.1 (loadGlobal_global (by rw[O.globals];exact O.bs.g.keeps s.fr.keep) X.B0 ?_) hg.2)
 refine callWith_K (K:=C.K) O.bs.x X.keep (args2 rfl rfl (UnaryOp_ (T6 (neg_int (Us ⟨O.bs.x.keeps s.fr.keep,UA ?_⟩))))) rfl rfl
 dsimp only
 have kx:=O.bs.x.keeps s.fr.keep
 refine KD (X.sF kx) kx X.call X.typ X.ini X.KT (by rw[sizeLine_eq];simp) ?_
 have room:=O.room
 unfold Mine.room at room
 have N0:News F.h₀ F.L ((σh.push (ji [.int (-1) (σt+1),.str s0 (σt+1+1)])).push (dK 51 σh.objs.size)) ((σh.objs.size+1,dK 51 σh.objs.size)::(cells σh φ++ex)):=λq hq=>by
  have z:=(s.re.news.push s.fr (ji [.int (-1) (σt+1),.str s0 (σt+1+1)])).push (s.fr.push _) (dK 51 σh.objs.size)
  rw[VT]at z
  rcases SH.mp hq with rfl|hq
  ·exact z _ (.head _)
  ·exact z _ (.tail _ (.tail _ hq))
 have lt:∀q∈cells σh φ++ex,q.1<σh.objs.size:=λq hq=>TC (s.re.news q hq).1
 refine Lb X O.bs O.below (show F.A.frames=some (F.fe::F.outer)from O.frames) O.fL O.gy (show F.A.depth+1+1<1000 by exact ah 0x1f291a91a01e29662b910 rfl room.1) ((s.fr.push _).push _) N0 (λq hq=>SX (Vv (lt q hq))) λh' tk t' d od F' N' la dx nd=>?_
 have gx:=N' _ (.head _)
 have gd:=N' _ (.tail _ (.head _))
 refine⟨rfl,?_⟩
 have pl:∀p∈φ,(∃o,(p.1,o)∈cells σh φ++ex)/\∃o,(p.2,o)∈cells σh φ++ex:=λp hp=>⟨pj (.inr ⟨p,hp,.inl rfl⟩),pj (.inr ⟨p,hp,.inr rfl⟩)⟩
 have na:∀b o,(b,o)∈cells σh φ++ex->σh.objs.size+1≠b:=λb o hb=>TV (Vv (lt _ hb))
 have r2:=((s.re.ofNews λq hq=>N' q (.tail _ (.tail _ hq)):Re C.R F.h₀ F.L φ h ex h').more (q:=(d,od)) gd.1 gd.2.2 gd.2.1 λp hp=>let ⟨⟨o1,e1⟩,o2,e2⟩:=pl p hp;⟨(nd _ e1).symm,(nd _ e2).symm⟩).more (q:=(σh.objs.size+1,{dK 51 t' with dict:=some d})) gx.1 gx.2.2 gx.2.1 λp hp=>let ⟨⟨o1,e1⟩,o2,e2⟩:=pl p hp;⟨na _ _ e1,na _ _ e2⟩
 refine Sz (Vq (SS ⟨_,some d,_,_,rfl,X.sF (O.bs.x.keeps F'.keep),gx.1,rfl,hE φ h _ _ _ (Tj _) q ⟨m,_,d,od,_,_,rfl,F',r2,dx.symm,λq hq=>⟨(na q.1 q.2 (SY _ hq)).symm,nd q (SY _ hq)⟩,s.rest,⟨?_,rfl,rfl,_,la,vInt⟩,?_,rfl⟩⟩))
 ·rw[X.bad]
 ·simp
end
section
variable{M:Model}{A:Around}{E:Value->Shared->Prop}{s:Shared}{base:Heap}{env:Env}{outer:List Env}{L e:Addr}{c:Value}{d:Option Addr}{vs:Array Value}{sl:Array (Option Value)}{Q:Unit->Shared->Prop}
theorem B5{head:Value}{had:Bool}(hfr:A.frames=some (env::outer))(hl:s.heap.FunFrames base (env::outer))(hf:env.frame=some L)(he:s.heap.get? e=some ⟨c,d,.fields vs,sl⟩)(hsz:1<vs.size)
  (h:∀h' T ts,h'.get? e=some ⟨c,d,.fields (vs.setIfInBounds 1 (.ref T)),sl⟩->h'.get? T=some {cls:= .type "traceback",dict:=none,data:= .fields ts}->ts[3]? =some (rawInt L)->s.heap.objs.size<=T->
   (∀b o,b≠e->b∉(env::outer).filterMap (·.frame)->s.heap.get? b=some o->h'.get? b=some o)->(∀b o,b≠e->s.heap.get? b=some o->∃jM,h'.get? b=some {o with slots:=jM})->Q () {s with heap:=h'}):
  wpAny M A (do let a ←frameOf env;let pl ←entryPlaceOf L had;let b ←EntryCells.newEntry head a .none (rawInt L) .none pl;setField (.ref e) 1 b) Q E s:=by
 have hef:e∉(env::outer).filterMap (·.frame):=λhm=>by
  refine mN (hl.mem hm) λ_ o ho hn=>?_
  rw[he]at ho;obtain rfl:=Sv ho;exact hn vs rfl
 refine Sz (wpAny_frameOf_fun hfr hl hf λh₁ hs=>Sz (wpAny_entryPlaceOf λpl hpl=>?_))
 unfold EntryCells.newEntry newFields
 refine Sz (UI ?_ (hpl.sizeOk5 _ _ _ _ _))
 have e1:h₁.get? e=some ⟨c,d,.fields vs,sl⟩:=(hs.2.1 e hef).trans he
 generalize hT:({cls:= .type "traceback",dict:=none,data:= .fields ([head,.ref L,.none,rawInt L,.none]++(if pl.isEmpty then List.replicate 6 Value.none else pl)).toArray}:Obj)=oT
 have e2:(h₁.push oT).get? e=some ⟨c,d,.fields vs,sl⟩:=SO _ e1
 have eT:(h₁.push oT).get? h₁.objs.size=some oT:=TF h₁ (by rw[←hT];rfl)
 refine VU e2 rfl hsz (h _ h₁.objs.size _ (Ux _ e2 rfl) ((Ue _ _ (TV (TC e1):h₁.objs.size≠e).symm).trans (eT.trans (by rw[←hT]))) ?_ (UY hs.1.symm) (λb o hb Li ho=>?_) λb o hb ho=>?_)
 ·simp
 ·exact(Ue _ _ hb.symm).trans (SO _ ((hs.2.1 b Li).trans ho))
 ·refine xE (hs.2.2 b o ho) λjM e3=>?_
  exact⟨jM,(Ue _ _ hb.symm).trans (SO _ e3)⟩
theorem Lj(hfr:A.frames=some (env::outer))(hl:s.heap.FunFrames base (env::outer))(hf:env.frame=some L)(he:s.heap.get? e=some ⟨c,d,.fields vs,sl⟩)(hv:vs[1]? =some .none)
  (h:∀h' T ts,h'.get? e=some ⟨c,d,.fields (vs.setIfInBounds 1 (.ref T)),sl⟩->h'.get? T=some {cls:= .type "traceback",dict:=none,data:= .fields ts}->ts[3]? =some (rawInt L)->s.heap.objs.size<=T->
   (∀b o,b≠e->b∉(env::outer).filterMap (·.frame)->s.heap.get? b=some o->h'.get? b=some o)->(∀b o,b≠e->s.heap.get? b=some o->∃jM,h'.get? b=some {o with slots:=jM})->Q () {s with heap:=h'}):
  wpAny M A (noteFrame (.ref e) env) Q E s:=by
 unfold noteFrame
 simp only[hf]
 refine Sz (Vl he rfl hv ?_)
 rw[if_neg (by decide)]
 exact B5 hfr hl hf he (Tw.mp hv).1 h
theorem Lk{T:Addr}{oT:Obj}{ts:Array Value}(hfr:A.frames=some (env::outer))(hl:s.heap.FunFrames base (env::outer))(hf:env.frame=some L)(he:s.heap.get? e=some ⟨c,d,.fields vs,sl⟩)(hv:vs[1]? =some (.ref T))
  (hT:s.heap.get? T=some oT) (hd:oT.data= .fields ts) (h3:ts[3]? =some .none) (ne:T≠e)
  (h:∀h' T' ts',h'.get? e=some ⟨c,d,.fields (vs.setIfInBounds 1 (.ref T')),sl⟩->h'.get? T'=some {cls:= .type "traceback",dict:=none,data:= .fields ts'}->ts'[3]? =some (rawInt L)->s.heap.objs.size<=T'->
   (∀b o,b≠e->b≠T->b∉(env::outer).filterMap (·.frame)->s.heap.get? b=some o->h'.get? b=some o)->(∀b o,b≠e->b≠T->s.heap.get? b=some o->∃jM,h'.get? b=some {o with slots:=jM})->Q () {s with heap:=h'}):
  wpAny M A (noteFrame (.ref e) env) Q E s:=by
 unfold noteFrame
 simp only[hf]
 refine Sz (Vl he rfl hv ?_)
 rw[if_pos (show(Value.ref T !=Value.none)=true by simp)]
 refine Sz (Vl hT hd h3 ?_)
 rw[if_neg (show¬((Value.none==rawInt L)=true)by simp[rawInt])]
 refine Sz (VU hT hd (Tw.mp h3).1 ?_)
 have other:∀b,b≠T->(s.heap.update T (Obj.mapFields (·.setIfInBounds 3 Value.none))).get? b=s.heap.get? b:=λb hb=>Ue _ _ hb.symm
 have hl':=hl.of_keeps (h':=s.heap.update T (Obj.mapFields (·.setIfInBounds 3 Value.none))) λb o hb hn=>⟨o,(other b λz=>by rw[z,hT]at hb;obtain rfl:=Sv hb;exact hn _ hd).trans hb,rfl⟩
 refine B5 hfr hl' hf ((other e ne.symm).trans he) (Tw.mp hv).1 λh' T' ts' a1 a2 a3 a4 a5 a6=>?_
 exact h h' T' ts' a1 a2 a3 (SQ (UY (Heap.size_after_update ..).symm) a4) (λb o h1 h2 h3 h4=>a5 b o h1 h3 ((other b h2).trans h4)) λb o h1 h2 h4=>a6 b o h1 ((other b h2).trans h4)
theorem wx{T:Addr}{oT:Obj}{ts:Array Value}(he:s.heap.get? e=some ⟨c,d,.fields vs,sl⟩)(hv:vs[1]? =some (.ref T))(hT:s.heap.get? T=some oT)(hd:oT.data= .fields ts)(hsz:3<ts.size)
  (h:∀h',h'.get? T=some (oT.mapFields (·.setIfInBounds 3 .none))->(∀b,b≠T->h'.get? b=s.heap.get? b)->Q () {s with heap:=h'}):wpAny M A (setFlight (.ref e) none) Q E s:=by
 refine wpAny_setFlight_none he rfl hv hT hd hsz (h _ (Ux _ hT (VV (Vo hd _))) λb hb=>Ue _ _ hb.symm)
end
structure wy(R:RT)(bad:Addr)(h₀:Heap)(L:Addr)(m:Str->Option Value)(φ:Pl)(h:H)(ex:List (Addr×Obj))(x:V)(a T d:Addr)(od oT:Obj)(vs ts:Array Value)(sl:Array (Option Value))(hp:Heap):Prop where
 fr:Fr h₀ L hp m
 re:Re R h₀ L φ h ((a,⟨.ref bad,some d,.fields vs,sl⟩)::(T,oT)::(d,od)::ex) hp
 aT:a≠T
 ad:a≠d
 Td:T≠d
 ap:∀q∈ex,q.1≠a/\q.1≠T/\q.1≠d
 word:∃v,lookIn "at" od=some (some v)/\VR R φ x v
 head:vs[1]? =some (.ref T)
 data:oT.data= .fields ts
 flight:ts[3]? =some .none
noncomputable def Zx(R:RT)(bad:Addr)(h₀:Heap)(L:Addr)(m:Str->Option Value)(frames:List Env)(φ:Pl)(h:H)(ex:List (Addr×Obj))(e:Value)(x:V)(σ:Shared):Prop:=
 ∀env,frames=[env]->∃a T d od oT vs ts sl,e= .ref a/\wy R bad h₀ L m φ h ex x a T d od oT vs ts sl σ.heap
section
variable{C:Cx}
theorem Ll(hZ:C.Z=Zx C.R C.bad){F:Fx}{h₀:Heap}{L:Addr}{m:Str->Option Value}{env:Env}{outer:List Env}{φ:Pl}{h:H}{ex:List (Addr×Obj)}{σ₀ σ:Shared}{e:Value}{x:V}{Q:Unit->Shared->Prop}{E:Value->Shared->Prop}
  (O:F.Ok C) (ho:F.outer=env::outer) (Fh:Fr h₀ L F.h₀ m) (hf:env.frame=some L) (z:Zs C F φ h ex σ₀ e x σ) (hq:∀σ',Rest σ₀ σ'->C.Z h₀ L m (env::outer) φ h ex e x σ'->Q () σ'):
  wpAny (model C.prog C.w) F.A (leaving F.fe e) Q E σ:=by
 obtain⟨m',a,d,od,oe,vs,rfl,ny,r,ad,ap,rest,⟨xc,xd,xf,xw⟩,v0,v1⟩:=z
 obtain⟨oc,BX,nr,osl⟩:=oe
 dsimp only at xc xd xf
 subst xc xd xf
 have ga:=r.ex _ (.head _)
 unfold leaving
 refine Sz (Lj O.frames (pushX O.below ny O.fL O.gy).frames O.fL ga.1 v1 λh1 T ts e1 eT t3 hT k1 wz=>?_)
 have B6:1<vs.size:=(Tw.mp v1).1
 have eJ:∀{b:Addr} {o:Obj},σ.heap.get? b=some o->T≠b:=λe=>TV (SV (TC e) hT)
 have aT:T≠a:=eJ ga.1
 refine wx (s:={σ with heap:=h1}) e1 (by simp[B6]) eT rfl (Tw.mp t3).1 λh2 Lm k2=>hq _ rest ?_
 rw[hZ]
 intro env' hfr
 refine xA (show env=env'/\outer=[]from by simpa using hfr) λae az=>?_;subst ae;subst az
 have hfs:(F.fe::F.outer).filterMap (·.frame)=[F.L,L]:=by rw[ho];simp[O.fL,hf]
 have keep:∀b o,b≠a->b≠F.L->b≠L->σ.heap.get? b=some o->h2.get? b=some o:=λb o n1 n2 n3 hb=>by
  have:=k1 b o n1 (by rw[hfs];simp[n2,n3]) hb
  exact(k2 b (eJ hb).symm).trans this
 have hnone:∀{b:Addr},F.h₀.get? b=none->h₀.get? b=none:=λ{b} hb=>by
  cases q:h₀.get? b with
  |none=>rfl
  |some o=>have:=Fh.keep _ _ q;rw[hb]at this;exact nn this
 refine lB Fh.ns λoL es ep gL rL=>?_
 have sG:∀{b:Addr},F.h₀.get? b=none->b≠L:=λ{b} hb z=>by rw[z,gL]at hb;exact ns hb
 have aL:=sG ga.2.1
 have lT:Fr h₀ L h2 m:=by
  refine⟨?_,λb o hb=>?_,Fh.above⟩
  ·refine xE (wz L oL aL.symm (ny.keep _ _ gL)) λjM g'=>?_
   exact⟨_,es,ep,(k2 L (eJ (ny.keep _ _ gL)).symm).trans g',rL⟩
  ·have hb':=Fh.keep _ _ hb
   refine keep b o (λz=>?_) (λz=>?_) (λz=>?_) (ny.keep _ _ hb')
   ·have:=ga.2.1;dsimp only at this;rw[←z,hb']at this;exact ns this
   ·rw[z,(Uz ny.above:F.h₀.get? F.L=none)]at hb';exact nn hb'
   ·rw[z,(Uz Fh.above:h₀.get? L=none)]at hb;exact nn hb
 have r1:Re C.R F.h₀ F.L φ h ((d,od)::ex) σ.heap:=r.less λq hq=> .tail _ hq
 have na:∀b,(b∈((d,od)::ex).map (·.1)\/∃p∈φ,b=p.1\/b=p.2)->b≠a/\(∃o,σ.heap.get? b=some o)/\F.h₀.get? b=none/\b≠F.L:=λb hb=>by
  rcases hb with hb| ⟨p,hp,hb⟩
  ·refine am (TY.mp hb) λq hq ae=>?_;subst ae
   have y:=r1.ex q hq
   refine⟨?_,⟨_,y.1⟩,y.2.1,y.2.2.1⟩
   rcases SH.mp hq with rfl|hq
   ·exact ad.symm
   ·exact(ap q hq).1
  ·have f:=r.fresh p hp
   have l:=r.live hp
   have n:=ga.2.2.2 p hp
   rcases hb with rfl|rfl
   ·exact⟨n.1.symm,l.1,f.1,f.2.2.1⟩
   ·exact⟨n.2.symm,l.2,f.2.1,f.2.2.2⟩
 have r2:Re C.R h₀ L φ h ((d,od)::ex) h2:=r1.move λb hb=>by
  obtain⟨n1,⟨o,e⟩,n3,n4⟩:=na b hb
  exact⟨(keep b o n1 n4 (sG n3) e).trans e.symm,hnone n3,sG n3⟩
 have T0:F.h₀.get? T=none:=by
  cases q:F.h₀.get? T with
  |none=>rfl
  |some o=>exact absurd rfl (eJ (ny.keep _ _ q))
 have r3:=(r2.more (q:=(T,Obj.mapFields (·.setIfInBounds 3 Value.none) {cls:= .type "traceback",dict:=none,data:= .fields ts})) Lm (hnone T0) (sG T0) λp hp=>⟨let ⟨o,e⟩:=(r.live hp).1;eJ e,let ⟨o,e⟩:=(r.live hp).2;eJ e⟩).more
  (q:=(a,⟨.ref C.bad,some d,.fields (vs.setIfInBounds 1 (.ref T)),osl⟩)) ((k2 a aT.symm).trans e1:h2.get? a=some ⟨.ref C.bad,some d,.fields (vs.setIfInBounds 1 (.ref T)),osl⟩) (hnone ga.2.1) aL ga.2.2.2
 refine⟨a,T,d,od,_,_,_,osl,rfl,lT,r3,aT.symm,ad,eJ (r.ex _ (.tail _ (.head _))).1,λq hq=>⟨(ap q hq).1,(eJ (r.ex q (.tail _ (.tail _ hq))).1).symm,(ap q hq).2⟩,xw,by simp[B6],rfl,?_⟩
 simp[((Tw.mp t3).1)]
end
section
variable{C:Cx}{F:Fx}{ns:List Str}{ρ:Loc}{mf ml:Str->Option Value}{φ:Pl}{h:H}{ex:List (Addr×Obj)}{σ₀ σ:Shared}
theorem Ln{f:Nat}{x:Str}{es:Es}{xs:List PySem.Expr}{p p':Pos}{Qr Xr:Post}(O:F.Ok C)(e:C.R.fname f=x)(ok:bz F.env.scope x=true)(hn:C.R.named f=true)(hp:∀y∈xs,plainHead y=true)
  (hr:hM C F ns (Sp C) es xs) (q:cH C.T (Sp C) F.n es ρ h λvs h=>match F.n with| 0=>False|m+1=>Sp C m f vs h Qr Xr) (s:St C F ns ρ mf ml φ h ex σ₀ σ) (t:1<=σ.toks) {Q Er:Value->Shared->Prop}
  (hQ:∀φ' h' y v σ',φ<+:φ'->St C F ns ρ mf ml φ' h' ex σ₀ σ'->VR C.R φ' y v->Qr y h'->Q v σ') (hE:∀φ' h' y v σ',φ<+:φ'->Xr y h'->Rest σ₀ σ'->Lo C.R φ' ns ρ ml->C.Z F.h₀ F.L mf (F.fe::F.outer) φ' h' ex v y σ'->Er v σ'):
  wpAny (model C.prog C.w) F.A (eval (.Call (.Name x p') xs [] p) F.env) Q Er σ:=by
 simp only[bz,S8,beq_iff_eq,To]at ok
 refine rx (O.bs.fn f hn) λhmg o fd ho hd=>?_
 rw[e]at hmg
 refine Call_ (Name_function_global O.kind ok.1 (loadGlobal_global (by rw[O.globals];exact O.bs.g.keeps s.fr.keep) hmg ?_) ok.2)
 have fin:∀{φ1:Pl} {h1:H} {vs:List V} {ws:List Value} {σ1:Shared},φ<+:φ1->St C F ns ρ mf ml φ1 h1 ex σ₀ σ1->1<=σ1.toks->aD C.R φ1 vs ws->(match F.n with| 0=>False|m+1=>Sp C m f vs h1 Qr Xr)->
   wpAny (model C.prog C.w) F.A (call (.ref (C.R.b7 f)) ws) Q Er σ1:=by
  intro φ1 h1 vs ws σ1 p1 s1 t1 vx q1
  have hroom:=O.room
  cases hF:F.n with
  |zero=>rw[hF]at q1;exact q1.elim
  |succ m=>
   rw[hF]at q1 hroom
   refine UA (codeAny_mono (q1 F.A F.A₀ F.base F.outer F.fe F.h₀ F.L mf φ1 ex σ1 ws O.below O.frames O.fL O.gy O.ky O.kD O.jG O.kE O.handled O.bs hroom.one s1.fr s1.re vx t1) λr σ' z=>?_)
   rcases r with e| (_|_|_|v)
   ·refine lC z λφ2 h2 y p2 xr k2 z=>?_
    exact hE φ2 h2 y e σ' (p1.trans p2) xr (s1.rest.trans k2) (s1.lo.mono p2) z
   ·exact z
   ·exact z
   ·exact z
   ·refine oZ z λφ2 h2 y p2 f2 r2 v2 q2 k2=>?_;clear z
    exact hQ φ2 h2 y v σ' (p1.trans p2) (s1.back p2 f2 r2 k2) v2 q2
 cases xs with
 |nil=>
  refine callWith_function (o:=o) (fd:=fd) (UR ⟨⟨s.fr.keep _ _ ho,hd⟩,?_⟩)
  have z:=(hr _ _ _ _ _ _ _ p q) σ₀ σ Er s t
  refine Sz (m:=(pure []:Sem (List Value))) (f:=λvs=>call (.ref (C.R.b7 f)) vs) (Ti (Uo t (z:wpAny (model C.prog C.w) F.A (pure []) (λv σ'=>∃φ' h' x,φ<+:φ'/\St C F ns ρ mf ml φ' h' ex σ₀ σ'/\aD C.R φ' x v/\(match F.n with| 0=>False|m+1=>Sp C m f x h' Qr Xr)/\v.length=0) Er σ)) (λv σ1 hh=>?_) λ_ _ z=>z.2)
  refine uV hh λt1 φ1 h1 x p1 s1 vx q1 _=>?_;clear hh
  exact fin p1 s1 t1 vx q1
 |cons y ys=>
  refine callWith_def (o:=o) hd ((hr _ _ _ _ _ _ _ p q).on s t λφ1 h1 vs ws σ1 p1 s1 t1 vx q1 _=>⟨s1.fr.keep _ _ ho,fin p1 s1 t1 vx q1⟩) (eH (hp y (.head _)))
end
section
variable{C:Cx}{F:Fx}{m:Str->Option Value}{φ:Pl}{h:H}{ex:List (Addr×Obj)}{σ:Shared}{x:V}{a T d:Addr}{od oT:Obj}{vs ts:Array Value}{sl:Array (Option Value)}
theorem Lp{R:RT}{bad:Addr}{E:Value->Shared->Prop}{Q:Unit->Shared->Prop}(O:F.Ok C)(ho:F.outer=[])(f:wy R bad F.h₀ F.L m φ h ex x a T d od oT vs ts sl σ.heap)
  (k:∀h' T' wA vs' ts',Fr F.h₀ F.L h' m->Re R F.h₀ F.L φ h ((a,⟨.ref bad,some d,.fields vs',sl⟩)::(d,od)::ex) h'->vs'[1]? =some (.ref T')->h'.get? T'=some wA->wA.data= .fields ts'->3<ts'.size->T'≠a->T'≠d->T'≠F.L->F.h₀.get? T'=none->(∀p∈φ,T'≠p.1/\T'≠p.2)->(∀q∈ex,T'≠q.1)->Q () {σ with heap:=h'}):
  wpAny (model C.prog C.w) F.A (noteFrame (.ref a) F.fe) Q E σ:=by
 obtain⟨fr,r,aT,ad,Td,ap,xw,hv,hd,h3⟩:=f
 have ga:=r.ex _ (.head _)
 have gT:=r.ex _ (.tail _ (.head _))
 have hfs:(F.fe::F.outer).filterMap (·.frame)=[F.L]:=by rw[ho];simp[O.fL]
 refine Lk O.frames (pushX O.below fr O.fL O.gy).frames O.fL ga.1 hv gT.1 hd h3 aT.symm λh1 T' ts' e1 eT t3 hT k1 wz=>?_
 have eJ:∀{b:Addr} {o:Obj},σ.heap.get? b=some o->T'≠b:=λe=>TV (SV (TC e) hT)
 have keep:∀b o,b≠a->b≠T->b≠F.L->σ.heap.get? b=some o->h1.get? b=some o:=λb o n1 n2 n3 hb=>k1 b o n1 n2 (by rw[hfs];simp[n3]) hb
 refine lB fr.ns λoL es ep gL rL=>?_
 have lT:Fr F.h₀ F.L h1 m:=by
  refine⟨?_,λb o hb=>keep b o (λz=>?_) (λz=>?_) (λz=>?_) (fr.keep _ _ hb),fr.above⟩
  ·refine xE (wz F.L oL (λz=>ga.2.2.1 z.symm) (λz=>gT.2.2.1 z.symm) gL) λjM g'=>?_
   exact⟨_,es,ep,g',rL⟩
  ·have:=ga.2.1;dsimp only at this;rw[←z,hb]at this;exact ns this
  ·have:=gT.2.1;dsimp only at this;rw[←z,hb]at this;exact ns this
  ·rw[z,(Uz fr.above:F.h₀.get? F.L=none)]at hb;exact nn hb
 have r1:Re R F.h₀ F.L φ h ((d,od)::ex) σ.heap:=r.less λq hq=> .tail _ (.tail _ hq)
 have r2:Re R F.h₀ F.L φ h ((d,od)::ex) h1:=r1.move λb hb=>by
  rcases hb with hb| ⟨p,hp,hb⟩
  ·refine am (TY.mp hb) λq hq ae=>?_;subst ae
   have y:=r1.ex q hq
   refine⟨(keep _ _ ?_ ?_ y.2.2.1 y.1).trans y.1.symm,y.2.1,y.2.2.1⟩
   ·rcases SH.mp hq with rfl|hq;exact ad.symm;exact(ap q hq).1
   ·rcases SH.mp hq with rfl|hq;exact Td.symm;exact(ap q hq).2.1
  ·have f:=r.fresh p hp
   obtain⟨⟨o1,l1⟩,o2,l2⟩:=r.live hp
   have n:=ga.2.2.2 p hp
   have n':=gT.2.2.2 p hp
   rcases hb with rfl|rfl
   ·exact⟨(keep _ _ n.1.symm n'.1.symm f.2.2.1 l1).trans l1.symm,f.1,f.2.2.1⟩
   ·exact⟨(keep _ _ n.2.symm n'.2.symm f.2.2.2 l2).trans l2.symm,f.2.1,f.2.2.2⟩
 refine k h1 T' _ _ _ lT (r2.more (q:=(a,⟨.ref bad,some d,.fields (vs.setIfInBounds 1 (.ref T')),sl⟩)) e1 ga.2.1 ga.2.2.1 ga.2.2.2) (by simp[((Tw.mp hv).1:1<vs.size)]) eT rfl (Tw.mp t3).1 (eJ ga.1) (eJ (r.ex _ (.tail _ (.tail _ (.head _)))).1) (eJ gL) ?_ (λp hp=>⟨let ⟨o,e⟩:=(r.live hp).1;eJ e,let ⟨o,e⟩:=(r.live hp).2;eJ e⟩) λq hq=>eJ (r1.ex q (.tail _ hq)).1
 cases q:F.h₀.get? T' with
 |none=>rfl
 |some o=>exact absurd rfl (eJ (fr.keep _ _ q))
theorem B7{R:RT}{h₀ hp aJ:Heap}{L T':Addr}{ex':List (Addr×Obj)}(r:Re R h₀ L φ h ex' hp)(n1:∀p∈φ,T'≠p.1/\T'≠p.2)(n2:∀q∈ex',T'≠q.1)(k:∀b,b≠T'->aJ.get? b=hp.get? b):Re R h₀ L φ h ex' aJ:=r.move λb hb=>by
 rcases hb with hb| ⟨p,jE,hb⟩
 ·refine am (TY.mp hb) λq hq ae=>?_;subst ae
  have y:=r.ex q hq
  exact⟨k _ (n2 q hq).symm,y.2.1,y.2.2.1⟩
 ·have f:=r.fresh p jE
  rcases hb with rfl|rfl
  ·exact⟨k _ (n1 p jE).1.symm,f.1,f.2.2.1⟩
  ·exact⟨k _ (n1 p jE).2.symm,f.2.1,f.2.2.2⟩
theorem Lq(X:gH C)(O:F.Ok C)(hfe:F.env=F.fe)(ho:F.outer=[])(hlo:F.env.locals=F.L){n:Str}{p7 p8 p9 ia dM Lr qd B8:Pos}{Ls:Nat}{yes:List Stmt}(hg:bz F.env.scope m9=true)(hn:F.env.scope.names.lookup n=some .local)(hnd:(n==("__debug__":Str))=false)
  (f:wy C.R C.bad F.h₀ F.L m φ h ex (.int (-1)) a T d od oT vs ts sl σ.heap) {Q:Flow->Shared->Prop} {Er:Value->Shared->Prop}
  (k:∀h' tk v,Fr F.h₀ F.L h' (λy=>if y=n then v else m y)->Re C.R F.h₀ F.L φ h ex h'->Q .next {σ with heap:=h',toks:=tk}):
  wpAny (model C.prog C.w) F.A (noteFrame (.ref a) F.env) (λ_ s₂=>wpAny (model C.prog C.w) F.A (setFlight (.ref a) none) (λ_ s₃=>
   wpAny (model C.prog C.w) F.A (handleBy (.ref a) F.env [.ExceptHandler (some (.Name m9 p7)) (some n) [.If (.Compare (.Attribute (.Name n p8) "at" p9) [.NotEq] [.UnaryOp .USub (.Constant (.int 1) Ls ia) dM] Lr) yes [] qd] B8]) Q Er s₃) Er s₂) Er σ:=by
 simp only[bz,S8,beq_iff_eq,To]at hg
 refine am f.word λwv wl wr=>?_
 rw[hfe]at*
 refine Lp O ho f λh1 T' wA vs' ts' Lu r1 v1 gT dT tz Ta Td TL T0 np nx=>?_
 have nq:∀q∈(a,(⟨.ref C.bad,some d,.fields vs',sl⟩:Obj))::(d,od)::ex,T'≠q.1:=λq hq=>by
  rcases SH.mp hq with rfl|hq;exact Ta
  rcases SH.mp hq with rfl|hq;exact Td
  exact nx q hq
 refine wx (s:={σ with heap:=h1}) ((r1.ex _ (.head _)).1) v1 gT dT tz λh2 Lv k2=>?_
 have r2:=B7 r1 np nq k2
 have lT:=qc Lu T0 TL λb o hb e=>(k2 b hb).trans e
 have fN:=(r2.ex _ (.head _)).1
 refine wpAny_handleBy_cons (codeAny_handlers_test ?_) (by intro q;rcases q with⟨⟩)
 refine Name_function_global O.gy hg.1 (loadGlobal_global (by rw[O.jG];exact O.bs.g.keeps lT.keep) X.B0 ?_) hg.2
 refine ki (X.sF (O.bs.x.keeps lT.keep)) λnm q bs sn sub ab col dd k0 k1 RI k3 k5 hC=>?_
 obtain⟨σh,σg,σd,σt,σo⟩:=σ
 refine wpAny_excMatches_sub_self hC fN (by rw[X.bad]) (by simp) ?_
 refine codeAny_handlers_suite_as ?_
 refine wx (s:=⟨h2,σg,σd,σt,σo⟩) fN v1 Lv (Vo dT (·.setIfInBounds 3 Value.none)) (by simp[tz]) λh3 RJ k3=>?_
 have sH:=qc lT T0 TL λb o hb e=>(k3 b hb).trans e
 have qe:F.fe.locals=F.L:=hlo
 have hst:(F.fe.scope.kind== .class||(F.fe.scope.kind== .module&&F.fe.locals !=F.fe.globals))=false:=by rw[O.gy];rfl
 refine TG (s:=⟨h3,σg,σd,σt,σo⟩) (show F.fe.kindOf n=some .local from hn) (by rw[qe];exact sH.ns) (λh4 B9 wB=>?_) hst
 rw[qe]at B9 wB
 have sI:=sH.set B9 wB
 have r4:Re C.R F.h₀ F.L φ h ((a,⟨.ref C.bad,some d,.fields vs',sl⟩)::(d,od)::ex) h4:=(B7 r2 np nq k3).keep λb o hb _ e=>(wB.2 b hb).trans e
 refine aN X.cd λcd hcl hm hh=>?_
 refine xE (show∃t,wv= .int (-1) t from wr) λtw ae=>?_;subst ae
 have hf:findObj C.K 51 (some od) "at"=some (.value (.int (-1) tw)):=by
  unfold findObj
  rw[hcl]
  simp only[TM,X.at_,PySem.W.ownOf,hh,if_true,wl]
 refine T7 (wpAny_If (wpAny_isTrue_Compare1 (Attribute_any_ (jL O.gy hn (by rw[qe];exact sI.ns) (v:= .ref a) (by simp) hnd ?_) (by with_unfolding_all rfl)) rfl))
 refine KP (C:=51) (od:=some od) (s:=⟨h4,σg,σd,σt+1,σo⟩) (O.bs.x.keeps sI.keep) ⟨((r4.ex _ (.head _)).1),by rw[X.bad],rfl,((r4.ex _ (.tail _ (.head _))).1)⟩ X.ga X.gt X.sub hf rfl ?_
 refine UnaryOp_ (T6 (neg_int ?_))
 refine Wb ?_
 refine Um ?_
 show wpAny _ _ (execs [] F.fe) _ _ _
 refine Uw (Uw ?_)
 refine wpAny_nameGoes_keeps (show F.fe.kindOf n=some .local from hn) (by rw[qe];exact sI.ns) hst λh5 v Ca wC=>?_
 rw[qe]at Ca wC
 have sJ:=sI.set Ca wC
 have em:(λy=>if y=n then v else if y=n then some (Value.ref a)else m y)=λy=>if y=n then v else m y:=by
  funext y
  by_cases hy:y=n<;>simp[hy]
 rw[em]at sJ
 exact k h5 _ v sJ ((r4.keep λb o hb _ e=>(wC.2 b hb).trans e).less λq hq=> .tail _ (.tail _ hq):Re C.R F.h₀ F.L φ h ex h5)
end
section
variable{C:Cx}{F:Fx}{ns:List Str}
theorem Lw{R:RT}{φ:Pl}{ρ:Loc}{m:Str->Option Value}{n:Str}{v:Option Value}(l:Lo R φ ns ρ m)(hn:ns.contains n=false):Lo R φ ns ρ (λy=>if y=n then v else m y):=by
 refine⟨l.1,λi x w a b=>?_⟩
 refine am (l.2 i x w a b) λr hr vr=>?_
 have:x≠n:=λz=>by
  have:=Sy a
  rw[z]at this
  rw[List.contains_iff_mem.mpr this]at hn;exact bad hn.symm
 exact⟨r,by simp[this,hr],vr⟩
theorem Lx(X:gH C)(hZ:C.Z=Zx C.R C.bad)(hi:∀c,c<3->C.R.b7 (C.T.init c)=C.R.init c){f:Nat}{es:Es}{body:List Stmt}{hs:List ExceptHandler}{p:Pos}(O:F.Ok C)(W:F.Own ns)(hfe:F.env=F.fe)(ho:F.outer=[])(ok:v7 C.R C.gn F.env.scope ns f es body hs=true):
  bM C F ns (Sp C) (.ff f es) (.Try body hs [] [] p):=by
 refine i2 (M:=λbody=>bM C F ns (Sp C) (.ff f es) (.Try body hs [] [] p)) ok λs1 s2 ok=>v3 ok λv p3 ok=>Bj ok λk4 p5 p6 ok=>i1 (M:=λhs=>bM C F ns (Sp C) (.ff f es) (.Try _ hs [] [] p)) ok λhd ok=>?_
 have sL:=(an ok).2
 replace ok:=(an ok).1
 obtain⟨t0,n0,bo,B8⟩:=hd
 refine iS (M:=λt0=>bM C F ns (Sp C) (.ff f es) (.Try _ [.ExceptHandler t0 _ _ _] [] [] p)) ok λt1 ok=>iS (M:=λn0=>bM C F ns (Sp C) (.ff f es) (.Try _ [.ExceptHandler _ n0 _ _] [] [] p)) ok λn ok=>fh ok λy p7 ok=>i1 (M:=λbo=>bM C F ns (Sp C) (.ff f es) (.Try _ [.ExceptHandler _ _ bo _] [] [] p)) ok λs1 ok=>dZ (M:=λy=>bM C F ns (Sp C) (.ff f es) (.Try _ [.ExceptHandler (some (.Name y _)) _ _ _] [] [] p)) ok λok=>J9 ok λk1 k2 q1 q2 q3 q4 q5 q6 q7 q8 ok=>?_
 have h4:=jh ok
 have hg:=h4.1.1.1
 have hn:=eq_of_beq h4.1.1.2
 have hnd:=nt h4.1.2
 have hc:=h4.2
 clear ok
 refine vQ (M:=λv=>bM C F ns (Sp C) (.ff f es) (.Try [.Expr v _,_] _ [] [] p)) sL λx xs q p2 gx g=>?_
 clear sL
 have g:=b8 g
 intro ρ m φ h ex P q σ₀ σ Er s t hP hE
 refine wpAny_Try_except (T7 (wpAny_Expr_any (Ln O (eq_of_beq g.1.1) gx g.2 (si g.1.2) (A7 hi es _ _ _ O g.1.2) q s t (λφ1 h1 y v σ1 p1 s1 vy q1=>?_) λφ1 h1 y v σ1 p1 q1 k1 l1 z=>?_) (by unfold interactive;rw[O.kind];rfl) rfl))
 ·refine T7 (Wp (Wa ?_))
  exact⟨φ1,h1,ρ,m,.bool false,p1,s1,vBool,q1⟩
 ·obtain⟨rfl,q1⟩:=q1
  rw[hZ,ho]at z
  obtain⟨a,T,d,od,oT,vs,ts,sl,rfl,fl⟩:=z F.fe rfl
  refine Lq X O hfe ho W.at_ hg hn hnd fl λh' tk v fr r=>?_
  exact⟨φ1,h1,ρ,_,p1,⟨fr,r,Lw l1 (nt hc),.inl ⟨W.at_,rfl⟩,k1⟩,q1⟩
theorem Cb(X:gH C)(hZ:C.Z=Zx C.R C.bad)(hi:∀c,c<3->C.R.b7 (C.T.init c)=C.R.init c):Raises C where
 raise:=λO W hfe ok=>Lh X O W hfe ok
 Br:=λO W hfe ho ok=>Lx X hZ hi O W hfe ho ok
 leave:=λO ho Fh hf z hq=>Ll hZ O ho Fh hf z hq
end
end Mine
namespace Mine
open PySem PySem.W PySem.Calls PyProof.Rows PySem.Spec
noncomputable def o6{α:Type}(l:List α)(p:α->α->α->α->α->α->Bool):Bool:=oC l λa l=>oC l λb l=>oC l λc l=>oC l λd l=>o2 l (p a b c d)
theorem i6{α:Type}{l:List α}{p:α->α->α->α->α->α->Bool}{M:List α->Prop}(h:o6 l p=true)(k:∀a b c d e f,p a b c d e f=true->M [a,b,c,d,e,f]):M l:=
 iC h λa _ h=>iC h λb _ h=>iC h λc _ h=>iC h λd _ h=>i2 h λe f h=>k a b c d e f h
noncomputable def Cc(o:Obj):Bool:=we o.cls λt=>BL o.data λcd=>o6 o.slots.toList λ_ _ _ _ b _=>oS b λb=>BH b λi=>
 decide (i="Exception.__new__")&&(decide (t="type")&&decide (cd.mro= .ref 51::kL 31)&&decide (cd.ns=50)&&cd.hasDict&& !cd.hasDel)
noncomputable def lU(o:Obj):Prop:=∃nm q bs sn sub ab col dd k0 k1 k2 k3 k5,o=excClassObj nm q 51 50 bs (kL 31) true sn sub ab col dd k0 k1 k2 k3 k5 "Exception.__new__"
theorem Ly{o:Obj}(e:Cc o=true):lU o:=by
 rcases o with⟨c,dc,d,sl⟩
 exact BG (M:=λc=>lU ⟨c,dc,d,sl⟩) e λt e=>Kq (M:=λd=>lU ⟨.type t,dc,d,sl⟩) e λcd e=>Array.toArray_toList (xs:=sl)▸i6 (M:=λl=>lU ⟨.type t,dc,.cls cd,l.toArray⟩) e λa b c d g f e=>iS (M:=λg=>lU ⟨.type t,dc,.cls cd,#[a,b,c,d,g,f]⟩) e λg e=>Ko (M:=λg=>lU ⟨.type t,dc,.cls cd,#[a,b,c,d,some g,f]⟩) e λi e=>dG (M:=λi=>lU ⟨.type t,dc,.cls cd,#[a,b,c,d,some (.builtin i),f]⟩) e λe=>by
  have h:=pM e
  rcases cd with⟨nm,bs,mro,ns,q,nv,sn,sub,ab,col,del⟩
  exact⟨nm,q,bs,sn,sub,ab,col,dc,a,b,c,d,f,by rw[of_decide_eq_true h.1.1.1.1,show mro=_ from of_decide_eq_true h.1.1.1.2,show ns=_ from of_decide_eq_true h.1.1.2,show nv=_ from h.1.2,show del=_ from nt h.2]⟩
noncomputable def Cd(K:Frag):Bool:=(K.lookup 51).any Cc
theorem Lz{K:Frag}(e:Cd K=true):∃nm q bs sn sub ab col dd k0 k1 k2 k3 k5,K.lookup 51=some (excClassObj nm q 51 50 bs (kL 31) true sn sub ab col dd k0 k1 k2 k3 k5 "Exception.__new__"):=
 am (qa e) λo ho e=>ki (Ly e) λa1 a2 a3 a4 a5 a6 a7 a8 a9 b1 b2 b3 b4 z=>⟨a1,a2,a3,a4,a5,a6,a7,a8,a9,b1,b2,b3,b4,z▸ho⟩
noncomputable def jN(s:Str)(e:Ex)(b:Bool):Bool:=eG e λx _=>x==s&&b
@[elab_as_elim] theorem kM{s:Str}{e:Ex}{b:Bool}{M:Ex->Prop}(h:jN s e b=true)(k:∀p,b=true->M (.Name s p)):M e:=fh h λx p h=>dZ (M:=λx=>M (.Name x p)) h (k p)
noncomputable def Ce(base attr:Str)(b:FuncBody):Bool:=su b λl=>o2 l λs1 s2=>so s1 λx _=>hJ x λf ts kw q=>iI f λa n p=>jN base a (n==("__init__":Str)&&(o2 ts λt1 t2=>jN "self" t1 (jN "text" t2 (oE kw (lQ s2 λgs v _=>o1 gs λg=>iI g λo m _=>jN "self" o (m==attr&&jN attr v (p.endLine==q.line)))))))
noncomputable def d6(base attr:Str)(b:FuncBody):Prop:=∃q1 q2 q3 q4 q5 q6 p1 p2 p3 p4,b= .stmts [.Expr (.Call (.Attribute (.Name base q1) "__init__" p1) [.Name "self" q2,.Name "text" q3] [] p2) p3,.Assign [.Attribute (.Name "self" q4) attr p4] (.Name attr q5) q6]/\(p1.endLine==p2.line)=true
theorem LA{base attr:Str}{b:FuncBody}(e:Ce base attr b=true):d6 base attr b:=
 wh e λl e=>i2 (M:=λl=>d6 base attr (.stmts l)) e λs1 s2 e=>v3 (M:=λs1=>d6 base attr (.stmts [s1,s2])) e λx p3 e=>jf (M:=λx=>d6 base attr (.stmts [.Expr x p3,s2])) e λf ts kw p2 e=>jd (M:=λf=>d6 base attr (.stmts [.Expr (.Call f ts kw p2) p3,s2])) e λa n p1 e=>kM (M:=λa=>d6 base attr (.stmts [.Expr (.Call (.Attribute a n p1) ts kw p2) p3,s2])) e λq1 e=>dZ (M:=λn=>d6 base attr (.stmts [.Expr (.Call (.Attribute (.Name base q1) n p1) ts kw p2) p3,s2])) e λe=>
  i2 (M:=λts=>d6 base attr (.stmts [.Expr (.Call (.Attribute (.Name base q1) "__init__" p1) ts kw p2) p3,s2])) e λt1 t2 e=>kM (M:=λt1=>d6 base attr (.stmts [.Expr (.Call (.Attribute (.Name base q1) "__init__" p1) [t1,t2] kw p2) p3,s2])) e λq2 e=>kM (M:=λt2=>d6 base attr (.stmts [.Expr (.Call (.Attribute (.Name base q1) "__init__" p1) [.Name "self" q2,t2] kw p2) p3,s2])) e λq3 e=>iE (M:=λkw=>d6 base attr (.stmts [.Expr (.Call (.Attribute (.Name base q1) "__init__" p1) [.Name "self" q2,.Name "text" q3] kw p2) p3,s2])) e λe=>
  m8 (M:=λs2=>d6 base attr (.stmts [_,s2])) e λgs v q6 e=>i1 (M:=λgs=>d6 base attr (.stmts [_,.Assign gs v q6])) e λg e=>jd (M:=λg=>d6 base attr (.stmts [_,.Assign [g] v q6])) e λo m p4 e=>kM (M:=λo=>d6 base attr (.stmts [_,.Assign [.Attribute o m p4] v q6])) e λq4 e=>dZ (M:=λm=>d6 base attr (.stmts [_,.Assign [.Attribute (.Name "self" q4) m p4] v q6])) e λe=>kM (M:=λv=>d6 base attr (.stmts [_,.Assign [.Attribute (.Name "self" q4) attr p4] v q6])) e λq5 e=>⟨q1,q2,q3,q4,q5,q6,p1,p2,p3,p4,rfl,e⟩
noncomputable def Cf(base attr:Str)(ps:List Str)(fd:FuncData):Bool:=Ce base attr fd.body&&decide (fd.globals=mainGlobals)&&fd.closure.isEmpty&&decide (fd.builtins=builtinsNs)&&decide (fd.scope.kind= .function)&& !fd.scope.isGenerator&& !fd.scope.isCoroutine&&
 fd.scope.names.all (λx=>decide (x.2≠ .cell))&&decide ps.Nodup&&ps.all (λx=>decide (fd.scope.names.lookup x=some .local))&&decide (fd.scope.names.lookup base=some .globalImplicit)&& !(base==("__debug__":Str))&&
 fd.params.posonlyargs.isEmpty&&decide (fd.params.args.map (·.arg)=ps)&&fd.params.vararg.isNone&&fd.params.kwonlyargs.isEmpty&&fd.params.kwarg.isNone&&decide (fd.defaults= .none)
theorem LB{base attr:Str}{ps:List Str}{fd:FuncData}(e:Cf base attr ps fd=true):sy fd base attr ps:=
 uN e λe1 e2 e3 e4 e5 e6 e7 e8 e9 pS lS pT pU pV pW pX pY pZ=>⟨LA e1,of_decide_eq_true e2,TP.mp e3,of_decide_eq_true e4,of_decide_eq_true e5,nt e6,nt e7,λx hx=>of_decide_eq_true (Tl.mp e8 x hx),of_decide_eq_true e9,λx hx=>of_decide_eq_true (Tl.mp pS x hx),of_decide_eq_true lS,nt pT,λxs hx=>BD (TP.mp pU) (of_decide_eq_true pV) pW (TP.mp pX) pY (of_decide_eq_true pZ) (of_decide_eq_true e9) hx⟩
noncomputable def wD(K:Frag)(a:Addr)(base attr:Str)(ps:List Str):Bool:=(K.lookup a).any λo=>(wd o.data).any λfd=>Cf base attr ps fd&&codeIn K fd.code fd.qualname
theorem Cg{K:Frag}{a:Addr}{base attr:Str}{ps:List Str}(e:wD K a base attr ps=true):∃o fd,K.lookup a=some o/\o.data= .func fd/\sy fd base attr ps/\codeIn K fd.code fd.qualname=true:=by
 refine am (qa e) λo ho e=>?_
 refine am (qa e) λfd hd e=>?_
 exact⟨o,fd,ho,BF hd,LB (an e).1,(an e).2⟩
noncomputable def isVal(r:Option CFound)(v:Value):Bool:=oS r λc=>BN c λw=>decide (w=v)
theorem Ch{r:Option CFound}{v:Value}(e:isVal r v=true):r=some (.val v):=iS (M:=λr=>r=some (.val v)) e λc e=>Ks (M:=λc=>some c=some (.val v)) e λw e=>of_decide_eq_true e▸rfl
noncomputable def xB(K:Frag):Bool:=Cd K&&decide (specialIn K (.ref 51) "__call__"=some (some (.builtin "type.__call__")))&&decide (instIn K (.ref 51) (.type "type")=some true)&&decide (findIn K (.ref 51) "__init__"=some (some (.ref 48)))&&
 decide (typeIn K (.ref 48)=some (.type "function"))&&keepIn K (.ref 51)&&decide (findIn K (.ref 51) "__setattr__"=some (some (.builtin "object.__setattr__")))&&decide (findIn K (.ref 51) "__getattribute__"=some (some (.builtin "BaseException.__getattribute__")))&&
 decide (findIn K (.ref 51) "__getattr__"=some none)&&decide (findIn K (.ref 51) "text"=some none)&&decide (findIn K (.ref 51) "at"=some none)&&decide (subIn K (.ref 51) (.type "BaseException")=some true)&&readsIn K 31 (.type "type")&&
 decide (specialIn K (.ref 31) "__getattribute__"=some (some (.builtin "type.__getattribute__")))&&isVal (findCls K (.ref 31) (.type "type") "__init__") (.ref 28)&&isVal (findCls K (.type "Exception") (.type "type") "__init__") (.builtin "Exception.__init__")&&
 wD K 48 "ChessError" "at" ["self","at","text"]&&wD K 28 "Exception" "text" ["self","text"]
theorem LD{C:Cx}(e:xB C.K=true)(hb:C.bad=51)(h1:C.mg "BadPgn"=some (.ref 51))(h2:C.mg "ChessError"=some (.ref 31))(h3:C.mg "Exception"=none)(h4:C.mb "Exception"=some (.type "Exception")):gH C:=
 uN e λe1 e2 e3 e4 e5 e6 e7 e8 e9 pS lS pT pU pV pW pX pY pZ=>⟨hb,Lz e1,of_decide_eq_true e2,of_decide_eq_true e3,of_decide_eq_true e4,of_decide_eq_true e5,e6,of_decide_eq_true e7,of_decide_eq_true e8,of_decide_eq_true e9,of_decide_eq_true pS,of_decide_eq_true lS,of_decide_eq_true pT,pU,of_decide_eq_true pV,Ch pW,Ch pX,Cg pY,Cg pZ,h1,h2,h3,h4⟩
noncomputable def LF(h:Heap):Bool:=decide (h.nsMap mainGlobals "BadPgn"=some (.ref 51))&&decide (h.nsMap mainGlobals "ChessError"=some (.ref 31))&&decide (h.nsMap mainGlobals "Exception"=none)
noncomputable def wF(fd:FuncData):Bool:=su fd.body λl=>oC l λs sts=>lQ s λgs v _=>o1 gs λg=>jN "nums" g (hJ v λf xs kw _=>jN "list" f (oE kw (o1 xs λa=>mT a λu s _=>jN "script" u (vc s λl h t _=>oN l (oN t (oS h λh=>gw h λn _ _=>decide (n= .int 20)&&
 (cF fd.scope (eI 54) 1 "nums"&&cF fd.scope (eI 54) 0 "script"&&bz fd.scope "list"&&hV aP 25 fd.scope (eI 54) true rG sts)))))))
noncomputable def dN(fd:FuncData)(b:FuncBody):Prop:=∃q1 q2 q3 q4 q5 q6 q7 q8 k sts,b= .stmts (.Assign [.Name "nums" q1] (.Call (.Name "list" q2) [.Subscript (.Name "script" q3) (.Slice none (some (.Constant (.int 20) k q4)) none q5) q6] [] q7) q8::sts)/\
 cF fd.scope (eI 54) 1 "nums"=true/\cF fd.scope (eI 54) 0 "script"=true/\bz fd.scope "list"=true/\hV aP 25 fd.scope (eI 54) true rG sts=true
theorem LG{fd:FuncData}(e:wF fd=true):dN fd fd.body:=
 wh (M:=λb=>dN fd b) e λl e=>iC (M:=λl=>dN fd (.stmts l)) e λs sts e=>m8 (M:=λs=>dN fd (.stmts (s::sts))) e λgs v q8 e=>i1 (M:=λgs=>dN fd (.stmts (.Assign gs v q8::sts))) e λg e=>kM (M:=λg=>dN fd (.stmts (.Assign [g] v q8::sts))) e λq1 e=>jf (M:=λv=>dN fd (.stmts (.Assign _ v q8::sts))) e λf xs kw q7 e=>kM (M:=λf=>dN fd (.stmts (.Assign _ (.Call f xs kw q7) q8::sts))) e λq2 e=>iE (M:=λkw=>dN fd (.stmts (.Assign _ (.Call _ xs kw q7) q8::sts))) e λe=>i1 (M:=λxs=>dN fd (.stmts (.Assign _ (.Call _ xs _ q7) q8::sts))) e λa e=>
  pB (M:=λa=>dN fd (.stmts (.Assign _ (.Call _ [a] _ q7) q8::sts))) e λu s q6 e=>kM (M:=λu=>dN fd (.stmts (.Assign _ (.Call _ [.Subscript u s q6] _ q7) q8::sts))) e λq3 e=>Ab (M:=λs=>dN fd (.stmts (.Assign _ (.Call _ [.Subscript _ s q6] _ q7) q8::sts))) e λl h t q5 e=>iN (M:=λl=>dN fd (.stmts (.Assign _ (.Call _ [.Subscript _ (.Slice l h t q5) q6] _ q7) q8::sts))) e λe=>iN (M:=λt=>dN fd (.stmts (.Assign _ (.Call _ [.Subscript _ (.Slice _ h t q5) q6] _ q7) q8::sts))) e λe=>iS (M:=λh=>dN fd (.stmts (.Assign _ (.Call _ [.Subscript _ (.Slice _ h _ q5) q6] _ q7) q8::sts))) e λh e=>
  hG (M:=λh=>dN fd (.stmts (.Assign _ (.Call _ [.Subscript _ (.Slice _ (some h) _ q5) q6] _ q7) q8::sts))) e λn k q4 e=>dG (M:=λn=>dN fd (.stmts (.Assign _ (.Call _ [.Subscript _ (.Slice _ (some (.Constant n k q4)) _ q5) q6] _ q7) q8::sts))) e λe=>have f:=jh e;⟨q1,q2,q3,q4,q5,q6,q7,q8,k,sts,rfl,f.1.1.1,f.1.1.2,f.1.2,f.2⟩
noncomputable def LH(h:Heap):Bool:=oS (jK h 484) λfd=>pR true ph (eI 54) fd&&codeB h fd&&wF fd
noncomputable def nA(h:Heap):Bool:=allB h&&xB (pQ h)&&LF h&&LH h
noncomputable def T₀(P:Params):BT:=(nh (boot_heap P).objs.toList 0 .nil).getD .nil
noncomputable def wG(w:World)(os:OsState):Option SharedT:=
 nf (Fast.tw6613529449190102663 11 (some (.ref 6))) (Fast.tw10156331382660048174 (Fast.tw11892475500146522536 Fast.tw14364793385576792824) PySem.Challenge.pw_nt0448_01 w) 6574
  ⟨T₀ w.params,11,(boot_heap w.params).life,Array.mk [],boot_drawn,boot_toks,os⟩ (topStub PySem.Challenge.pw_nt0448_01)
noncomputable def vq:Program:=view PySem.Challenge.pw_nt0448_01 [88]
noncomputable def lq:List Str:=(["ChessError","BadPgn","NO_MOVE","GameNode","add_variation","new_root","END","TAG_OPEN","TAG_CLOSE","TEXT","NUMBER","DOT","WORD","REMARK","NAG","OPEN","CLOSE","RESULT","SINGLES","RESULTS","SIGNS","LONGEST","LAST_NAG","is_blank","is_control","is_digit","is_letter","is_word_sign","is_tag_name","digits_end","word_end","row_end","skip_blanks","number_of","words_of","read_text","read_braces","read_nag","read_sign","read_word","read_token","read_tokens","quote","remark_pieces","lay_rows","Record","LineReader","kind_at","place_at","tag_of","read_tag","read_tags","settle_waiting","take_word","take_remark","open_line","close_line","take_token","read_record","LINE","BRANCH","BACK","add_remarks","number_word","move_pieces","tree_pieces","write_tag","write_record","_law_words","_law_bits","_law_names","_law_values","_law_results","_law_remark","_law_draw","_law_plant","_law_braces","_law_said","_law_rest","_law_text","_law_settle","_law_same"]:List String).map Str.ofString
noncomputable def sM(s:Shared):Bool×Option Obj:=(nA s.heap,s.heap.get? 89)
noncomputable def sN(w:World):Bool×Option Obj:=(true,some (qb w))
noncomputable def wH(w:World):Prop:=∀os:OsState,(wG w os).map (λs=>ends PySem.Challenge.pw_nt0448_01 vq lq (λ_=>true) sM true (absHeap (T₀ w.params) 11 (boot_heap w.params).life) s.abs)=some (true,openGood vq lq,sN w)
theorem LJ(w:World):wH (w.withFollow "special-get-raises" false):=λos=>by kernel_rfl
theorem LK(w:World):wH (w.withFollow "special-get-raises" true):=λos=>by kernel_rfl
theorem LL(w:World):wH w:=byRow2 "special-get-raises" LJ LK w
theorem LM(w:World)(os:OsState):wG w os=nf (stepOk 11 (some (.ref 6))) (stepT (denote treeTable) PySem.Challenge.pw_nt0448_01 w) 6574 ⟨T₀ w.params,11,(boot_heap w.params).life,Array.mk [],boot_drawn,boot_toks,os⟩ (topStub PySem.Challenge.pw_nt0448_01):=by
 unfold wG
 rw[Fast.te6613529449190102663,Fast.te10156331382660048174,Fast.te11892475500146522536,Fast.te14364793385576792824]
theorem LN(P:Params):boot_heap P=absHeap (T₀ P) 11 (boot_heap P).life:=by
 have h1:(nh (boot_heap P).objs.toList 0 .nil).isSome=true:=by kernel_rfl
 obtain⟨t,ht⟩:=UZ.mp h1
 have h3:=Kh (life:=(boot_heap P).life) ht
 rw[(by kernel_rfl:(boot_heap P).objs.toList.length=11)]at h3
 unfold T₀
 rw[ht]
 show _=absHeap t 11 _
 rw[h3]
theorem LO:LeftO PySem.Challenge.pw_nt0448_01 vq lq (λ_=>true) sM sN 6574:=
 LeftO.mine (H₀:=boot_heap) (T₀:=T₀) (gs₀:=Array.mk []) (d₀:=boot_drawn) (k₀:=boot_toks) (m₀:=11) (ann:=some (.ref 6))
  (boot_open (by kernel_rfl) rfl λs=>by kernel_rfl) (λw=>by kernel_rfl)
  λw=>⟨(boot_heap w.params).life,LN _,λos=>by rw[←LM];exact LL w os⟩
end Mine
namespace Mine
theorem sO{α:Type}{l:List α}{i:Nat}{a:α}(e:l[i]? =some a):i<l.length:=(Sr.mp e).1
inductive A2{α β:Type}(P:α->β->Prop):List α->List β->Prop
 |nil:A2 P [] []
 |cons {a:α} {b:β} {as:List α} {bs:List β} (p:P a b) (r:A2 P as bs):A2 P (a::as) (b::bs)
section
variable{α β:Type}{P Q:α->β->Prop}{as cs:List α}{bs ds:List β}
theorem A2.app(x:A2 P as bs)(y:A2 P cs ds):A2 P (as++cs) (bs++ds):=x.rec y λp _ ih=> .cons p ih
theorem A2.wI(x:A2 P as bs):(∀a b,a∈as->P a b->Q a b)->A2 Q as bs:=x.rec (λ_=> .nil) λp _ ih k=> .cons (k _ _ Sq p) (ih λa b m=>k a b (Su _ m))
theorem A2.imp(k:∀a b,P a b->Q a b)(x:A2 P as bs):A2 Q as bs:=x.wI λa b _=>k a b
theorem A2.length(x:A2 P as bs):as.length=bs.length:=x.rec rfl λ_ _ ih=>congrArg Nat.succ ih
theorem A2.flip(x:A2 P as bs):A2 (λb a=>P a b) bs as:=x.rec .nil λp _ ih=> .cons p ih
theorem A2.LP(x:A2 P as bs):∀(i:Nat) (b:β),bs[i]? =some b->∃a,as[i]? =some a/\P a b:=
 x.rec (λ_ _ e=>nn e) λ{a _ _ _} p _ ih i b=>Nat.casesOn i (λe=>⟨a,rfl,Sv e▸p⟩) λi e=>ih i b e
theorem A2.get(x:A2 P as bs){i:Nat}{b:β}(e:bs[i]? =some b):∃a,as[i]? =some a/\P a b:=x.LP i b e
theorem A2.at(x:A2 P as bs){i:Nat}{a:α}(e:as[i]? =some a):∃b,bs[i]? =some b/\P a b:=x.flip.get e
theorem A2.two(x:A2 P as bs){i:Nat}{a:α}{b:β}(e:as[i]? =some a)(e':bs[i]? =some b):P a b:=am (x.get e') λ_ z p=>Sv (z.symm.trans e)▸p
theorem A2.zip(x:A2 P as bs):∀y∈bs.zip as,P y.2 y.1:=x.rec (λ_ h=>nm h) λp _ ih y h=>(SH.mp h).elim (λz=>z▸p) (ih y)
theorem A2.mem(x:A2 P as bs){a:α}(h:a∈as):∃b,P a b:=xE (VW.mp h) λi e=>am (x.at e) λb _ p=>⟨b,p⟩
theorem A2.LQ(x:A2 P as bs):∀(us:List β) (t:β),bs=us++[t]->∃ws v,as=ws++[v]/\A2 P ws us/\P v t:=
 x.rec (λus t e=>(List.append_ne_nil_of_right_ne_nil us (VE t []) e.symm).elim) λ{a _ as _} p r ih us t=>List.casesOn us
  (λe=>⟨[],a,congrArg (a:: ·) (List.length_eq_zero_iff.mp (r.length.trans (congrArg List.length (TZ e).2))),.nil,(TZ e).1▸p⟩)
  λ_ us e=>bx (ih us t (TZ e).2) λws v z q pv=>⟨a::ws,v,congrArg (a:: ·) z,.cons ((TZ e).1▸p) q,pv⟩
theorem A2.LR{us:List β}{t:β}(x:A2 P as (us++[t])):∃ws v,as=ws++[v]/\A2 P ws us/\P v t:=x.LQ us t rfl
theorem A2.take(x:A2 P as bs):∀n,A2 P (as.take n) (bs.take n):=x.rec (λn=>by rw[WO,WO];exact .nil) λp _ ih n=>Nat.casesOn n .nil λn=> .cons p (ih n)
end
structure di(Γ:ay):Prop where
 out:∀{n f vs h} {Q Q' X X':Post},(∀v h,Q v h->Q' v h)->(∀v h,X v h->X' v h)->Γ n f vs h Q X->Γ n f vs h Q' X'
section
variable{T:Top}{Γ:ay}{n:Nat}
theorem wJ{lo hi:Option Int}{h:H}{v:V}{Q Q':Post}(k:∀v h,Q v h->Q' v h)(q:sliceTo lo hi h v Q):sliceTo lo hi h v Q':=by
 unfold sliceTo at q ⊢
 split at q
 ·exact⟨q.1,k _ _ q.2⟩
 ·split at q
  ·exact⟨q.1,k _ _ q.2⟩
  ·exact q.elim
theorem Ci{turn Cj:V->H->Post->Prop}(ht:∀v h (Q Q':Post),(∀v h,Q v h->Q' v h)->turn v h Q->Cj v h Q'){m:Nat}{Q Q':List V->H->Prop}(k:∀v h,Q v h->Q' v h):
  ∀(f i:Nat) (acc:List V) (h:H),gj turn m Q f i acc h->gj Cj m Q' f i acc h
 | 0,_,_,_,q=>q.elim
 |f+1,i,acc,h,q=>by
  rw[gj]at q ⊢
  split at q
  ·rename_i xs e
   split at q
   ·rename_i v e'
    try simp only[e']
    exact ht _ _ _ _ (λv h z=>⟨z.1,Ci ht k f _ _ _ z.2⟩) q
   ·rename_i e'
    try simp only[e']
    exact k _ _ q
  ·exact q.elim
theorem kN{o:Option V}{F G:V->Prop}(k:∀v,F v->G v)(q:match (generalizing:=false) o with|some v=>F v|none=>False):(match (generalizing:=false) o with|some v=>G v|none=>False):=by rcases o with _|v;exact q;exact k v q
theorem kO{o:Option (List V)}{F G:List V->Prop}(k:∀v,F v->G v)(q:match (generalizing:=false) o with|some v=>F v|none=>False):(match (generalizing:=false) o with|some v=>G v|none=>False):=by rcases o with _|v;exact q;exact k v q
theorem Ck{o:Option Int}{F G:Int->Prop}(k:∀v,F v->G v)(q:match (generalizing:=false) o with|some v=>F v|none=>False):(match (generalizing:=false) o with|some v=>G v|none=>False):=by rcases o with _|v;exact q;exact k v q
theorem sP{o:Option Bool}{F G:Bool->Prop}(k:∀v,F v->G v)(q:match (generalizing:=false) o with|some v=>F v|none=>False):(match (generalizing:=false) o with|some v=>G v|none=>False):=by rcases o with _|v;exact q;exact k v q
theorem LS{o:Option (List (List Nat))}{F G:List (List Nat)->Prop}(k:∀v,F v->G v)(q:match (generalizing:=false) o with|some v=>F v|none=>False):(match (generalizing:=false) o with|some v=>G v|none=>False):=by rcases o with _|v;exact q;exact k v q
theorem qf{o:Option Bool}{A B A' B':Prop}(a:A->A')(b:B->B')(q:match (generalizing:=false) o with|some true=>A|some false=>B|none=>False):(match (generalizing:=false) o with|some true=>A'|some false=>B'|none=>False):=by rcases o with _|_|_;exact q;exact b q;exact a q
theorem Cm{x:Option (Nat×Nat×List (Nat×V))}{F G:Nat->Nat->List (Nat×V)->Prop}(k:∀a b c,F a b c->G a b c)(q:match (generalizing:=false) x with|some (a,b,c)=>F a b c|none=>False):(match (generalizing:=false) x with|some (a,b,c)=>G a b c|none=>False):=by rcases x with _| ⟨a,b,c⟩;exact q;exact k _ _ _ q
theorem sQ{x:V}{F G:Int->Prop}(k:∀i,F i->G i)(q:match (generalizing:=false) x with| .int i=>F i|_=>False):(match (generalizing:=false) x with| .int i=>G i|_=>False):=by rcases x with⟨⟩<;>first|exact k _ q|exact q
theorem LU{x:V}{F G:List Nat->Prop}(k:∀i,F i->G i)(q:match (generalizing:=false) x with| .str i=>F i|_=>False):(match (generalizing:=false) x with| .str i=>G i|_=>False):=by rcases x with⟨⟩<;>first|exact k _ q|exact q
theorem LV{x:V}{F G:Nat->Prop}(k:∀i,F i->G i)(q:match (generalizing:=false) x with| .ref i=>F i|_=>False):(match (generalizing:=false) x with| .ref i=>G i|_=>False):=by rcases x with⟨⟩<;>first|exact k _ q|exact q
theorem wK{x:V}{F G:Nat->Prop}(k:∀i,F i->G i)(q:match (generalizing:=false) x with| .str [c]=>F c|_=>False):(match (generalizing:=false) x with| .str [c]=>G c|_=>False):=by
 rcases x with⟨⟩<;>try exact q
 rename_i l;rcases l with _| ⟨c,_| ⟨_,_⟩⟩<;>first|exact q|exact k _ q
theorem wL{x y:V}{F G:Int->Int->Prop}(k:∀i j,F i j->G i j)(q:match (generalizing:=false) x,y with| .int i,.int j=>F i j|_,_=>False):(match (generalizing:=false) x,y with| .int i,.int j=>G i j|_,_=>False):=by
 rcases x with⟨⟩<;>try exact q
 rcases y with⟨⟩<;>first|exact k _ _ q|exact q
theorem Cn{x:V}{o:Option (List V)}{F G:Nat->List V->Prop}(k:∀i j,F i j->G i j)(q:match (generalizing:=false) x,o with| .ref i,some j=>F i j|_,_=>False):(match (generalizing:=false) x,o with| .ref i,some j=>G i j|_,_=>False):=by
 rcases x with⟨⟩<;>try exact q
 rcases o with⟨⟩<;>first|exact k _ _ q|exact q
theorem LW{x:V}{o p:Option (List V)}{F G:Nat->List V->List V->Prop}(k:∀i j l,F i j l->G i j l)(q:match (generalizing:=false) x,o,p with| .ref i,some j,some l=>F i j l|_,_,_=>False):(match (generalizing:=false) x,o,p with| .ref i,some j,some l=>G i j l|_,_,_=>False):=by
 rcases x with⟨⟩<;>try exact q
 rcases o with⟨⟩<;>try exact q
 rcases p with⟨⟩<;>first|exact k _ _ _ q|exact q
theorem LX{x:V}{o:List Nat}{F G:List Nat->Nat->Prop}(k:∀i j,F i j->G i j)(q:match (generalizing:=false) x,o with| .str i,[j]=>F i j|_,_=>False):(match (generalizing:=false) x,o with| .str i,[j]=>G i j|_,_=>False):=by
 rcases x with⟨⟩<;>try exact q
 rcases o with _| ⟨c,_| ⟨_,_⟩⟩<;>first|exact q|exact k _ _ q
theorem LY{x y:V}{o:Option (List V)}{F G:Nat->List V->Int->Prop}(k:∀i j l,F i j l->G i j l)(q:match (generalizing:=false) x,o,y with| .ref i,some j,.int l=>F i j l|_,_,_=>False):(match (generalizing:=false) x,o,y with| .ref i,some j,.int l=>G i j l|_,_,_=>False):=by
 rcases x with⟨⟩<;>try exact q
 rcases o with⟨⟩<;>try exact q
 rcases y with⟨⟩<;>first|exact k _ _ _ q|exact q
mutual
theorem aI(M:di Γ):∀(e:E) (ρ:Loc) (h:H) (Q Q':Post),(∀v h,Q v h->Q' v h)->aj T Γ n e ρ h Q->aj T Γ n e ρ h Q'
 | .loc i,ρ,h,Q,Q',k,q=>kN (λv q=>k v h q) q
 | .lit v,ρ,h,Q,Q',k,q=>k _ _ q
 | .neg v,ρ,h,Q,Q',k,q=>k _ _ q
 | .pow a b,ρ,h,Q,Q',k,q=>k _ _ q
 | .glob v,ρ,h,Q,Q',k,q=>k _ _ q
 | .tup es,ρ,h,Q,Q',k,q=>nB M es _ _ _ _ (λ_ _ z=>k _ _ z) q
 | .lst es,ρ,h,Q,Q',k,q=>nB M es _ _ _ _ (λ_ _ z=>k _ _ z) q
 | .bin op a b,ρ,h,Q,Q',k,q=>aI M a _ _ _ _ (λx h q=>aI M b _ _ _ _ (λy h q=>kN (λv q=>k v h q) q) q) q
 | .not a,ρ,h,Q,Q',k,q=>aI M a _ _ _ _ (λx h q=>sP (λv q=>k _ h q) q) q
 | .cmp op a b,ρ,h,Q,Q',k,q=>aI M a _ _ _ _ (λx h q=>aI M b _ _ _ _ (λy h q=>sP (λv q=>k _ h q) q) q) q
 | .fI p r a b c,ρ,h,Q,Q',k,q=>aI M a _ _ _ _ (λx h q=>aI M b _ _ _ _ (λy h q=>qf (λq=>aI M c _ _ _ _ (λz h q=>sP (λv q=>k _ h q) q) q) (λq=>k _ _ q) q) q) q
 | .and a b,ρ,h,Q,Q',k,q=>aI M a _ _ _ _ (λx h q=>qf (λq=>aI M b _ _ _ _ k q) (λq=>k _ _ q) q) q
 | .or a b,ρ,h,Q,Q',k,q=>aI M a _ _ _ _ (λx h q=>qf (λq=>k _ _ q) (λq=>aI M b _ _ _ _ k q) q) q
 | .ite c a b,ρ,h,Q,Q',k,q=>aI M c _ _ _ _ (λx h q=>qf (λq=>aI M a _ _ _ _ k q) (λq=>aI M b _ _ _ _ k q) q) q
 | .idx a b,ρ,h,Q,Q',k,q=>aI M a _ _ _ _ (λx h q=>aI M b _ _ _ _ (λy h q=>kN (λv q=>k v h q) q) q) q
 | .g7 a b,ρ,h,Q,Q',k,q=>aI M a _ _ _ _ (λx h q=>aI M b _ _ _ _ (λy h q=>sQ (λi q=>wJ k q) q) q) q
 | .g9 a b,ρ,h,Q,Q',k,q=>aI M a _ _ _ _ (λx h q=>aI M b _ _ _ _ (λy h q=>sQ (λi q=>wJ k q) q) q) q
 | .eB a b c,ρ,h,Q,Q',k,q=>aI M a _ _ _ _ (λx h q=>aI M b _ _ _ _ (λy h q=>aI M c _ _ _ _ (λz h q=>wL (λi j q=>wJ k q) q) q) q) q
 | .rev a,ρ,h,Q,Q',k,q=>aI M a _ _ _ _ (λx h q=>kO (λv q=>⟨q.1,k _ _ q.2⟩) q) q
 | .attr a f,ρ,h,Q,Q',k,q=>aI M a _ _ _ _ (λx h q=>Cm (λ_ _ _ q=>kN (λv q=>k v h q) q) q) q
 | .call f es,ρ,h,Q,Q',k,q=>nB M es _ _ _ _ (λx h q=>by
  cases n with
  |zero=>exact q.elim
  |succ m=>exact M.out k (λ_ _ z=>z) q) q
 | .new c es,ρ,h,Q,Q',k,q=>nB M es _ _ _ _ (λx h q=>by
  cases n with
  |zero=>exact q.elim
  |succ m=>exact M.out (λ_ _ z=>⟨z.1,k _ _ z.2⟩) (λ_ _ z=>z) q) q
 | .len a,ρ,h,Q,Q',k,q=>aI M a _ _ _ _ (λx h q=>Ck (λv q=>⟨q.1,k _ _ q.2⟩) q) q
 | .ord a,ρ,h,Q,Q',k,q=>aI M a _ _ _ _ (λx h q=>wK (λv q=>k _ _ q) q) q
 | .strOf a,ρ,h,Q,Q',k,q=>aI M a _ _ _ _ (λx h q=>sQ (λv q=>⟨q.1,q.2.1,k _ _ q.2.2⟩) q) q
 | .max2 a b,ρ,h,Q,Q',k,q=>aI M a _ _ _ _ (λx h q=>aI M b _ _ _ _ (λy h q=>wL (λi j q=>k _ _ q) q) q) q
 | .dm a b,ρ,h,Q,Q',k,q=>aI M a _ _ _ _ (λx h q=>aI M b _ _ _ _ (λy h q=>wL (λi j q=>⟨q.1,k _ _ q.2⟩) q) q) q
 | .listOf a,ρ,h,Q,Q',k,q=>aI M a _ _ _ _ (λx h q=>kO (λv q=>⟨q.1,k _ _ q.2⟩) q) q
 | .join s a,ρ,h,Q,Q',k,q=>aI M a _ _ _ _ (λx h q=>LS (λv q=>⟨q.1,q.2.1,k _ _ q.2.2⟩) q) q
 | .split a,ρ,h,Q,Q',k,q=>aI M a _ _ _ _ (λx h q=>LU (λv q=>⟨q.1,k _ _ q.2⟩) q) q
 | .replace a x y,ρ,h,Q,Q',k,q=>aI M a _ _ _ _ (λx h q=>LX (λi j q=>⟨q.1,q.2.1,k _ _ q.2.2⟩) q) q
 | .append a b,ρ,h,Q,Q',k,q=>aI M a _ _ _ _ (λx h q=>kO (λv q=>aI M b _ _ _ _ (λy h q=>Cn (λi j q=>⟨q.1,k _ _ q.2⟩) q) q) q) q
 | .extend a b,ρ,h,Q,Q',k,q=>aI M a _ _ _ _ (λx h q=>kO (λv q=>aI M b _ _ _ _ (λy h q=>LW (λi j l q=>⟨q.1,q.2.1,k _ _ q.2.2⟩) q) q) q) q
 | .pop a,ρ,h,Q,Q',k,q=>aI M a _ _ _ _ (λx h q=>Cn (λi j q=>kN (λv q=>⟨q.1,k _ _ q.2⟩) q) q) q
 | .dD neg a b,ρ,h,Q,Q',k,q=>aI M a _ _ _ _ (λx h q=>aI M b _ _ _ _ (λy h q=>sP (λv q=>k _ h q) q) q) q
 | .inD a,ρ,h,Q,Q',k,q=>aI M a _ _ _ _ (λx h q=>wK (λv q=>k _ _ q) q) q
 | .getD a,ρ,h,Q,Q',k,q=>aI M a _ _ _ _ (λx h q=>wK (λv q=>Ck (λv q=>k _ _ q) q) q) q
 | .isNone neg a,ρ,h,Q,Q',k,q=>aI M a _ _ _ _ (λx h q=>k _ _ q) q
 | .comp elt m src,ρ,h,Q,Q',k,q=>aI M src _ _ _ _ (λx h q=>LV (λi q=>q.elim λfuel q=>⟨fuel,Ci (λv h Q Q' k q=>kO (λvs q=>aI M elt _ _ _ _ k q) q) (λ_ _ z=>k _ _ z) _ _ _ _ q⟩) q) q
theorem nB(M:di Γ):∀(es:Es) (ρ:Loc) (h:H) (Q Q':List V->H->Prop),(∀v h,Q v h->Q' v h)->cH T Γ n es ρ h Q->cH T Γ n es ρ h Q'
 | .nil,ρ,h,Q,Q',k,q=>k _ _ q
 | .cons e r,ρ,h,Q,Q',k,q=>aI M e _ _ _ _ (λv h q=>nB M r _ _ _ _ (λvs h q=>k _ _ q) q) q
end
structure PS.Le(P P':PS):Prop where
 N:∀ρ h,P.N ρ h->P'.N ρ h
 R:∀v h,P.R v h->P'.R v h
 X:∀v h,P.X v h->P'.X v h
theorem wM{test test':Loc->H->Post->Prop}{body body':Loc->H->(Loc->H->Prop)->Prop}{N N':Loc->H->Prop}(ht:∀ρ h (Q Q':Post),(∀v h,Q v h->Q' v h)->test ρ h Q->test' ρ h Q')
  (hb:∀ρ h (Q Q':Loc->H->Prop),(∀v h,Q v h->Q' v h)->body ρ h Q->body' ρ h Q') (hN:∀ρ h,N ρ h->N' ρ h):∀(k j:Nat),k<=j->∀(ρ:Loc) (h:H),gp test body N k ρ h->gp test' body' N' j ρ h
 | 0,_,_,_,_,q=>q.elim
 |k+1,0,hk,_,_,_=>absurd hk (by exact Uh (av 0x1f91a00a0e0a91a0 rfl hk))
 |k+1,j+1,hk,ρ,h,q=>by
  rw[gp]at q ⊢
  refine ht _ _ _ _ (λv h q=>?_) q
  split at q
  ·exact hb _ _ _ _ (wM ht hb hN k j (by exact af 0xf100e91a191a0 rfl hk)) q
  ·exact hN _ _ q
  ·exact q.elim
theorem Co{body body':V->Loc->H->(Loc->H->Prop)->Prop}{N N':Loc->H->Prop}(hb:∀v ρ h (Q Q':Loc->H->Prop),(∀v h,Q v h->Q' v h)->body v ρ h Q->body' v ρ h Q')(hN:∀ρ h,N ρ h->N' ρ h){m:Nat}:
  ∀(k j:Nat),k<=j->∀(i:Nat) (ρ:Loc) (h:H),gq body m N k i ρ h->gq body' m N' j i ρ h
 | 0,_,_,_,_,_,q=>q.elim
 |k+1,0,hk,_,_,_,_=>absurd hk (by exact Uh (av 0x1f91a00a0e0a91a0 rfl hk))
 |k+1,j+1,hk,i,ρ,h,q=>by
  rw[gq]at q ⊢
  split at q
  ·split at q
   ·exact hb _ _ _ _ _ (Co hb hN k j (by exact af 0xf100e91a191a0 rfl hk) (i+1)) q
   ·exact hN _ _ q
  ·exact q.elim
theorem wN{body body':V->Loc->H->(Loc->H->Prop)->Prop}{N N':Loc->H->Prop}(hb:∀v ρ h (Q Q':Loc->H->Prop),(∀v h,Q v h->Q' v h)->body v ρ h Q->body' v ρ h Q')(hN:∀ρ h,N ρ h->N' ρ h):
  ∀(l:List V) (ρ:Loc) (h:H),gr body N l ρ h->gr body' N' l ρ h
 | [],ρ,h,q=>hN _ _ q
 |v::r,ρ,h,q=>hb _ _ _ _ _ (wN hb hN r) q
theorem LZ{o:Option V}{x:Option (Nat×Nat×List (Nat×V))}{F G:V->Nat->Nat->List (Nat×V)->Prop}(k:∀v a b c,F v a b c->G v a b c)(q:match (generalizing:=false) o,x with|some v,some (a,b,c)=>F v a b c|_,_=>False):(match (generalizing:=false) o,x with|some v,some (a,b,c)=>G v a b c|_,_=>False):=by
 rcases o with _|v<;>try exact q
 rcases x with _| ⟨a,b,c⟩<;>first|exact q|exact k _ _ _ _ q
theorem L2{x:Option (Nat×Nat×List (Nat×V))}{F G:List (Nat×V)->Prop}(k:∀c,F c->G c)(q:match (generalizing:=false) x with|some (_,_,c)=>F c|none=>False):(match (generalizing:=false) x with|some (_,_,c)=>G c|none=>False):=by rcases x with _| ⟨a,b,c⟩;exact q;exact k _ q
theorem L3{body body':V->Loc->H->(Loc->H->Prop)->Prop}{N N':Loc->H->Prop}(hb:∀v ρ h (Q Q':Loc->H->Prop),(∀v h,Q v h->Q' v h)->body v ρ h Q->body' v ρ h Q')(hN:∀ρ h,N ρ h->N' ρ h){v:V}{ρ:Loc}{h:H}(q:lD T body v N ρ h):lD T body' v N' ρ h:=by
 rcases v with⟨⟩<;>try exact q
 ·exact wN hb hN _ _ _ q
 ·rename_i m
  revert q
  show(match h[m]? with|some (.list _)=>∃k,gq body m N k 0 ρ h|_=>False)->(match h[m]? with|some (.list _)=>∃k,gq body' m N' k 0 ρ h|_=>False)
  rcases h[m]? with _| ⟨_|_|_⟩<;>intro q<;>first|exact q|exact q.elim λf q=>⟨f,Co hb hN _ _ (SW _) _ _ _ q⟩
mutual
theorem wpS_mono(M:di Γ):∀(s:S) (ρ:Loc) (h:H) (P P':PS),P.Le P'->wpS T Γ n s ρ h P->wpS T Γ n s ρ h P'
 | .assign i e,ρ,h,P,P',k,q=>aI M e _ _ _ _ (λ_ _ z=>k.N _ _ z) q
 | .unpack is e,ρ,h,P,P',k,q=>aI M e _ _ _ _ (λv h q=>kO (λvs q=>⟨q.1,k.N _ _ q.2⟩) q) q
 | .setattr a f e,ρ,h,P,P',k,q=>aI M e _ _ _ _ (λv h q=>aI M a _ _ _ _ (λv h q=>Cm (λ_ _ _ q=>k.N _ _ q) q) q) q
 | .jB a i e,ρ,h,P,P',k,q=>aI M e _ _ _ _ (λv h q=>aI M a _ _ _ _ (λv h q=>aI M i _ _ _ _ (λv h q=>LY (λ_ _ _ q=>⟨q.1,q.2.1,q.2.2.1,k.N _ _ q.2.2.2⟩) q) q) q) q
 | .aug i op e,ρ,h,P,P',k,q=>kN (λx q=>aI M e _ _ _ _ (λv h q=>kN (λr q=>k.N _ _ q) q) q) q
 | .kj a f op e,ρ,h,P,P',k,q=>aI M a _ _ _ _ (λx h q=>L2 (λ_ q=>kN (λo q=>aI M e _ _ _ _ (λv h q=>LZ (λ_ _ _ _ q=>k.N _ _ q) q) q) q) q) q
 | .expr e,ρ,h,P,P',k,q=>aI M e _ _ _ _ (λ_ _ z=>⟨z.1,k.N _ _ z.2⟩) q
 | .ite c a b,ρ,h,P,P',k,q=>aI M c _ _ _ _ (λv h q=>qf (λq=>jj M a _ _ _ _ k q) (λq=>jj M b _ _ _ _ k q) q) q
 | .while c b,ρ,h,P,P',k,q=>q.elim λf q=>⟨f,wM (λρ h Q Q' hQ q=>aI M c ρ h Q Q' hQ q) (λρ h Q Q' hQ q=>jj M b ρ h ⟨Q,P.R,P.X⟩ ⟨Q',P'.R,P'.X⟩ ⟨hQ,k.R,k.X⟩ q) k.N _ _ (SW _) _ _ q⟩
 | .for is src b,ρ,h,P,P',k,q=>aI M src _ _ _ _ (λv h q=>L3 (λx ρ h Q Q' hQ q=>kO (λvs q=>jj M b _ _ ⟨Q,P.R,bot⟩ ⟨Q',P'.R,bot⟩ ⟨hQ,k.R,λ_ _ z=>z⟩ q) q) k.N q) q
 | .dX i e b,ρ,h,P,P',k,q=>aI M e _ _ _ _ (λv h q=>sQ (λj q=>⟨q.1,q.2.1,wN (λx ρ h Q Q' hQ q=>jj M b (bE ρ i x) h ⟨Q,P.R,bot⟩ ⟨Q',P'.R,bot⟩ ⟨hQ,k.R,λ_ _ z=>z⟩ q) k.N _ _ _ q.2.2⟩) q) q
 | .ret e,ρ,h,P,P',k,q=>aI M e _ _ _ _ (λ_ _ z=>k.R _ _ z) q
 | .raise e,ρ,h,P,P',k,q=>aI M e _ _ _ _ (λ_ _ z=>k.X _ _ z) q
 | .ff f es,ρ,h,P,P',k,q=>nB M es _ _ _ _ (λv h q=>by
  cases n with
  |zero=>exact q.elim
  |succ m=>exact M.out (λ_ _ z=>k.R _ _ z) (λ_ _ z=>⟨z.1,k.N _ _ z.2⟩) q) q
 | .dead,ρ,h,P,P',k,q=>q.elim
theorem jj(M:di Γ):∀(ss:Ss) (ρ:Loc) (h:H) (P P':PS),P.Le P'->ag T Γ n ss ρ h P->ag T Γ n ss ρ h P'
 | .nil,ρ,h,P,P',k,q=>k.N _ _ q
 | .cons s r,ρ,h,P,P',k,q=>wpS_mono M s _ _ ⟨λρ h=>ag T Γ n r ρ h P,P.R,P.X⟩ ⟨λρ h=>ag T Γ n r ρ h P',P'.R,P'.X⟩ ⟨λ_ _ z=>jj M r _ _ P P' k z,k.R,k.X⟩ q
end
end
theorem L4{a b:Int}:binop .shr (.int a) (.int b)=if 0<=a/\a<2 ^ 30/\0<=b/\b<30 then some (.int (a/2 ^ b.toNat))else none:=rfl
theorem L5{a b:Int}:binop .band (.int a) (.int b)=if 0<=a/\b=1 then some (.int (a%2))else none:=rfl
theorem wO{h:H}{a b:Nat}{xs ys:List V}(e1:listAt h (.ref a)=some xs)(e2:listAt h (.ref b)=some ys):bX h .ne (.ref a) (.ref b)=(f9 h xs ys).map (!·):=by
 show Option.map _ (match listAt h (.ref a),listAt h (.ref b)with|some xs,some ys=>f9 h xs ys|_,_=>none)=_
 rw[e1,e2]
section
variable{T:Top}{Γ:ay}{n:Nat}
theorem L6(M:di Γ){c:E}{b:Ss}{P:PS}(I:Nat->Loc->H->Prop)
  (step:∀k ρ h,I k ρ h->aj T Γ n c ρ h (λv h'=>match truthy v with|some true=>ag T Γ n b ρ h' ⟨λρ' h''=>∃j,j<k/\I j ρ' h'',P.R,P.X⟩|some false=>P.N ρ h'|Option.none=>False)) {k:Nat} {ρ:Loc} {h:H} (i:I k ρ h):
  wpS T Γ n (.while c b) ρ h P:=by
 have key:∀(k:Nat) (ρ:Loc) (h:H),I k ρ h->gp (aj T Γ n c) (λρ h N=>ag T Γ n b ρ h {P with N:=N}) P.N (k+1) ρ h:=by
  intro k
  induction k using Nat.strongRecOn with
  |_ k ih=>
   intro ρ h i
   rw[gp]
   refine aI M c _ _ _ _ (λv h' q=>?_) (step k ρ h i)
   split at q
   ·rename_i e
    try simp only[e]
    refine jj M b _ _ ⟨λρ' h''=>∃j,j<k/\I j ρ' h'',P.R,P.X⟩ _ ⟨λρ' h'' z=>am z λj hj ij=>?_,λ_ _ z=>z,λ_ _ z=>z⟩ q
    exact wM (λρ h Q Q' hQ q=>aI M c ρ h Q Q' hQ q) (λρ h Q Q' hQ q=>jj M b ρ h ⟨Q,P.R,P.X⟩ ⟨Q',P.R,P.X⟩ ⟨hQ,λ_ _ z=>z,λ_ _ z=>z⟩ q) (λ_ _ z=>z) (j+1) k hj _ _ (ih j hj _ _ ij)
   ·rename_i e
    try simp only[e]
    exact q
   ·exact q.elim
 exact⟨k+1,key k ρ h i⟩
theorem L7{body:V->Loc->H->(Loc->H->Prop)->Prop}{N:Loc->H->Prop}(hb:∀v ρ h (Q Q':Loc->H->Prop),(∀v h,Q v h->Q' v h)->body v ρ h Q->body v ρ h Q'){m:Nat}{xs:List V}(I:Nat->Loc->H->Prop)
  (hm:∀i ρ h,I i ρ h->h[m]? =some (.list xs)) (step:∀i x ρ h,xs[i]? =some x->I i ρ h->body x ρ h (I (i+1))) (fin:∀ρ h,I xs.length ρ h->N ρ h) {ρ:Loc} {h:H} (i0:I 0 ρ h):
  ∃k,gq body m N k 0 ρ h:=by
 have key:∀(d i:Nat) (ρ:Loc) (h:H),i+d=xs.length->I i ρ h->gq body m N (d+1) i ρ h:=by
  intro d
  induction d with
  |zero=>
   intro i ρ h hd ii
   rw[gq,hm i ρ h ii]
   have:xs[i]? =none:=Tz.mpr (by exact af 0xf013e190a0 rfl hd)
   simp only[this]
   have:i=xs.length:=by exact SK (af 0xf102e190a0 rfl hd) (af 0xf013e190a0 rfl hd)
   exact fin _ _ (this▸ii)
  |succ d ih=>
   intro i ρ h hd ii
   rw[gq,hm i ρ h ii]
   have hlt:i<xs.length:=by exact ah 0x1f202e2991a10 rfl hd
   have:xs[i]? =some xs[i]:=SI hlt
   simp only[this]
   exact hb _ _ _ _ _ (λρ h z=>ih (i+1) ρ h (by exact SK (ah 0xf29191a02e2991a10 rfl hd) (ah 0xf9191a023e2991a10 rfl hd)) z) (step i _ ρ h this ii)
 exact⟨_,key xs.length 0 ρ h (by exact SK (av 0xf0900a rfl) (av 0xf900a0 rfl)) i0⟩
theorem Cp{body:V->Loc->H->(Loc->H->Prop)->Prop}{N:Loc->H->Prop}(hb:∀v ρ h (Q Q':Loc->H->Prop),(∀v h,Q v h->Q' v h)->body v ρ h Q->body v ρ h Q'){xs:List V}(I:Nat->Loc->H->Prop)
  (step:∀i x ρ h,xs[i]? =some x->I i ρ h->body x ρ h (I (i+1))) (fin:∀ρ h,I xs.length ρ h->N ρ h) {ρ:Loc} {h:H} (i0:I 0 ρ h):gr body N xs ρ h:=by
 have key:∀(l:List V) (i:Nat) (ρ:Loc) (h:H),l=xs.drop i->i<=xs.length->I i ρ h->gr body N l ρ h:=by
  intro l
  induction l with
  |nil=>
   intro i ρ h hl hi ii
   have:xs.length<=i:=Vg.mp hl.symm
   have:i=xs.length:=by exact SK (af 0xf100e10 rfl hi) (af 0xf100e10 rfl this)
   exact fin _ _ (this▸ii)
  |cons x r ih=>
   intro i ρ h hl hi ii
   have hlt:i<xs.length:=by
    apply UC
    intro z
    rw[TR z]at hl
    rcases hl with⟨⟩
   rw[Tr hlt]at hl
   injection hl with h1 h2
   subst h1
   exact hb _ _ _ _ _ (λρ h z=>ih (i+1) ρ h h2 hlt z) (step i _ ρ h (SI hlt) ii)
 exact key xs 0 ρ h rfl (Ub _) i0
noncomputable abbrev eM(T:Top)(Γ:ay)(n:Nat)(is:List Nat)(b:Ss)(R:V->H->Prop)(x:V)(ρ:Loc)(h:H)(N:Loc->H->Prop):Prop:=
 match dY h is.length x with|some vs=>ag T Γ n b (dF ρ is vs) h ⟨N,R,bot⟩|Option.none=>False
theorem sS(M:di Γ){is:List Nat}{b:Ss}{R:V->H->Prop}(v:V)(ρ:Loc)(h:H)(Q Q':Loc->H->Prop)(k:∀v h,Q v h->Q' v h)(q:eM T Γ n is b R v ρ h Q):eM T Γ n is b R v ρ h Q':=by
 unfold eM at q ⊢
 split at q
 ·exact jj M b _ _ ⟨Q,R,bot⟩ ⟨Q',R,bot⟩ ⟨k,λ_ _ z=>z,λ_ _ z=>z⟩ q
 ·exact q.elim
theorem L8(M:di Γ){is:List Nat}{src:E}{b:Ss}{ρ:Loc}{h:H}{P:PS}{m:Nat}{xs:List V}(I:Nat->Loc->H->Prop)
  (d7:aj T Γ n src ρ h (λv h'=>v= .ref m/\I 0 ρ h'))
  (hm:∀i ρ h,I i ρ h->h[m]? =some (.list xs)) (step:∀i x ρ h,xs[i]? =some x->I i ρ h->eM T Γ n is b P.R x ρ h (I (i+1))) (fin:∀ρ h,I xs.length ρ h->P.N ρ h):wpS T Γ n (.for is src b) ρ h P:=by
 refine aI M src _ _ _ _ (λv h' q=>?_) d7
 obtain⟨rfl,q⟩:=q
 unfold lD
 simp only[hm _ _ _ q]
 exact L7 (sS M) I hm step fin q
theorem L9(M:di Γ){is:List Nat}{src:E}{b:Ss}{ρ:Loc}{h:H}{P:PS}{s:List Nat}(I:Nat->Loc->H->Prop)
  (d7:aj T Γ n src ρ h (λv h'=>v= .str s/\I 0 ρ h'))
  (step:∀i c ρ h,s[i]? =some c->I i ρ h->eM T Γ n is b P.R (.str [c]) ρ h (I (i+1))) (fin:∀ρ h,I s.length ρ h->P.N ρ h):wpS T Γ n (.for is src b) ρ h P:=by
 refine aI M src _ _ _ _ (λv h' q=>?_) d7
 obtain⟨rfl,q⟩:=q
 unfold lD
 refine Cp (sS M) I (λi x ρ h hx ii=>?_) (λρ h ii=>fin ρ h (by simpa using ii)) q
 rw[TT]at hx
 cases e:s[i]? with
 |none=>rw[e]at hx;(exact nn hx)
 |some c=>rw[e]at hx;obtain rfl:=Sv hx;exact step i c ρ h e ii
theorem Ma(M:di Γ){i₀:Nat}{src:E}{b:Ss}{ρ:Loc}{h:H}{P:PS}{k:Nat}(hk:k<=lim)(I:Nat->Loc->H->Prop)
  (d7:aj T Γ n src ρ h (λv h'=>v= .int k/\I 0 ρ h'))
  (step:∀(i:Nat) ρ h,i<k->I i ρ h->ag T Γ n b (bE ρ i₀ (.int i)) h ⟨I (i+1),P.R,bot⟩) (fin:∀ρ h,I k ρ h->P.N ρ h):wpS T Γ n (.dX i₀ src b) ρ h P:=by
 refine aI M src _ _ _ _ (λv h' q=>?_) d7
 obtain⟨rfl,q⟩:=q
 refine⟨T8 _,by exact SR.mpr hk,?_⟩
 rw[UJ]
 refine Cp (λv ρ h Q Q' k q=>jj M b (bE ρ i₀ v) h ⟨Q,P.R,bot⟩ ⟨Q',P.R,bot⟩ ⟨k,λ_ _ z=>z,λ_ _ z=>z⟩ q) I (λi x ρ h hx ii=>?_) (λρ h ii=>?_) q
 rotate_left
 ·rw[Sn,Wk]at ii
  exact fin _ _ ii
 rw[TT]at hx
 by_cases hi:i<k
 ·rw[List.getElem?_range hi]at hx
  obtain rfl:=Sv hx
  exact step i ρ h hi ii
 ·rw[Tz.mpr (by simpa using hi)]at hx
  exact nn hx
theorem Cq(M:di Γ){c:E}{b:Ss}{P:PS}(I:Nat->Loc->H->Prop)
 (step:∀(nP:Loc->H->Prop) k ρ h,(∀ρ h,(∃j,j<k/\I j ρ h)->nP ρ h)->I k ρ h->aj T Γ n c ρ h (λv h'=>match truthy v with|some true=>ag T Γ n b ρ h' ⟨nP,P.R,P.X⟩|some false=>P.N ρ h'|Option.none=>False)) {k:Nat} {ρ:Loc} {h:H} (i:I k ρ h):
 wpS T Γ n (.while c b) ρ h P:=L6 M I (λk ρ h ii=>step _ k ρ h (λ_ _ z=>z) ii) i
theorem Cr(M:di Γ){is:List Nat}{src:E}{b:Ss}{ρ:Loc}{h:H}{P:PS}{m:Nat}{xs:List V}(I:Nat->Loc->H->Prop)
  (d7:aj T Γ n src ρ h (λv h'=>v= .ref m/\I 0 ρ h'))
  (hm:∀i ρ h,I i ρ h->h[m]? =some (.list xs)) (step:∀(nP:Loc->H->Prop) i x ρ h,(∀ρ h,I (i+1) ρ h->nP ρ h)->xs[i]? =some x->I i ρ h->eM T Γ n is b P.R x ρ h nP) (fin:∀ρ h,I xs.length ρ h->P.N ρ h):wpS T Γ n (.for is src b) ρ h P:=
 L8 M I d7 hm (λi x ρ h hx ii=>step _ i x ρ h (λ_ _ z=>z) hx ii) fin
theorem Mb(M:di Γ){is:List Nat}{src:E}{b:Ss}{ρ:Loc}{h:H}{P:PS}{s:List Nat}(I:Nat->Loc->H->Prop)
  (d7:aj T Γ n src ρ h (λv h'=>v= .str s/\I 0 ρ h'))
  (step:∀(nP:Loc->H->Prop) i c ρ h,(∀ρ h,I (i+1) ρ h->nP ρ h)->s[i]? =some c->I i ρ h->eM T Γ n is b P.R (.str [c]) ρ h nP) (fin:∀ρ h,I s.length ρ h->P.N ρ h):wpS T Γ n (.for is src b) ρ h P:=
 L9 M I d7 (λi x ρ h hx ii=>step _ i x ρ h (λ_ _ z=>z) hx ii) fin
theorem Mc(M:di Γ){i₀:Nat}{src:E}{b:Ss}{ρ:Loc}{h:H}{P:PS}{k:Nat}(hk:k<=lim)(I:Nat->Loc->H->Prop)
  (d7:aj T Γ n src ρ h (λv h'=>v= .int k/\I 0 ρ h'))
  (step:∀(nP:Loc->H->Prop) (i:Nat) ρ h,(∀ρ h,I (i+1) ρ h->nP ρ h)->i<k->I i ρ h->ag T Γ n b (bE ρ i₀ (.int i)) h ⟨nP,P.R,bot⟩) (fin:∀ρ h,I k ρ h->P.N ρ h):wpS T Γ n (.dX i₀ src b) ρ h P:=
 Ma M hk I d7 (λi ρ h hx ii=>step _ i ρ h (λ_ _ z=>z) hx ii) fin
theorem Md{turn:V->H->Post->Prop}(ht:∀v h (Q Q':Post),(∀v h,Q v h->Q' v h)->turn v h Q->turn v h Q'){m:Nat}{xs:List V}{Q:List V->H->Prop}(I:Nat->List V->H->Prop)
  (hm:∀i acc h,I i acc h->h[m]? =some (.list xs)) (step:∀i x acc h,xs[i]? =some x->I i acc h->turn x h λr h'=>acc.length<lim/\I (i+1) (acc++[r]) h') (fin:∀acc h,I xs.length acc h->Q acc h) {h:H} (i0:I 0 [] h):
  ∃k,gj turn m Q k 0 [] h:=by
 have key:∀(d i:Nat) (acc:List V) (h:H),i+d=xs.length->I i acc h->gj turn m Q (d+1) i acc h:=by
  intro d
  induction d with
  |zero=>
   intro i acc h hd ii
   rw[gj,hm i acc h ii]
   have:xs[i]? =none:=Tz.mpr (by exact af 0xf013e190a0 rfl hd)
   simp only[this]
   have:i=xs.length:=by exact SK (af 0xf102e190a0 rfl hd) (af 0xf013e190a0 rfl hd)
   exact fin _ _ (this▸ii)
  |succ d ih=>
   intro i acc h hd ii
   rw[gj,hm i acc h ii]
   have hlt:i<xs.length:=by exact ah 0x1f202e2991a10 rfl hd
   have:xs[i]? =some xs[i]:=SI hlt
   simp only[this]
   exact ht _ _ _ _ (λr h z=>⟨z.1,ih (i+1) _ h (by exact SK (ah 0xf29191a02e2991a10 rfl hd) (ah 0xf9191a023e2991a10 rfl hd)) z.2⟩) (step i _ acc h this ii)
 exact⟨_,key xs.length 0 [] h (by exact SK (av 0xf0900a rfl) (av 0xf900a0 rfl)) i0⟩
end
structure Prog(Γ:ay):Prop where
 intro:∀{n f F vs h Q X},fns f=some F->f≠54->u3 aw Γ n F vs h Q X->Γ n f vs h Q X
 mono:di Γ
section
variable{T:Top}{Γ:ay}{n:Nat}{ρ:Loc}{h:H}{P:PS}
theorem lV{i:Nat}{e:E}{zs:Ss}(k:aj T Γ n e ρ h λv h=>ag T Γ n zs (bE ρ i v) h P):ag T Γ n (.cons (.assign i e) zs) ρ h P:=k
theorem wQ{is:List Nat}{e:E}{zs:Ss}(k:aj T Γ n e ρ h λv h=>match fJ h v with
 |some vs=>vs.length=is.length/\ag T Γ n zs (dF ρ is vs) h P
 |Option.none=>False):ag T Γ n (.cons (.unpack is e) zs) ρ h P:=k
theorem Cs{a e:E}{f:Nat}{zs:Ss}(k:aj T Γ n e ρ h λv h=>aj T Γ n a ρ h λx h=>match b6 h x with
 |some (m,c,fs)=>ag T Γ n zs ρ (h.set m (.inst c (gh fs f v))) P
 |Option.none=>False):ag T Γ n (.cons (.setattr a f e) zs) ρ h P:=k
theorem Me{a i e:E}{zs:Ss}(k:aj T Γ n e ρ h λv h=>aj T Γ n a ρ h λx h=>aj T Γ n i ρ h λy h=>match x,listAt h x,y with
 | .ref m,some xs,.int k=>let j:=if 0<=k then k else k+xs.length
  0<=j/\j<xs.length/\xs.length<=lim/\ag T Γ n zs ρ (h.set m (.list (xs.set j.toNat v))) P
 |_,_,_=>False):ag T Γ n (.cons (.jB a i e) zs) ρ h P:=k
theorem Ct{i:Nat}{op:Op}{e:E}{zs:Ss}(k:match cg ρ i with
 |some x=>aj T Γ n e ρ h λv h=>(match binop op x v with|some r=>ag T Γ n zs (bE ρ i r) h P|Option.none=>False)
 |Option.none=>False):ag T Γ n (.cons (.aug i op e) zs) ρ h P:=k
theorem Mf{a e:E}{f:Nat}{op:Op}{zs:Ss}(k:aj T Γ n a ρ h λx h=>match b6 h x with
 |some (_,_,fs)=>(match bj fs f with
  |some o=>aj T Γ n e ρ h λv h=>(match binop op o v,b6 h x with
   |some r,some (m,c,fs)=>ag T Γ n zs ρ (h.set m (.inst c (gh fs f r))) P
   |_,_=>False)
  |Option.none=>False)
 |Option.none=>False):ag T Γ n (.cons (.kj a f op e) zs) ρ h P:=k
theorem nC{e:E}{zs:Ss}(k:aj T Γ n e ρ h λv h=>v= .none/\ag T Γ n zs ρ h P):ag T Γ n (.cons (.expr e) zs) ρ h P:=k
theorem fO{c:E}{a b:Ss}{zs:Ss}(k:aj T Γ n c ρ h λv h=>match truthy v with|some true=>ag T Γ n a ρ h ⟨λρ h=>ag T Γ n zs ρ h P,P.R,P.X⟩|some false=>ag T Γ n b ρ h ⟨λρ h=>ag T Γ n zs ρ h P,P.R,P.X⟩|Option.none=>False):ag T Γ n (.cons (.ite c a b) zs) ρ h P:=k
theorem kQ{e:E}{zs:Ss}(k:aj T Γ n e ρ h λv h=>P.R v h):ag T Γ n (.cons (.ret e) zs) ρ h P:=k
theorem Mg{e:E}{zs:Ss}(k:aj T Γ n e ρ h λv h=>P.X v h):ag T Γ n (.cons (.raise e) zs) ρ h P:=k
theorem kR{s:S}{zs:Ss}(k:wpS T Γ n s ρ h ⟨λρ h=>ag T Γ n zs ρ h P,P.R,P.X⟩):ag T Γ n (.cons s zs) ρ h P:=k
end
theorem Mh{h:H}{v:V}:dY h 1 v=some [v]:=rfl
theorem iO{o:Option V}{a:V}{F:V->Prop}(e:o=some a)(k:F a):(match (generalizing:=false) o with|some v=>F v|Option.none=>False):=by subst e;exact k
theorem ft{o:Option (List V)}{a:List V}{F:List V->Prop}(e:o=some a)(k:F a):(match (generalizing:=false) o with|some v=>F v|Option.none=>False):=by subst e;exact k
theorem nD{h:H}{m:Nat}{xs:List V}{F:Nat->List V->Prop}(e:h[m]? =some (.list xs))(k:F m xs):(match (generalizing:=false) V.ref m,listAt h (.ref m)with| .ref m,some xs=>F m xs|_,_=>False):=by
 simp only[listAt,e];exact k
theorem sU{p:Prop} [Decidable p] {A B:Prop}(e:p)(k:A):(match (generalizing:=false) truthy (.bool (decide p))with|some true=>A|some false=>B|Option.none=>False):=by rw[decide_eq_true e];exact k
theorem sV{p:Prop} [Decidable p] {A B:Prop}(e:¬p)(k:B):(match (generalizing:=false) truthy (.bool (decide p))with|some true=>A|some false=>B|Option.none=>False):=by rw[decide_eq_false e];exact k
theorem Cu{o:Option Bool}{A B:Prop}(e:o=some true)(k:A):(match (generalizing:=false) o with|some true=>A|some false=>B|Option.none=>False):=by subst e;exact k
theorem wR{o:Option Bool}{A B:Prop}(e:o=some false)(k:B):(match (generalizing:=false) o with|some true=>A|some false=>B|Option.none=>False):=by subst e;exact k
noncomputable def ib:V->Option Int
 | .int i=>some i
 |_=>none
noncomputable def wU:V->Option (List Nat)
 | .str s=>some s
 |_=>none
noncomputable def sW:V->Option Nat
 | .str [c]=>some c
 |_=>none
noncomputable def jO(lo hi:Option Int)(h:H)(v:V):Option (V×H):=match wU v with
 |some s=>if s.length<=lim then some (.str (bh lo hi s),h)else none
 |none=>(listAt h v).bind λxs=>if xs.length<=lim then some (.ref h.length,h++[.list (bh lo hi xs)])else none
noncomputable def bA{α:Type}(o:Option (V×H))(f:V->H->Option α):Option α:=match o with
 |some (v,h)=>f v h
 |none=>none
noncomputable def bis{α:Type}(o:Option (List V×H))(f:List V->H->Option α):Option α:=match o with
 |some (v,h)=>f v h
 |none=>none
mutual
noncomputable def ai(T:Top)(ρ:Loc):E->H->Option (V×H)
 | .loc i,h=>(cg ρ i).bind λv=>some (v,h)
 | .lit v,h=>some (v,h)
 | .neg k,h=>some (.int (-k),h)
 | .pow a b,h=>some (.int ((a ^ b:Nat):Int),h)
 | .glob g,h=>some (T.glob g,h)
 | .tup es,h=>bis (ch T ρ es h) λxs h=>some (.ref h.length,h++[.tup xs])
 | .lst es,h=>bis (ch T ρ es h) λxs h=>some (.ref h.length,h++[.list xs])
 | .bin op a b,h=>bA (ai T ρ a h) λx h=>bA (ai T ρ b h) λy h=>(binop op x y).bind λv=>some (v,h)
 | .not a,h=>bA (ai T ρ a h) λx h=>(truthy x).bind λt=>some (.bool !t,h)
 | .cmp op a b,h=>bA (ai T ρ a h) λx h=>bA (ai T ρ b h) λy h=>(bX h op x y).bind λt=>some (.bool t,h)
 | .and a b,h=>bA (ai T ρ a h) λx h=>(truthy x).bind λt=>cond t (ai T ρ b h) (some (x,h))
 | .or a b,h=>bA (ai T ρ a h) λx h=>(truthy x).bind λt=>cond t (some (x,h)) (ai T ρ b h)
 | .ite c a b,h=>bA (ai T ρ c h) λx h=>(truthy x).bind λt=>cond t (ai T ρ a h) (ai T ρ b h)
 | .idx a i,h=>bA (ai T ρ a h) λx h=>bA (ai T ρ i h) λy h=>(cq T h x y).bind λv=>some (v,h)
 | .g7 a i,h=>bA (ai T ρ a h) λx h=>bA (ai T ρ i h) λy h=>(ib y).bind λk=>jO (some k) none h x
 | .g9 a i,h=>bA (ai T ρ a h) λx h=>bA (ai T ρ i h) λy h=>(ib y).bind λk=>jO none (some k) h x
 | .eB a i j,h=>bA (ai T ρ a h) λx h=>bA (ai T ρ i h) λy h=>bA (ai T ρ j h) λz h=>(ib y).bind λk=>(ib z).bind λl=>jO (some k) (some l) h x
 | .attr a f,h=>bA (ai T ρ a h) λx h=>(b6 h x).bind λc=>(bj c.2.2 f).bind λv=>some (v,h)
 | .len a,h=>bA (ai T ρ a h) λx h=>(kr T h x).bind λk=>if k<=lim then some (.int k,h)else none
 | .ord a,h=>bA (ai T ρ a h) λx h=>(sW x).bind λc=>some (.int c,h)
 | .join sep a,h=>bA (ai T ρ a h) λx h=>((listAt h x).bind dE).bind λss=>if ss.length<=lim/\(aG sep ss).length<=lim then some (.str (aG sep ss),h)else none
 | .strOf a,h=>bA (ai T ρ a h) λx h=>(ib x).bind λi=>if 0<=i/\i<2 ^ 30 then some (.str (cG i.toNat),h)else none
 | .max2 a b,h=>bA (ai T ρ a h) λx h=>bA (ai T ρ b h) λy h=>(ib x).bind λi=>(ib y).bind λj=>some (.int (max i j),h)
 | .dm a b,h=>bA (ai T ρ a h) λx h=>bA (ai T ρ b h) λy h=>(ib x).bind λi=>(ib y).bind λj=>if 0<j then some (.ref h.length,h++[.tup [.int (i/j),.int (i%j)]])else none
 | .rev a,h=>bA (ai T ρ a h) λx h=>(listAt h x).bind λxs=>if xs.length<=lim then some (.ref h.length,h++[.list xs.reverse])else none
 | .listOf a,h=>bA (ai T ρ a h) λx h=>(listAt h x).bind λxs=>if xs.length<=lim then some (.ref h.length,h++[.list xs])else none
 | .fI p q a b c,h=>bA (ai T ρ a h) λx h=>bA (ai T ρ b h) λy h=>(bX h p x y).bind λt=>cond t (bA (ai T ρ c h) λz h=>(bX h q y z).bind λu=>some (.bool u,h)) (some (.bool false,h))
 | .inD a,h=>bA (ai T ρ a h) λx h=>(sW x).bind λc=>some (.bool (T.single.lookup c).isSome,h)
 | .getD a,h=>bA (ai T ρ a h) λx h=>(sW x).bind λc=>(T.single.lookup c).bind λk=>some (.int k,h)
 | .split a,h=>bA (ai T ρ a h) λx h=>(wU x).bind λs=>if s.length<=lim then some (.ref h.length,h++[.list ((bH 32 [] s).map V.str)])else none
 | .isNone ng a,h=>bA (ai T ρ a h) λx h=>some (.bool (if ng then !decide (x=V.none)else decide (x=V.none)),h)
 | .dD ng a b,h=>bA (ai T ρ a h) λx h=>bA (ai T ρ b h) λy h=>(mR T x y).bind λt=>some (.bool (if ng then !t else t),h)
 |_,_=>none
noncomputable def ch(T:Top)(ρ:Loc):Es->H->Option (List V×H)
 | .nil,h=>some ([],h)
 | .cons e r,h=>bA (ai T ρ e h) λx h=>bis (ch T ρ r h) λxs h=>some (x::xs,h)
end
theorem bR{α β:Type}{o:Option α}{f:α->Option β}{P:β->Prop}(k:∀a,o=some a->cR (f a) P):cR (o.bind f) P:=by rcases o with _|a;exact True.intro;exact k a rfl
theorem wV{α:Type}{o:Option (List V×H)}{f:List V->H->Option α}{P:α->Prop}(k:∀v h,o=some (v,h)->cR (f v h) P):cR (bis o f) P:=by rcases o with _| ⟨a,b⟩;exact True.intro;exact k a b rfl
theorem bF{α:Type}{o:Option (V×H)}{f:V->H->Option α}{P:α->Prop}(k:∀v h,o=some (v,h)->cR (f v h) P):cR (bA o f) P:=by rcases o with _| ⟨a,b⟩;exact True.intro;exact k a b rfl
theorem lW{β:Type}{o:Option β}{P:β->Prop}(k:∀a,o=some a->P a):cR o P:=by rcases o with _|a;exact True.intro;exact k a rfl
theorem sX{β:Type}{b:Bool}{x y:Option β}{P:β->Prop}(k:b=true->cR x P)(l:b=false->cR y P):cR (cond b x y) P:=by rcases b with _|_;exact l rfl;exact k rfl
theorem sY{o:Option V}{a:V}{F:V->Prop}(e:o=some a)(k:F a):(match (generalizing:=false) o with|some v=>F v|none=>False):=by subst e;exact k
theorem nE{o:Option Bool}{a:Bool}{F:Bool->Prop}(e:o=some a)(k:F a):(match (generalizing:=false) o with|some v=>F v|none=>False):=by subst e;exact k
theorem wW{o:Option (List (List Nat))}{a:List (List Nat)}{F:List (List Nat)->Prop}(e:o=some a)(k:F a):(match (generalizing:=false) o with|some v=>F v|none=>False):=by subst e;exact k
theorem Cv{o:Option Int}{a:Int}{F:Int->Prop}(e:o=some a)(k:F a):(match (generalizing:=false) o with|some v=>F v|none=>False):=by subst e;exact k
theorem kS{o:Option Bool}{b:Bool}{A B:Prop}(e:o=some b)(k:cond b A B):(match (generalizing:=false) o with|some true=>A|some false=>B|none=>False):=by subst e;rcases b with _|_<;>exact k
theorem wX{x:V}{a:Int}{F:Int->Prop}(e:ib x=some a)(k:F a):(match (generalizing:=false) x with| .int i=>F i|_=>False):=by
 rcases x with⟨⟩<;>rcases e with⟨⟩;exact k
theorem Mi{x:V}{a:List Nat}{F:List Nat->Prop}(e:wU x=some a)(k:F a):(match (generalizing:=false) x with| .str i=>F i|_=>False):=by
 rcases x with⟨⟩<;>rcases e with⟨⟩;exact k
theorem wY{x y:V}{a b:Int}{F:Int->Int->Prop}(e:ib x=some a)(e':ib y=some b)(k:F a b):(match (generalizing:=false) x,y with| .int i,.int j=>F i j|_,_=>False):=by
 rcases x with⟨⟩<;>rcases e with⟨⟩;rcases y with⟨⟩<;>rcases e' with⟨⟩;exact k
theorem wZ{x:V}{a:Nat}{F:Nat->Prop}(e:sW x=some a)(k:F a):(match (generalizing:=false) x with| .str [i]=>F i|_=>False):=by
 rcases x with _|_|_| ⟨_| ⟨_,_| ⟨_,_⟩⟩⟩|_|_<;>rcases e with⟨⟩;exact k
theorem Cw{o:Option (Nat×Nat×List (Nat×V))}{a:Nat×Nat×List (Nat×V)}{F:List (Nat×V)->Prop}(e:o=some a)(k:F a.2.2):(match (generalizing:=false) o with|some (_,_,c)=>F c|none=>False):=by subst e;exact k
theorem cut_str{lo hi:Option Int}{h:H}{s:List Nat}:cR (if s.length<=lim then some (V.str (bh lo hi s),h)else none) λr=>∀Q:Post,Q r.1 r.2->sliceTo lo hi h (.str s) Q:=by
 refine dW λl=>?_;intro Q q;exact⟨l,q⟩
theorem w8{lo hi:Option Int}{h:H}:∀{v:V},cR (jO lo hi h v) λr=>∀Q:Post,Q r.1 r.2->sliceTo lo hi h v Q
 | .str s=>cut_str
 | .ref _=>bR λx e=>by refine dW λl=>?_;intro Q q;exact ft e ⟨l,q⟩
 | .none| .bool _| .int _| .gt _=>True.intro
mutual
theorem bg{T:Top}{Γ:ay}{n:Nat}{ρ:Loc}:∀(e:E) (h:H),cR (ai T ρ e h) λr=>∀Q:Post,Q r.1 r.2->aj T Γ n e ρ h Q
 | .loc i=>λh=>bR λx e Q q=>sY e q
 | .lit _=>λh Q q=>q
 | .neg _=>λh Q q=>q
 | .pow _ _=>λh Q q=>q
 | .glob _=>λh Q q=>q
 | .tup es=>λh=>wV λx h1 e Q q=>aU (sZ es h) e _ q
 | .lst es=>λh=>wV λx h1 e Q q=>aU (sZ es h) e _ q
 | .bin op a b=>λh=>bF λx h1 e1=>bF λy h2 e2=>bR λz e3 Q q=>aU (bg a h) e1 _ (aU (bg b h1) e2 _ (sY e3 q))
 | .not a=>λh=>bF λx h1 e1=>bR λz e3 Q q=>aU (bg a h) e1 _ (nE e3 q)
 | .cmp op a b=>λh=>bF λx h1 e1=>bF λy h2 e2=>bR λz e3 Q q=>aU (bg a h) e1 _ (aU (bg b h1) e2 _ (nE e3 q))
 | .and a b=>λh=>bF λx h1 e1=>bR λt e2=>sX
  (λz=>lW λr e3 Q q=>aU (bg a h) e1 _ (kS e2 (z▸aU (bg b h1) e3 Q q)))
  (λz Q q=>aU (bg a h) e1 _ (kS e2 (z▸q)))
 | .or a b=>λh=>bF λx h1 e1=>bR λt e2=>sX
  (λz Q q=>aU (bg a h) e1 _ (kS e2 (z▸q)))
  (λz=>lW λr e3 Q q=>aU (bg a h) e1 _ (kS e2 (z▸aU (bg b h1) e3 Q q)))
 | .ite c a b=>λh=>bF λx h1 e1=>bR λt e2=>sX
  (λz=>lW λr e3 Q q=>aU (bg c h) e1 _ (kS e2 (z▸aU (bg a h1) e3 Q q)))
  (λz=>lW λr e3 Q q=>aU (bg c h) e1 _ (kS e2 (z▸aU (bg b h1) e3 Q q)))
 | .idx a b=>λh=>bF λx h1 e1=>bF λy h2 e2=>bR λz e3 Q q=>aU (bg a h) e1 _ (aU (bg b h1) e2 _ (sY e3 q))
 | .g7 a b=>λh=>bF λx h1 e1=>bF λy h2 e2=>bR λz e3=>lW λr e4 Q q=>aU (bg a h) e1 _ (aU (bg b h1) e2 _ (wX e3 (aU w8 e4 Q q)))
 | .g9 a b=>λh=>bF λx h1 e1=>bF λy h2 e2=>bR λz e3=>lW λr e4 Q q=>aU (bg a h) e1 _ (aU (bg b h1) e2 _ (wX e3 (aU w8 e4 Q q)))
 | .eB a b c=>λh=>bF λx h1 e1=>bF λy h2 e2=>bF λz h3 e3=>bR λk e4=>bR λl e5=>lW λr e6 Q q=>aU (bg a h) e1 _ (aU (bg b h1) e2 _ (aU (bg c h2) e3 _ (wY e4 e5 (aU w8 e6 Q q))))
 | .attr a f=>λh=>bF λx h1 e1=>bR λc e2=>bR λz e3 Q q=>aU (bg a h) e1 _ (Cw e2 (sY e3 q))
 | .len a=>λh=>bF λx h1 e1=>bR λc e2=>dW λl Q q=>aU (bg a h) e1 _ (Cv e2 ⟨l,q⟩)
 | .ord a=>λh=>bF λx h1 e1=>bR λc e2 Q q=>aU (bg a h) e1 _ (wZ e2 q)
 | .join _ a=>λh=>bF λx h1 e1=>bR λz e2=>dW λl Q q=>aU (bg a h) e1 _ (wW e2 ⟨l.1,l.2,q⟩)
 | .strOf a=>λh=>bF λx h1 e1=>bR λz e2=>dW λl Q q=>aU (bg a h) e1 _ (wX e2 ⟨l.1,l.2,q⟩)
 | .max2 a b=>λh=>bF λx h1 e1=>bF λy h2 e2=>bR λz e3=>bR λw e4 Q q=>aU (bg a h) e1 _ (aU (bg b h1) e2 _ (wY e3 e4 q))
 | .dm a b=>λh=>bF λx h1 e1=>bF λy h2 e2=>bR λz e3=>bR λw e4=>dW λl Q q=>aU (bg a h) e1 _ (aU (bg b h1) e2 _ (wY e3 e4 ⟨l,q⟩))
 | .rev a=>λh=>bF λx h1 e1=>bR λz e2=>dW λl Q q=>aU (bg a h) e1 _ (ft e2 ⟨l,q⟩)
 | .listOf a=>λh=>bF λx h1 e1=>bR λz e2=>dW λl Q q=>aU (bg a h) e1 _ (ft e2 ⟨l,q⟩)
 | .fI _ _ a b c=>λh=>bF λx h1 e1=>bF λy h2 e2=>bR λt e3=>sX
  (λz=>bF λw h3 e4=>bR λu e5 Q q=>aU (bg a h) e1 _ (aU (bg b h1) e2 _ (kS e3 (z▸aU (bg c h2) e4 _ (nE e5 q)))))
  (λz Q q=>aU (bg a h) e1 _ (aU (bg b h1) e2 _ (kS e3 (by subst z;exact q))))
 | .inD a=>λh=>bF λx h1 e1=>bR λc e2 Q q=>aU (bg a h) e1 _ (wZ e2 q)
 | .getD a=>λh=>bF λx h1 e1=>bR λc e2=>bR λk e3 Q q=>aU (bg a h) e1 _ (wZ e2 (Cv e3 q))
 | .split a=>λh=>bF λx h1 e1=>bR λs e2=>dW λl Q q=>aU (bg a h) e1 _ (Mi e2 ⟨l,q⟩)
 | .isNone _ a=>λh=>bF λx h1 e1 Q q=>aU (bg a h) e1 _ q
 | .dD _ a b=>λh=>bF λx h1 e1=>bF λy h2 e2=>bR λz e3 Q q=>aU (bg a h) e1 _ (aU (bg b h1) e2 _ (nE e3 q))
 | .call _ _=>λ_=>True.intro
 | .new _ _=>λ_=>True.intro
 | .replace _ _ _=>λ_=>True.intro
 | .append _ _=>λ_=>True.intro
 | .extend _ _=>λ_=>True.intro
 | .pop _=>λ_=>True.intro
 | .comp _ _ _=>λ_=>True.intro
theorem sZ{T:Top}{Γ:ay}{n:Nat}{ρ:Loc}:∀(es:Es) (h:H),cR (ch T ρ es h) λr=>∀Q:List V->H->Prop,Q r.1 r.2->cH T Γ n es ρ h Q
 | .nil=>λh Q q=>q
 | .cons a r=>λh=>bF λx h1 e1=>wV λy h2 e2 Q q=>aU (bg a h) e1 _ (aU (sZ r h1) e2 _ q)
end
theorem aM{T:Top}{Γ:ay}{n:Nat}{ρ:Loc}(e:E){h h':H}{v:V}{Q:Post}(x:ai T ρ e h=some (v,h'))(q:Q v h'):aj T Γ n e ρ h Q:=aU (bg e h) x Q q
section
variable{T:Top}{Γ:ay}{n:Nat}{ρ:Loc}{h h':H}{P:PS}{zs:Ss}{e c:E}{v:V}{i m:Nat}
theorem bd(pe:ai T ρ e h=some (v,h'))(k:ag T Γ n zs (bE ρ i v) h' P):ag T Γ n (.cons (.assign i e) zs) ρ h P:=lV (aM e pe k)
theorem bi(pe:ai T ρ e h=some (v,h'))(k:P.R v h'):ag T Γ n (.cons (.ret e) zs) ρ h P:=kQ (aM e pe k)
theorem eO{a b:Ss}(pe:ai T ρ c h=some (v,h))(t:truthy v=some true)(k:ag T Γ n a ρ h ⟨λρ h=>ag T Γ n zs ρ h P,P.R,P.X⟩):ag T Γ n (.cons (.ite c a b) zs) ρ h P:=fO (aM c pe (by rw[t];exact k))
theorem gJ{a b:Ss}(pe:ai T ρ c h=some (v,h))(t:truthy v=some false)(k:ag T Γ n b ρ h ⟨λρ h=>ag T Γ n zs ρ h P,P.R,P.X⟩):ag T Γ n (.cons (.ite c a b) zs) ρ h P:=fO (aM c pe (by rw[t];exact k))
theorem bP{a:E}{xs ys:List V}(pa:ai T ρ a h=some (.ref m,h))(hx:h[m]? =some (.list ys))(pe:ai T ρ e h=some (v,h'))(hx':h'[m]? =some (.list xs))(hl:xs.length<lim)(k:ag T Γ n zs ρ (h'.set m (.list (xs++[v]))) P):ag T Γ n (.cons (.expr (.append a e)) zs) ρ h P:=by
 refine nC (aM a pa ?_)
 refine ft (a:=ys) (by simp only[listAt,hx]) (aM e pe ?_)
 exact nD hx' ⟨hl,rfl,k⟩
end
theorem bnd{α β:Type}{o:Option α}{a:α}{f:α->Option β}{r:Option β}(e:o=some a)(k:f a=r):o.bind f=r:=by subst e;exact k
theorem bC{α:Type}{o:Option (V×H)}{v:V}{h:H}{f:V->H->Option α}{r:Option α}(e:o=some (v,h))(k:f v h=r):bA o f=r:=by subst e;exact k
theorem s6{α:Type}{o:Option (List V×H)}{v:List V}{h:H}{f:List V->H->Option α}{r:Option α}(e:o=some (v,h))(k:f v h=r):bis o f=r:=by subst e;exact k
section
variable{T:Top}{Γ:ay}{n:Nat}{ρ:Loc}{h h' h1 h2:H}{P:PS}{zs:Ss}{e a b c:E}{v x y o:V}{i m f k':Nat}{fs:List (Nat×V)}{op:Op}{r:Option (V×H)}{is:List Nat}{vs xs ys:List V}{t:Bool}{es:Es}{s:List Nat}{lo hi:Option Int}
theorem nF(pa:ai T ρ a h=some (x,h1))(q:b6 h1 x=some (m,k',fs))(g:bj fs f=some v):ai T ρ (.attr a f) h=some (v,h1):=bC pa (bnd q (bnd g rfl))
theorem bc(pa:cg ρ i=some x)(q:b6 h x=some (m,k',fs))(g:bj fs f=some v):ai T ρ (.attr (.loc i) f) h=some (v,h):=nF (bnd pa rfl) q g
theorem aB(pa:ai T ρ a h=some (x,h1))(pb:ai T ρ b h1=some (y,h2))(q:cq T h2 x y=some v):ai T ρ (.idx a b) h=some (v,h2):=bC pa (bC pb (bnd q rfl))
theorem be{k:Int}(pa:ai T ρ a h=some (x,h1))(q:kr T h1 x=some k)(l:k<=lim):ai T ρ (.len a) h=some (.int k,h1):=bC pa (bnd q (if_pos l))
theorem aH{op:eA}(pa:ai T ρ a h=some (x,h1))(pb:ai T ρ b h1=some (y,h2))(q:bX h2 op x y=some t):ai T ρ (.cmp op a b) h=some (.bool t,h2):=bC pa (bC pb (bnd q rfl))
theorem aV(pa:ai T ρ a h=some (x,h1))(pb:ai T ρ b h1=some (y,h2))(q:binop op x y=some v):ai T ρ (.bin op a b) h=some (v,h2):=bC pa (bC pb (bnd q rfl))
theorem w9(pa:ai T ρ a h=some (x,h1))(q:truthy x=some t):ai T ρ (.not a) h=some (.bool !t,h1):=bC pa (bnd q rfl)
theorem qg{ng:Bool}(pa:ai T ρ a h=some (x,h1))(pb:ai T ρ b h1=some (y,h2))(q:mR T x y=some t):ai T ρ (.dD ng a b) h=some (.bool (if ng then !t else t),h2):=bC pa (bC pb (bnd q rfl))
theorem jk(pa:ai T ρ a h=some (x,h1))(q:truthy x=some true)(pb:ai T ρ b h1=r):ai T ρ (.and a b) h=r:=bC pa (bnd q pb)
theorem lX(pa:ai T ρ a h=some (x,h1))(q:truthy x=some false):ai T ρ (.and a b) h=some (x,h1):=bC pa (bnd q rfl)
theorem lY(pa:ai T ρ a h=some (x,h1))(q:truthy x=some true):ai T ρ (.or a b) h=some (x,h1):=bC pa (bnd q rfl)
theorem gK(pa:ai T ρ a h=some (x,h1))(q:truthy x=some false)(pb:ai T ρ b h1=r):ai T ρ (.or a b) h=r:=bC pa (bnd q pb)
theorem Cy{x y:Bool}(pa:ai T ρ a h=some (.bool x,h))(pb:ai T ρ b h=some (.bool y,h)):ai T ρ (.or a b) h=some (.bool (x||y),h):=by rcases x with _|_;exact gK pa rfl pb;exact lY pa rfl
theorem qh(pa:ai T ρ c h=some (x,h1))(q:truthy x=some true)(pb:ai T ρ a h1=r):ai T ρ (.ite c a b) h=r:=bC pa (bnd q pb)
theorem qi(pa:ai T ρ c h=some (x,h1))(q:truthy x=some false)(pb:ai T ρ b h1=r):ai T ρ (.ite c a b) h=r:=bC pa (bnd q pb)
theorem qj{k:Int}(pa:ai T ρ a h=some (x,h1))(pb:ai T ρ b h1=some (.int k,h2))(q:jO (some k) none h2 x=r):ai T ρ (.g7 a b) h=r:=bC pa (bC pb q)
theorem xe{k:Int}(pa:ai T ρ a h=some (x,h1))(pb:ai T ρ b h1=some (.int k,h2))(q:jO none (some k) h2 x=r):ai T ρ (.g9 a b) h=r:=bC pa (bC pb q)
theorem qk{ss:List (List Nat)}(pa:ai T ρ a h=some (x,h1))(q:(listAt h1 x).bind dE=some ss)(l:ss.length<=lim)(l':(aG s ss).length<=lim):ai T ρ (.join s a) h=some (.str (aG s ss),h1):=bC pa (bnd q (if_pos ⟨l,l'⟩))
theorem s7{k:Int}(pa:ai T ρ a h=some (.int k,h1))(l:0<=k/\k<2 ^ 30):ai T ρ (.strOf a) h=some (.str (cG k.toNat),h1):=bC pa (if_pos l)
theorem Cz{p q:eA}{z:V}{h3:H}(pa:ai T ρ a h=some (x,h1))(pb:ai T ρ b h1=some (y,h2))(e1:bX h2 p x y=some true)(pc:ai T ρ c h2=some (z,h3))(e2:bX h3 q y z=some t):ai T ρ (.fI p q a b c) h=some (.bool t,h3):=bC pa (bC pb (bnd e1 (bC pc (bnd e2 rfl))))
theorem Mj(pa:ai T ρ a h=some (.ref m,h1))(q:h1[m]? =some (.list xs))(l:xs.length<=lim):ai T ρ (.rev a) h=some (.ref h1.length,h1++[.list xs.reverse]):=bC pa (bnd (show listAt h1 (.ref m)=some xs by simp only[listAt,q]) (if_pos l))
theorem Mk{c:Nat}{k:Int}(pa:ai T ρ a h=some (.str [c],h1))(q:T.single.lookup c=some k):ai T ρ (.getD a) h=some (.int k,h1):=bC pa (bnd (a:=c) rfl (bnd q rfl))
theorem CA{c:Nat}(pa:ai T ρ a h=some (.str [c],h1)):ai T ρ (.inD a) h=some (.bool (T.single.lookup c).isSome,h1):=bC pa rfl
theorem eP(q:cg ρ i=some v):ai T ρ (.loc i) h=some (v,h):=bnd q rfl
theorem Ml(pa:ai T ρ a h=some (.str s,h1))(l:s.length<=lim):ai T ρ (.split a) h=some (.ref h1.length,h1++[.list ((bH 32 [] s).map V.str)]):=bC pa (if_pos l)
theorem nG(q:h[m]? =some (.list xs))(l:xs.length<=lim):jO lo hi h (.ref m)=some (.ref h.length,h++[.list (bh lo hi xs)]):=bnd (show listAt h (.ref m)=some xs by simp only[listAt,q]) (if_pos l)
theorem lZ(l:s.length<=lim):jO lo hi h (.str s)=some (.str (bh lo hi s),h):=if_pos l
theorem aO(pa:ai T ρ a h=some (x,h1))(pr:ch T ρ es h1=some (xs,h2)):ch T ρ (.cons a es) h=some (x::xs,h2):=bC pa (s6 pr rfl)
theorem jm(pa:ch T ρ es h=some (xs,h1)):ai T ρ (.tup es) h=some (.ref h1.length,h1++[.tup xs]):=s6 pa rfl
theorem ic(pa:ch T ρ es h=some (xs,h1)):ai T ρ (.lst es) h=some (.ref h1.length,h1++[.list xs]):=s6 pa rfl
theorem cJ(es:Es){Q:List V->H->Prop}(pa:ch T ρ es h=some (xs,h1))(q:Q xs h1):cH T Γ n es ρ h Q:=aU (sZ es h) pa Q q
theorem CB{F:Nat->Nat->List (Nat×V)->Prop}{o:Option (Nat×Nat×List (Nat×V))}(e:o=some (m,k',fs))(q:F m k' fs):(match (generalizing:=false) o with|some (a,b,c)=>F a b c|none=>False):=by subst e;exact q
theorem Mm(pe:ai T ρ e h=some (v,h))(k:P.X v h):ag T Γ n (.cons (.raise e) zs) ρ h P:=Mg (aM e pe k)
theorem gM{p:Prop} [Decidable p] {a b:Ss}(pe:ai T ρ c h=some (.bool (decide p),h))(q:p)(k:ag T Γ n a ρ h ⟨λρ h=>ag T Γ n zs ρ h P,P.R,P.X⟩):ag T Γ n (.cons (.ite c a b) zs) ρ h P:=eO pe (congrArg some (decide_eq_true q)) k
theorem nH{p:Prop} [Decidable p] {a b:Ss}(pe:ai T ρ c h=some (.bool (decide p),h))(q:¬p)(k:ag T Γ n b ρ h ⟨λρ h=>ag T Γ n zs ρ h P,P.R,P.X⟩):ag T Γ n (.cons (.ite c a b) zs) ρ h P:=gJ pe (congrArg some (decide_eq_false q)) k
theorem nI{a b:Ss}(pe:ai T ρ c h=some (v,h))(q:truthy v=some true)(k:ag T Γ n a ρ h P):ag T Γ n (.cons (.ite c a b) .nil) ρ h P:=eO pe q k
theorem gN{a b:Ss}(pe:ai T ρ c h=some (v,h))(q:truthy v=some false)(k:ag T Γ n b ρ h P):ag T Γ n (.cons (.ite c a b) .nil) ρ h P:=gJ pe q k
theorem nJ{p:Prop} [Decidable p] {a b:Ss}(pe:ai T ρ c h=some (.bool (decide p),h))(q:p)(k:ag T Γ n a ρ h P):ag T Γ n (.cons (.ite c a b) .nil) ρ h P:=gM pe q k
theorem ql{p:Prop} [Decidable p] {a b:Ss}(pe:ai T ρ c h=some (.bool (decide p),h))(q:¬p)(k:ag T Γ n b ρ h P):ag T Γ n (.cons (.ite c a b) .nil) ρ h P:=nH pe q k
theorem bp(k:P.N ρ h):ag T Γ n .nil ρ h P:=k
theorem cz{a:Ss}(pe:ai T ρ c h=some (v,h))(q:truthy v=some false)(k:ag T Γ n zs ρ h P):ag T Γ n (.cons (.ite c a .nil) zs) ρ h P:=gJ pe q k
theorem d8{p:Prop} [Decidable p] {a:Ss}(pe:ai T ρ c h=some (.bool (decide p),h))(q:¬p)(k:ag T Γ n zs ρ h P):ag T Γ n (.cons (.ite c a .nil) zs) ρ h P:=nH pe q k
theorem xh{a b:Ss}(pe:ai T ρ c h=some (v,h1))(q:truthy v=some true)(k:ag T Γ n a ρ h1 ⟨λρ h=>ag T Γ n zs ρ h P,P.R,P.X⟩):ag T Γ n (.cons (.ite c a b) zs) ρ h P:=fO (aM c pe (Cu q k))
theorem xi{a:Ss}(pe:ai T ρ c h=some (v,h1))(q:truthy v=some false)(k:ag T Γ n zs ρ h1 P):ag T Γ n (.cons (.ite c a .nil) zs) ρ h P:=fO (aM c pe (wR q k))
theorem gO(pe:ai T ρ e h=some (v,h1))(pa:ai T ρ a h1=some (x,h2))(q:b6 h2 x=some (m,k',fs))(k:ag T Γ n zs ρ (h2.set m (.inst k' (gh fs f v))) P):ag T Γ n (.cons (.setattr a f e) zs) ρ h P:=Cs (aM e pe (aM a pa (CB q k)))
theorem xj{h0:H}{o:O}(q:h0[m]? =some o)(hk:Nat.ble k' 2=true)(hf:Nat.ble fs.length 20=true):b6 (h0.set m (.inst k' fs)) (.ref m)=some (m,k',fs):=by
 have l:=(Sr.mp q).1
 simp only[b6,Uc l,Vw (Tb hk),Tb hf,and_self,if_true]
theorem xk{h0:H}{o:O}(q:h0[m]? =some o)(pe:ai T ρ e (h0.set m (.inst k' fs))=some (v,h0.set m (.inst k' fs)))(pa:ai T ρ a (h0.set m (.inst k' fs))=some (.ref m,h0.set m (.inst k' fs)))(hk:Nat.ble k' 2=true)(hf:Nat.ble fs.length 20=true)(k:ag T Γ n zs ρ (h0.set m (.inst k' (gh fs f v))) P):ag T Γ n (.cons (.setattr a f e) zs) ρ (h0.set m (.inst k' fs)) P:=
 gO pe pa (xj q hk hf) (by rw[WQ];exact k)
theorem fP(g:cg ρ i=some x)(pe:ai T ρ e h=some (v,h))(q:binop op x v=some o)(k:ag T Γ n zs (bE ρ i o) h P):ag T Γ n (.cons (.aug i op e) zs) ρ h P:=Ct (iO g (aM e pe (iO q k)))
theorem jp(pe:ai T ρ e h=some (v,h1))(q:fJ h1 v=some vs)(l:vs.length=is.length)(k:ag T Γ n zs (dF ρ is vs) h1 P):ag T Γ n (.cons (.unpack is e) zs) ρ h P:=wQ (aM e pe (ft q ⟨l,k⟩))
theorem cT(pa:ch T ρ es h=some (xs,h1))(k:Γ n f xs h1 (λv h=>v= .none/\ag T Γ (n+1) zs ρ h P) bot):ag T Γ (n+1) (.cons (.expr (.call f es)) zs) ρ h P:=nC (cJ es pa k)
theorem d9(pa:ch T ρ es h=some (xs,h1))(k:Γ n f xs h1 (λv h=>ag T Γ (n+1) zs (bE ρ i v) h P) bot):ag T Γ (n+1) (.cons (.assign i (.call f es)) zs) ρ h P:=lV (cJ es pa k)
theorem CC(pa:ch T ρ es h=some (xs,h1))(k:Γ n f xs h1 (λv h=>P.R v h) bot):ag T Γ (n+1) (.cons (.ret (.call f es)) zs) ρ h P:=kQ (cJ es pa k)
theorem xl{a b:Ss}(pa:ch T ρ es h=some (xs,h1))(k:Γ n f xs h1 (λv h=>match truthy v with|some true=>ag T Γ (n+1) a ρ h ⟨λρ h=>ag T Γ (n+1) zs ρ h P,P.R,P.X⟩|some false=>ag T Γ (n+1) b ρ h ⟨λρ h=>ag T Γ (n+1) zs ρ h P,P.R,P.X⟩|Option.none=>False) bot):ag T Γ (n+1) (.cons (.ite (.call f es) a b) zs) ρ h P:=fO (cJ es pa k)
theorem qm{a b:E}{m':Nat}(pa:ai T ρ a h=some (.ref m,h1))(hx:h1[m]? =some (.list vs))(pb:ai T ρ b h1=some (.ref m',h2))(hx':h2[m]? =some (.list xs))(hy:h2[m']? =some (.list ys))(l:xs.length+ys.length<=lim)(ne:m≠m')(k:ag T Γ n zs ρ (h2.set m (.list (xs++ys))) P):ag T Γ n (.cons (.expr (.extend a b)) zs) ρ h P:=by
 refine nC (aM a pa (ft (a:=vs) (by simp only[listAt,hx]) (aM b pb ?_)))
 simp only[listAt,hx',hy]
 exact⟨l,λz=>ne (V.ref.inj z),True.intro,k⟩
theorem s8(pa:ai T ρ a h=some (.ref m,h1))(hx:h1[m]? =some (.list xs))(g:xs.getLast? =some v)(l:xs.length<=lim)(q:fJ (h1.set m (.list xs.dropLast)) v=some vs)(ln:vs.length=is.length)(k:ag T Γ n zs (dF ρ is vs) (h1.set m (.list xs.dropLast)) P):ag T Γ n (.cons (.unpack is (.pop a)) zs) ρ h P:=by
 refine wQ (aM a pa (nD hx (iO g ⟨l,ft q ⟨ln,k⟩⟩)))
theorem Mn{A B:H->Prop}(pe:ai T ρ c h=some (v,h))(q:truthy v=some true)(k:A h):aj T Γ n c ρ h (λv h'=>match truthy v with|some true=>A h'|some false=>B h'|Option.none=>False):=aM c pe (Cu q k)
theorem CD{A B:H->Prop}(pe:ai T ρ c h=some (v,h))(q:truthy v=some false)(k:B h):aj T Γ n c ρ h (λv h'=>match truthy v with|some true=>A h'|some false=>B h'|Option.none=>False):=aM c pe (wR q k)
theorem l9{op:eA}{A B:Bool->H->Prop}(pb:ai T ρ b h=some (y,h1))(q:bX h1 op x y=some true)(k:A true h1):aj T Γ n b ρ h (λy h=>match bX h op x y with|some t=>(match truthy (.bool t)with|some true=>A t h|some false=>B t h|Option.none=>False)|Option.none=>False):=aM b pb (nE q k)
theorem jP{op:eA}{A B:Bool->H->Prop}(pb:ai T ρ b h=some (y,h1))(q:bX h1 op x y=some false)(k:B false h1):aj T Γ n b ρ h (λy h=>match bX h op x y with|some t=>(match truthy (.bool t)with|some true=>A t h|some false=>B t h|Option.none=>False)|Option.none=>False):=aM b pb (nE q k)
theorem qn{op:eA}{a b:Ss}(pa:ch T ρ es h=some (xs,h1))(k:Γ n f xs h1 (λx h=>aj T Γ (n+1) c ρ h λy h=>match bX h op x y with|some t=>(match truthy (.bool t)with|some true=>ag T Γ (n+1) a ρ h ⟨λρ h=>ag T Γ (n+1) zs ρ h P,P.R,P.X⟩|some false=>ag T Γ (n+1) b ρ h ⟨λρ h=>ag T Γ (n+1) zs ρ h P,P.R,P.X⟩|Option.none=>False)|Option.none=>False) bot):ag T Γ (n+1) (.cons (.ite (.cmp op (.call f es) c) a b) zs) ρ h P:=fO (cJ es pa k)
theorem xm{a b:Ss}(pa:ch T ρ es h=some (xs,h1))(k:Γ n f xs h1 (λx h=>match truthy x with|some t=>(match truthy (.bool (!t))with|some true=>ag T Γ (n+1) a ρ h ⟨λρ h=>ag T Γ (n+1) zs ρ h P,P.R,P.X⟩|some false=>ag T Γ (n+1) b ρ h ⟨λρ h=>ag T Γ (n+1) zs ρ h P,P.R,P.X⟩|Option.none=>False)|Option.none=>False) bot):ag T Γ (n+1) (.cons (.ite (.not (.call f es)) a b) zs) ρ h P:=fO (cJ es pa k)
theorem fQ{α:Type}{g:α->V}{l:List α}(e:(l.map g)[i]? =some v):∃a,l[i]? =some a/\v=g a:=by
 rw[TT]at e
 exact am (TA.mp e) λa p q=>⟨a,p,q.symm⟩
theorem gP(M:di Γ){is:List Nat}{src:E}{b:Ss}{xs:List V}(I:Nat->Loc->H->Prop)
  (d7:aj T Γ n src ρ h (λv h'=>v= .ref m/\I 0 ρ h'))
  (hm:∀i ρ h,I i ρ h->h[m]? =some (.list xs)) (step:∀(nP:Loc->H->Prop) i x ρ h,(∀ρ h,I (i+1) ρ h->nP ρ h)->xs[i]? =some x->I i ρ h->eM T Γ n is b P.R x ρ h nP) (fin:∀ρ h,I xs.length ρ h->ag T Γ n zs ρ h P):ag T Γ n (.cons (.for is src b) zs) ρ h P:=
 kR (Cr M I d7 hm step fin)
theorem xn(M:di Γ){is:List Nat}{src:E}{b:Ss}{s:List Nat}(I:Nat->Loc->H->Prop)
  (d7:aj T Γ n src ρ h (λv h'=>v= .str s/\I 0 ρ h'))
  (step:∀(nP:Loc->H->Prop) i c ρ h,(∀ρ h,I (i+1) ρ h->nP ρ h)->s[i]? =some c->I i ρ h->eM T Γ n is b P.R (.str [c]) ρ h nP) (fin:∀ρ h,I s.length ρ h->ag T Γ n zs ρ h P):ag T Γ n (.cons (.for is src b) zs) ρ h P:=
 kR (Mb M I d7 step fin)
theorem mh(M:di Γ){i₀:Nat}{src:E}{b:Ss}{k:Nat}(hk:k<=lim)(I:Nat->Loc->H->Prop)
  (d7:aj T Γ n src ρ h (λv h'=>v= .int k/\I 0 ρ h'))
  (step:∀(nP:Loc->H->Prop) (i:Nat) ρ h,(∀ρ h,I (i+1) ρ h->nP ρ h)->i<k->I i ρ h->ag T Γ n b (bE ρ i₀ (.int i)) h ⟨nP,P.R,bot⟩) (fin:∀ρ h,I k ρ h->ag T Γ n zs ρ h P):ag T Γ n (.cons (.dX i₀ src b) zs) ρ h P:=
 kR (Mc M hk I d7 step fin)
theorem k_while(M:di Γ){b:Ss}(I:Nat->Loc->H->Prop)
  (step:∀(nP:Loc->H->Prop) k ρ h,(∀ρ h,(∃j,j<k/\I j ρ h)->nP ρ h)->I k ρ h->aj T Γ n c ρ h (λv h'=>match truthy v with|some true=>ag T Γ n b ρ h' ⟨nP,P.R,P.X⟩|some false=>ag T Γ n zs ρ h' P|Option.none=>False)) {k:Nat} (i:I k ρ h):ag T Γ n (.cons (.while c b) zs) ρ h P:=
 kR (Cq M I step i)
theorem nK(pa:ch T ρ es h=some (xs,h1))(k:Γ n f xs h1 (λv h=>match fJ h v with
 |some vs=>vs.length=is.length/\ag T Γ (n+1) zs (dF ρ is vs) h P
 |Option.none=>False) bot):ag T Γ (n+1) (.cons (.unpack is (.call f es)) zs) ρ h P:=wQ (cJ es pa k)
theorem Mo{c:Nat}(pa:ch T ρ es h=some (xs,h1))(k:Γ n (T.init c) (.ref h1.length::xs) (h1++[.inst c []]) (λv h'=>v= .none/\ag T Γ (n+1) zs (bE ρ i (.ref h1.length)) h' P) bot):ag T Γ (n+1) (.cons (.assign i (.new c es)) zs) ρ h P:=lV (cJ es pa k)
theorem Mp{c:Nat}{r:Es}{Q:List V->H->Prop}(pa:ch T ρ es h=some (xs,h1))(k:Γ n (T.init c) (.ref h1.length::xs) (h1++[.inst c []]) (λv h'=>v= .none/\cH T Γ (n+1) r ρ h' λvs h=>Q (.ref h1.length::vs) h) bot):cH T Γ (n+1) (.cons (.new c es) r) ρ h Q:=cJ es pa k
theorem s9(k:cH T Γ n es ρ h λvs h=>P.R (.ref h.length) (h++[.tup vs])):ag T Γ n (.cons (.ret (.tup es)) zs) ρ h P:=kQ k
theorem w_call{Q:Post}(pa:ch T ρ es h=some (xs,h1))(k:Γ n f xs h1 Q bot):aj T Γ (n+1) (.call f es) ρ h Q:=cJ es pa k
theorem w_and{p:Prop} [Decidable p] {Q:Post}(pe:ai T ρ a h=some (.bool (decide p),h))(q:p)(k:aj T Γ n b ρ h Q):aj T Γ n (.and a b) ρ h Q:=aM a pe (sU q k)
theorem Mq{p:Prop} [Decidable p] {A B:H->Prop}(pe:ai T ρ a h=some (.bool (decide p),h))(q:¬p)(k:B h):aj T Γ n (.and a b) ρ h (λv h'=>match truthy v with|some true=>A h'|some false=>B h'|Option.none=>False):=aM a pe (sV q (sV q k))
theorem qo{p:Prop} [Decidable p] {A B:H->Prop}(pe:ai T ρ c h=some (.bool (decide p),h))(q:p)(k:A h):aj T Γ n c ρ h (λv h'=>match truthy v with|some true=>A h'|some false=>B h'|Option.none=>False):=aM c pe (sU q k)
theorem xo{p:Prop} [Decidable p] {A B:H->Prop}(pe:ai T ρ c h=some (.bool (decide p),h))(q:¬p)(k:B h):aj T Γ n c ρ h (λv h'=>match truthy v with|some true=>A h'|some false=>B h'|Option.none=>False):=aM c pe (sV q k)
theorem Mr{p:Prop} [Decidable p] {x y:Ss}(pe:ai T ρ a h=some (.bool (decide p),h))(q:p)(k:ag T Γ n x ρ h ⟨λρ h=>ag T Γ n zs ρ h P,P.R,P.X⟩):ag T Γ n (.cons (.ite (.or a b) x y) zs) ρ h P:=fO (aM a pe (sU q (sU q k)))
theorem Ms{p:Prop} [Decidable p] {x y:Ss}(pe:ai T ρ a h=some (.bool (decide p),h))(q:¬p)(k:aj T Γ n b ρ h λv h=>match truthy v with|some true=>ag T Γ n x ρ h ⟨λρ h=>ag T Γ n zs ρ h P,P.R,P.X⟩|some false=>ag T Γ n y ρ h ⟨λρ h=>ag T Γ n zs ρ h P,P.R,P.X⟩|Option.none=>False):ag T Γ n (.cons (.ite (.or a b) x y) zs) ρ h P:=fO (aM a pe (sV q k))
theorem qp{c:E}{h3:H}{k l:Int}(pa:ai T ρ a h=some (x,h1))(pb:ai T ρ b h1=some (.int k,h2))(pc:ai T ρ c h2=some (.int l,h3))(q:jO (some k) (some l) h3 x=r):ai T ρ (.eB a b c) h=r:=bC pa (bC pb (bC pc q))
theorem CE{Q:List V->H->Prop}(k:aj T Γ n a ρ h λx h=>cH T Γ n es ρ h λvs h=>Q (x::vs) h):cH T Γ n (.cons a es) ρ h Q:=k
theorem xp{r:Es}{Q:List V->H->Prop}(pa:ch T ρ es h=some (xs,h1))(k:Γ n f xs h1 (λv h=>cH T Γ (n+1) r ρ h λvs h=>Q (v::vs) h) bot):cH T Γ (n+1) (.cons (.call f es) r) ρ h Q:=cJ es pa k
theorem xq{a i':E}{k:Int}{j:Nat}(pe:ai T ρ e h=some (v,h1))(pa:ai T ρ a h1=some (.ref m,h2))(pi:ai T ρ i' h2=some (.int k,h2))(hx:h2[m]? =some (.list xs))(hj:(if 0<=k then k else k+xs.length)=(j:Int))(lt:j<xs.length)(l:xs.length<=lim)(k':ag T Γ n zs ρ (h2.set m (.list (xs.set j v))) P):ag T Γ n (.cons (.jB a i' e) zs) ρ h P:=by
 refine Me (aM e pe (aM a pa (aM i' pi ?_)))
 simp only[listAt,hx,hj]
 exact⟨T8 _,Tf.mpr lt,l,k'⟩
theorem CG{m':Nat}{F:Nat->List V->List V->Prop}(hx:h[m]? =some (.list xs))(hy:h[m']? =some (.list ys))(k:F m xs ys):(match V.ref m,listAt h (.ref m),listAt h (.ref m')with| .ref i,some xs,some ys=>F i xs ys|_,_,_=>False):=by
 simp only[listAt,hx,hy];exact k
theorem CH{a:E}(pa:ai T ρ a h=some (.ref m,h))(hx:h[m]? =some (.list vs))(pb:ch T ρ es h=some (xs,h1))(k:Γ n f xs h1 (λy h=>match V.ref m,listAt h (.ref m),listAt h y with| .ref i,some xs,some ys=>xs.length+ys.length<=lim/\V.ref m≠y/\V.none=V.none/\ag T Γ (n+1) zs ρ (h.set i (.list (xs++ys))) P|_,_,_=>False) bot):ag T Γ (n+1) (.cons (.expr (.extend a (.call f es))) zs) ρ h P:=
 nC (aM a pa (ft (a:=vs) (by simp only[listAt,hx]) (cJ es pb k)))
theorem ta{a:E}(pa:ai T ρ a h=some (.ref m,h))(hx:h[m]? =some (.list vs))(pb:ch T ρ es h=some (xs,h1))(k:Γ n f xs h1 (λy h=>match V.ref m,listAt h (.ref m)with| .ref i,some xs=>xs.length<lim/\V.none=V.none/\ag T Γ (n+1) zs ρ (h.set i (.list (xs++[y]))) P|_,_=>False) bot):ag T Γ (n+1) (.cons (.expr (.append a (.call f es))) zs) ρ h P:=
 nC (aM a pa (ft (a:=vs) (by simp only[listAt,hx]) (cJ es pb k)))
theorem xt(M:di Γ){elt src:E}{k:Nat}{Q:Post}(I:Nat->List V->H->Prop)(hs:ai T ρ src h=some (.ref m,h))(hm:∀i acc h,I i acc h->h[m]? =some (.list xs))(step:∀i x acc h,xs[i]? =some x->I i acc h->∃vs,dY h k x=some vs/\aj T Γ n elt (vs.map some) h λr h'=>acc.length<lim/\I (i+1) (acc++[r]) h')(fin:∀acc h,I xs.length acc h->Q (.ref h.length) (h++[.list acc]))(i0:I 0 [] h):aj T Γ n (.comp elt k src) ρ h Q:=
 aM src hs (Md (turn:=λv h' Q'=>match dY h' k v with|some vs=>aj T Γ n elt (vs.map some) h' Q'|Option.none=>False) (λ_ h _ _ kk q=>kO (λvs q=>aI M elt _ h _ _ kk q) q) I hm (λi x acc h e ii=>am (step i x acc h e ii) λ_ b q=>ft b q) fin i0)
theorem Mt{Q:Post}(k:aj T Γ n a ρ h λx h=>match (listAt h x).bind dE with|some ss=>ss.length<=lim/\(aG s ss).length<=lim/\Q (.str (aG s ss)) h|Option.none=>False):aj T Γ n (.join s a) ρ h Q:=k
theorem CI{Q:Post}(pa:ai T ρ a h=some (x,h1))(kk:aj T Γ n b ρ h1 λy h=>match binop .add x y with|some v=>Q v h|Option.none=>False):aj T Γ n (.bin .add a b) ρ h Q:=aM a pa kk
theorem CJ{Q:Post}(kk:aj T Γ n a ρ h λx h=>aj T Γ n b ρ h λy h=>match binop .add x y with|some v=>Q v h|Option.none=>False):aj T Γ n (.bin .add a b) ρ h Q:=kk
theorem fR{k:Int}(e:h[m]? =some (.tup xs))(q:gc xs k=some v)(l:Nat.ble k.natAbs lim=true):cq T h (.ref m) (.int k)=some v:=by
 simp only[cq,Tb l,if_true,gi,e,TM,q]
theorem bG{k:Int}(e:h[m]? =some (.list xs))(q:gc xs k=some v)(l:Nat.ble k.natAbs lim=true):cq T h (.ref m) (.int k)=some v:=by
 simp only[cq,Tb l,if_true,gi,e,TM,q]
theorem k_end{R X:Post}(k:ag T Γ n zs ρ h P):ag T Γ n .nil ρ h ⟨λρ h=>ag T Γ n zs ρ h P,R,X⟩:=k
theorem fu{N:Loc->H->Prop}{R:Post}{b:Ss}(k:ag T Γ n b (bE ρ i v) h ⟨N,R,bot⟩):eM T Γ n [i] b R v ρ h N:=k
theorem xu{Q:List V->H->Prop}(pa:ai T ρ a h=some (x,h1))(k:cH T Γ n es ρ h1 λvs h=>Q (x::vs) h):cH T Γ n (.cons a es) ρ h Q:=aM a pa k
theorem Mu{Q:List V->H->Prop}(pa:ch T ρ es h=some (xs,h1))(k:Γ n f xs h1 (λv h=>Q [v] h) bot):cH T Γ (n+1) (.cons (.call f es) .nil) ρ h Q:=cJ es pa k
theorem Mv(k:cH T Γ (n+1) es ρ h λxs h=>Γ n f xs h (λv h=>v= .none/\ag T Γ (n+1) zs ρ h P) bot):ag T Γ (n+1) (.cons (.expr (.call f es)) zs) ρ h P:=nC k
theorem Mw{m0 k0:Nat}{xv:List (Nat×V)}(pa:ai T ρ a h=some (x,h1))(q:b6 h1 x=some (m0,k0,xv))(g:bj xv f=some o)(pe:ai T ρ e h1=some (v,h2))(w:binop op o v=some y)(q':b6 h2 x=some (m,k',fs))(k:ag T Γ n zs ρ (h2.set m (.inst k' (gh fs f y))) P):ag T Γ n (.cons (.kj a f op e) zs) ρ h P:=by
 refine Mf (aM a pa (Cw q (iO g (aM e pe ?_))))
 rw[w,q'];exact k
end
section
variable{Γ:ay}(G:Prog Γ)
noncomputable def isDigit(c:Nat):Bool:=decide (48<=c)&&decide (c<=57)
noncomputable def isLetter(c:Nat):Bool:=(decide (97<=c)&&decide (c<=122))||(decide (65<=c)&&decide (c<=90))
noncomputable def isBlank(c:Nat):Bool:=decide (c∈[32,9,10,13,11,12])
noncomputable def tc(c:Nat):Bool:=decide (c<32)||decide (c=127)
noncomputable def dw(c:Nat):Bool:=isLetter c||(isDigit c||decide (c∈[95,43,35,61,58,45,47]))
include G
omit G in
theorem xx{a b:Bool}{h:H}:cond a (some (V.bool b,h)) (some (V.bool false,h))=some (V.bool (a&&b),h):=by rcases a with _|_<;>rfl
theorem te{n c:Nat}{h:H}{Q X:Post}(q:Q (.bool (isDigit c)) h):Γ n 5 [.str [c]] h Q X:=
 G.intro rfl (by decide) ⟨rfl,bi (@xx (decide (48<=c)) (decide (c<=57)) h) q⟩
theorem tf{n c:Nat}{h:H}{Q X:Post}(q:Q (.bool (isLetter c)) h):Γ n 6 [.str [c]] h Q X:=
 G.intro rfl (by decide) ⟨rfl,bi (Cy (@xx (decide (97<=c)) (decide (c<=122)) h) (@xx (decide (65<=c)) (decide (c<=90)) h)) q⟩
theorem CK{n c:Nat}{h:H}{Q X:Post}(q:Q (.bool (isBlank c)) h):Γ n 3 [.str [c]] h Q X:=
 G.intro rfl (by decide) ⟨rfl,bi rfl q⟩
theorem CL{n c:Nat}{h:H}{Q X:Post}(q:Q (.bool (tc c)) h):Γ n 4 [.str [c]] h Q X:=
 G.intro rfl (by decide) ⟨rfl,bi (Cy (x:=decide (c<32)) (y:=decide (c=127)) (aH (op:= .lt) rfl rfl (congrArg some (decide_eq_decide.mpr (Tf (n:=c) (m:=32))))) (aH (op:= .eq) rfl rfl (congrArg some (decide_eq_decide.mpr (Int.ofNat_inj (m:=c) (n:=127)))))) q⟩
theorem Mx{n c:Nat}{h:H}{Q X:Post}(q:Q (.bool (dw c)) h):Γ (n+1) 7 [.str [c]] h Q X:=by
 refine G.intro rfl (by decide) ⟨rfl,?_⟩
 refine kQ (tf G ?_)
 unfold dw at q
 rcases e:isLetter c with _|_<;>rw[e]at q
 ·refine te G ?_
  rcases e:isDigit c with _|_<;>rw[e]at q<;>exact q
 ·exact q
end
section
variable{T:Top}{h:H}
theorem nL{α:Type}{xs:List α}{j:Nat}:gc xs (j:Int)=xs[j]? :=by
 unfold gc
 rw[if_pos (T8 _),UJ]
theorem kT{s:List Nat}{j:Nat}(hj:j<s.length)(hl:s.length<=lim):cq T h (.str s) (.int j)=some (.str [s[j]]):=by
 unfold cq
 have:(j:Int).natAbs<=lim:=by simp;exact ah 0xf200e211e10 rfl hj hl
 simp only[this,if_true,nL,SI hj,Uk]
theorem dn{a:Nat}{xs:List V}(e:h[a]? =some (.list xs)):kr T h (.ref a)=some (xs.length:Int):=by
 unfold kr gi
 simp only[e,Uk]
theorem mj{a:Nat}{xs:List V}{j:Nat}(e:h[a]? =some (.list xs))(hj:j<xs.length)(hl:xs.length<=lim):cq T h (.ref a) (.int j)=some xs[j]:=by
 unfold cq gi
 have:(j:Int).natAbs<=lim:=by simp;exact ah 0xf200e211e10 rfl hj hl
 simp only[this,if_true,e,TM,nL,SI hj]
theorem My{a:Nat}{xs:List V}{j:Nat}(e:h[a]? =some (.tup xs))(hj:j<xs.length)(hl:xs.length<=lim):cq T h (.ref a) (.int j)=some xs[j]:=by
 unfold cq gi
 have:(j:Int).natAbs<=lim:=by simp;exact ah 0xf200e211e10 rfl hj hl
 simp only[this,if_true,e,TM,nL,SI hj]
theorem qq{k j:Nat}{s:List Nat}(e:(T.gt k)[j]? =some s)(hl:j<=lim):cq T h (.gt k) (.int j)=some (.str s):=by
 unfold cq gi
 have:(j:Int).natAbs<=lim:=by simpa using hl
 simp only[this,if_true,TM,nL,TT,e,Uk]
theorem ti{a b:Int}:bX h .lt (.int a) (.int b)=some (decide (a<b)):=rfl
theorem cmp_gt{a b:Int}:bX h .gt (.int a) (.int b)=some (decide (a>b)):=rfl
theorem xy{a b:Int}:bX h .ge (.int a) (.int b)=some (decide (a≥b)):=rfl
theorem Mz{a b:Int}:bX h .eq (.int a) (.int b)=some (decide (a=b)):=rfl
theorem MA{a b:Int}:bX h .ne (.int a) (.int b)=some (!decide (a=b)):=rfl
theorem MB{a b:List Nat}:bX h .eq (.str a) (.str b)=some (decide (a=b)):=rfl
theorem xz{a b:List Nat}:bX h .ne (.str a) (.str b)=some (!decide (a=b)):=rfl
end
noncomputable def scan(p:Nat->Bool)(s:List Nat)(i:Nat):Nat:=i+((s.drop i).takeWhile p).length
theorem CM{p:Nat->Bool}{s:List Nat}{i:Nat}(hi:i<s.length)(hp:p s[i]=false):scan p s i=i:=by
 unfold scan
 rw[Tr hi,UT,hp];rfl
theorem CN{p:Nat->Bool}{s:List Nat}{i:Nat}(hi:i<s.length)(hp:p s[i]=true):scan p s i=scan p s (i+1):=by
 unfold scan
 rw[Tr hi,UT,hp]
 simp;exact SK (af 0xf9191a0991a10 rfl) (af 0xf991a109191a0 rfl)
theorem CO{p:Nat->Bool}{s:List Nat}{i:Nat}(hi:s.length<=i):scan p s i=i:=by
 unfold scan
 rw[TR hi];rfl
theorem xC{p:Nat->Bool}{s:List Nat}{i:Nat}(hi:i<=s.length):scan p s i<=s.length:=by
 unfold scan
 have:=(VX p (l:=s.drop i)).length_le
 rw[VB]at this;exact aK 0xf39022e39210e10 rfl this (SJ (af 0xf100e10 rfl hi))
theorem MC{p:Nat->Bool}{s:List Nat}{i:Nat}:i<=scan p s i:=S9 _ _
section
variable{Γ:ay}(G:Prog Γ)
include G
theorem xD{n:Nat}{s:List Nat}(hl:s.length<=lim){p:Nat->Bool}{CP:E}{h:H}{Q X:Post}
  (ht:∀j (hj:j<s.length) (Q':Post),Q' (.bool (p s[j])) h->aj aw Γ n CP [some (.str s),some (.int j)] h Q') {i:Nat} (hi:i<=s.length) (q:Q (.int (scan p s i)) h):
  ag aw Γ n (.cons (.while (.and (.cmp .lt (.loc 1) (.len (.loc 0))) CP) (.cons (.aug 1 .add (.lit (.int 1))) .nil)) (.cons (.ret (.loc 1)) .nil)) [some (.str s),some (.int i)] h ⟨λ_ h=>Q .none h,Q,X⟩:=by
 refine k_while G.mono (λk ρ h'=>h'=h/\∃j:Nat,ρ=[some (.str s),some (.int j)]/\j<=s.length/\k=s.length-j/\scan p s j=scan p s i) (λnP k ρ h' kP ii=>?_) (k:=s.length-i) ⟨rfl,i,rfl,hi,rfl,rfl⟩
 refine zN ii λae j az hj bB hs=>?_;clear ii;subst ae;subst az;subst bB
 by_cases h1:j<s.length
 ·refine w_and (aH (op:= .lt) rfl (be rfl rfl (SR.mpr hl)) rfl) (Tf.mpr h1) (ht j h1 _ ?_)
  rcases h2:p s[j]with _|_
  ·exact bi rfl (((CM h1 h2).symm.trans hs)▸q)
  ·exact fP rfl rfl rfl (bp (kP _ _ ⟨s.length-(j+1),by exact aK 0x1f303e29132e2991a10 rfl (SJ (af 0xf191a01e10 rfl h1)) (SJ (af 0xf100e10 rfl hj)),rfl,j+1,rfl,h1,rfl,(CN h1 h2).symm.trans hs⟩))
 ·exact Mq (aH (op:= .lt) rfl (be rfl rfl (SR.mpr hl)) rfl) (λz=>h1 (Tf.mp z)) (bi rfl (((CO (S7 h1)).symm.trans hs)▸q))
theorem CQ{n:Nat}{s:List Nat}(hl:s.length<=lim){i:Nat}(hi:i<=s.length){h:H}{Q X:Post}(q:Q (.int (scan isDigit s i)) h):Γ (n+1) 9 [.str s,.int i] h Q X:=by
 refine G.intro rfl (by decide) ⟨rfl,?_⟩
 refine xD G hl (p:=isDigit) (λj hj Q' q'=>w_call (aO (aB rfl rfl (kT hj hl)) rfl) (te G q')) hi q
theorem MD{n:Nat}{s:List Nat}(hl:s.length<=lim){i:Nat}(hi:i<=s.length){h:H}{Q X:Post}(q:Q (.int (scan dw s i)) h):Γ (n+2) 10 [.str s,.int i] h Q X:=by
 refine G.intro rfl (by decide) ⟨rfl,?_⟩
 refine xD G hl (p:=dw) (λj hj Q' q'=>w_call (aO (aB rfl rfl (kT hj hl)) rfl) (Mx G q')) hi q
noncomputable def kU(c:Nat):Bool:= !decide (c∈[10,13])
theorem ME{n:Nat}{s:List Nat}(hl:s.length<=lim){i:Nat}(hi:i<=s.length){h:H}{Q X:Post}(q:Q (.int (scan kU s i)) h):Γ n 11 [.str s,.int i] h Q X:=by
 refine G.intro rfl (by decide) ⟨rfl,?_⟩
 refine xD G hl (p:=kU) (λj hj Q' q'=>aM (.dD true (.idx (.loc 0) (.loc 1)) (.lit (.str [10,13]))) (qg (ng:=true) (aB rfl rfl (kT hj hl)) rfl rfl) q') hi q
theorem MF{n:Nat}{s:List Nat}(hl:s.length<=lim){i:Nat}(hi:i<=s.length)(hb:∀j (hj:j<s.length),i<=j->j<=scan isBlank s i->s[j]≠37){h:H}{Q X:Post}(q:Q (.int (scan isBlank s i)) h):Γ (n+1) 12 [.str s,.int i] h Q X:=by
 refine G.intro rfl (by decide) ⟨rfl,?_⟩
 refine k_while G.mono (λk ρ h'=>h'=h/\∃j:Nat,ρ=[some (.str s),some (.int j)]/\i<=j/\j<=s.length/\k=s.length-j/\scan isBlank s j=scan isBlank s i) (λnP k ρ h' kP ii=>?_) (k:=s.length-i) ⟨rfl,i,rfl,SW _,hi,rfl,rfl⟩
 refine Gk ii λae j az hij hj bB hs=>?_;clear ii;subst ae;subst az;subst bB
 by_cases h1:j<s.length
 ·have CR:¬[s[j]]=[37]:=λz=>hb j h1 hij (hs▸MC) (TZ z).1
  have ei:=kT (T:=aw) (h:=h') h1 hl
  refine qo (aH (op:= .lt) rfl (be rfl rfl (SR.mpr hl)) rfl) (Tf.mpr h1) (gN (lX (aH (op:= .eq) (aB rfl rfl ei) rfl rfl) (congrArg some (decide_eq_false CR))) (congrArg some (decide_eq_false CR)) (xl (aO (aB rfl rfl ei) rfl) (CK G ?_)))
  rcases h2:isBlank s[j]with _|_
  ·exact bi rfl (((CM h1 h2).symm.trans hs)▸q)
  ·exact fP rfl rfl rfl (k_end (bp (kP _ _ ⟨s.length-(j+1),by exact aK 0x1f303e29132e2991a10 rfl (SJ (af 0xf191a01e10 rfl h1)) (SJ (af 0xf100e10 rfl hj)),rfl,j+1,rfl,by exact af 0xf91a100e10 rfl hij,h1,rfl,(CN h1 h2).symm.trans hs⟩)))
 ·exact xo (aH (op:= .lt) rfl (be rfl rfl (SR.mpr hl)) rfl) (λz=>h1 (Tf.mp z)) (bi rfl (((CO (S7 h1)).symm.trans hs)▸q))
end
section
variable{h:H}
theorem ie{a:Nat}{xs:List V}(e:h[a]? =some (.list xs)):listAt h (.ref a)=some xs:=by
 unfold listAt;simp only[e]
theorem fy{a:Nat}{xs:List V}(e:h[a]? =some (.tup xs)):fJ h (.ref a)=some xs:=by
 unfold fJ;simp only[e]
theorem aE{o:O}:(h++[o])[h.length]? =some o:=by simp
theorem iP{o o':O}:(h++[o]).set h.length o'=h++[o']:=by simp
theorem qr{α:Type}{xs:List α}{a b:Nat}(ha:a<=xs.length)(hb:b<=xs.length):bh (some (a:Int)) (some (b:Int)) xs=(xs.take b).drop a:=by
 unfold bh gf
 simp only[show¬((a:Int)<0)by lia,show¬((b:Int)<0)by lia,if_false,UJ,UW ha,UW hb]
theorem tj{α:Type}{xs:List α}{a:Nat}(ha:a<=xs.length):bh (some (a:Int)) none xs=xs.drop a:=by
 unfold bh gf
 simp only[show¬((a:Int)<0)by lia,if_false,UJ,UW ha,Tc]
theorem tm{α:Type}{xs:List α}{b:Nat}:bh none (some (b:Int)) xs=xs.take b:=by
 unfold bh gf
 simp only[show¬((b:Int)<0)by lia,if_false,UJ,VY]
 by_cases hb:b<=xs.length
 ·rw[UW hb]
 ·rw[Nat.min_eq_right (by exact af 0xf101e10 rfl (UC hb)),Tc,VP (by exact af 0xf101e10 rfl (UC hb))]
theorem CS{α:Type}{xs:List α}:bh none (some (-1:Int)) xs=xs.dropLast:=by
 unfold bh gf
 simp only[show((-1:Int)<0)by lia,if_true,VY]
 rw[Ui]
 congr 1
 lia
theorem MG{α:Type}{xs:List α}:bh (some (-1:Int)) none xs=xs.drop (xs.length-1):=by
 unfold bh gf
 simp only[show((-1:Int)<0)by lia,if_true,Tc]
 congr 1
 lia
end
theorem MH:aw.glob 17= .int 0:=rfl
section
theorem add_int{a b:Int}:binop .add (.int a) (.int b)=some (.int (a+b)):=rfl
theorem add_str{a b:List Nat}(h:a.length+b.length<=lim):binop .add (.str a) (.str b)=some (.str (a++b)):=by
 show(if _ then _ else _)=_
 rw[if_pos h]
theorem mod_int{a b:Int}(h:0<b):binop .mod (.int a) (.int b)=some (.int (a%b)):=by
 show(if _ then _ else _)=_
 rw[if_pos h]
theorem xF{a b:Int}(h:0<b):binop .fdiv (.int a) (.int b)=some (.int (a/b)):=by
 show(if _ then _ else _)=_
 rw[if_pos h]
theorem mul_int{a b:Int}(h:a.natAbs<2 ^ 60/\b.natAbs<2 ^ 60):binop .mul (.int a) (.int b)=some (.int (a*b)):=by
 show(if _ then _ else _)=_
 rw[if_pos h]
theorem hlim:lim=1000000:=rfl
end
noncomputable def numOf(s:List Nat):Nat:=s.foldl (λn c=>n*10+(c-48)) 0
theorem CT(s:List Nat)(c:Nat):numOf (s++[c])=numOf s*10+(c-48):=by
 unfold numOf;rw[Wq];rfl
noncomputable def cA(cur:List Nat):List Nat->List (List Nat)
 | []=>if cur=[]then []else [cur]
 |c::r=>if isBlank c then (if cur=[]then cA [] r else cur::cA [] r)else cA (cur++[c]) r
noncomputable def wordsOf(s:List Nat):List (List Nat):=cA [] s
section
variable{Γ:ay}(G:Prog Γ)
omit G
theorem nM{cur:List Nat}:cA cur []=if cur=[]then []else [cur]:=by unfold cA;rfl
theorem kW{cur:List Nat}{c:Nat}{r:List Nat}:cA cur (c::r)=if isBlank c then (if cur=[]then cA [] r else cur::cA [] r)else cA (cur++[c]) r:=by rw[cA]
include G
theorem CU{n:Nat}{s:List Nat}(hl:s.length<=9)(hd:∀c∈s,isDigit c=true){h:H}{Q X:Post}(q:Q (.int (numOf s)) h):Γ n 13 [.str s] h Q X:=by
 refine G.intro rfl (by decide) ⟨rfl,?_⟩
 refine bd rfl (xn G.mono (s:=s) (λi ρ h'=>h'=h/\∃o,ρ=[some (.str s),some (.int (numOf (s.take i))),o]/\numOf (s.take i)<10 ^ i) (aM _ rfl ⟨rfl,rfl,_,rfl,Nat.one_pos⟩) (λnP i c ρ h' kP hc ii=>?_) (λρ h' ii=>?_))
 ·refine mN ii λae o az hb=>?_;clear ii;subst ae;subst az
  have hc':(decide (48<=c)&&decide (c<=57))=true:=hd c (Sy hc)
  simp only[S8,decide_eq_true_eq]at hc'
  have hp:(10:Nat) ^ i<=10 ^ 8:=Nat.pow_le_pow_right (by decide) (by exact af 0xf8a11e010e9a0 rfl hl ((Sr.mp hc).1:i<s.length))
  have e1:s.take (i+1)=s.take i++[c]:=by rw[Tg,hc];rfl
  have e2:(numOf (s.take i):Int)*10+(c:Int)-48=(numOf (s.take (i+1)):Nat):=by rw[e1,CT];lia
  refine fu (bd (aV (aV (aV rfl rfl (mul_int ⟨by rw[Int.natAbs_natCast];lia,by decide⟩)) rfl rfl) rfl rfl) (bp (kP _ _ ⟨rfl,_,(by rw[e2];rfl),?_⟩)))
  rw[e1,CT,Nat.pow_succ]
  lia
 ·refine mN ii λae o az hb=>?_;clear ii;subst ae;subst az
  rw[Tc]
  exact bi rfl q
omit G in
theorem MI{cur:List Nat}(s:List Nat):(cA cur s).length<=s.length+1:=by
 induction s generalizing cur with
 |nil=>unfold cA;split<;>simp
 |cons c r ih=>
  unfold cA
  split
  ·split
   ·have:=ih (cur:=[]);simp;exact af 0xf91a100e10 rfl this
   ·have:=ih (cur:=[]);simp;exact af 0xf100e10 rfl this
  ·have:=ih (cur:=cur++[c]);simp;exact af 0xf91a100e10 rfl this
theorem CV{n:Nat}{s:List Nat}(hl:s.length<lim){h:H}{Q X:Post}(q:Q (.ref h.length) (h++[.list ((wordsOf s).map V.str)])):Γ (n+1) 14 [.str s] h Q X:=by
 refine G.intro rfl (by decide) ⟨rfl,?_⟩
 refine bd rfl (bd rfl (mh G.mono (k:=s.length+1) hl (λi ρ h'=>∃(o:Option V) (W:List (List Nat)) (st:Nat),h'=h++[.list (W.map V.str)]/\ρ=[some (.str s),some (.ref h.length),some (.int st),o]/\W.length<=i/\
   (i<=s.length->st<=i/\wordsOf s=W++cA ((s.take i).drop st) (s.drop i))/\(i=s.length+1->wordsOf s=W)) (aM _ (aV (be rfl rfl (SR.mpr (SZ hl))) rfl rfl) ⟨rfl,none,[],0,rfl,rfl,SW _,λ_=>⟨SW _,rfl⟩,λz=>nomatch z⟩) (λnP i ρ h' kP hi ii=>?_) (λρ h' ii=>?_)))
 ·refine mP ii λo W st ae az hW hA _=>?_;clear ii;subst ae;subst az
  have hA:=hA (by exact af 0xf101e91a10 rfl hi)
  refine xA hA λhst hA=>?_
  have tn:((s.take i).drop st=[])↔¬st<i:=by
   rw[Vg,TK];lia
  have ends:(i=s.length\/∃hi:i<s.length,isBlank s[i]=true)->
    (i+1<=s.length->wordsOf s=(W++if st<i then [(s.take i).drop st]else [])++cA [] (s.drop (i+1)))/\(i=s.length->wordsOf s=W++if st<i then [(s.take i).drop st]else []):=by
   intro hh
   refine⟨λhlt=>?_,λhe=>?_⟩
   ·rcases hh with hh| ⟨hi',hb⟩
    ·lia
    ·rw[hA,Tr hi',kW,if_pos hb]
     by_cases hs:st<i
     ·rw[if_neg (by rw[tn];lia),if_pos hs,Sw];rfl
     ·rw[if_pos (tn.mpr hs),if_neg hs,SM]
   ·have e0:s.drop i=[]:=TR (by exact af 0xf013e10 rfl he)
    rw[hA,e0,nM]
    by_cases hs:st<i
    ·rw[if_neg (by rw[tn];lia),if_pos hs]
    ·rw[if_pos (tn.mpr hs),if_neg hs]
  have ei:ai aw (bE [some (.str s),some (.ref h.length),some (.int st),o] 3 (.int i)) (.cmp .eq (.loc 3) (.len (.loc 0))) (h++[.list (W.map V.str)])=some (.bool (decide ((i:Int)=s.length)),h++[.list (W.map V.str)]):=aH rfl (be rfl rfl (SR.mpr (SZ hl))) rfl
  have emit:(i=s.length\/∃hi:i<s.length,isBlank s[i]=true)->
    ag aw Γ (n+1) (.cons (.ite (.cmp .lt (.loc 2) (.loc 3)) (.cons (.expr (.append (.loc 1) (.eB (.loc 0) (.loc 2) (.loc 3)))) .nil) .nil) (.cons (.assign 2 (.bin .add (.loc 3) (.lit (.int 1)))) .nil))
     (bE [some (.str s),some (.ref h.length),some (.int st),o] 3 (.int i)) (h++[.list (W.map V.str)])
     ⟨λρ h=>ag aw Γ (n+1) .nil ρ h ⟨nP,Q,bot⟩,Q,bot⟩:=by
   intro hh
   refine xA (ends hh) λE1 E2=>?_
   have e0:(s.take (i+1)).drop (i+1)=[]:=TR (by simp;exact(Uy _ _))
   by_cases hs:st<i
   ·rw[if_pos hs]at E1 E2
    refine gM (p:=(st:Int)<(i:Int)) rfl (Tf.mpr hs) (bP rfl aE (qp rfl rfl rfl (lZ (SZ hl))) aE (by rw[Sn];exact Tq (SQ hW (by exact af 0xf101e91a10 rfl hi)) hl) (k_end ?_))
    rw[iP,qr (xs:=s) (show st<=s.length by exact ah 0xf120e021e91a10 rfl hi hst) (show i<=s.length by exact af 0xf101e91a10 rfl hi)]
    exact bd rfl (k_end (bp (kP _ _ ⟨_,W++[(s.take i).drop st],i+1,by rw[SN];rfl,rfl,by simp;exact af 0xf100e10 rfl hW,λhle=>⟨SW _,by rw[E1 hle,e0]⟩,λhe=>E2 (Ve he)⟩)))
   ·rw[if_neg hs,SM]at E1 E2
    exact d8 (p:=(st:Int)<(i:Int)) rfl (λz=>hs (Tf.mp z)) (bd rfl (k_end (bp (kP _ _ ⟨_,W,i+1,rfl,rfl,U2 hW,λhle=>⟨SW _,by rw[E1 hle,e0]⟩,λhe=>E2 (Ve he)⟩))))
  by_cases h1:i=s.length
  ·exact Mr ei (congrArg Int.ofNat h1) (emit (.inl h1))
  ·have h2:i<s.length:=by lia
   refine Ms ei (λz=>h1 (U6 z)) (w_call (aO (aB rfl rfl (kT h2 (SZ hl))) rfl) (CK G ?_))
   rcases hb:isBlank s[i]with _|_
   ·refine k_end (bp (kP _ _ ⟨_,W,st,rfl,rfl,U2 hW,λhle=>⟨U2 hst,?_⟩,λhe=>absurd (Ve he) h1⟩))
    rw[hA,Tr h2,kW,if_neg (by rw[hb];decide),Tg,SI h2,Wh,List.drop_append_of_le_length (by simp;lia)]
   ·exact emit (.inr ⟨h2,hb⟩)
 ·refine mP ii λo W st ae az hW _ hB=>?_;clear ii;subst ae;subst az
  rw[hB rfl]at q
  exact bi rfl q
end
noncomputable def CW(c:Nat):Bool:=isLetter c||(isDigit c||decide (c=95))
noncomputable def mm(w:List Nat):Prop:=(∀c∈w,CW c=true)/\w.length<=255/\∃c r,w=c::r/\isLetter c=true
noncomputable def gQ(c:Nat):List Nat:=if c∈[34,92]then [92,c]else [c]
noncomputable def bI(v:List Nat):List Nat:=v.flatMap gQ
theorem tq(v:List Nat)(c:Nat):bI (v++[c])=bI v++gQ c:=by unfold bI;simp
theorem xG(v:List Nat)(c:Nat):bI (c::v)=gQ c++bI v:=by unfold bI;simp
theorem MJ(v w:List Nat):bI (v++w)=bI v++bI w:=by unfold bI;simp
theorem MK(c:Nat):1<=(gQ c).length/\(gQ c).length<=2:=by unfold gQ;split<;>simp
theorem mo(v:List Nat):v.length<=(bI v).length/\(bI v).length<=2*v.length:=by
 induction v with
 |nil=>simp[bI]
 |cons c r ih=>rw[xG];have:=MK c;simp;exact⟨ah 0xf91291a00e21a0e10 rfl ih.1 this.1,ah 0xfc91a12a9020e2a20ec12a0 rfl ih.2 this.2⟩
noncomputable def tA(v:List Nat):Prop:=∀c∈v,tc c=false
noncomputable def ones(s:List Nat):List V:=s.map λc=>V.str [c]
theorem ML(s:List Nat)(c:Nat):ones (s++[c])=ones s++[.str [c]]:=by simp[ones]
theorem CX(s:List Nat):dE (ones s)=some (s.map λc=>[c]):=by
 induction s with
 |nil=>rfl
 |cons c r ih=>unfold ones at ih ⊢;rw[Th,dE,ih];rfl
theorem join_ones(s:List Nat):aG [] (s.map λc=>[c])=s:=by
 induction s with
 |nil=>rfl
 |cons c r ih=>
  cases r with
  |nil=>rfl
  |cons d r=>
   have e:((c::d::r).map λc=>[c])=[c]::[d]::r.map λc=>[c]:=rfl
   rw[e,aG]
   have ih':aG [] ([d]::r.map λc=>[c])=d::r:=ih
   rw[ih'];rfl
theorem strs_map(l:List (List Nat)):dE (l.map V.str)=some l:=by
 induction l with
 |nil=>rfl
 |cons x r ih=>rw[Th,dE,ih];rfl
section
variable{Γ:ay}(G:Prog Γ)
include G
theorem CY{n:Nat}{w:List Nat}(hw:mm w){h:H}{Q X:Post}(q:Q (.bool true) h):Γ (n+1) 8 [.str w] h Q X:=by
 refine oY hw λh1 h2 c0 r0 ae h3=>?_;clear hw;subst ae
 refine G.intro rfl (by decide) ⟨rfl,?_⟩
 refine xn G.mono (s:=c0::r0) (λi ρ h'=>h'=h/\∃o,ρ=[some (.str (c0::r0)),o]) (aM _ rfl ⟨rfl,rfl,_,rfl⟩) (λnP i c ρ h' kP hc ii=>?_) (λρ h' ii=>?_)
 ·refine lA ii λae o az=>?_;clear ii;subst ae;subst az
  have hs:(isLetter c||(isDigit c||decide (c=95)))=true:=h1 c (Sy hc)
  refine fu (fO (w_call rfl (tf G ?_)))
  have nN:=k_end (T:=aw) (Γ:=Γ) (n:=n+1) (R:=Q) (X:=bot) (bp (T:=aw) (Γ:=Γ) (n:=n+1) (P:=⟨nP,Q,bot⟩) (kP [some (.str (c0::r0)),some (.str [c])] h' ⟨rfl,_,rfl⟩))
  rcases hb:isLetter c with _|_
  ·refine w_call rfl (te G ?_)
   rcases hb2:isDigit c with _|_
   ·rw[hb,hb2]at hs
    obtain rfl:=of_decide_eq_true hs
    exact nN
   ·exact nN
  ·exact nN
 ·refine lA ii λae o az=>?_;clear ii;subst ae;subst az
  have e3:cq aw h' (.str (c0::r0)) (.int 0)=some (.str [c0]):=kT (s:=c0::r0) (j:=0) (Wu _) (by exact af 0xf103ef42405b10eff2b0 rfl h2 hlim)
  refine kQ (w_and (p:=((c0::r0).length:Int)<=255) (Cz (p:= .lt) (q:= .le) rfl (be rfl rfl (SR.mpr (SQ h2 (by decide)))) (congrArg some (decide_eq_true (Tf.mpr (Wu _)))) rfl rfl) (SR.mpr h2) (w_call (aO (aB rfl rfl e3) rfl) (tf G ?_)))
  rw[h3];exact q
theorem MM{n:Nat}{v:List Nat}(hl:v.length<=255)(hc:tA v){h:H}{Q X:Post}(q:∀g,Q (.str ([34]++bI v++[34])) (h++g)):Γ (n+1) 22 [.str v] h Q X:=by
 refine G.intro rfl (by decide) ⟨rfl,?_⟩
 have hlim:=hlim
 refine d8 (p:=(v.length:Int)>255) (aH (op:= .gt) (be rfl rfl (SR.mpr (SQ hl (by decide)))) rfl rfl) (by lia) (bd rfl (xn G.mono (s:=v) (λi ρ h'=>∃o,h'=h++[.list (ones (bI (v.take i)))]/\ρ=[some (.str v),some (.ref h.length),o]) (aM _ rfl ⟨rfl,_,rfl,rfl⟩) (λnP i c ρ h' kP hcc ii=>?_) (λρ h' ii=>?_)))
 ·refine am ii λo ae az=>?_;clear ii;subst ae;subst az
  have et:v.take (i+1)=v.take i++[c]:=by rw[Tg,hcc];rfl
  have hlen:(ones (bI (v.take i))).length<=512:=by
   have:=(mo (v.take i)).2
   simp[ones]at this ⊢
   exact ah 0xf2003b14e020ec22a14eff2b0 rfl hl this (TD _ _)
  refine fu (xl rfl (CL G ?_))
  rw[hc c (Sy hcc)]
  by_cases jq:c∈[34,92]
  ·refine k_end (gM (p:=c∈[34,92]) rfl jq (bP rfl aE rfl aE (by exact af 0x1f010e2003b13ef42405b0 rfl hlim hlen) (k_end ?_)))
   rw[iP]
   refine bP rfl aE rfl aE (by simp;exact af 0x1f091a10e2003b13ef42405b0 rfl hlim hlen) ?_
   rw[iP]
   exact bp (kP _ _ ⟨_,by rw[et,tq,gQ,if_pos jq];simp[ones],rfl⟩)
  ·refine k_end (d8 (p:=c∈[34,92]) rfl jq (bP rfl aE rfl aE (by exact af 0x1f010e2003b13ef42405b0 rfl hlim hlen) ?_))
   rw[iP]
   exact bp (kP _ _ ⟨_,by rw[et,tq,gQ,if_neg jq];simp[ones],rfl⟩)
 ·refine am ii λo ae az=>?_;clear ii;subst ae;subst az
  rw[Tc]
  have hb:=(mo v).2
  have je:=join_ones (bI v)
  refine bi (aV (aV rfl (qk (ss:=(bI v).map λc=>[c]) rfl (by rw[ie aE];exact CX _) (by rw[Sn];exact ah 0xf120ec02a23ef42405b14eff2b0 rfl hl hlim hb) (by rw[je];exact ah 0xf120ec02a23ef42405b14eff2b0 rfl hl hlim hb)) (add_str (by rw[je];simp;exact ah 0xf1921a0ec02a23ef42405b14eff2b0 rfl hl hlim hb))) rfl (add_str (by rw[je];simp;exact ah 0xf191a91a20ec02a23ef42405b14eff2b0 rfl hl hlim hb))) ?_
  rw[je];exact q _
end
section
variable{T:Top}{h:H}
theorem gR{s:List Nat}{p c:Nat}{rest:List Nat}(e:s.drop p=c::rest):p<s.length:=by
 apply UC
 intro z
 rw[TR z]at e
 rcases e with⟨⟩
theorem xH{s:List Nat}{p c:Nat}{rest:List Nat}(e:s.drop p=c::rest):s[p]'(gR e)=c:=by
 rw[Tr (gR e)]at e
 injection e
theorem qt{s:List Nat}{p c:Nat}{rest:List Nat}(e:s.drop p=c::rest):s.drop (p+1)=rest:=by
 rw[Tr (gR e)]at e
 injection e
theorem nO{s:List Nat}{p c:Nat}{rest:List Nat}(e:s.drop p=c::rest)(hl:s.length<=lim):cq T h (.str s) (.int p)=some (.str [c]):=by
 rw[kT (gR e) hl,xH e]
theorem tB{s a b:List Nat}{p:Nat}(e:s.drop p=a++b):s.drop (p+a.length)=b:=by
 rw[←WJ,e,Vk]
end
section
variable{Γ:ay}(G:Prog Γ)
include G
theorem MN{n:Nat}{s:List Nat}(hl:s.length<lim){p:Nat}{v r:List Nat}(hs:s.drop p=[34]++bI v++[34]++r)(hv:v.length<=255)(hc:tA v){h:H}{Q X:Post}
  (q:∀g:H,Q (.ref (h++g).length) (h++g++[.tup [.str v,.int ((p+([34]++bI v++[34]).length:Nat):Int)]])):Γ (n+1) 15 [.str s,.int p] h Q X:=by
 refine G.intro rfl (by decide) ⟨rfl,?_⟩
 have hlim:=hlim
 refine bd rfl (bd rfl (k_while G.mono (λk ρ h'=>∃(j:Nat) (o:Option V),j<=v.length/\k=v.length-j/\ρ=[some (.str s),some (.int p),some (.ref h.length),some (.int ((p+1+(bI (v.take j)).length:Nat):Int)),o]/\h'=h++[.list (ones (v.take j))])
  (λnP k ρ h' kP ii=>?_) (k:=v.length) ⟨0,none,Ub _,rfl,rfl,rfl⟩))
 refine mO ii λj o hj ae az bB=>?_;clear ii;subst ae;subst az;subst bB
 have hd:s.drop (p+1+(bI (v.take j)).length)=bI (v.drop j)++[34]++r:=by
  apply tB
  rw[(qt (by simpa using hs):s.drop (p+1)=bI v++[34]++r),←Sw,←Sw,←MJ,T4]
 have hlo:(ones (v.take j)).length<=255:=by simp[ones];exact ah 0xf120e020e10 rfl hv (TD _ _)
 generalize hi:p+1+(bI (v.take j)).length=i at*
 have fz:i<s.length->∀{A B:H->Prop},A (h++[.list (ones (v.take j))])->aj aw Γ (n+1) (.cmp .lt (.loc 3) (.len (.loc 0))) [some (.str s),some (.int p),some (.ref h.length),some (.int i),o] (h++[.list (ones (v.take j))]) (λv h'=>match truthy v with|some true=>A h'|some false=>B h'|none=>False):=
  λz _ _ k=>qo (aH (op:= .lt) rfl (be rfl rfl (SR.mpr (SZ hl))) rfl) (Tf.mpr z) k
 have fA:=SZ hl
 by_cases xI:j=v.length
 ·subst xI
  rw[List.drop_length]at hd
  have hd:s.drop i=34::r:=hd
  rw[Tc]at hi
  have e2:(listAt (h++[O.list (ones (v.take v.length))]) (.ref h.length)).bind dE=some (v.map λc=>[c]):=by
   rw[ie aE,Tc];exact CX _
  refine fz (gR hd) (bd (aB rfl rfl (nO hd fA)) (gM (p:=[34]=[34]) rfl rfl (d8 (p:=((ones (v.take v.length)).length:Int)>255) (aH (op:= .gt) (be rfl (dn aE) (SR.mpr (SQ hlo (by decide)))) rfl rfl) (by lia) (bi (jm (aO (qk rfl e2 (by rw[Sn];exact af 0xf103ef42405b10eff2b0 rfl hv hlim) (by rw[join_ones];exact af 0xf103ef42405b10eff2b0 rfl hv hlim)) rfl)) ?_))))
  rw[join_ones]
  have e3:((i:Int)+1)=((p+([34]++bI v++[34]).length:Nat):Int):=by
   rw[←hi];simp;lia
  rw[e3]
  exact q [.list (ones (v.take v.length))]
 ·have hjl:j<v.length:=by lia
  have et:v.take (j+1)=v.take j++[v[j]]:=by rw[Tg,SI hjl];rfl
  have CZ:=hc v[j] (Tx hjl)
  rw[(Tr hjl:v.drop j=v[j]::v.drop (j+1)),xG]at hd
  generalize hcc:v[j]=c at et CZ hd
  have fin:∀{i':Nat},i'+1=p+1+(bI (v.take (j+1))).length->ag aw Γ (n+1) (.cons (.expr (.append (.loc 2) (.loc 4))) (.cons (.aug 3 .add (.lit (.int 1))) .nil)) [some (.str s),some (.int p),some (.ref h.length),some (.int i'),some (.str [c])] (h++[.list (ones (v.take j))]) ⟨nP,Q,X⟩:=by
   intro i' e5
   refine bP rfl aE rfl aE (by exact af 0x1f010eff2b13ef42405b0 rfl hlim hlo) ?_
   rw[iP,←ML,←et]
   exact fP rfl rfl rfl (bp (kP _ _ ⟨v.length-(j+1),by exact aK 0x1f303e29132e2991a10 rfl (SJ (af 0xf191a01e10 rfl hjl)) (SJ (af 0xf100e10 rfl hj)),j+1,some (.str [c]),hjl,rfl,(by rw[←e5];rfl),rfl⟩))
  by_cases jq:c∈[34,92]
  ·have qu:gQ c=[92,c]:=by unfold gQ;rw[if_pos jq]
   rw[qu]at hd
   have hd:s.drop i=92::([c]++bI (v.drop (j+1))++[34]++r):=hd
   have hd2:s.drop (i+1)=c::(bI (v.drop (j+1))++[34]++r):=qt hd
   refine fz (gR hd) (bd (aB rfl rfl (nO hd fA)) (cz rfl rfl (eO rfl rfl (fP rfl rfl rfl (cz (gK (aH (op:= .eq) rfl (be rfl rfl (SR.mpr fA)) rfl) (congrArg some (decide_eq_false λz=>SX (gR hd2) (U6 z))) (qg (ng:=true) (aB rfl rfl (nO hd2 fA)) rfl rfl)) (congrArg (λz=>some (!z)) (decide_eq_true jq)) (bd (aB rfl rfl (nO hd2 fA)) (k_end (fin (i':=i+1) ?_))))))))
   rw[et,tq,qu,←hi];simp;exact SK (af 0xf992a1091a91a910 rfl) (af 0xf91a91a910992a10 rfl)
  ·have qu:gQ c=[c]:=by unfold gQ;rw[if_neg jq]
   rw[qu]at hd
   have hd:s.drop i=c::(bI (v.drop (j+1))++[34]++r):=hd
   have MO:¬[c]=[34]:=λz=>jq (by rw[(TZ z).1];decide)
   have MP:¬[c]=[92]:=λz=>jq (by rw[(TZ z).1];decide)
   refine fz (gR hd) (bd (aB rfl rfl (nO hd fA)) (d8 (p:=[c]=[34]) rfl MO (nH (p:=[c]=[92]) rfl MP (xl rfl (CL G ?_)))))
   rw[CZ]
   refine k_end (k_end (fin (i':=i) ?_))
   rw[et,tq,qu,←hi];simp;exact SK (af 0xf991a1091a910 rfl) (af 0xf91a910991a10 rfl)
end
theorem qv{p:Nat->Bool}{s b c:List Nat}{i:Nat}(e:s.drop i=b++c)(hb:∀x∈b,p x=true)(hc:∀x,c.head? =some x->p x=false):scan p s i=i+b.length:=by
 unfold scan
 rw[e,List.takeWhile_append_of_pos hb]
 cases c with
 |nil=>simp
 |cons x r=>rw[UT,hc x rfl];simp
theorem takeWhile_all{α:Type}(p:α->Bool):∀(l:List α) (c:α),c∈l.takeWhile p->p c=true
 | [],c,h=>by simp at h
 |x::r,c,h=>by
  rw[UT]at h
  split at h
  ·rename_i hx
   rcases SH.mp h with rfl|h
   ·exact hx
   ·exact takeWhile_all p r c h
  ·exact nm h
noncomputable def norm(b:List Nat):List Nat:=aG [32] (wordsOf b)
theorem xJ(sep x:List Nat)(l:List (List Nat)):aG sep (x::l)=x++(if l=[]then []else sep++aG sep l):=by
 cases l with
 |nil=>simp[aG]
 |cons y r=>rw[aG];simp
theorem MQ{cur:List Nat}(s:List Nat):(aG [32] (cA cur s)).length<=cur.length+s.length:=by
 induction s generalizing cur with
 |nil=>
  rw[nM]
  split
  ·simp[aG]
  ·simp[aG]
 |cons c r ih=>
  rw[kW]
  split
  ·split
   ·have:=ih (cur:=[]);simp at this ⊢;exact ah 0xf991a1200e10 rfl this
   ·have:=ih (cur:=[]);rw[xJ];split<;>simp at this ⊢<;>exact af 0xf100e10 rfl this
  ·have:=ih (cur:=cur++[c]);simp at this ⊢;exact ah 0xf991a2100e9291a10 rfl this
theorem C1(b:List Nat):(norm b).length<=b.length:=by simpa[norm,wordsOf]using(MQ (cur:=[]) b)
theorem C2(b:List Nat):(wordsOf b).length<=b.length+1:=MI b
section
variable{Γ:ay}(G:Prog Γ)
include G
theorem C3{n:Nat}{ρ:Loc}{s:List Nat}{a b:Nat}{ea eb:E}{h:H}{Q:Post}(hl:s.length<lim)(ha:a<=s.length)(hb:b<=s.length)(e0:ai aw ρ (.loc 0) h=some (.str s,h))
  (pa:ai aw ρ ea h=some (.int a,h)) (pb:ai aw ρ eb h=some (.int b,h)) (q:Q (.str (norm ((s.take b).drop a))) (h++[.list ((wordsOf ((s.take b).drop a)).map V.str)])):
  aj aw Γ (n+2) (.join [32] (.call 14 (.cons (.eB (.loc 0) ea eb) .nil))) ρ h Q:=by
 have hlen:((s.take b).drop a).length<=s.length:=by simp;exact ah 0xf92100e10 rfl (TD _ _)
 show aj aw Γ (n+2) (.call 14 (.cons (.eB (.loc 0) ea eb) .nil)) ρ h (λx h=>match (listAt h x).bind dE with|some ss=>ss.length<=lim/\(aG [32] ss).length<=lim/\Q (.str (aG [32] ss)) h|none=>False)
 refine w_call (aO (qp e0 pa pb (lZ (SZ hl))) rfl) ?_
 rw[qr ha hb]
 exact CV G (Tq hlen hl) (wW (by rw[ie aE];exact strs_map _) ⟨by exact aK 0xf130e91a230e021e10 rfl hl hlen (C2 ((s.take b).drop a)),SQ (C1 ((s.take b).drop a)) (by exact ah 0xf120e021e10 rfl hl hlen),q⟩)
theorem MR{n:Nat}{s:List Nat}(hl:s.length<lim){p:Nat}{b r:List Nat}(hs:s.drop p=[123]++b++[125]++r)(hb:125∉b){h:H}{Q X:Post}
  (q:∀g:H,Q (.ref (h++g).length) (h++g++[.tup [.str (norm b),.int ((p+([123]++b++[125]).length:Nat):Int)]])):Γ (n+2) 16 [.str s,.int p] h Q X:=by
 refine G.intro rfl (by decide) ⟨rfl,?_⟩
 have hlim:=hlim
 refine bd rfl ?_
 have hend:s.drop (p+1+b.length)=125::r:=by
  have:=tB (s:=s) (p:=p) (a:=[123]++b) (b:=[125]++r) (by simpa using hs)
  simp at this
  rw[show p+1+b.length=p+(b.length+1)by exact SK (af 0xf991a109191a0 rfl) (af 0xf9191a0991a10 rfl)];exact this
 have hbody:s.drop (p+1)=b++([125]++r):=qt (by simpa using hs)
 refine k_while G.mono (λk ρ h'=>∃(j:Nat),j<=b.length+1/\k=b.length+1-j/\ρ=[some (.str s),some (.int p),some (.int ((p+j:Nat):Int))]/\h'=h)
  (λnP k ρ h' kP ii=>?_) (k:=b.length+1) ⟨0,Ub _,rfl,rfl,rfl⟩
 refine ry ii λj hj ae az bB=>?_;clear ii;subst ae;subst az;subst bB
 have hlt:p+j<s.length:=Tq (by exact ah 0xf9191a29020e91a10 rfl hj) (gR hend)
 have hle:=SZ hl
 have c2:ai aw [some (.str s),some (.int p),some (.int ((p+j:Nat):Int))] (.and (.cmp .lt (.loc 2) (.len (.loc 0))) (.cmp .ne (.idx (.loc 0) (.loc 2)) (.lit (.str [125])))) h'=some (.bool (!decide ([s[p+j]]=[125])),h'):=
  jk (aH (op:= .lt) rfl (be rfl rfl (SR.mpr hle)) rfl) (congrArg some (decide_eq_true (Tf.mpr hlt))) (aH (op:= .ne) (aB rfl rfl (kT hlt hle)) rfl rfl)
 by_cases xI:j=b.length+1
 ·subst xI
  have dp:s[p+(b.length+1)]=125:=by
   simp only[(by exact SK (af 0xf9091a1991a010e91a091a0 rfl hj) (af 0xf991a019091a10e91a091a0 rfl hj):p+(b.length+1)=p+1+b.length)]
   exact xH hend
  have e1:(s.take (p+(b.length+1))).drop (p+1)=b:=by
   rw[UL,hbody,show p+(b.length+1)-(p+1)=b.length by exact SK (ah 0xf202e991a21991a10 rfl (SJ (af 0xf991a1091a0 rfl))) (ah 0xf023e991a21991a10 rfl (SJ (af 0xf991a1091a0 rfl))),UM]
  refine CD c2 (congrArg (λz=>some (!z)) (decide_eq_true (by rw[dp]))) (d8 (p:=((p+(b.length+1):Nat):Int)=s.length) (aH (op:= .eq) rfl (be rfl rfl (SR.mpr hle)) rfl) (λz=>SX hlt (U6 z)) (s9 (CE (C3 G (n:=n) (a:=p+1) (b:=p+(b.length+1)) hl (U3 (gR (p:=p) (s:=s) (c:=123) (rest:=b++[125]++r) (by simpa using hs))) (SZ hlt) rfl rfl rfl (cJ (.cons (.bin .add (.loc 2) (.lit (.int 1))) .nil) rfl ?_)))))
  rw[e1,show(((p+(b.length+1):Nat):Int)+1)=((p+([123]++b++[125]).length:Nat):Int)by simp;lia]
  exact q _
 ·have hne:s[p+j]≠125:=by
   cases j with
   |zero=>
    simp only[Nat.add_zero]
    rw[(xH (s:=s) (p:=p) (c:=123) (rest:=b++[125]++r) (by simpa using hs))];decide
   |succ j=>
    have xK:j<b.length:=by lia
    have:s[p+(j+1)]=b[j]:=by
     have e2:s[p+1+j]? =b[j]? :=by
      rw[←Uv,hbody,SA xK]
     rw[SI xK]at e2
     rw[←(Sr.mp e2).2]
     congr 1
     exact SK (af 0xf9191a0991a10 rfl) (af 0xf991a109191a0 rfl)
    rw[this]
    intro z
    exact hb (z▸Tx xK)
  exact Mn c2 (congrArg (λz=>some (!z)) (decide_eq_false λz=>hne (TZ z).1)) (fP rfl rfl rfl (bp (kP _ _ ⟨b.length+1-(j+1),by lia,j+1,by lia,rfl,rfl,rfl⟩)))
theorem MS{n:Nat}{s:List Nat}(hl:s.length<lim){p:Nat}{ds r:List Nat}(hs:s.drop p=36::(ds++r))(h0:ds≠[])(hd:∀c∈ds,isDigit c=true)(hr:∀x,r.head? =some x->isDigit x=false)(h9:ds.length<=9)(hn:numOf ds<=255){h:H}{Q X:Post}
  (q:Q (.ref h.length) (h++[.tup [.int (numOf ds),.int ((p+(36::ds).length:Nat):Int)]])):Γ (n+2) 17 [.str s,.int p] h Q X:=by
 refine G.intro rfl (by decide) ⟨rfl,?_⟩
 have hlim:=hlim
 have hp:=gR hs
 have hs1:=qt hs
 have hsc:scan isDigit s (p+1)=p+1+ds.length:=qv hs1 hd hr
 have hle:p+1+ds.length<=s.length:=by
  exact ah 0xf210e203e10 rfl hsc (xC (p:=isDigit) (s:=s) (i:=p+1) (by exact af 0xf191a01e10 rfl hp))
 have e1:(s.take (p+1+ds.length)).drop (p+1)=ds:=by
  rw[UL,hs1,show p+1+ds.length-(p+1)=ds.length by exact SK (ah 0xf202e921910 rfl (SJ (af 0xf9100 rfl))) (ah 0xf023e921910 rfl (SJ (af 0xf9100 rfl))),UM]
 have e2:bh (some ((p:Int)+1)) (some ((p+1+ds.length:Nat):Int)) s=ds:=(qr (a:=p+1) (U3 hp) hle).trans e1
 have e3:p+(36::ds).length=p+1+ds.length:=Vm p ds.length 1
 rw[e3]at q
 refine d9 rfl (CQ G (i:=p+1) (SZ hl) (U3 hp) ?_)
 rw[hsc]
 refine d8 (p:=((p+1+ds.length:Nat):Int)=(p:Int)+1) rfl (λz=>by have:=Wd.mpr h0;lia) (d9 (aO (qp rfl rfl rfl (lZ (SZ hl))) rfl) ?_)
 rw[e2]
 exact CU G h9 hd (d8 (p:=(numOf ds:Int)>255) rfl (by lia) (bi rfl q))
noncomputable def results:List (List Nat):=[[49,45,48],[48,45,49],[49,47,50,45,49,47,50],[42]]
omit G in
theorem xM{x:List Nat}{k:Nat}:mR aw (.str x) (.gt k)=some ((aw.gt k).contains x):=by
 rcases x with _| ⟨c,_| ⟨_,_⟩⟩<;>rfl
noncomputable def iQ(w:List Nat):Int×V:=if results.contains w then (11,.str w)else if w.all isDigit then (4,.int (numOf w))else (6,.str w)
theorem MT{n:Nat}{s:List Nat}(hl:s.length<lim){p:Nat}{w r:List Nat}(hs:s.drop p=w++r)(hw:∀c∈w,dw c=true)(hr:∀x,r.head? =some x->dw x=false)(h9:w.all isDigit=true->w.length<=9)(qw:w.length<=255)(h0:w≠[]){h:H}{Q X:Post}
  (q:Q (.ref h.length) (h++[.tup [.int (iQ w).1,(iQ w).2,.int ((p+w.length:Nat):Int)]])):Γ (n+3) 19 [.str s,.int p] h Q X:=by
 refine G.intro rfl (by decide) ⟨rfl,?_⟩
 have hlim:=hlim
 have hp:p<=s.length:=by
  apply S7
  intro z
  rw[TR (by exact af 0xf101e10 rfl z)]at hs
  have:=congrArg List.length hs
  simp at this;exact af 0xf3e9100a1e00a rfl (Wd.mpr h0:0<w.length) this
 have hsc:scan dw s p=p+w.length:=qv hs hw hr
 have hle:p+w.length<=s.length:=by
  exact ah 0xf210e203e10 rfl hsc (xC (p:=dw) hp)
 have e1:(s.take (p+w.length)).drop p=w:=by
  rw[UL,hs,show p+w.length-p=w.length by exact SK (ah 0xf202e921910 rfl (SJ (af 0xf9100 rfl))) (ah 0xf023e921910 rfl (SJ (af 0xf9100 rfl))),UM]
 have e2:bh (some (p:Int)) (some ((p+w.length:Nat):Int)) s=w:=(qr hp hle).trans e1
 refine d9 rfl (MD G (SZ hl) hp ?_)
 rw[hsc]
 refine bd (qp rfl rfl rfl (lZ (SZ hl))) ?_
 rw[e2]
 refine d8 (p:=(w.length:Int)>255) (aH (op:= .gt) (be rfl rfl (SR.mpr (SQ qw (by decide)))) rfl rfl) (by lia) ?_
 unfold iQ at q
 by_cases hc:results.contains w=true
 ·rw[if_pos hc]at q
  exact eO (qg (ng:=false) rfl rfl xM) (congrArg some hc) (bi rfl q)
 ·rw[if_neg hc]at q
  rw[Bool.not_eq_true]at hc
  refine cz (qg (ng:=false) rfl rfl xM) (congrArg some hc) (qn rfl (CQ G (SZ hl) hp ?_))
  by_cases hd:w.all isDigit=true
  ·rw[if_pos hd]at q
   have hd':∀c∈w,isDigit c=true:=λc hc=>Tl.mp hd c hc
   have MU:scan isDigit s p=p+w.length:=qv hs hd' λx hx=>by
    have:=hr x hx
    unfold dw at this
    simp only[Bool.or_eq_false_iff]at this
    exact this.2.1
   rw[MU]
   exact l9 rfl (congrArg some (decide_eq_true rfl)) (s9 (xu rfl (xp rfl (CU G (h9 hd) hd' (cJ (.cons (.loc 2) .nil) rfl q)))))
  ·rw[if_neg hd]at q
   refine jP rfl (congrArg some (decide_eq_false λz=>hd ?_)) (k_end (bi rfl q))
   have z:=U6 z
   rw[Tl]
   intro c hc
   unfold scan at z
   have h1:(s.drop p).takeWhile isDigit=w:=by
    rw[(List.prefix_iff_eq_take.mp (VX isDigit (l:=s.drop p))),(by exact SK (ah 0xf212e920910 rfl z) (ah 0xf123e920910 rfl z):((s.drop p).takeWhile isDigit).length=w.length),hs,UM]
   exact takeWhile_all _ _ c (h1.symm▸hc)
end
inductive cU:List Nat->List Nat->Int->V->Prop
 |single {c:Nat} {k:Int} {rest:List Nat} (h:gu.lookup c=some k):cU [c] rest k (.str [c])
 |star {rest:List Nat}:cU [42] rest 11 (.str [42])
 |text {v rest:List Nat} (hl:v.length<=255) (hc:tA v):cU ([34]++bI v++[34]) rest 3 (.str v)
 |MV {b rest:List Nat} (h:125∉b):cU ([123]++b++[125]) rest 7 (.str (norm b))
 |row {b rest:List Nat} (hb:∀c∈b,kU c=true) (hr:∀x,rest.head? =some x->kU x=false):cU (59::b) rest 7 (.str (norm b))
 |cv {ds rest:List Nat} (h0:ds≠[]) (hd:∀c∈ds,isDigit c=true) (hr:∀x,rest.head? =some x->isDigit x=false) (h9:ds.length<=9) (hn:numOf ds<=255):cU (36::ds) rest 8 (.int (numOf ds))
 |word {c:Nat} {w rest:List Nat} (h1:(isLetter c||isDigit c)=true) (hw:∀x∈c::w,dw x=true) (hr:∀x,rest.head? =some x->dw x=false) (h9:(c::w).all isDigit=true->(c::w).length<=9)
  (qw:(c::w).length<=255):cU (c::w) rest (iQ (c::w)).1 (iQ (c::w)).2
noncomputable def TQ(Q:Post)(h:H)(p:Nat)(raw:List Nat)(k:Int)(v:V):Prop:=∀g:H,Q (.ref (h++g).length) (h++g++[.tup [.int k,v,.int ((p+raw.length:Nat):Int)]])
theorem xN{c:Nat}(h:(isLetter c||isDigit c)=true):(97<=c/\c<=122)\/(65<=c/\c<=90)\/(48<=c/\c<=57):=by
 unfold isLetter isDigit at h
 simp only[VL,S8,decide_eq_true_eq]at h
 lia
theorem MW{c:Nat}(h:(isLetter c||isDigit c)=true):gu.lookup c=none:=by
 have:=xN h
 unfold gu
 have e:∀k:Nat,k=91\/k=93\/k=46\/k=40\/k=41->(c==k)=false:=λk hk=>by simp;lia
 simp only[TO,e 91 (by exact .inl (rfl)),e 93 (by exact .inr (.inl (rfl))),e 46 (by exact .inr (.inr (.inl (rfl)))),e 40 (by exact .inr (.inr (.inr (.inl (rfl))))),e 41 (by exact .inr (.inr (.inr (.inr (rfl))))),WE]
theorem MX{c:Nat}{k:Int}(h:gu.lookup c=some k):c=91\/c=93\/c=46\/c=40\/c=41:=by
 unfold gu at h
 by_cases h1:c=91
 ·exact .inl h1
 ·by_cases h2:c=93
  ·exact .inr (.inl h2)
  ·by_cases h3:c=46
   ·exact .inr (.inr (.inl h3))
   ·by_cases h4:c=40
    ·exact .inr (.inr (.inr (.inl h4)))
    ·by_cases h5:c=41
     ·exact .inr (.inr (.inr (.inr h5)))
     ·have e:∀k:Nat,c≠k->(c==k)=false:=λk hk=>by simpa using hk
      simp only[TO,e 91 h1,e 93 h2,e 46 h3,e 40 h4,e 41 h5,WE]at h
      exact nn h
theorem C4{P:Nat->Prop}{c:Nat}{k:Int}(h:gu.lookup c=some k)(a1:P 91)(a2:P 93)(a3:P 46)(a4:P 40)(a5:P 41):P c:=
 (MX h).elim (λz=>z▸a1) λz=>z.elim (λz=>z▸a2) λz=>z.elim (λz=>z▸a3) λz=>z.elim (λz=>z▸a4) λz=>z▸a5
section
variable{T:Top}{Γ:ay}{n i c k:Nat}{b r:Ss}{ρ:Loc}{h:H}{P:PS}
theorem fB(hv:cg ρ i=some (.str [c]))(hn:c≠k)(go:ag T Γ n r ρ h P):ag T Γ n (.cons (.ite (.cmp .eq (.loc i) (.lit (.str [k]))) b .nil) r) ρ h P:=
 d8 (p:=[c]=[k]) (aH (op:= .eq) (eP hv) rfl rfl) (λz=>hn (TZ z).1) go
theorem qy(hv:cg ρ i=some (.str [k]))(go:ag T Γ n b ρ h ⟨λρ h=>ag T Γ n r ρ h P,P.R,P.X⟩):ag T Γ n (.cons (.ite (.cmp .eq (.loc i) (.lit (.str [k]))) b .nil) r) ρ h P:=
 gM (p:=[k]=[k]) (aH (op:= .eq) (eP hv) rfl rfl) rfl go
theorem nQ(hv:cg ρ i=some (.str [c]))(hn:T.single.lookup c=none)(go:ag T Γ n r ρ h P):ag T Γ n (.cons (.ite (.inD (.loc i)) b .nil) r) ρ h P:=
 cz (CA (eP hv)) (congrArg (λo:Option Int=>some o.isSome) hn) go
theorem MY{d:Int}(hv:cg ρ i=some (.str [c]))(hn:T.single.lookup c=some d)(go:ag T Γ n b ρ h ⟨λρ h=>ag T Γ n r ρ h P,P.R,P.X⟩):ag T Γ n (.cons (.ite (.inD (.loc i)) b .nil) r) ρ h P:=
 eO (CA (eP hv)) (congrArg (λo:Option Int=>some o.isSome) hn) go
theorem MZ{k2:Nat}(hv:cg ρ i=some (.str [c]))(hn:c≠k)(hm:c≠k2)(go:ag T Γ n r ρ h P):ag T Γ n (.cons (.ite (.or (.cmp .eq (.loc i) (.lit (.str [k]))) (.cmp .eq (.loc i) (.lit (.str [k2])))) b .nil) r) ρ h P:=
 d8 (p:=[c]=[k2]) (gK (aH (op:= .eq) (eP hv) rfl rfl) (congrArg some (decide_eq_false λz=>hn (TZ z).1)) (aH (op:= .eq) (eP hv) rfl rfl)) (λz=>hm (TZ z).1) go
theorem xO{g x y:Nat}{a:Nat}{v w:V}(ht:fJ h (.ref a)=some [v,w])(hv:ch T (dF ρ [x,y] [v,w]) (.cons (.loc x) (.cons (.loc y) .nil)) h=some ([v,w],h))(q:P.R (.ref h.length) (h++[.tup [T.glob g,v,w]])):
  (match fJ h (.ref a)with
   |some vs=>vs.length=[x,y].length/\ag T Γ n (.cons (.ret (.tup (.cons (.glob g) (.cons (.loc x) (.cons (.loc y) .nil))))) .nil) (dF ρ [x,y] vs) h P
   |Option.none=>False):=
 ft ht ⟨rfl,bi (jm (bC (o:=some (T.glob g,h)) rfl (s6 hv rfl))) q⟩
end
section
variable{Γ:ay}(G:Prog Γ)
include G
omit G in
theorem TQ.app{Q:Post}{h:H}{p:Nat}{raw:List Nat}{k:Int}{v:V}(q:TQ Q h p raw k v)(g:H)(o:O):Q (.ref (h++g++[o]).length) (h++g++[o]++[.tup [.int k,v,.int ((p+raw.length:Nat):Int)]]):=by
 rw[Sw];exact q (g++[o])
omit G in
theorem TQ.none{Q:Post}{h:H}{p:Nat}{raw:List Nat}{k:Int}{v:V}(q:TQ Q h p raw k v):Q (.ref h.length) (h++[.tup [.int k,v,.int ((p+raw.length:Nat):Int)]]):=by
 have q:=q [];rw[SM]at q;exact q
theorem mq{n:Nat}{s:List Nat}{p c:Nat}{rest:List Nat}{h:H}{Q X:Post}(hl:s.length<lim)(hs:s.drop p=c::rest)(k:ag aw Γ (n+4) (match zX.body with| .cons _ r=>r|r=>r) [some (.str s),some (.int p),some (.str [c]),none,none,none] h ⟨λ_ h=>Q .none h,Q,X⟩):Γ (n+4) 20 [.str s,.int p] h Q X:=
 G.intro rfl (by decide) ⟨rfl,bd (aB rfl rfl (nO hs (SZ hl))) k⟩
theorem M0{n:Nat}{s:List Nat}(hl:s.length<lim){p:Nat}{raw rest:List Nat}{k:Int}{v:V}(hs:s.drop p=raw++rest)(L:cU raw rest k v){h:H}{Q X:Post}
  (q:TQ Q h p raw k v):Γ (n+4) 20 [.str s,.int p] h Q X:=by
 refine cU.casesOn (motive:=λraw rest k v _=>s.drop p=raw++rest->TQ Q h p raw k v->Γ (n+4) 20 [.str s,.int p] h Q X) L (λhk hs q=>?_) (λhs q=>?_) (λ{v rest} hv hc hs q=>?_) (λ{b rest} hb hs q=>?_) (λ{b rest} hb hr hs q=>?_) (λh0 hd hr h9 hn hs q=>?_) (λ{c w rest} h1 hw hr h9 qw hs q=>?_) hs q
 ·exact mq G hl hs (MY rfl hk (bi (jm (aO (Mk rfl hk) rfl)) q.none))
 ·exact mq G hl hs (nQ rfl rfl (qy rfl (bi rfl q.none)))
 ·refine mq G (c:=34) (rest:=bI v++[34]++rest) hl (by simpa using hs) (nQ rfl rfl (fB rfl (by decide) (qy rfl (nK rfl (MN G hl (r:=rest) (by simpa using hs) hv hc λg=>?_)))))
  exact xO (fy aE) rfl (q.app g _)
 ·refine mq G (c:=123) (rest:=b++[125]++rest) hl (by simpa using hs) (nQ rfl rfl (fB rfl (by decide) (fB rfl (by decide) (qy rfl (nK rfl (MR G hl (r:=rest) (by simpa using hs) hb λg=>?_))))))
  exact xO (fy aE) rfl (q.app g _)
 ·have hp:=gR hs
  have hsc:scan kU s p=p+(59::b).length:=qv (b:=59::b) hs (λx hx=>by rcases SH.mp hx with rfl|hx;rfl;exact hb x hx) hr
  have M1:p+(59::b).length<=s.length:=by
   exact ah 0xf210e203e10 rfl hsc (xC (p:=kU) (s:=s) (i:=p) (by exact af 0xf101e10 rfl hp))
  have e1:(s.take (p+(59::b).length)).drop (p+1)=b:=by
   rw[UL,(qt hs:s.drop (p+1)=b++rest),show p+(59::b).length-(p+1)=b.length by simp;exact SK (ah 0xf202e991a21991a10 rfl (SJ (af 0xf991a1091a0 rfl))) (ah 0xf023e991a21991a10 rfl (SJ (af 0xf991a1091a0 rfl))),UM]
  refine mq G hl hs (nQ rfl rfl (fB rfl (by decide) (fB rfl (by decide) (fB rfl (by decide) (qy rfl (d9 rfl (ME G (SZ hl) (SZ hp) ?_)))))))
  rw[hsc]
  refine s9 (xu rfl (CE (C3 G (n:=n+2) (a:=p+1) (b:=p+(59::b).length) hl (U3 hp) M1 rfl rfl rfl (cJ (.cons (.loc 4) .nil) rfl ?_))))
  rw[e1]
  exact q _
 ·refine mq G hl hs (nQ rfl rfl (fB rfl (by decide) (fB rfl (by decide) (fB rfl (by decide) (fB rfl (by decide) (qy rfl (nK rfl (MS G hl hs h0 hd hr h9 hn ?_))))))))
  exact xO (fy aE) rfl (q [_])
 ·have hb:=xN h1
  have fin:Γ (n+3) 19 [.str s,.int p] h (λv h=>Q v h) bot:=MT G hl hs hw hr h9 qw (VE _ _) q.none
  refine mq G hl hs (nQ rfl (MW h1) (fB rfl (by lia) (fB rfl (by lia) (fB rfl (by lia) (fB rfl (by lia) (fB rfl (by lia) (MZ rfl (by lia) (by lia) (fO (w_call rfl (tf G ?_))))))))))
  rcases M2:isLetter c with _|_
  ·refine w_call rfl (te G ?_)
   rw[M2,UQ]at h1
   rw[h1]
   exact CC rfl fin
  ·exact CC rfl fin
omit G
structure Item where
 raw:List Nat
 gap:List Nat
 kind:Int
 val:V
noncomputable def flat:List Item->List Nat
 | []=>[]
 |i::r=>i.raw++(i.gap++flat r)
inductive cK:List Item->Prop
 |nil:cK []
 |cons {i:Item} {r:List Item} (hl:cU i.raw (i.gap++flat r) i.kind i.val) (hg:∀c∈i.gap,isBlank c=true) (hr:cK r):cK (i::r)
noncomputable def gS(p:Nat):List Item->List (Int×V×Nat)
 | []=>[]
 |i::r=>(i.kind,i.val,p)::gS (p+(i.raw++i.gap).length) r
noncomputable def jQ(h:H)(v:V)(t:Int×V×Nat):Prop:=∃a,v= .ref a/\h[a]? =some (.tup [.int t.1,t.2.1,.int t.2.2])
noncomputable abbrev xP(h:H):List V->List (Int×V×Nat)->Prop:=A2 (jQ h)
theorem jQ.mono{h h':H}{v:V}{t:Int×V×Nat}(k:h<+:h')(a:jQ h v t):jQ h' v t:=by
 refine am a λx ae e=>?_;clear a;subst ae
 refine xE k λg ae=>?_;clear k;subst ae
 exact⟨x,rfl,by rw[SA (Sr.mp e).1];exact e⟩
theorem cU.head{raw rest:List Nat}{k:Int}{v:V}(L:cU raw rest k v):∃c r,raw=c::r/\isBlank c=false/\c≠37:=by
 refine cU.casesOn (motive:=λraw _ _ _ _=>∃c r,raw=c::r/\isBlank c=false/\c≠37) L (λ{c d rest} h=>?_) ⟨_,_,rfl,rfl,by decide⟩ (λ_ _=>⟨_,_,rfl,rfl,by decide⟩) (λ_=>⟨_,_,rfl,rfl,by decide⟩) (λ_ _=>⟨_,_,rfl,rfl,by decide⟩) (λ_ _ _ _ _=>⟨_,_,rfl,rfl,by decide⟩) (λh1 _ _ _ _=>?_)
 ·exact⟨c,[],rfl,(C4 (P:=λc=>isBlank c=false/\c≠37) h ⟨rfl,by decide⟩ ⟨rfl,by decide⟩ ⟨rfl,by decide⟩ ⟨rfl,by decide⟩ ⟨rfl,by decide⟩)⟩
 ·have:=xN h1
  refine⟨_,_,rfl,decide_eq_false λz=>?_,by lia⟩
  simp at z
  lia
theorem M3{c:Nat}(h:isBlank c=true):c≠37:=by
 rintro rfl
 exact absurd h (by decide)
include G
theorem C5{n:Nat}{s:List Nat}(hl:s.length<lim){p:Nat}{gap rest:List Nat}(hs:s.drop p=gap++rest)(hp:p<=s.length)(hg:∀c∈gap,isBlank c=true)(hr:∀c,rest.head? =some c->isBlank c=false/\c≠37){h:H}{Q X:Post}
  (q:Q (.int ((p+gap.length:Nat):Int)) h):Γ (n+1) 12 [.str s,.int p] h Q X:=by
 have hsc:scan isBlank s p=p+gap.length:=qv hs hg λx hx=>(hr x hx).1
 refine MF G (SZ hl) hp (λj hj h1 h2=>?_) (by rw[hsc];exact q)
 rw[hsc]at h2
 refine xE (Nat.exists_eq_add_of_le h1) λd ae=>?_;subst ae
 have e:s[p+d]? =(gap++rest)[d]? :=by rw[←hs,Uv]
 rw[SI hj]at e
 by_cases hd:d<gap.length
 ·rw[SA hd,SI hd]at e
  injection e with e
  rw[e]
  exact M3 (hg _ (Tx hd))
 ·have:d=gap.length:=by exact SK (ah 0xf210e920910 rfl h2) (af 0xf100e10 rfl (S7 hd))
  subst this
  rw[Tn (SW _),Nat.sub_self]at e
  exact(hr _ (by rw[List.head?_eq_getElem?];exact e.symm)).2
omit G in
theorem cK.head{items:List Item}(I:cK items):∀c,(flat items).head? =some c->isBlank c=false/\c≠37:=by
 intro c hc
 cases I with
 |nil=>simp[flat]at hc
 |cons hl _ _=>
  refine bx hl.head λd r e h1 h2=>?_
  rw[flat,e]at hc
  simp at hc
  subst hc
  exact⟨h1,h2⟩
end
theorem mr{h g:H}{o:O}:(h++o::g)[h.length]? =some o:=by simp
theorem xQ{h g:H}{o o':O}:(h++o::g).set h.length o'=h++o'::g:=by simp
theorem M4{h g g2:H}{xs ys:List V}{v:V}{t:Int×V×Nat}(a:jQ (h++ .list xs::g) v t):jQ (h++ .list ys::(g++g2)) v t:=by
 refine am a λx ae e=>?_;clear a;subst ae
 refine⟨x,rfl,?_⟩
 by_cases h1:x<h.length
 ·rw[SA h1]at e ⊢;exact e
 ·rw[Tn (by exact af 0xf100e10 rfl (S7 h1))]at e ⊢
  cases h2:x-h.length with
  |zero=>rw[h2]at e;simp at e
  |succ d=>
   rw[h2]at e
   simp only[U1]at e ⊢
   rw[SA (Sr.mp e).1];exact e
theorem C6{items:List Item}(I:cK items):items.length<=(flat items).length:=by
 induction I with
 |nil=>simp
 |cons hl _ _ ih=>
  refine bK hl.head λc r e _=>?_
  rw[flat,e];simp;exact aK 0xf9913200e10 rfl ih
section
variable{Γ:ay}(G:Prog Γ)
include G
theorem M5{n:Nat}{gap:List Nat}{items:List Item}(hg:∀c∈gap,isBlank c=true)(I:cK items)(hl:(gap++flat items).length<lim){h:H}{Q X:Post}
  (q:∀(vs:List V) (g:H),xP (h++ .list vs::g) vs (gS gap.length items)->Q (.ref h.length) (h++ .list vs::g)):Γ (n+5) 21 [.str (gap++flat items)] h Q X:=by
 generalize hs:gap++flat items=s at*
 refine G.intro rfl (by decide) ⟨rfl,?_⟩
 refine bd rfl (d9 rfl (C5 G hl (p:=0) (gap:=gap) (rest:=flat items) (by rw[hs];rfl) (Ub _) hg I.head ?_))
 rw[Uj]
 refine k_while G.mono (λk ρ h'=>∃(rest:List Item) (vs:List V) (ts:List (Int×V×Nat)) (g:H) (p:Nat) (o1 o2 o3:Option V),cK rest/\k=rest.length/\s.drop p=flat rest/\p<=s.length/\
   ρ=[some (.str s),some (.ref h.length),some (.int p),o1,o2,o3]/\h'=h++ .list vs::g/\xP h' vs ts/\ts++gS p rest=gS gap.length items/\ts.length+rest.length=items.length)
  (λnP k ρ h' kP ii=>?_) (k:=items.length) (zK items [] [] [] gap.length none none none ⟨I,rfl,by rw[←hs,Vk],by rw[←hs];simp,rfl,rfl,.nil,rfl,Uj _⟩)
 refine GV ii λrest vs ts g p o1 o2 o3 Ir ae hd hp az bB tk ht hn=>?_;clear ii;subst ae;subst az;subst bB
 have hle:=SZ hl
 rcases Ir with _| ⟨hlx,M6,hr⟩
 ·rw[gS,SM]at ht
  exact xo (aH (op:= .lt) rfl (be rfl rfl (SR.mpr hle)) rfl) (by have:=Vg.mp hd;lia) (bi rfl (q vs g (ht▸tk)))
 ·rename_i i r
  refine bK hlx.head λc0 r0 e0 _=>?_
  have hd':s.drop p=i.raw++(i.gap++flat r):=hd
  have hlt:p<s.length:=gR (c:=c0) (rest:=r0++(i.gap++flat r)) (by rw[hd',e0];rfl)
  refine qo (aH (op:= .lt) rfl (be rfl rfl (SR.mpr hle)) rfl) (Tf.mpr hlt) (nK rfl (M0 G (n:=n) hl hd' hlx λg1=>ft (fy aE) ⟨rfl,?_⟩))
  rw[Sw,Sw,Te]
  generalize M7:g++(g1++[O.tup [.int i.kind,i.val,.int ((p+i.raw.length:Nat):Int)]])=g2
  have hil:items.length<=s.length:=by
   rw[←hs];simp;exact ah 0xf91200e10 rfl (C6 I)
  simp only[SD]at hn
  refine bP rfl mr rfl (by rw[Sw,Te];exact mr) (by exact dU 0x1f150e042e252e49321e10 rfl hl hn (tk.length:vs.length=ts.length) hil) ?_
  rw[Sw,Te,xQ]
  have hdr:s.drop (p+i.raw.length)=i.gap++flat r:=tB hd'
  have C7:p+i.raw.length<=s.length:=by
   have:=congrArg List.length hd'
   simp at this;exact aZ 0xf49132e49303e9210 rfl this (SJ (af 0xf100e10 rfl hp))
  refine d9 rfl (C5 G hl hdr C7 M6 hr.head ?_)
  have M8:p+i.raw.length+i.gap.length<=s.length:=by
   have:=congrArg List.length hdr
   simp at this;exact aZ 0xf49132e49303e9210 rfl this (SJ (af 0xf100e10 rfl C7))
  refine bp (kP _ _ ⟨r.length,TN _,zK r _ (ts++[(i.kind,i.val,p)]) _ (p+i.raw.length+i.gap.length) _ _ _ ⟨hr,rfl,tB hdr,M8,rfl,rfl,?_,?_,by simp;exact SK (ah 0xf29191a02e2991a10 rfl hn) (ah 0xf9191a023e2991a10 rfl hn)⟩⟩)
  ·refine A2.app (tk.imp λv t a=>?_) (.cons ⟨_,rfl,?_⟩ .nil)
   ·have:=M4 (g2:=g1++[O.tup [.int i.kind,i.val,.int ((p+i.raw.length:Nat):Int)]]++[.tup [.int i.kind,i.val,.int p]]) (ys:=vs++[V.ref (h++O.list vs::g2).length]) a
    rw[←M7]at this ⊢
    simpa[Sw]using this
   ·have key:∀(zs:List V) (o:O),(h++O.list zs::(g2++[o]))[(h++O.list vs::g2).length]? =some o:=by
     intro zs o
     rw[Tn (by simp)]
     simp
    exact key _ _
  ·rw[←ht,gS]
   simp[Tu]
end
structure ac(S:Nat->Prop)(h h':H):Prop where
 len:h.length<=h'.length
 get:∀a,a<h.length->¬S a->h'[a]? =h[a]?
noncomputable def ax:Nat->Prop:=λ_=>False
theorem ac.refl{S:Nat->Prop}{h:H}:ac S h h:=⟨SW _,λ_ _ _=>rfl⟩
theorem ac.trans{S:Nat->Prop}{a b c:H}(x:ac S a b)(y:ac S b c):ac S a c:=⟨SQ x.len y.len,λi hi hs=>(y.get i (SV hi x.len) hs).trans (x.get i hi hs)⟩
theorem ac.mono{S S':Nat->Prop}{a b:H}(k:∀i,i<a.length->S i->S' i)(x:ac S a b):ac S' a b:=⟨x.len,λi hi hs=>x.get i hi λz=>hs (k i hi z)⟩
theorem ac.push{S:Nat->Prop}{h g:H}:ac S h (h++g):=⟨by simp,λa ha _=>SA ha⟩
theorem ac.set{S:Nat->Prop}{h:H}{a:Nat}{o:O}(s:S a):ac S h (h.set a o):=⟨by simp,λb _ hs=>S0 (by rintro rfl;exact hs s)⟩
theorem ac.some{S:Nat->Prop}{h h':H}(k:ac S h h'){a:Nat}{o:O}(e:h[a]? =some o)(s:¬S a):h'[a]? =some o:=(k.get a (Sr.mp e).1 s).trans e
theorem bq{h:H}{a:Nat}{o o':O}(e:h[a]? =some o):(h.set a o')[a]? =some o':=by
 rw[Uc (Sr.mp e).1]
theorem aC{h:H}{a:Nat}{o:O}(e:h[a]? =some o):a<h.length:=(Sr.mp e).1
noncomputable def ee(c:Nat):List (List Nat)->List (List Nat)
 | []=>[]
 | [w]=>[w++[c]]
 |w::x::r=>w::ee c (x::r)
noncomputable def qz:List (List Nat)->List (List Nat)
 | []=>[[123,125]]
 |w::r=>ee 125 ((123::w)::r)
noncomputable def ci(t:List Nat):List (List Nat):=if 125∈t then [59::norm t++[10]]else qz (wordsOf t)
theorem xR(c:Nat):∀l:List (List Nat),(ee c l).length=l.length
 | []=>rfl
 | [w]=>rfl
 |w::x::r=>by simp[ee,xR c (x::r)]
theorem C8(c:Nat):∀(l:List (List Nat)) (x:List Nat),ee c (l++[x])=l++[x++[c]]
 | [],x=>rfl
 | [w],x=>rfl
 |w::y::r,x=>by
  rw[Te,Te,ee]
  have:=C8 c (y::r) x
  rw[Te]at this
  rw[this];rfl
theorem M9(b:List Nat):∀cur:List Nat,∀w∈cA cur b,w.length<=cur.length+b.length:=by
 induction b with
 |nil=>
  intro cur w hw
  rw[nM]at hw
  split at hw
  ·exact nm hw
  ·rw[Sx.mp hw];simp
 |cons c r ih=>
  intro cur w hw
  rw[kW]at hw
  split at hw
  ·split at hw
   ·have:=ih [] w hw;simp at this ⊢;exact ah 0xf991a1200e10 rfl this
   ·rcases SH.mp hw with zq|hw<;>try obtain rfl:=zq.symm
    ·simp
    ·have:=ih [] w hw;simp at this ⊢;exact ah 0xf991a1200e10 rfl this
  ·have:=ih _ w hw;simp at this ⊢;exact ah 0xf991a2100e9291a10 rfl this
section
variable{Γ:ay}(G:Prog Γ)
include G
theorem Na{n:Nat}{t:List Nat}(hl:t.length+10<lim){h:H}{Q X:Post}(q:∀(h':H) (a:Nat),ac ax h h'->h.length<=a->h'[a]? =some (.list ((ci t).map V.str))->Q (.ref a) h'):Γ (n+2) 23 [.str t] h Q X:=by
 refine G.intro rfl (by decide) ⟨rfl,?_⟩
 have hlim:=hlim
 have hwl:=C2 t
 have hnl:=C1 t
 have jo:(listAt (h++[O.list ((wordsOf t).map V.str)]) (.ref h.length)).bind dE=some (wordsOf t):=by rw[ie aE];exact strs_map _
 refine d9 rfl (CV G (by exact af 0x1f101e19aa0 rfl hl) ?_)
 unfold ci at q
 by_cases hb:125∈t
 ·rw[if_pos hb]at q
  exact gM (p:=125∈t) rfl hb (bi (ic (aO (aV (aV rfl (qk rfl jo (by exact ah 0xf120e91a021e19aa0 rfl hl hwl) (by exact ah 0xf120e021e19aa0 rfl hl hnl:(norm t).length<=lim)) (add_str (b:=norm t) (by simp;exact ah 0xf1921a0e021e19aa0 rfl hl hnl))) rfl (add_str (a:=[59]++norm t) (by simp;exact ah 0xf191a91a20e021e19aa0 rfl hl hnl))) rfl)) (q _ _ (ac.trans ac.push ac.push) (by simp) aE))
 ·rw[if_neg hb]at q
  have c1:∀{ρ:Loc},cg ρ 1=some (.ref h.length)->ai aw ρ (.cmp .eq (.len (.loc 1)) (.lit (.int 0))) (h++[O.list ((wordsOf t).map V.str)])=some (.bool (decide ((((wordsOf t).map V.str).length:Int)=0)),h++[O.list ((wordsOf t).map V.str)]):=λg=>aH (op:= .eq) (be (eP g) (dn aE) (SR.mpr (by rw[Sn];exact ah 0xf120e91a021e19aa0 rfl hl hwl))) rfl rfl
  refine d8 (p:=125∈t) rfl hb ?_
  rcases hw:wordsOf t with _| ⟨w,r⟩
  ·rw[hw]at q c1
   exact gM (c1 rfl) rfl (bi rfl (q _ _ (ac.trans ac.push ac.push) (by simp) aE))
  ·rw[hw]at q hwl c1
   have hpart:∀x∈w::r,x.length<=t.length:=λx hx=>by
    have:=M9 t [] x (by rw[←hw]at hx;exact hx)
    simpa using this
   have hw1:=hpart w Sq
   have hrl:r.length+1<=lim:=by simp at hwl;exact ah 0xf191a20e021e19aa0 rfl hl hwl
   refine d8 (c1 rfl) (by simp;lia) (xq (j:=0) (aV rfl (aB rfl rfl (bG aE rfl rfl)) (add_str (by simp;exact ah 0xf1921a0e021e19aa0 rfl hl hw1))) rfl rfl aE rfl (by simp) (by simpa using hrl) ?_)
   rw[iP]
   refine iH (show∃l z,(123::w)::r=l++[z]from⟨_,_,(List.dropLast_concat_getLast (VE (123::w) r)).symm⟩) λl z tC=>?_
   have e2:((w::r).map V.str).set 0 (V.str ([123]++w))=(l++[z]).map V.str:=by rw[←tC];rfl
   rw[e2]
   have lR:z.length<=t.length+1:=by
    have:z∈(123::w)::r:=by rw[tC];simp
    rcases SH.mp this with zq|this<;>try obtain rfl:=zq.symm
    ·simp;exact af 0xf100e10 rfl hw1
    ·have:=hpart z (by simp[this]);exact af 0xf91a100e10 rfl this
   have fA:l.length=r.length:=by
    have:=congrArg List.length tC
    simp at this;exact this.symm
   have C9:(((l++[z]).map V.str).length:Int)=(l.length:Int)+1:=by rw[Sn,So];rfl
   have e3:gc ((l++[z]).map V.str) (-1)=some (.str z):=by
    unfold gc
    rw[if_neg (by decide),C9,if_pos (by lia),show((-1:Int)+((l.length:Int)+1)).toNat=l.length by lia]
    simp
   refine xq (j:=l.length) (aV (aB rfl rfl (bG aE e3 rfl)) rfl (add_str (by simp;exact ah 0xf191a20e91a021e19aa0 rfl hl lR))) rfl rfl aE (by rw[if_neg (by decide),C9];lia) (by simp) (by simp;exact ah 0xf191a22e020e191a0 rfl hrl fA) ?_
   rw[iP]
   have e5:((l++[z]).map V.str).set l.length (V.str (z++[125]))=(qz (w::r)).map V.str:=by
    rw[qz,tC,C8]
    simp
   rw[e5]
   exact bi rfl (q _ _ ac.push (SW _) aE)
end
theorem Nb(n:Nat):cG n=(Nat.toDigits 10 n).map Char.toNat:=by
 unfold cG uZ
 show(Nat.repr n).toList.map Char.toNat=_
 unfold Nat.repr
 rw[String.toList_ofList]
theorem Nc:∀n,n<1000->(numOf ((Nat.toDigits 10 n).map Char.toNat)=n/\((Nat.toDigits 10 n).map Char.toNat).all isDigit=true/\((Nat.toDigits 10 n).map Char.toNat).length<=3/\(Nat.toDigits 10 n).map Char.toNat≠[]):=by
 decide+kernel
theorem jR{n:Nat}(h:n<1000):numOf (cG n)=n/\(cG n).all isDigit=true/\(cG n).length<=3/\cG n≠[]:=by
 rw[Nb];exact Nc n h
noncomputable def dots(p:Nat):List Nat:=if p%2=0 then [46]else [46,46,46]
noncomputable def jS(p:Nat):List Nat:=cG (p/2+1)++dots p
structure Nd where
 word:List Nat
 aQ:List Nat
 rem:List (List Nat)
 aA:List (List Nat)
inductive T where
 |mk (d:Nd) (kids:List T)
noncomputable def T.d:T->Nd| .mk d _=>d
noncomputable def T.kids:T->List T| .mk _ k=>k
inductive Atom where
 |rem (t:List Nat)
 |num (p:Nat)
 |word (w:List Nat)
 |cv (n:Nat)
 |op
 |cl
noncomputable def b9(d:Nd)(p:Nat)(told:Bool):List Atom:=
 d.aA.map Atom.rem++((if told||decide (p%2=0)|| !d.aA.isEmpty then [Atom.num p]else [])++([Atom.word d.word]++(d.aQ.map Atom.cv++d.rem.map Atom.rem)))
noncomputable def bO(d:Nd):Bool:= !d.rem.isEmpty
mutual
noncomputable def aY(p:Nat)(told:Bool):T->List Atom
 | .mk _ kids=>bN p told kids
noncomputable def bN(p:Nat)(told:Bool):List T->List Atom
 | []=>[]
 |k::ks=>b9 k.d p told++(dy p ks++aY (p+1) (bO k.d|| !ks.isEmpty) k)
noncomputable def dy(p:Nat):List T->List Atom
 | []=>[]
 |k::ks=>[Atom.op]++b9 k.d p true++aY (p+1) (bO k.d) k++[Atom.cl]++dy p ks
end
noncomputable def iR:Atom->List (List Nat)
 | .rem t=>ci t
 | .num p=>[jS p]
 | .word w=>[w]
 | .cv n=>[36::cG n]
 | .op=>[[40]]
 | .cl=>[[41]]
section
variable{Γ:ay}(G:Prog Γ)
include G
theorem Nf{n p:Nat}(hp:p<1500){h:H}{Q X:Post}(q:Q (.str (jS p)) h):Γ n 40 [.int p] h Q X:=by
 refine G.intro rfl (by decide) ⟨rfl,?_⟩
 have hlim:=hlim
 have hd:=(jR (n:=p/2+1) (by lia)).2.2.1
 have ea:ai aw [some (.int p)] (.strOf (.bin .add (.bin .fdiv (.loc 0) (.lit (.int 2))) (.lit (.int 1)))) h=some (.str (cG (p/2+1)),h):=s7 (k:=((p/2+1:Nat):Int)) (aV (aV rfl rfl (xF (by decide))) rfl rfl) (by lia)
 have em:ai aw [some (.int p)] (.cmp .eq (.bin .mod (.loc 0) (.lit (.int 2))) (.lit (.int 0))) h=some (.bool (decide ((p:Int)%2=0)),h):=aH (op:= .eq) (aV rfl rfl (mod_int (by decide))) rfl rfl
 unfold jS dots at q
 by_cases h2:p%2=0
 ·rw[if_pos h2]at q
  exact bi (aV ea (qh em (congrArg some (decide_eq_true (by lia))) rfl) (add_str (by simp;exact af 0xf091a10e3a13ef42405b0 rfl hlim hd))) q
 ·rw[if_neg h2]at q
  exact bi (aV ea (qi em (congrArg some (decide_eq_false (by lia))) rfl) (add_str (by simp;exact af 0xf093a10e3a13ef42405b0 rfl hlim hd))) q
theorem xS{n m o:Nat}{rs:List (List Nat)}{ps:List V}{h:H}(hm:h[m]? =some (.list (rs.map V.str)))(ho:h[o]? =some (.list ps))(hmo:m≠o)(hr:∀r∈rs,r.length+10<lim)
  (hb:ps.length+(rs.flatMap ci).length<=lim) {Q X:Post} (q:∀h',ac (· =o) h h'->h'[o]? =some (.list (ps++(rs.flatMap ci).map V.str))->Q .none h'):Γ (n+3) 39 [.ref m,.ref o] h Q X:=by
 refine G.intro rfl (by decide) ⟨rfl,?_⟩
 refine gP G.mono (m:=m) (xs:=rs.map V.str) (λi ρ h'=>∃x,ρ=[some (.ref m),some (.ref o),x]/\ac (· =o) h h'/\h'[o]? =some (.list (ps++((rs.take i).flatMap ci).map V.str))) (aM _ rfl ⟨rfl,none,rfl,ac.refl,by rw[ho];simp⟩) (λi ρ h' ii=>?_) (λnP i x ρ h' kP hx ii=>?_) (λρ h' ii=>?_)
 ·refine aN ii λx ae k e=>?_;clear ii
  exact k.some hm hmo
 ·refine aN ii λy ae k e=>?_;clear ii;subst ae
  refine am (fQ hx) λr er bB=>?_;subst bB
  have et:rs.take (i+1)=rs.take i++[r]:=by rw[Tg,er];rfl
  have hlen:((rs.take i).flatMap ci).length+(ci r).length<=(rs.flatMap ci).length:=by
   rw[(by rw[←Uq,T4]:(rs.flatMap ci)=((rs.take (i+1)).flatMap ci)++((rs.drop (i+1)).flatMap ci)),et]
   simp
  refine fu (CH rfl e rfl (Na G (hr r (Sy er:r∈rs)) λh2 a k2 ha e2=>?_))
  have e3:=k2.some e (λz=>z)
  refine CG e3 e2 ⟨by simp only[So,Sn];exact aZ 0xf2949300e19430e2910 rfl hb hlen,λz=>by have:=aC e;injection z;lia,rfl,bp (kP _ _ ⟨_,rfl,k.trans (ac.trans (k2.mono λ_ _ z=>z.elim) (ac.set rfl)),?_⟩)⟩
  rw[bq e3,et]
  simp
 ·refine aN ii λx ae k e=>?_;clear ii
  rw[Sn,Tc]at e
  exact q h' k e
end
end Mine
namespace Mine
theorem gU{h:H}{a c:Nat}{fs:List (Nat×V)}(e:h[a]? =some (.inst c fs))(hc:c<3)(hf:fs.length<=20):b6 h (.ref a)=some (a,c,fs):=by
 unfold b6
 simp only[e,hc,hf,and_self,if_true]
structure eQ(p:Nat->Prop)(h:H)(a:Nat)(d:Nd)(ao:List Nat)(fs:List (Nat×V))(an ar ab ak:Nat):Prop where
 pa:p a
 pn:p an
 pr:p ar
 pb:p ab
 pk:p ak
 inst:h[a]? =some (.inst 0 fs)
 few:fs.length<=20
 fw:bj fs 5=some (.str d.word)
 fn:bj fs 1=some (.ref an)
 fr:bj fs 2=some (.ref ar)
 fb:bj fs 0=some (.ref ab)
 fk:bj fs 3=some (.ref ak)
 n:h[an]? =some (.list (d.aQ.map λx=>V.int (Int.ofNat x)))
 r:h[ar]? =some (.list (d.rem.map V.str))
 b:h[ab]? =some (.list (d.aA.map V.str))
 k:h[ak]? =some (.list (ao.map V.ref))
theorem eQ.keep{p S:Nat->Prop}{h h':H}{a:Nat}{d:Nd}{ao:List Nat}{fs:List (Nat×V)}{an ar ab ak:Nat}(x:eQ p h a d ao fs an ar ab ak)(k:ac S h h')(hs:∀i,p i->¬S i):eQ p h' a d ao fs an ar ab ak:=
 ⟨x.pa,x.pn,x.pr,x.pb,x.pk,k.some x.inst (hs _ x.pa),x.few,x.fw,x.fn,x.fr,x.fb,x.fk,k.some x.n (hs _ x.pn),k.some x.r (hs _ x.pr),k.some x.b (hs _ x.pb),k.some x.k (hs _ x.pk)⟩
theorem eQ.imp{p p':Nat->Prop}{h:H}{a:Nat}{d:Nd}{ao:List Nat}{fs:List (Nat×V)}{an ar ab ak:Nat}(k:∀i,p i->i<h.length->p' i)(x:eQ p h a d ao fs an ar ab ak):eQ p' h a d ao fs an ar ab ak:=
 ⟨k _ x.pa (aC x.inst),k _ x.pn (aC x.n),k _ x.pr (aC x.r),k _ x.pb (aC x.b),k _ x.pk (aC x.k),x.inst,x.few,x.fw,x.fn,x.fr,x.fb,x.fk,x.n,x.r,x.b,x.k⟩
theorem eQ.on{p:Nat->Prop}{h:H}{a:Nat}{d:Nd}{ao:List Nat}{fs:List (Nat×V)}{an ar ab ak:Nat}(x:eQ p h a d ao fs an ar ab ak):b6 h (.ref a)=some (a,0,fs):=gU x.inst (by decide) x.few
structure Nd.Ok(d:Nd):Prop where
 aQ:∀x∈d.aQ,x<=255
 rem:∀r∈d.rem,r.length+10<lim
 aA:∀r∈d.aA,r.length+10<lim
 txt:(∀r∈d.rem,cE r=true)/\(∀r∈d.aA,cE r=true)
 few:d.aQ.length<10000/\d.rem.length<10000/\d.aA.length<10000
noncomputable def aX(l:List Atom):List (List Nat):=l.flatMap iR
theorem fS(a b:List Atom):aX (a++b)=aX a++aX b:=Uq
theorem tD(l:List (List Nat)):aX (l.map Atom.rem)=l.flatMap ci:=by
 unfold aX
 rw[List.flatMap_map];rfl
theorem Ng(z:List Nat):1<=(ci z).length:=by
 unfold ci
 split
 ·simp
 ·cases wordsOf z with
  |nil=>simp[qz]
  |cons w r=>rw[qz,xR];simp
theorem Da(l:List (List Nat)):l.length<=(l.flatMap ci).length:=by
 induction l with
 |nil=>simp
 |cons z r ih=>
  rw[TU,So,SD];exact ah 0xf91291a00e21a0e10 rfl ih (Ng z)
section
variable{Γ:ay}(G:Prog Γ)
include G
theorem Dc{n a o aq:Nat}{told:Bool}{p:Nat->Prop}{h:H}{d:Nd}{ao:List Nat}{fs:List (Nat×V)}{an ar ab ak:Nat}{ps:List (List Nat)}(x:eQ p h a d ao fs an ar ab ak)(ok:d.Ok)(gV:aq<1500)
  (ho:h[o]? =some (.list (ps.map V.str))) (po:¬p o) (hb:ps.length+(aX (b9 d aq told)).length<lim) {Q X:Post}
  (q:∀h',ac (· =o) h h'->h'[o]? =some (.list ((ps++aX (b9 d aq told)).map V.str))->Q (.bool (bO d)) h'):Γ (n+4) 41 [.ref a,.int aq,.bool told,.ref o] h Q X:=by
 refine G.intro rfl (by decide) ⟨rfl,?_⟩
 have ne:∀i,p i->¬(i=o):=λi hi z=>po (z▸hi)
 have hsplit:aX (b9 d aq told)=d.aA.flatMap ci++(aX (if told||decide (aq%2=0)|| !d.aA.isEmpty then [Atom.num aq]else [])++([d.word]++(aX (d.aQ.map Atom.cv)++d.rem.flatMap ci))):=by
  unfold b9
  rw[fS,fS,fS,fS,tD,tD];rfl
 rw[hsplit]at hb q
 simp only[So]at hb
 refine cT (aO (bc rfl x.on x.fb) rfl) (xS G x.b ho (ne _ x.pb) ok.aA (by rw[Sn];exact aK 0xf39101e399210 rfl hb) λh1 k1 e1=>⟨rfl,?_⟩)
 rw[←SN]at e1
 have x1:=x.keep k1 ne
 have gG:d.aA.length<=lim:=by exact aZ 0xf340e141e399210 rfl hb (Da d.aA)
 have hrl:d.rem.length<=lim:=by exact uL 0xf670e571e699999543210 rfl hb (Da d.rem)
 have fz:ai aw [some (.ref a),some (.int aq),some (.bool told),some (.ref o),none] (.or (.loc 2) (.or (.cmp .eq (.bin .mod (.loc 1) (.lit (.int 2))) (.lit (.int 0))) (.cmp .gt (.len (.attr (.loc 0) 0)) (.lit (.int 0))))) h1=some (.bool (told||decide (aq%2=0)|| !d.aA.isEmpty),h1):=by
  have eb:ai aw [some (.ref a),some (.int aq),some (.bool told),some (.ref o),none] (.cmp .gt (.len (.attr (.loc 0) 0)) (.lit (.int 0))) h1=some (.bool (!d.aA.isEmpty),h1):=
   (aH (op:= .gt) (be (bc rfl x1.on x1.fb) (dn x1.b) (by rw[Sn];exact SR.mpr gG)) rfl cmp_gt).trans (by rcases d.aA with _| ⟨z,r⟩;rfl;simp)
  have em:ai aw [some (.ref a),some (.int aq),some (.bool told),some (.ref o),none] (.cmp .eq (.bin .mod (.loc 1) (.lit (.int 2))) (.lit (.int 0))) h1=some (.bool (decide (aq%2=0)),h1):=
   (aH (op:= .eq) (aV rfl rfl (mod_int (by decide))) rfl rfl).trans (congrArg (λz=>some (V.bool z,h1)) (decide_eq_decide.mpr (by lia)))
  rcases told with _|_
  ·refine gK rfl rfl ?_
   rcases h2:decide (aq%2=0)with _|_
   ·rw[h2]at em;exact gK em rfl eb
   ·rw[h2]at em;exact lY em rfl
  ·exact lY rfl rfl
 generalize(told||decide (aq%2=0)|| !d.aA.isEmpty)=b at fz hb q
 have rest:∀h2,ac (· =o) h h2->h2[o]? =some (.list ((ps++d.aA.flatMap ci++aX (if b then [Atom.num aq]else [])).map V.str))->
   ag aw Γ (n+4) (.cons (.expr (.append (.loc 3) (.attr (.loc 0) 5)))
    (.cons (.for [4] (.attr (.loc 0) 1) (.cons (.ite (.not (.fI .le .le (.lit (.int 0)) (.loc 4) (.glob 16))) (.cons .dead .nil) .nil) (.cons (.expr (.append (.loc 3) (.bin .add (.lit (.str [36])) (.strOf (.loc 4))))) .nil)))
    (.cons (.expr (.call 39 (.cons (.attr (.loc 0) 2) (.cons (.loc 3) .nil))))
    (.cons (.ret (.cmp .gt (.len (.attr (.loc 0) 2)) (.lit (.int 0)))) .nil)))) [some (.ref a),some (.int aq),some (.bool told),some (.ref o),none] h2 ⟨λ_ h=>Q .none h,Q,X⟩:=by
  intro h2 k2 e2
  have x2:=x.keep k2 ne
  generalize hP:ps++d.aA.flatMap ci++aX (if b then [Atom.num aq]else [])=P at e2
  have xT:P.length+(1+((aX (d.aQ.map Atom.cv)).length+(d.rem.flatMap ci).length))<lim:=by
   rw[←hP]
   simp only[So]
   simp only[SD,SU]at hb
   exact aZ 0x1f49931a929101e49999391a0a210 rfl hb
  refine bP rfl e2 (bc rfl x2.on x2.fw) e2 (by rw[Sn];exact ah 0x1f201e2910 rfl xT) ?_
  have e3:=bq (o':=O.list (P.map V.str++[V.str d.word])) e2
  have k3:ac (· =o) h (h2.set o (O.list (P.map V.str++[V.str d.word]))):=k2.trans (ac.set rfl)
  generalize h2.set o (O.list (P.map V.str++[V.str d.word]))=h3 at e3 k3 ⊢
  have x3:=x.keep k3 ne
  refine gP G.mono (m:=an) (xs:=d.aQ.map λx=>V.int (Int.ofNat x)) (λi ρ h'=>∃y,ρ=[some (.ref a),some (.int aq),some (.bool told),some (.ref o),y]/\ac (· =o) h h'/\h'[o]? =some (.list ((P++[d.word]++aX ((d.aQ.take i).map Atom.cv)).map V.str))) (aM _ (bc rfl x3.on x3.fn) ⟨rfl,none,rfl,k3,by simpa[aX]using e3⟩) (λi ρ h' ii=>?_) (λnP i v ρ h' kP hv ii=>?_) (λρ h' ii=>?_)
  ·refine aN ii λy ae k e=>?_;clear ii
   exact k.some x.n (ne _ x.pn)
  ·refine aN ii λy ae k e=>?_;clear ii;subst ae
   refine am (fQ hv) λg er bB=>?_;subst bB
   have hg:=ok.aQ g (Sy er)
   have et:d.aQ.take (i+1)=d.aQ.take i++[g]:=by rw[Tg,er];rfl
   have hlen:(aX ((d.aQ.take i).map Atom.cv)).length+1<=(aX (d.aQ.map Atom.cv)).length:=by
    have:∀l:List Nat,(aX (l.map Atom.cv)).length=l.length:=λl=>by
     induction l with
     |nil=>rfl
     |cons z r ih=>rw[Th];show(iR (Atom.cv z)++aX (r.map Atom.cv)).length=_;simp[iR,ih]
    rw[this,this]
    simp;exact ah 0xf191a20e021e10 rfl ((Sr.mp er).1) (Uy _ _)
   refine fu (cz (w9 (Cz (p:= .le) (q:= .le) rfl rfl (congrArg some (decide_eq_true (T8 g))) rfl (congrArg some (decide_eq_true (SR.mpr hg)))) rfl) rfl (bP rfl e (aV rfl (s7 rfl ⟨T8 g,Tf.mpr (Tq hg (by decide))⟩) (add_str (by simp;exact af 0xf0911a0e3a13ef42405b0 rfl hlim ((jR (n:=g) (by exact av 0x1f3e83b00eff2b0 rfl hg)).2.2.1)))) e (by simp only[Sn,So,SD,SU];exact aZ 0x1f394991a0a00e191a41e3999211a0 rfl xT hlen) (bp (kP _ _ ⟨_,rfl,k.trans (ac.set rfl),?_⟩))))
   rw[bq e,et]
   simp[aX,iR]
  ·refine aN ii λy ae k e=>?_;clear ii;subst ae
   rw[Sn,Tc]at e
   have x4:=x.keep k ne
   refine cT (aO (bc rfl x4.on x4.fr) rfl) (xS G x4.r e (ne _ x4.pr) ok.rem (by simp only[Sn,So,SD,SU];exact aK 0xf39291991a0a01e3999211a0 rfl xT) λh5 k5 e5=>⟨rfl,?_⟩)
   have x5:=x4.keep k5 ne
   have e6:decide (((d.rem.map V.str).length:Int)>0)=bO d:=by
    unfold bO
    rcases d.rem with _| ⟨z,r⟩
    ·rfl
    ·simp
   refine bi (aH (op:= .gt) (be (bc rfl x5.on x5.fr) (dn x5.r) (by rw[Sn];exact SR.mpr hrl)) rfl cmp_gt) ?_
   rw[e6]
   refine q h5 (k.trans k5) ?_
   rw[e5,←SN,←hP]
   simp
 rcases b with _|_
 ·exact cz fz rfl (rest h1 k1 (by simpa[aX]using e1))
 ·refine eO fz rfl (ta rfl e1 rfl (Nf G gV (nD e1 ⟨by simp only[Sn,So];exact aK 0x1f39101e399210 rfl hb,rfl,k_end (rest _ (k1.trans (ac.set rfl)) ?_)⟩)))
  rw[bq e1]
  simp[aX,iR]
end
inductive ig(Q:Nat->Nd->List Nat->Prop):Nat->T->Prop
 |mk {a:Nat} {d:Nd} {kids:List T} {ao:List Nat} (x:Q a d ao) (ks:A2 (ig Q) ao kids):ig Q a (.mk d kids)
theorem ig.imp{Q Q':Nat->Nd->List Nat->Prop}{a:Nat}{t:T}(k:∀a d ao,Q a d ao->Q' a d ao)(x:ig Q a t):ig Q' a t:=
 ig.rec (motive_1:=λa t _=>ig Q' a t) (motive_2:=λas ts _=>A2 (ig Q') as ts) (λx _ ih=> .mk (k _ _ _ x) ih) .nil (λ_ _ p r=> .cons p r) x
noncomputable def Nh(p:Nat->Prop)(h:H)(a:Nat)(d:Nd)(ao:List Nat):Prop:=∃fs an ar ab ak,eQ p h a d ao fs an ar ab ak/\d.Ok
noncomputable def bS(p:Nat->Prop)(h:H):Nat->T->Prop:=ig (Nh p h)
noncomputable abbrev fC(p:Nat->Prop)(h:H):List Nat->List T->Prop:=A2 (bS p h)
theorem bS.un{p:Nat->Prop}{h:H}{a:Nat}{t:T}(x:bS p h a t):∃d kids ao fs an ar ab ak,t= .mk d kids/\eQ p h a d ao fs an ar ab ak/\d.Ok/\fC p h ao kids:=
 ig.casesOn (motive_1:=λa t _=>∃d kids ao fs an ar ab ak,t= .mk d kids/\eQ p h a d ao fs an ar ab ak/\d.Ok/\fC p h ao kids) x λx ks=>uS x λfs an ar ab ak x ok=>⟨_,_,_,fs,an,ar,ab,ak,rfl,x,ok,ks⟩
theorem bS.of{p:Nat->Prop}{h:H}{a:Nat}{d:Nd}{kids:List T}{ao:List Nat}{fs:List (Nat×V)}{an ar ab ak:Nat}(x:eQ p h a d ao fs an ar ab ak)(ok:d.Ok)(ks:fC p h ao kids):bS p h a (.mk d kids):= .mk ⟨fs,an,ar,ab,ak,x,ok⟩ ks
theorem Ni{l:List Nat}{k:List T}(h:l.length=k.length):decide (((l.map V.ref).length:Int)>0)= !k.isEmpty:=by
 rcases l with _| ⟨_,_⟩<;>rcases k with _| ⟨_,_⟩<;>first|rfl| (simp;done)| (simp at h;done)
theorem bS.keep{p S:Nat->Prop}{h h':H}(k:ac S h h')(hs:∀i,p i->¬S i){a:Nat}{t:T}(x:bS p h a t):bS p h' a t:=
 x.imp λa d ao x=>uS x λfs an ar ab ak x ok=>⟨fs,an,ar,ab,ak,x.keep k hs,ok⟩
theorem fC.keep{p S:Nat->Prop}{h h':H}(k:ac S h h')(hs:∀i,p i->¬S i){a:List Nat}{t:List T}(x:fC p h a t):fC p h' a t:=x.imp λ_ _ x=>x.keep k hs
mutual
noncomputable def T.sz:T->Nat
 | .mk _ ks=>1+T.bt ks
noncomputable def T.bt:List T->Nat
 | []=>0
 |k::ks=>T.sz k+T.bt ks
end
theorem T.ik(t:T):1<=t.sz:=by rcases t with⟨⟩;simp[T.sz]
theorem Dd:∀{as:List Nat} {ts:List T},as.length=ts.length->as.map V.ref=(ts.zip as).map λx=>V.ref x.2
 | [],[],_=>rfl
 |a::as,t::ts,h=>by
  rw[Uu,Th,Th,Dd (by simpa using h)]
 | [],_::_,h=>by(rcases h with⟨⟩)
 |_::_,[],h=>by rcases h with⟨⟩
theorem xU:∀{ts:List T} {t:T},t∈ts->t.sz<=T.bt ts
 | [],_,h=>by(exact nm h)
 |u::ts,t,h=>by
  rcases SH.mp h with rfl|h
  ·simp[T.bt]
  ·have:=xU h;simp[T.bt];exact ah 0xf91200e10 rfl this
theorem mu:∀ts:List T,ts.length<=T.bt ts
 | []=>by simp[T.bt]
 |t::ts=>by have:=mu ts;have:=t.ik;simp[T.bt];lia
inductive Task where
 |line (t:T) (a p:Nat) (told:Bool)
 |branch (t:T) (a p:Nat)
 |back
noncomputable def eS(p:Nat)(k:T):List Atom:=[Atom.op]++b9 k.d p true++aY (p+1) (bO k.d) k++[Atom.cl]
theorem xV(p:Nat):∀ks:List T,dy p ks=ks.flatMap (eS p)
 | []=>by rw[dy];rfl
 |k::ks=>by rw[dy,xV p ks,TU];rfl
noncomputable def Task.out:Task->List Atom
 | .line t _ p told=>aY p told t
 | .branch t _ p=>eS p t
 | .back=>[Atom.cl]
noncomputable def Task.w:Task->Nat
 | .line t _ _ _=>4*t.sz-2
 | .branch t _ _=>4*t.sz
 | .back=>1
noncomputable def wt(l:List Task):Nat:=(l.map Task.w).sum
theorem Task.Nj(t:Task):1<=t.w:=by
 cases t with
 |line t=>have:=t.ik;simp[Task.w];exact af 0xf11a3ec04a92a18e01a rfl this (SJ (av 0xfc04a2a4e01a rfl this))
 |branch t=>have:=t.ik;simp[Task.w];exact av 0xfc04a1a0e01a rfl this
 |back=>simp[Task.w]
theorem De:∀l:List Task,l.length<=wt l
 | []=>by simp[wt]
 |t::l=>by have:=De l;have:=t.Nj;simp[wt]at*;lia
theorem jT(a b:List Task):wt (a++b)=wt a+wt b:=by simp[wt]
noncomputable def qA(p:Nat->Prop)(S:Nat->Prop)(PM:Nat)(h:H)(v:V):Task->Prop
 | .line t a q told=>∃x,v= .ref x/\¬S x/\h[x]? =some (.tup [.int 0,.ref a,.int q,.bool told])/\bS p h a t/\q+t.sz<=PM+1
 | .branch t a q=>∃x,v= .ref x/\¬S x/\h[x]? =some (.tup [.int 1,.ref a,.int q,.bool true])/\bS p h a t/\q+t.sz<=PM
 | .back=>∃x a q,v= .ref x/\¬S x/\h[x]? =some (.tup [.int 2,.ref a,.int q,.bool true])
theorem qA.keep{p S:Nat->Prop}{PM:Nat}{h h':H}(k:ac S h h')(hs:∀i,p i->¬S i){v:V}{t:Task}(x:qA p S PM h v t):qA p S PM h' v t:=by
 cases t with
 |line=>refine jb x λx a b c d e=>?_;exact⟨x,a,b,k.some c b,d.keep k hs,e⟩
 |branch=>refine jb x λx a b c d e=>?_;exact⟨x,a,b,k.some c b,d.keep k hs,e⟩
 |back=>refine g5 x λx y z a b c=>?_;exact⟨x,y,z,a,b,k.some c b⟩
noncomputable abbrev qB(p S:Nat->Prop)(PM:Nat)(h:H):List V->List Task->Prop:=A2 (qA p S PM h)
theorem qB.keep{p S:Nat->Prop}{PM:Nat}{h h':H}(k:ac S h h')(hs:∀i,p i->¬S i){vs:List V}{ts:List Task}(x:qB p S PM h vs ts):qB p S PM h' vs ts:=x.imp λ_ _ a=>a.keep k hs
noncomputable def outs(l:List Task):List Atom:=(l.reverse).flatMap Task.out
theorem qC(l:List Task)(t:Task):outs (l++[t])=t.out++outs l:=by simp[outs]
theorem Nk(l m:List Task):outs (l++m)=outs m++outs l:=by simp[outs]
theorem Df(p:Nat):∀(ks:List T) (as:List Nat),as.length=ks.length->outs ((ks.zip as).reverse.map λx=>Task.branch x.1 x.2 p)=ks.flatMap (eS p)
 | [],_,_=>by simp[outs]
 |k::ks,[],h=>by(rcases h with⟨⟩)
 |k::ks,a::as,h=>by
  simp only[Uu,UH,SN,Th,Ut]
  rw[qC,(Df p ks as (by simpa using h)),TU];rfl
theorem Dg(p:Nat):∀(ks:List T) (as:List Nat),as.length=ks.length->wt ((ks.zip as).reverse.map λx=>Task.branch x.1 x.2 p)=4*T.bt ks
 | [],_,_=>by simp[wt,T.bt]
 |k::ks,[],h=>by(rcases h with⟨⟩)
 |k::ks,a::as,h=>by
  simp only[Uu,UH,SN,Th,Ut]
  rw[jT,(Dg p ks as (by simpa using h))];simp[wt,Task.w,T.bt];exact SK (af 0xfc9014a9c14ac04a rfl) (af 0xf9c04ac14ac9104a rfl)
theorem ac.then{S:Nat->Prop}{a b c:H}(x:ac ax a b)(y:ac S b c)(hs:∀i,i<a.length->¬S i):ac ax a c:=
 ⟨SQ x.len y.len,λi hi hn=>(y.get i (SV hi x.len) (hs i hi)).trans (x.get i hi hn)⟩
theorem Nl{α:Type}(l:List α):l=[]\/∃a b,l=a++[b]:=by
 rcases List.eq_nil_or_concat l with h| ⟨a,b,h⟩
 ·exact .inl h
 ·exact .inr ⟨a,b,by rw[h,List.concat_eq_append]⟩
structure dz(h₀:H)(p:Nat->Prop)(PM o td:Nat)(h:H)(ps:List (List Nat))(vs:List V)(tasks:List Task):Prop where
 keep:ac ax h₀ h
 eo:h[o]? =some (.list (ps.map V.str))
 et:h[td]? =some (.list vs)
 tk:qB p (λi=>i=o\/i=td) PM h vs tasks
section
variable{h₀ h h':H}{p:Nat->Prop}{PM o td:Nat}{ps:List (List Nat)}{vs:List V}{tasks:List Task}
theorem dz.out(x:dz h₀ p PM o td h ps vs tasks)(hp:∀i,p i->i<h₀.length)(ho:h₀.length<=o)(ht:o<td){ps':List (List Nat)}(k:ac (· =o) h h')(e:h'[o]? =some (.list (ps'.map V.str))):dz h₀ p PM o td h' ps' vs tasks:=
 ⟨x.keep.then k λi hi z=>by exact ah 0xf3e121e020e10 rfl ho hi z,e,k.some x.et (by intro z;have z:td=o:=z;exact af 0xf2e011e10 rfl ht z),x.tk.keep (k.mono λi _ z=> .inl z) λi hi z=>by have:=hp i hi;lia⟩
theorem dz.todo(x:dz h₀ p PM o td h ps vs tasks)(hp:∀i,p i->i<h₀.length)(ho:h₀.length<=o)(ht:o<td){vs':List V}{tasks':List Task}(tk:qB p (λi=>i=o\/i=td) PM h vs' tasks'):dz h₀ p PM o td (h.set td (.list vs')) ps vs' tasks':=by
 have k:ac (· =td) h (h.set td (.list vs')):=ac.set rfl
 exact⟨x.keep.then k λi hi z=>by exact aK 0xf3e231e031e210e10 rfl ho ht hi z,k.some x.eo (by intro z;have z:o=td:=z;exact af 0xf3e101e10 rfl ht z),bq x.et,tk.keep (k.mono λi _ z=> .inr z) λi hi z=>by have:=hp i hi;lia⟩
theorem dz.push(x:dz h₀ p PM o td h ps vs tasks)(hp:∀i,p i->i<h₀.length)(ho:h₀.length<=o)(ht:o<td){g:H}:dz h₀ p PM o td (h++g) ps vs tasks:=
 ⟨x.keep.trans ac.push,(ac.push (S:=ax)).some x.eo id,(ac.push (S:=ax)).some x.et id,x.tk.keep ac.push λi hi z=>by have:=hp i hi;lia⟩
theorem dz.task(x:dz h₀ p PM o td h ps vs tasks)(hp:∀i,p i->i<h₀.length)(ho:h₀.length<=o)(ht:o<td){tu:O}{t:Task}(a:qA p (λi=>i=o\/i=td) PM (h++[tu]) (.ref h.length) t):
  dz h₀ p PM o td ((h++[tu]).set td (.list (vs++[.ref h.length]))) ps (vs++[.ref h.length]) (tasks++[t]):=by
 have y:=x.push hp ho ht (g:=[tu])
 exact y.todo hp ho ht (y.tk.app (.cons a .nil))
theorem dz.nR(x:dz h₀ p PM o td h ps vs tasks):td<h.length:=aC x.et
theorem dz.nT(x:dz h₀ p PM o td h ps vs tasks):o<h.length:=aC x.eo
end
section
variable{Γ:ay}(G:Prog Γ)
include G
theorem Nn{n a aq:Nat}{p:Nat->Prop}{h:H}{t:T}(x:bS p h a t)(hp:∀i,p i->i<h.length)(gV:aq+t.sz<=1500)
  (hb:(aX (t.d.rem.map Atom.rem++aY aq true t)).length<lim) {Q X:Post}
  (q:∀h' o,ac ax h h'->h.length<=o->h'[o]? =some (.list ((aX (t.d.rem.map Atom.rem++aY aq true t)).map V.str))->Q (.ref o) h'):Γ (n+5) 42 [.ref a,.int aq] h Q X:=by
 refine G.intro rfl (by decide) ⟨rfl,?_⟩
 have hlim:=hlim
 have hsz:=t.ik
 refine rB x.un λd kids ao fs an ar ab ak ae nd ok ks=>?_;subst ae
 have cL:=nd.keep (S:=ax) (ac.push (g:=[O.list []])) λ_ _ z=>z
 refine bd rfl (cT (aO (bc rfl cL.on cL.fr) rfl) ?_)
 have hd:(aX (d.rem.map Atom.rem++aY aq true (.mk d kids))).length=(d.rem.flatMap ci).length+(aX (aY aq true (.mk d kids))).length:=by
  rw[fS,tD,So]
 have hd':(aX ((T.mk d kids).d.rem.map Atom.rem++aY aq true (.mk d kids))).length=(d.rem.flatMap ci).length+(aX (aY aq true (.mk d kids))).length:=hd
 rw[hd']at hb
 refine xS G (o:=h.length) cL.r aE (by have:=hp _ nd.pr;exactλq0=>af 0xf3e101e10 rfl this q0) ok.rem (by simp only[SU];exact ah 0xf2900a1e2910 rfl hb) λh1 k1 e1=>⟨rfl,?_⟩
 have K1:ac ax h h1:=(ac.push (g:=[O.list []])).then k1 λi hi z=>by exact af 0xf3e101e10 rfl hi z
 have hl1:h.length<h1.length:=aC e1
 refine bd (v:= .ref (h1.length+1)) (h':=h1++[O.tup [V.int 0,V.ref a,V.int ↑aq,V.bool true],O.list [V.ref h1.length]]) (by rw[←(by simp:(h1++[O.tup [V.int 0,V.ref a,V.int ↑aq,V.bool true]]).length=h1.length+1),(by simp:h1++[O.tup [V.int 0,V.ref a,V.int ↑aq,V.bool true],O.list [V.ref h1.length]]=h1++[O.tup [V.int 0,V.ref a,V.int ↑aq,V.bool true]]++[O.list [V.ref h1.length]])];rfl) ?_
 have T0:dz h p (aq+(T.mk d kids).sz) h.length (h1.length+1) (h1++[O.tup [V.int 0,V.ref a,V.int ↑aq,V.bool true],O.list [V.ref h1.length]]) (d.rem.flatMap ci) [V.ref h1.length] [.line (.mk d kids) a aq true]:=by
  refine⟨K1.trans ac.push,(ac.push (S:=ax)).some (by simpa using e1) id,by simp,.cons ⟨h1.length,rfl,by lia,by simp,?_,VN _⟩ .nil⟩
  exact bS.keep (K1.trans ac.push) (λ_ _ z=>z) (.of nd ok ks)
 have hin:∀i,p i->i<h.length:=hp
 have eU:h.length<h1.length+1:=by exact af 0x1f91a101e10 rfl hl1
 have Dh:4*(T.mk d kids).sz<=6000:=by exact af 0xf17704bc14ace5dc3b910 rfl gV
 have gG:(aX (d.rem.map Atom.rem++aY aq true (.mk d kids))).length<lim:=by rw[hd];exact hb
 have w0:d.rem.flatMap ci++aX (outs [.line (.mk d kids) a aq true])=aX (d.rem.map Atom.rem++aY aq true (.mk d kids)):=by rw[fS,tD];simp[outs,Task.out]
 have z0:wt [.line (.mk d kids) a aq true]<=4*(T.mk d kids).sz:=by simp[wt,Task.w]
 have q':∀h',ac ax h h'->h'[h.length]? =some (.list ((aX (d.rem.map Atom.rem++aY aq true (.mk d kids))).map V.str))->Q (.ref h.length) h':=λh' k e=>q h' h.length k (SW _) e
 clear q hb hd hd' hsz
 generalize aq+(T.mk d kids).sz=PM at T0 gV
 generalize aX (d.rem.map Atom.rem++aY aq true (.mk d kids))=WH at gG w0 q'
 generalize 4*(T.mk d kids).sz=S at Dh z0
 generalize[Task.line (.mk d kids) a aq true]=tk0 at T0 w0 z0
 generalize d.rem.flatMap ci=RK at T0 w0
 clear nd cL ok ks K1 k1 e1 hl1
 obtain⟨o,ho⟩:∃o,o=h.length:=⟨_,rfl⟩
 obtain⟨td,htd⟩:∃td,td=h1.length+1:=⟨_,rfl⟩
 rw[←ho,←htd]at T0 eU ⊢
 rw[←ho]at q'
 have hlo:h.length<=o:=by exact af 0xf013e10 rfl ho
 generalize h1++[O.tup [V.int 0,V.ref a,V.int ↑aq,V.bool true],O.list [V.ref h1.length]]=RL at T0 ⊢
 generalize[V.ref h1.length]=pL at T0
 clear ho htd h1
 refine k_while G.mono (λk ρ h'=>∃(tasks:List Task) (vs:List V) (ps:List (List Nat)) (y1:V) (y4 y5 y6 y7 y8 y9:Option V),ρ=[some (.ref a),some y1,some (.ref o),some (.ref td),y4,y5,y6,y7,y8,y9]/\
   dz h p PM o td h' ps vs tasks/\ps++aX (outs tasks)=WH/\k=wt tasks/\wt tasks<=S)
  (λnP k ρ h' kP ii=>?_) (k:=wt tk0) (oW tk0 _ _ (.int aq) none none none none none none ⟨rfl,T0,w0,rfl,z0⟩)
 refine zT ii λtasks vs ps y1 y4 y5 y6 y7 y8 y9 ae St hps az hw=>?_;clear ii;subst ae;subst az
 have hvl:=St.tk.length
 have hwl:=De tasks
 have io:ps.length+(aX (outs tasks)).length<lim:=by
  have:=congrArg List.length hps
  rw[So]at this
  exact ah 0x1f122e021e10 rfl gG this
 have xW:vs.length<=6000:=by exact aZ 0xf130e242e430e020e10 rfl Dh hw hvl hwl
 have cl:∀{ρ:Loc},cg ρ 3=some (.ref td)->ai aw ρ (.cmp .gt (.len (.loc 3)) (.lit (.int 0))) h'=some (.bool (decide ((vs.length:Int)>0)),h'):=λg=>aH (op:= .gt) (be (eP g) (dn St.et) (SR.mpr (by exact af 0xf010e17704b13ef42405b0 rfl hlim xW))) rfl cmp_gt
 rcases Nl tasks with rfl| ⟨ts,tk,rfl⟩
 ·have:vs=[]:=by cases vs with|nil=>rfl|cons=>simp at hvl
  subst this
  have e:ps=WH:=by simpa[outs,aX]using hps
  exact CD (cl rfl) rfl (bi rfl (q' h' St.keep (by rw[St.eo,e])))
 refine bx St.tk.LR λws v ae Di No=>?_;subst ae
 rw[qC,fS]at hps io
 rw[jT]at hw
 have cV:wt [tk]=tk.w:=by simp[wt]
 rw[cV]at hw
 have fD:=St.todo hin hlo eU Di
 have nU:=No.keep (h':=h'.set td (.list ws)) (ac.set (.inr rfl)) λi hi z=>by have:=hin i hi;lia
 simp only[So]at io
 have xX:ws.length+1<=6000:=by simpa using xW
 refine qo (cl rfl) (by rw[So];exact Tf.mpr (UD _)) ?_
 have xY:(ws++[v]).length<=lim:=by exact af 0xf010e17704b13ef42405b0 rfl hlim xW
 cases tk with
 |back=>
  refine g5 nU λx a' q' ae nx ex=>?_;clear nU;subst ae
  refine s8 rfl St.et UO xY (by rw[TI];exact fy ex) rfl ?_
  rw[TI]
  generalize h'.set td (.list ws)=h2 at fD ⊢
  have Np:aX Task.back.out=[[41]]:=rfl
  rw[Np]at io hps
  simp only[SD,SU]at io
  refine eO rfl rfl (bP rfl fD.eo rfl fD.eo (by rw[Sn];exact ah 0x1f201e2910 rfl io) ?_)
  have jU:=fD.out hin hlo eU (h':=h2.set o (.list (ps.map V.str++[V.str [41]]))) (ps':=ps++[[41]]) (ac.set rfl) (by rw[bq fD.eo];simp)
  exact k_end (bp (kP _ _ ⟨wt ts,by rw[jT,cV];simp[Task.w],oW ts ws (ps++[[41]]) _ _ _ _ _ _ _ ⟨rfl,jU,by rw[←hps];simp,rfl,by exact ah 0xf200e2910 rfl hw⟩⟩))
 |branch t1 a1 q1=>
  refine jb nU λx ae nx ex th hq=>?_;clear nU;subst ae
  refine rB th.un λd1 kX Dj Nq Nr Nt Nu Nv ae cL Dk jr=>?_;subst ae
  have hs1:=(T.mk d1 kX).ik
  refine s8 rfl St.et UO xY (by rw[TI];exact fy ex) rfl ?_
  rw[TI]
  generalize h'.set td (.list ws)=h2 at fD cL th ⊢
  have nV:aX (Task.branch (T.mk d1 kX) a1 q1).out=[[40]]++(aX (b9 d1 q1 true)++(aX (aY (q1+1) (bO d1) (T.mk d1 kX))++[[41]])):=by
   simp only[Task.out,eS,fS,T.d,Sw];rfl
  rw[nV]at io hps
  simp only[So,SD,SU]at io
  refine gJ rfl rfl (eO rfl rfl (bP rfl fD.eo rfl fD.eo (by rw[Sn];exact ah 0x1f201e2910 rfl io) ?_))
  have jU:=fD.out hin hlo eU (h':=h2.set o (.list (ps.map V.str++[V.str [40]]))) (ps':=ps++[[40]]) (ac.set rfl) (by rw[bq fD.eo];simp)
  have k3:ac (· =o) h2 (h2.set o (.list (ps.map V.str++[V.str [40]]))):=ac.set rfl
  generalize h2.set o (.list (ps.map V.str++[V.str [40]]))=h3 at jU k3
  have Nw:=cL.keep k3 λi hi z=>by exact ah 0xf1e023e120e10 rfl hlo z (hin i hi)
  have Nx:=bS.keep k3 (λi hi z=>by exact ah 0xf1e023e120e10 rfl hlo z (hin i hi)) th
  refine d9 rfl ?_
  refine Dc G Nw Dk (by exact aK 0x1f120e31a0e09320e10 rfl gV hq hs1) jU.eo (λz=>by exact af 0xf1e010e10 rfl hlo (hin _ z)) (by simp only[So,SD,SU];exact dU 0x1f5929101e5994993210 rfl io) λh4 k4 e4=>?_
  have iT:=jU.out hin hlo eU k4 e4
  have xZ:=bS.keep k4 (λi hi z=>by exact ah 0xf1e023e120e10 rfl hlo z (hin i hi)) Nx
  refine bP rfl iT.et (v:= .ref h4.length) (h':=h4++[O.tup [V.int 2,V.ref a1,V.int ↑q1,V.bool true]]) rfl (iT.push hin hlo eU (g:=[O.tup [V.int 2,V.ref a1,V.int ↑q1,V.bool true]])).et (by exact af 0x1f010e17704b91a13ef42405b0 rfl hlim xX) ?_
  have ip:=iT.task hin hlo eU (tu:=O.tup [V.int 2,V.ref a1,V.int ↑q1,V.bool true]) (t:= .back) ⟨_,a1,q1,rfl,by have:=iT.nR;have:=iT.nT;lia,aE⟩
  have k5:ac (λi=>i=o\/i=td) h4 ((h4++[O.tup [V.int 2,V.ref a1,V.int ↑q1,V.bool true]]).set td (.list (ws++[V.ref h4.length]))):=ac.push.trans (ac.set (.inr rfl))
  generalize(h4++[O.tup [V.int 2,V.ref a1,V.int ↑q1,V.bool true]]).set td (.list (ws++[V.ref h4.length]))=h5 at ip k5
  have Ny:=bS.keep k5 (λi hi z=>by have:=hin i hi;lia) xZ
  refine bP rfl ip.et (v:= .ref h5.length) (h':=h5++[O.tup [V.int 0,V.ref a1,V.int (↑q1+1),V.bool (bO d1)]]) rfl (ip.push hin hlo eU (g:=[O.tup [V.int 0,V.ref a1,V.int (↑q1+1),V.bool (bO d1)]])).et (by simp only[So,SD,SU];exact af 0x1f0991a0a10e17704b91a13ef42405b0 rfl hlim xX) ?_
  have x6:=ip.task hin hlo eU (tu:=O.tup [V.int 0,V.ref a1,V.int (↑q1+1),V.bool (bO d1)]) (t:= .line (T.mk d1 kX) a1 (q1+1) (bO d1)) ⟨_,rfl,by have:=ip.nR;have:=ip.nT;lia,by rw[aE];rfl,bS.keep ac.push (λ_ _ z=>z) Ny,?_⟩
  ·refine k_end (k_end (bp (kP _ _ ?_)));refine⟨wt (ts++[.back]++[.line (T.mk d1 kX) a1 (q1+1) (bO d1)]),by simp only[jT,cV];simp[wt,Task.w];exact ah 0x1f9129091a22e192a0 rfl (SJ (av 0xfc04a2a4e01a rfl hs1)),oW _ _ _ _ _ _ _ _ _ _ ⟨rfl,x6,?_,rfl,by simp only[jT];simp[wt,Task.w]at hw ⊢;exact aK 0xf29391a02e192a30e2910 rfl hw (SJ (av 0xfc04a2a4e01a rfl hs1))⟩⟩
   rw[qC,qC,fS,fS,←hps]
   simp[Task.out,aX,iR]
  ·exact ah 0xf91a29191a00e2910 rfl hq
 |line t1 a1 q1 told=>
  refine jb nU λx ae nx ex th hq=>?_;clear nU;subst ae
  refine rB th.un λd1 kX Dj Nq Nr Nt Nu Nv ae cL Dk jr=>?_;subst ae
  refine s8 rfl St.et UO xY (by rw[TI];exact fy ex) rfl ?_
  rw[TI]
  generalize h'.set td (.list ws)=h2 at fD cL jr ⊢
  have jV:=jr.length
  have hkz:=mu kX
  have hw1:4*(1+T.bt kX)-2+wt ts<=S:=by
   simp only[Task.w,T.sz]at hw ⊢;exact ah 0xf29010e2910 rfl hw
  have c3:∀{ρ:Loc},cg ρ 5=some (.ref a1)->ai aw ρ (.cmp .gt (.len (.attr (.loc 5) 3)) (.lit (.int 0))) h2=some (.bool (decide (((Dj.map V.ref).length:Int)>0)),h2):=λg=>aH (op:= .gt) (be (bc g cL.on cL.fk) (dn cL.k) (by rw[Sn];exact SR.mpr (by lia))) rfl cmp_gt
  cases jr with
  |nil=>
   exact gJ rfl rfl (gN rfl rfl (cz (c3 rfl) rfl (k_end (bp (kP _ _ ⟨wt ts,by rw[jT,cV];simp[Task.w,T.sz,T.bt],oW ts ws ps _ _ _ _ _ _ _ ⟨rfl,fD,by rw[←hps];simp[Task.out,aY,bN,aX],rfl,by exact ah 0xf200e2910 rfl hw⟩⟩)))))
  | @cons k0 t0 cj cM Dl Dm=>
   have hs0:=t0.ik
   simp only[T.bt]at hkz hw1
   simp only[SD]at jV hkz
   have tE:cj.length=cM.length:=Dm.length
   have RM:=mu cM
   have tF:(T.mk d1 (t0::cM)).sz=1+(t0.sz+T.bt cM):=by simp only[T.sz,T.bt]
   rw[tF]at hq
   refine rB Dl.un λd0 mw RN xv RO RP RQ RS ae tG Nz RU=>?_;subst ae
   have hout:aX (Task.line (T.mk d1 (T.mk d0 mw::cM)) a1 q1 told).out=aX (b9 d0 q1 told)++(aX (cM.flatMap (eS q1))++aX (aY (q1+1) (bO d0|| !cM.isEmpty) (T.mk d0 mw))):=by
    simp only[Task.out,aY,bN,T.d]
    rw[fS,fS,xV]
   rw[hout]at io hps
   simp only[So]at io
   refine gJ rfl rfl (gN rfl rfl (gM (c3 rfl) (Tf.mpr (UD _)) ?_))
   refine bd (aB (bc rfl cL.on cL.fk) rfl (bG cL.k rfl rfl)) (bd (qj (bc rfl cL.on cL.fk) rfl (nG cL.k (by simp;lia))) ?_)
   have iU:bh (some (1:Int)) none ((k0::cj).map V.ref)=cj.map V.ref:=tj (a:=1) (by simp)
   rw[iU]
   have jU:=fD.push hin hlo eU (g:=[O.list (cj.map V.ref)])
   have nW:=tG.keep (S:=ax) (ac.push (g:=[O.list (cj.map V.ref)])) λ_ _ z=>z
   have x7:(h2++[O.list (cj.map V.ref)])[h2.length]? =some (O.list (cj.map V.ref)):=aE
   have Dn:h2.length≠o/\h2.length≠td:=⟨by exactλq0=>af 0xf2e011e10 rfl fD.nT q0,by exactλq0=>af 0xf2e011e10 rfl fD.nR q0⟩
   have Do:bS p (h2++[O.list (cj.map V.ref)]) k0 (.mk d0 mw):=bS.keep (S:=ax) ac.push (λ_ _ z=>z) Dl
   have Dp:fC p (h2++[O.list (cj.map V.ref)]) cj cM:=fC.keep (S:=ax) ac.push (λ_ _ z=>z) Dm
   generalize vJ:h2.length=x2 at x7 Dn
   generalize h2++[O.list (cj.map V.ref)]=h3 at jU nW x7 Do Dp
   refine d9 rfl ?_
   refine Dc G nW Nz (by exact aZ 0x1f120e391a40e91a09931a20e10 rfl gV hq hkz) jU.eo (λz=>by exact af 0xf1e010e10 rfl hlo (hin _ z)) (by exact aZ 0x1f49101e49939210 rfl io) λh4 k4 e4=>?_
   have iT:=jU.out hin hlo eU k4 e4
   have xZ:=bS.keep k4 (λi hi z=>by exact ah 0xf1e023e120e10 rfl hlo z (hin i hi)) Do
   have NA:=fC.keep k4 (λi hi z=>by exact ah 0xf1e023e120e10 rfl hlo z (hin i hi)) Dp
   have Dq:=k4.some x7 Dn.1
   have Dr:∀{ρ:Loc},cg ρ 6=some (.bool (bO d0))->cg ρ 8=some (.ref x2)->ai aw ρ (.or (.loc 6) (.cmp .gt (.len (.loc 8)) (.lit (.int 0)))) h4=some (.bool (bO d0|| !cM.isEmpty),h4):=by
    intro ρ g6 g8
    rcases ht:bO d0 with _|_
    ·rw[ht]at g6
     exact gK (eP g6) rfl ((aH (op:= .gt) (be (eP g8) (dn Dq) (by rw[Sn];exact SR.mpr (by lia))) rfl cmp_gt).trans (by rw[Ni tE];rfl))
    ·rw[ht]at g6
     exact lY (eP g6) rfl
   generalize hbv:(bO d0|| !cM.isEmpty)=bv at Dr ⊢
   refine bP rfl iT.et (v:= .ref h4.length) (h':=h4++[O.tup [aw.glob 17,V.ref k0,V.int (↑q1+1),V.bool bv]]) (jm (aO rfl (aO rfl (aO rfl (aO (Dr rfl rfl) rfl))))) (iT.push hin hlo eU (g:=[O.tup [aw.glob 17,V.ref k0,V.int (↑q1+1),V.bool bv]])).et (by exact af 0x1f010e17704b91a13ef42405b0 rfl hlim xX) ?_
   have ip:=iT.task hin hlo eU (tu:=O.tup [aw.glob 17,V.ref k0,V.int (↑q1+1),V.bool bv]) (t:= .line (T.mk d0 mw) k0 (q1+1) bv) ⟨_,rfl,by have:=iT.nR;have:=iT.nT;lia,by rw[aE,MH];rfl,bS.keep (S:=ax) ac.push (λ_ _ z=>z) xZ,by exact aK 0xf39191a00e3999211a0 rfl hq⟩
   have k5:ac (λi=>i=o\/i=td) h4 ((h4++[O.tup [aw.glob 17,V.ref k0,V.int (↑q1+1),V.bool bv]]).set td (.list (ws++[V.ref h4.length]))):=ac.push.trans (ac.set (.inr rfl))
   generalize(h4++[O.tup [aw.glob 17,V.ref k0,V.int (↑q1+1),V.bool bv]]).set td (.list (ws++[V.ref h4.length]))=h5 at ip k5 ⊢
   have NB:=fC.keep k5 (λi hi z=>by have:=hin i hi;lia) NA
   have NC:=k5.some Dq (by lia)
   generalize RV:V.ref h4.length=v5 at ip
   have ND:(cj.map V.ref).reverse=((cM.zip cj).reverse.map λx=>V.ref x.2):=by
    rw[List.map_reverse,Dd tE]
   have hpl:(cM.zip cj).reverse.length=cM.length:=by simp;lia
   have em:(h5++[O.list (cj.map V.ref).reverse])[h5.length]? =some (O.list ((cM.zip cj).reverse.map λx=>V.ref x.2)):=by rw[ND];exact aE
   have hm:h5.length≠o/\h5.length≠td:=⟨by exactλq0=>af 0xf2e011e10 rfl ip.nT q0,by exactλq0=>af 0xf2e011e10 rfl ip.nR q0⟩
   have pz:∀x∈(cM.zip cj).reverse,q1+x.1.sz<=PM:=λx hx=>by
    exact aZ 0xf39400e240e91a3999211a0 rfl hq (xU (Vf (Wv.mp hx)).1)
   refine gP G.mono (m:=h5.length) (xs:=(cM.zip cj).reverse.map λx=>V.ref x.2) (λi ρ h'=>∃(y9:Option V) (us:List V),ρ=[some (.ref a),some (.int q1),some (.ref o),some (.ref td),some (.int 0),some (.ref a1),some (.bool (bO d0)),some (.ref k0),some (.ref x2),y9]/\
     ac (λi=>i=o\/i=td) (h5++[O.list (cj.map V.ref).reverse]) h'/\dz h p PM o td h' (ps++aX (b9 d0 q1 told)) (ws++[v5]++us) (ts++[.line (T.mk d0 mw) k0 (q1+1) bv]++(((cM.zip cj).reverse.take i).map λx=>Task.branch x.1 x.2 q1)))
    ?_ (λi ρ h' ii=>?_) (λRW i v ρ h' kP hv ii=>?_) (λρ h' ii=>?_)
   ·exact aM _ (Mj rfl NC (by rw[Sn];lia)) ⟨rfl,y9,[],rfl,ac.refl,by simpa using(ip.push hin hlo eU (g:=[O.list (cj.map V.ref).reverse]))⟩
   ·refine bx ii λy9 us ae k St=>?_;clear ii
    exact k.some em (by lia)
   ·refine bx ii λy9 us ae k St=>?_;clear ii;subst ae
    refine am (fQ hv) λx er bB=>?_;subst bB
    have Ds:=Sy er
    have hil:=(Sr.mp er).1
    have et:(cM.zip cj).reverse.take (i+1)=(cM.zip cj).reverse.take i++[x]:=by rw[Tg,er];rfl
    have RX:us.length=i:=by
     have:=St.tk.length
     simp only[So,Sn,TK,SD,SU]at this
     have h3:=Di.length
     lia
    refine fu (bP rfl St.et (v:= .ref h'.length) (h':=h'++[O.tup [V.int 1,V.ref x.2,V.int ↑q1,V.bool true]]) rfl (St.push hin hlo eU (g:=[O.tup [V.int 1,V.ref x.2,V.int ↑q1,V.bool true]])).et (by simp only[So,SD,SU];lia) ?_)
    have x6:=St.task hin hlo eU (tu:=O.tup [V.int 1,V.ref x.2,V.int ↑q1,V.bool true]) (t:= .branch x.1 x.2 q1) ⟨_,rfl,by have:=St.nR;have:=St.nT;lia,aE,bS.keep (k.trans ac.push) (λi hi z=>by have:=hin i hi;lia) ((λx hx=>bS.keep (S:=ax) ac.push (λ_ _ z=>z) (NB.zip x (Wv.mp hx)):∀x∈(cM.zip cj).reverse,bS p (h5++[O.list (cj.map V.ref).reverse]) x.2 x.1) x Ds),pz x Ds⟩
    refine bp (kP _ _ ?_);refine⟨_,us++[V.ref h'.length],rfl,k.trans (ac.push.trans (ac.set (.inr rfl))),?_⟩
    rw[et,SN,←Sw,←Sw]
    exact x6
   ·refine bx ii λy9 us ae k St=>?_;clear ii;subst ae
    rw[Sn,Tc]at St
    have tH:wt (ts++[.line (T.mk d0 mw) k0 (q1+1) bv]++((cM.zip cj).reverse.map λx=>Task.branch x.1 x.2 q1))=wt ts+(4*(T.mk d0 mw).sz-2)+4*T.bt cM:=by
     rw[jT,jT,Dg q1 cM cj tE]
     simp[wt,Task.w]
    refine k_end (k_end (bp (kP _ _ ?_)));refine⟨_,?_,oW _ _ _ _ _ _ _ _ _ _ ⟨rfl,St,?_,rfl,?_⟩⟩
    ·rw[tH,jT,cV]
     simp only[Task.w,tF]
     exact aZ 0x1f9249c34a9043ec99311a4a92a20ec14a0 rfl (Vc _ _) (SJ (av 0xfc901a4a2a rfl))
    ·rw[Nk,Df q1 cM cj tE,qC,fS,fS,←hps,hbv]
     simp[Task.out]
    ·rw[tH];exact dU 0xf29c54a9313ec99541a4a92a00ec44a30e2910 rfl hw1 (Vc _ _) (SJ (av 0xfc901a4a2a rfl))
end
noncomputable abbrev Pc:=List Nat×Bool
noncomputable def wire(x:Pc):List Nat:=x.1++(if x.2 then [10]else [])
noncomputable def cB(w:Nat)(s:List (List Nat)×List Nat)(x:Pc):List (List Nat)×List Nat:=
 let s1:=if s.2=[]then (s.1,x.1)else if s.2.length+1+x.1.length>w then (s.1++[s.2],x.1)else (s.1,s.2++[32]++x.1)
 if x.2 then (s1.1++[s1.2],[])else s1
noncomputable def bY(w:Nat)(ps:List Pc):List (List Nat)×List Nat:=ps.foldl (cB w) ([],[])
noncomputable def nX(s:List (List Nat)×List Nat):List (List Nat):=s.1++(if s.2=[]then []else [s.2])
noncomputable def lay(w:Nat)(ps:List Pc):List (List Nat):=nX (bY w ps)
noncomputable def weight(ps:List Pc):Nat:=(ps.map λx=>x.1.length+2).sum
theorem nY(a b:List Pc):weight (a++b)=weight a+weight b:=by simp[weight]
theorem NE(w:Nat)(s:List (List Nat)×List Nat)(x:Pc):(cB w s x).1.length<=s.1.length+2/\(cB w s x).2.length<=s.2.length+x.1.length+1:=by
 unfold cB
 split<;>(split<;>(try split)<;>simp<;>lia)
theorem x8(w:Nat)(ps:List Pc)(x:Pc):bY w (ps++[x])=cB w (bY w ps) x:=by unfold bY;rw[Wq];rfl
theorem Dt(w:Nat):∀(ps:List Pc) (s:List (List Nat)×List Nat),(ps.foldl (cB w) s).1.length<=s.1.length+2*ps.length/\(ps.foldl (cB w) s).2.length<=s.2.length+weight ps
 | [],s=>by simp[weight]
 |x::ps,s=>by
  have a:=Dt w ps (cB w s x)
  have b:=NE w s x
  rw[Vb]
  simp only[weight,Th,V4,SD]at*
  exact⟨aK 0xf9c91a22a300e92a310e9c22a10 rfl a.1 b.1,aZ 0xf99292a4300e91a94310e9210 rfl a.2 b.2⟩
theorem x9(w:Nat)(ps:List Pc):(bY w ps).1.length<=2*ps.length/\(bY w ps).2.length<=weight ps:=by
 simpa[bY]using(Dt w ps ([],[]))
theorem qD(ps:List Pc):2*ps.length<=weight ps:=by
 induction ps with
 |nil=>simp[weight]
 |cons x r ih=>simp[weight]at*;exact ah 0xf9192a2c91a02a0e1c02a rfl ih
section
variable{Γ:ay}(G:Prog Γ)
include G
theorem NF{n m w:Nat}{ps:List Pc}{h:H}(hm:h[m]? =some (.list (ps.map λx=>V.str (wire x))))(hn:∀x∈ps,x.2=false->x.1.getLast?≠some 10)(hb:weight ps+10<lim){Q X:Post}
  (q:∀h' a,ac ax h h'->h.length<=a->h'[a]? =some (.list ((lay w ps).map V.str))->Q (.ref a) h'):Γ n 24 [.ref m,.int w] h Q X:=by
 refine G.intro rfl (by decide) ⟨rfl,?_⟩
 have hlim:=hlim
 refine bd rfl (bd rfl (gP G.mono (m:=m) (xs:=ps.map λx=>V.str (wire x)) (λi ρ h'=>∃(y4 y5:Option V),ρ=[some (.ref m),some (.int w),some (.ref h.length),some (.str (bY w (ps.take i)).2),y4,y5]/\h'=h++[.list ((bY w (ps.take i)).1.map V.str)]) (aM _ rfl ⟨rfl,none,none,rfl,rfl⟩) (λi ρ h' ii=>?_) (λnP i v ρ h' kP hv ii=>?_) (λρ h' ii=>?_)))
 ·refine bK ii λy4 y5 ae az=>?_;clear ii;subst az
  exact(ac.push (S:=ax)).some hm id
 ·refine bK ii λy4 y5 ae az=>?_;clear ii;subst ae;subst az
  refine am (fQ hv) λx er bB=>?_;subst bB
  obtain⟨pc,en⟩:=x
  have hil:=(Sr.mp er).1
  have et:ps.take (i+1)=ps.take i++[(pc,en)]:=by rw[Tg,er];rfl
  have cV:weight (ps.take i)+(pc.length+2)<=weight ps:=by
   have e:=nY (ps.take (i+1)) (ps.drop (i+1))
   rw[T4,et,nY]at e
   exact aZ 0xf09413e423e939210 rfl e (by simp[weight]:weight [(pc,en)]=pc.length+2)
  have hbd:=x9 w (ps.take i)
  have hlen:(ps.take i).length<=ps.length:=by simp;exact(TD _ _)
  have hwl:=qD ps
  generalize hL:bY w (ps.take i)=L at hbd ⊢
  obtain⟨rows,row⟩:=L
  simp only at hbd
  have es:bY w (ps.take (i+1))=cB w (rows,row) (pc,en):=by rw[et,x8,hL]
  have NG:decide (bh (some (-1:Int)) none (wire (pc,en))=[10])=en:=by
   rw[MG]
   cases en with
   |true=>
    apply decide_eq_true
    simp[wire]
   |false=>
    apply decide_eq_false
    intro z
    rw[(by simp[wire]:wire (pc,false)=pc)]at z
    refine hn _ (Sy er) rfl ?_
    have:pc.drop (pc.length-1)=[10]:=z
    have hne:pc≠[]:=by rintro rfl;simp at this
    rw[Vy]
    have h2:(pc.drop (pc.length-1))[0]? =some 10:=by rw[this];rfl
    rw[Uv]at h2
    simpa using h2
  have NH:(wire (pc,en)).length<=pc.length+1:=by unfold wire;split<;>simp
  have tI:rows.length+2<lim:=by exact aZ 0x1f192a40ec22a40e0c32a4e321e19aa0 rfl hb hlen hwl hbd.1
  have last:∀(iq:List (List Nat)) (ir:List Nat),iq.length+1<lim->cB w (rows,row) (pc,en)=(if en then (iq++[ir],[])else (iq,ir))->ag aw Γ n (.cons (.ite (.loc 5) (.cons (.expr (.append (.loc 2) (.loc 3))) (.cons (.assign 3 (.lit (.str []))) .nil)) .nil) .nil)
    [some (.ref m),some (.int w),some (.ref h.length),some (.str ir),some (.str pc),some (V.bool en)] (h++[.list (iq.map V.str)]) ⟨nP,Q,bot⟩:=by
   intro iq ir hr1 e
   rcases en with _|_
   ·exact cz rfl rfl (bp (kP _ _ ⟨_,_,by rw[es,e];rfl,by rw[es,e];rfl⟩))
   ·refine eO rfl rfl (bP rfl aE rfl aE (by rw[Sn];exact T1 hr1) ?_)
    rw[iP]
    exact bd rfl (k_end (bp (kP _ _ ⟨_,_,by rw[es,e];rfl,by rw[es,e,if_pos rfl,SN];rfl⟩)))
  have rest:ag aw Γ n
    (.cons (.ite (.cmp .eq (.loc 3) (.lit (.str []))) (.cons (.assign 3 (.loc 4)) .nil) (.cons (.ite (.cmp .gt (.bin .add (.bin .add (.len (.loc 3)) (.lit (.int 1))) (.len (.loc 4))) (.loc 1)) (.cons (.expr (.append (.loc 2) (.loc 3))) (.cons (.assign 3 (.loc 4)) .nil)) (.cons (.assign 3 (.bin .add (.bin .add (.loc 3) (.lit (.str [32]))) (.loc 4))) .nil)) .nil))
    (.cons (.ite (.loc 5) (.cons (.expr (.append (.loc 2) (.loc 3))) (.cons (.assign 3 (.lit (.str []))) .nil)) .nil) .nil))
    [some (.ref m),some (.int w),some (.ref h.length),some (.str row),some (.str pc),some (V.bool en)] (h++[.list (rows.map V.str)]) ⟨nP,Q,bot⟩:=by
   by_cases h0:row=[]
   ·subst h0
    exact gM (p:=([]:List Nat)=[]) rfl rfl (bd rfl (k_end (last rows pc (T1 tI) (by simp[cB]))))
   ·have cw:ai aw [some (.ref m),some (.int w),some (.ref h.length),some (.str row),some (.str pc),some (V.bool en)] (.cmp .gt (.bin .add (.bin .add (.len (.loc 3)) (.lit (.int 1))) (.len (.loc 4))) (.loc 1)) (h++[.list (rows.map V.str)])=some (.bool (decide ((row.length:Int)+1+pc.length>w)),h++[.list (rows.map V.str)]):=
     aH (op:= .gt) (aV (aV (be rfl rfl (SR.mpr (by exact aZ 0xf140e240e09321e19aa0 rfl hb cV hbd.2))) rfl rfl) (be rfl rfl (SR.mpr (by exact aK 0xf130e0992a321e19aa0 rfl hb cV))) rfl) rfl cmp_gt
    by_cases hw:row.length+1+pc.length>w
    ·refine nH (p:=row=[]) rfl h0 (nJ cw (by lia) (bP rfl aE rfl aE (by rw[Sn];exact T1 (T1 tI)) ?_))
     rw[iP]
     have:=last (rows++[row]) pc (by simp;exact tI) (by simp[cB,h0,hw])
     rw[SN]at this
     exact bd rfl (k_end this)
    ·exact nH (p:=row=[]) rfl h0 (ql cw (by lia) (bd (aV (aV rfl rfl (add_str (by simp;exact aZ 0xf191a40e240e09321e19aa0 rfl hb cV hbd.2))) rfl (add_str (by simp;exact aZ 0xf19391a40e240e0992a321e19aa0 rfl hb cV hbd.2))) (k_end (last rows (row++[32]++pc) (T1 tI) (by simp[cB,h0,hw])))))
  have wl:(wire (pc,en)).length<=lim:=by exact aZ 0xf140e91a340e0992a321e19aa0 rfl hb cV NH
  refine fu (bd (aH (op:= .eq) (qj rfl rfl (lZ wl)) rfl MB) ?_)
  rw[NG]
  rcases en with _|_
  ·have:wire (pc,false)=pc:=SM _
   rw[this]
   exact cz rfl rfl rest
  ·have:bh none (some (-1:Int)) (wire (pc,true))=pc:=by rw[CS];simp[wire]
   refine eO rfl rfl (bd (xe rfl rfl (lZ wl)) (k_end ?_))
   rw[this]
   exact rest
 ·refine bK ii λy4 y5 ae az=>?_;clear ii;subst ae;subst az
  rw[Sn,Tc]
  have hbd:=x9 w ps
  unfold lay nX at q
  generalize bY w ps=L at*
  obtain⟨rows,row⟩:=L
  simp only at hbd q
  by_cases h0:row=[]
  ·subst h0
   exact cz (aH (op:= .ne) rfl rfl xz) (congrArg (λz=>some (!z)) (decide_eq_true rfl)) (bi rfl (q _ _ ac.push (SW _) (by rw[aE];simp)))
  ·refine eO (aH (op:= .ne) rfl rfl xz) (congrArg (λz=>some (!z)) (decide_eq_false h0)) (bP rfl aE rfl aE (by rw[Sn];exact aK 0x1f130e230e021e19aa0 rfl hb (qD ps) hbd.1) (k_end (bi rfl ?_)))
   rw[iP]
   exact q _ _ ac.push (SW _) (by rw[aE,if_neg h0];simp)
end
noncomputable abbrev Tag:=List Nat×List Nat
structure gW(t:Tag):Prop where
 name:mm t.1
 len:t.2.length<=255
 Du:tA t.2
noncomputable def c9(t:Tag):List Nat:=[91]++t.1++[32]++([34]++bI t.2++[34])++[93]
noncomputable def rowsOf(tags:List Tag):List (List Nat):=if tags=[]then []else tags.map c9++[[]]
noncomputable def lines(rows:List (List Nat)):List Nat:=rows.flatMap (· ++[10])
noncomputable def fE(tags:List Tag)(w:Nat)(ps:List Pc):List Nat:=lines (rowsOf tags++lay w ps)
theorem ya{h:H}{a k:Nat}{xs:List V}(hk:k≠1)(e:h[a]? =some (.tup xs))(hl:xs.length=k):dY h k (.ref a)=some xs:=(if_neg hk).trans (bnd (fy e) (if_pos hl))
noncomputable def bT(h:H)(m:Nat)(tags:List Tag):Prop:=∃as:List Nat,h[m]? =some (.list (as.map V.ref))/\A2 (λa t=>h[a]? =some (.tup [.str t.1,.str t.2])) as tags
theorem bT.keep{S:Nat->Prop}{h h':H}{m:Nat}{tags:List Tag}(k:ac ax h h')(x:bT h m tags):bT h' m tags:=am x λas a c=>⟨as,k.some a id,c.imp λ_ _ e=>k.some e id⟩
theorem jW(a b:List (List Nat)):lines (a++b)=lines a++lines b:=by simp[lines]
theorem qE(a:List (List Nat)):(lines a).length=(a.map λr=>r.length+1).sum:=by
 induction a with
 |nil=>rfl
 |cons r a ih=>simp[lines]at*;exact SK (af 0xf9191a0991a10 rfl) (af 0xf991a109191a0 rfl)
noncomputable def fT(s:List (List Nat)×List Nat):Nat:=(s.1.map λr=>r.length+1).sum+(if s.2=[]then 0 else s.2.length+1)
theorem NI(w:Nat)(s:List (List Nat)×List Nat)(x:Pc):fT (cB w s x)<=fT s+x.1.length+2:=by
 obtain⟨rows,row⟩:=s
 obtain⟨p,e⟩:=x
 unfold cB fT
 rcases e with⟨⟩<;>by_cases h0:row=[]<;>by_cases hw:row.length+1+p.length>w<;>simp[h0,hw]<;>(try split)<;>lia
theorem tJ(w:Nat):∀(ps:List Pc) (s:List (List Nat)×List Nat),fT (ps.foldl (cB w) s)<=fT s+weight ps
 | [],s=>by simp[weight]
 |x::ps,s=>by
  rw[Vb]
  simp only[weight,Th,V4]at*
  exact aZ 0xf99292a4300e92a94310e9210 rfl (tJ w ps (cB w s x)) (NI w s x)
theorem Dv(w:Nat)(ps:List Pc):(lines (lay w ps)).length<=weight ps:=by
 have:=tJ w ps ([],[])
 rw[qE]
 unfold lay nX bY
 generalize ps.foldl (cB w) ([],[])=s at*
 unfold fT at this
 split at this<;>rename_i h<;>simp[h]at this ⊢<;>exact af 0xf100e10 rfl this
theorem NJ(w:Nat)(ps:List Pc):(lay w ps).length<=weight ps+1:=by
 have:=(x9 w ps).1
 have h2:=qD ps
 unfold lay nX
 split<;>simp<;>lia
theorem Dw:∀l:List (List Nat),aG [] l=l.flatten
 | []=>rfl
 | [x]=>by simp[aG]
 |x::y::r=>by rw[aG,Dw (y::r)];simp
section
variable{Γ:ay}(G:Prog Γ)
include G
theorem NK{n:Nat}{t:Tag}(ok:gW t){h:H}{Q X:Post}(q:∀h',ac ax h h'->Q (.str (c9 t)) h'):Γ (n+2) 43 [.str t.1,.str t.2] h Q X:=by
 obtain⟨nm,v⟩:=t
 refine G.intro rfl (by decide) ⟨rfl,?_⟩
 have hlim:=hlim
 have hn:=ok.name.2.1
 have he:=(mo v).2
 have hv:=ok.len
 simp only at hn hv
 refine xm rfl (CY G ok.name (k_end (kQ (CJ (CI (aV (aV rfl rfl (add_str (by simp;exact af 0xf0911a0eff2b13ef42405b0 rfl hlim hn))) rfl (add_str (by simp;exact af 0xf091a91a10eff2b13ef42405b0 rfl hlim hn))) (w_call rfl (MM G ok.len ok.Du λg=>?_)))))))
 refine iO (add_str (by simp;exact aK 0xf0991a91a291a91a14eff2b30ec32a20eff2b13ef42405b0 rfl hlim hn he hv)) (aM (.lit (.str [93])) rfl ?_)
 exact iO (add_str (by simp;exact aK 0xf091a91a991a91a91a214eff2b30ec32a20eff2b13ef42405b0 rfl hlim hn he hv)) (q _ ac.push)
theorem Dx{n m a aq w:Nat}{tags:List Tag}{t:T}{p:Nat->Prop}{res:List Nat}{ps:List Pc}{h:H}(tg:bT h m tags)(tok:∀x∈tags,gW x)(tl:tags.length<=6)(x:bS p h a t)(hp:∀i,p i->i<h.length)(hr:results.contains res=true)
  (gV:aq+t.sz<=1500) (hps:aX (t.d.rem.map Atom.rem++aY aq true t)++[res]=ps.map wire) (hn:∀x∈ps,x.2=false->x.1.getLast?≠some 10) (hb:weight ps+10000<lim) {Q X:Post}
  (q:∀h',ac ax h h'->Q (.str (fE tags w ps)) h'):Γ (n+6) 44 [.ref m,.ref a,.int aq,.str res,.int w] h Q X:=by
 refine G.intro rfl (by decide) ⟨rfl,?_⟩
 have hlim:=hlim
 have hwl:=qD ps
 have hpl:(aX (t.d.rem.map Atom.rem++aY aq true t)).length+1=ps.length:=by simpa using(congrArg List.length hps)
 refine am tg λas nZ hat=>?_;clear tg
 have hal:=hat.length
 have hml:=aC nZ
 refine cz (qg (ng:=true) rfl rfl xM) (congrArg (λz=>some (!z)) hr) (lV (xt G.mono (m:=m) (xs:=as.map V.ref) (λi acc h'=>ac ax h h'/\acc=((tags.take i).map c9).map V.str) rfl (λi acc h' ii=>ii.1.some nZ id) (λi v acc h' hv ii=>?_) (λacc h' ii=>?_) ⟨ac.refl,rfl⟩))
 ·refine xA ii λk ae=>?_;clear ii;subst ae
  refine am (fQ hv) λx er bB=>?_;subst bB
  refine am (hat.at er) λtg qF NL=>?_
  have et:tags.take (i+1)=tags.take i++[tg]:=by rw[Tg,qF];rfl
  refine⟨_,ya (by decide) (k.some NL id) rfl,w_call rfl (NK G (tok _ (Sy qF)) λh2 k2=>⟨by simp;exact aK 0x1f230e031e2927104b10e6a0 rfl tl hb (TD _ _),k.trans k2,?_⟩)⟩
  rw[et,SN,SN];rfl
 ·refine xA ii λk ae=>?_;clear ii;subst ae
  rw[Sn,hal,Tc]
  have k1:ac ax h (h'++[O.list ((tags.map c9).map V.str)]):=k.trans ac.push
  have NM:h'.length≥h.length:=k.len
  have cont:∀h1,ac ax h h1->h1[h'.length]? =some (.list ((rowsOf tags).map V.str))->ag aw Γ (n+6)
    (.cons (.assign 6 (.call 42 (.cons (.loc 1) (.cons (.loc 2) .nil)))) (.cons (.expr (.append (.loc 6) (.loc 3))) (.cons (.expr (.extend (.loc 5) (.call 24 (.cons (.loc 6) (.cons (.loc 4) .nil))))) (.cons (.ret (.join [] (.comp (.bin .add (.loc 0) (.lit (.str [10]))) 1 (.loc 5)))) .nil))))
    [some (.ref m),some (.ref a),some (.int aq),some (.str res),some (.int w),some (.ref h'.length),none] h1 ⟨λ_ h=>Q .none h,Q,X⟩:=by
   intro h1 tK e1
   refine d9 rfl (Nn G (x.keep tK λ_ _ z=>z) (λi hi=>SV (hp i hi) tK.len) gV (by exact aZ 0x1f242e391a40e0c32a1e2910 rfl hb hwl hpl) λh2 o k2 ho e2=>?_)
   refine bP rfl e2 rfl e2 (by rw[Sn];exact aZ 0x1f242e391a40e0c32a1e2910 rfl hb hwl hpl) ?_
   have e3:=bq (o':=O.list ((aX (t.d.rem.map Atom.rem++aY aq true t)).map V.str++[V.str res])) e2
   have k3:ac (· =o) h2 (h2.set o (O.list ((aX (t.d.rem.map Atom.rem++aY aq true t)).map V.str++[V.str res]))):=ac.set rfl
   generalize h2.set o (O.list ((aX (t.d.rem.map Atom.rem++aY aq true t)).map V.str++[V.str res]))=h3 at e3 k3 ⊢
   have hS:h3[o]? =some (.list (ps.map λx=>V.str (wire x))):=by
    rw[e3]
    have:(aX (t.d.rem.map Atom.rem++aY aq true t)).map V.str++[V.str res]=(ps.map wire).map V.str:=by rw[←hps];simp
    rw[this,Vd];rfl
   have qG:=k3.some (k2.some e1 id) (by exactλq0=>ah 0xf3e200e211e10 rfl (aC e1) ho q0)
   refine CH rfl qG rfl (NF G hS hn (by exact af 0x1f19aa01e1927104b0 rfl hb) λh4 b k4 NN e4=>?_)
   have tL:=k4.some qG id
   have hrl:(rowsOf tags).length<=7:=by unfold rowsOf;split<;>simp<;>exact av 0xf6a00e6a0 rfl tl
   have Dy:=NJ w ps
   refine CG tL e4 ⟨by simp only[Sn];exact aK 0xf19320e91a030e7a21e1927104b0 rfl hb hrl Dy,λz=>by injection z with z;have:=aC qG;exact ah 0xf1e023e120e10 rfl NN z this,rfl,?_⟩
   have e5:=bq (o':=O.list ((rowsOf tags).map V.str++(lay w ps).map V.str)) tL
   have kk:ac ax h (h4.set h'.length (O.list ((rowsOf tags).map V.str++(lay w ps).map V.str))):=
    ((((tK.trans k2).then k3 (λi hi z=>by have:=k2.len;have:=tK.len;exact aK 0xf0e033e121e320e10 rfl ho hi z this)).trans k4).then (ac.set (S:=(· =h'.length)) rfl) λi hi z=>by exact ah 0xf3e121e020e10 rfl NM hi z)
   generalize h4.set h'.length (O.list ((rowsOf tags).map V.str++(lay w ps).map V.str))=h5 at e5 kk ⊢
   rw[←SN]at e5
   have hall:(lines (rowsOf tags++lay w ps)).length<=9000+weight ps:=by
    rw[jW,So]
    have h2:(lines (rowsOf tags)).length<=9000:=by
     rw[qE]
     have yb:∀t∈tags,(c9 t).length<=771:=λt ht=>by
      have ok:=tok t ht
      have:=ok.name.2.1
      have:=(mo t.2).2
      have:=ok.len
      simp[c9];lia
     have hsum:∀l:List Tag,(∀t∈l,(c9 t).length<=771)->((l.map c9).map λr=>r.length+1).sum<=772*l.length:=λl=>by
      induction l with
      |nil=>intro _;simp
      |cons y r ih=>
       intro hy
       have:=ih λt ht=>hy t (Su _ ht)
       have:=hy y Sq
       simp at*;exact ah 0xfc91a23043b9191a00ec23043b10e3033b0 rfl hy.1 this
     unfold rowsOf
     split
     ·simp
     ·have:=hsum tags yb
      rw[SN,List.sum_append]
      simp at*;lia
    exact aK 0xf9139020e320e10 rfl (Dv w ps) h2
   have Dz:(rowsOf tags++lay w ps).length<=weight ps+10:=by simp;exact ah 0xf9aa29100e91a210e7a0 rfl hrl Dy
   refine kQ (Mt (xt G.mono (m:=h'.length) (xs:=(rowsOf tags++lay w ps).map V.str) (λi acc h'=>h'=h5/\acc=(((rowsOf tags++lay w ps).take i).map (· ++[10])).map V.str) rfl (λi acc h' ii=>by rw[ii.1];exact e5) (λi v acc h' hv ii=>?_) (λacc h' ii=>?_) ⟨rfl,rfl⟩))
   ·refine xA ii λae az=>?_;clear ii;subst ae;subst az
    refine am (fQ hv) λr er bB=>?_;subst bB
    have et:(rowsOf tags++lay w ps).take (i+1)=(rowsOf tags++lay w ps).take i++[r]:=by rw[Tg,er];rfl
    have hrl:r.length<=9000+weight ps:=by
     have:r.length+1<=(lines (rowsOf tags++lay w ps)).length:=by
      have:∀l:List (List Nat),r∈l->r.length+1<=(lines l).length:=λl=>by
       induction l with
       |nil=>intro z;(exact nm z)
       |cons y s ih=>
        intro z
        rw[(by simp[lines]:lines (y::s)=(y++[10])++lines s),So]
        refine Ts (SH.mp z) (λzq=>?_) (λz=>?_)<;>try obtain rfl:=zq.symm
        ·simp
        ·have:=ih z;exact ah 0xf91200e10 rfl this
      exact this _ (Sy er)
     exact ah 0xf120e091a20e10 rfl hall this
    refine⟨_,Mh,aM (.bin .add (.loc 0) (.lit (.str [10]))) (aV rfl rfl (add_str (by simp;exact ah 0xf191a20e9023284b21e1927104b0 rfl hb hrl))) ⟨by simp only[Sn,TK];exact aK 0x1f130e230e9aa021e1927104b0 rfl hb Dz (TD _ _),rfl,?_⟩⟩
    rw[et];simp
   ·refine xA ii λae az=>?_;clear ii;subst ae;subst az
    rw[Sn,Tc]
    have ej:aG [] ((rowsOf tags++lay w ps).map (· ++[10]))=fE tags w ps:=by
     rw[Dw];unfold fE lines;rw[List.flatMap_def]
    refine wW (by rw[ie aE];exact strs_map _) ⟨by rw[Sn];exact ah 0xf120e9aa021e1927104b0 rfl hb Dz,?_⟩
    rw[ej]
    exact⟨by unfold fE;exact ah 0xf120e9023284b21e1927104b0 rfl hb hall,q _ (kk.trans ac.push)⟩
  have cl:ai aw (bE (frame zY [.ref m,.ref a,.int aq,.str res,.int w]) 5 (.ref h'.length)) (.cmp .gt (.len (.loc 5)) (.lit (.int 0))) (h'++[O.list ((tags.map c9).map V.str)])=some (.bool (decide ((((tags.map c9).map V.str).length:Int)>0)),h'++[O.list ((tags.map c9).map V.str)]):=
   aH (op:= .gt) (be rfl (dn aE) (SR.mpr (by simp only[Sn];exact ah 0xf201e2927104b10e6a0 rfl tl hb))) rfl cmp_gt
  rcases qH:tags with _| ⟨t0,tr⟩
  ·obtain rfl:=qH.symm
   exact cz cl rfl (cont _ k1 (by rw[aE];rfl))
  ·rw[←qH]
   refine gM cl (by rw[qH];simp) (bP rfl aE rfl aE (by simp only[Sn];exact ah 0x1f201e2927104b10e6a0 rfl tl hb) (k_end ?_))
   rw[iP]
   refine cont _ (k.trans ac.push) ?_
   rw[aE]
   unfold rowsOf
   rw[if_neg (by rw[qH];simp)]
   simp
end
inductive M where
 |mk (a n r b k:Nat) (d:Nd) (kids:List M)
noncomputable def M.a:M->Nat| .mk a _ _ _ _ _ _=>a
noncomputable def M.d:M->Nd| .mk _ _ _ _ _ d _=>d
noncomputable def M.kids:M->List M| .mk _ _ _ _ _ _ k=>k
structure iV(h:H)(a n r b k:Nat)(d:Nd)(n7:List Nat):Prop where
 o:h[a]? =some (.list [.str d.word,.ref n,.ref r,.ref b,.ref k])
 n:h[n]? =some (.list (d.aQ.map λx=>V.int (Int.ofNat x)))
 r:h[r]? =some (.list (d.rem.map V.str))
 b:h[b]? =some (.list (d.aA.map V.str))
 k:h[k]? =some (.list (n7.map V.ref))
mutual
noncomputable def aR(h:H):M->Prop
 | .mk a n r b k d kids=>iV h a n r b k d (kids.map M.a)/\bD h kids
noncomputable def bD(h:H):List M->Prop
 | []=>True
 |m::ms=>aR h m/\bD h ms
end
mutual
noncomputable def M.addrs:M->List Nat
 | .mk a n r b k _ kids=>a::n::r::b::k::M.aS kids
noncomputable def M.aS:List M->List Nat
 | []=>[]
 |m::ms=>M.addrs m++M.aS ms
end
mutual
noncomputable def M.toT:M->T
 | .mk _ _ _ _ _ d kids=> .mk d (M.bu kids)
noncomputable def M.bu:List M->List T
 | []=>[]
 |m::ms=>M.toT m::M.bu ms
end
theorem iV.keep{S:Nat->Prop}{h h':H}{a n r b k:Nat}{d:Nd}{n7:List Nat}(x:iV h a n r b k d n7)(kp:ac S h h')(hs:¬S a/\¬S n/\¬S r/\¬S b/\¬S k):iV h' a n r b k d n7:=
 ⟨kp.some x.o hs.1,kp.some x.n hs.2.1,kp.some x.r hs.2.2.1,kp.some x.b hs.2.2.2.1,kp.some x.k hs.2.2.2.2⟩
mutual
theorem aR.keep{S:Nat->Prop}{h h':H}(kp:ac S h h'):∀{m:M},aR h m->(∀x∈m.addrs,¬S x)->aR h' m
 | .mk a n r b k d kids,⟨x,y⟩,hs=>⟨x.keep kp ⟨hs _ (by simp[M.addrs]),hs _ (by simp[M.addrs]),hs _ (by simp[M.addrs]),hs _ (by simp[M.addrs]),hs _ (by simp[M.addrs])⟩,bD.keep kp y λz hz=>hs z (by simp[M.addrs,hz])⟩
theorem bD.keep{S:Nat->Prop}{h h':H}(kp:ac S h h'):∀{ms:List M},bD h ms->(∀x∈M.aS ms,¬S x)->bD h' ms
 | [],_,_=>trivial
 |m::ms,⟨x,y⟩,hs=>⟨aR.keep kp x λz hz=>hs z (by simp[M.aS,hz]),bD.keep kp y λz hz=>hs z (by simp[M.aS,hz])⟩
end
mutual
theorem aR.lt{h:H}:∀{m:M},aR h m->∀x∈m.addrs,x<h.length
 | .mk a n r b k d kids,⟨x,y⟩,z,hz=>by
  simp only[M.addrs,SH]at hz
  rcases hz with zq|zq|zq|zq|zq|hz<;>try obtain rfl:=zq.symm
  ·exact aC x.o
  ·exact aC x.n
  ·exact aC x.r
  ·exact aC x.b
  ·exact aC x.k
  ·exact bD.lt y z hz
theorem bD.lt{h:H}:∀{ms:List M},bD h ms->∀x∈M.aS ms,x<h.length
 | [],_,z,hz=>by simp[M.aS]at hz
 |m::ms,⟨x,y⟩,z,hz=>by
  simp only[M.aS,SL]at hz
  refine Ts hz (λhz=>?_) (λhz=>?_)
  ·exact aR.lt x z hz
  ·exact bD.lt y z hz
end
theorem aR.grow{h h':H}(kp:ac ax h h'){m:M}(x:aR h m):aR h' m:=x.keep kp λ_ _ z=>z
theorem jX(ms:List M):M.bu ms=ms.map M.toT:=by
 induction ms with
 |nil=>rfl
 |cons m ms ih=>rw[M.bu,ih];rfl
theorem n8(m:M):m.toT.d=m.d:=by rcases m with⟨⟩;rfl
theorem bD.mem{h:H}:∀{ms:List M},bD h ms->∀m∈ms,aR h m
 |m::ms,⟨x,y⟩,z,hz=>by
  refine Ts (SH.mp hz) (λzq=>?_) (λhz=>?_)<;>try obtain rfl:=zq.symm
  ·exact x
  ·exact bD.mem y z hz
theorem DA:∀{ms:List M} {m:M},m∈ms->∀x∈m.addrs,x∈M.aS ms
 |m'::ms,m,hm,x,hx=>by
  refine Ts (SH.mp hm) (λzq=>?_) (λhm=>?_)<;>try obtain rfl:=zq.symm
  ·simp[M.aS,hx]
  ·simp[M.aS,DA hm x hx]
noncomputable def NO(h:H)(o:Nat)(v:V)(p:Pc):Prop:=∃x,v= .ref x/\x≠o/\h[x]? =some (.tup [.str p.1,.bool p.2])
noncomputable abbrev kY(h:H)(o:Nat):List V->List Pc->Prop:=A2 (NO h o)
theorem kY.keep{h h':H}{o:Nat}(k:ac (· =o) h h'){vs:List V}{ps:List Pc}(x:kY h o vs ps):kY h' o vs ps:=x.imp λ_ _ x=>aN x λy e n z=>⟨y,e,n,k.some z n⟩
noncomputable def cC(h:H)(o:Nat)(ps:List Pc):Prop:=∃vs,h[o]? =some (.list vs)/\kY h o vs ps
theorem cC.keep{h h':H}{o:Nat}{ps:List Pc}(k:ac ax h h')(x:cC h o ps):cC h' o ps:=by
 refine am x λvs a b=>?_;clear x
 exact⟨vs,k.some a id,b.keep (k.mono λ_ _ z=>z.elim)⟩
theorem cC.lt{h:H}{o:Nat}{ps:List Pc}(x:cC h o ps):o<h.length:=by refine am x λvs a _=>?_;clear x;exact aC a
theorem cC.add{h:H}{o:Nat}{ps:List Pc}{vs:List V}(e:h[o]? =some (.list vs))(x:kY h o vs ps)(p:Pc):
  cC ((h++[O.tup [V.str p.1,V.bool p.2]]).set o (O.list (vs++[V.ref h.length]))) o (ps++[p])/\ac (· =o) h ((h++[O.tup [V.str p.1,V.bool p.2]]).set o (O.list (vs++[V.ref h.length]))):=by
 have hl:=aC e
 have k:ac (· =o) h ((h++[O.tup [V.str p.1,V.bool p.2]]).set o (O.list (vs++[V.ref h.length]))):=ac.push.trans (ac.set rfl)
 refine⟨⟨_,bq (o:=O.list vs) (by rw[SA hl];exact e),(x.keep k).app (.cons ⟨_,rfl,TV hl,?_⟩ .nil)⟩,k⟩
 rw[S0 (SX hl)]
 simp
noncomputable def bU:Atom->List Pc
 | .rem t=>if 125∈t then [(59::t,true)]else (bH 32 [] (123::(t++[125]))).map (·,false)
 | .num p=>[(jS p,false)]
 | .word w=>[(w,false)]
 | .cv n=>[(36::cG n,false)]
 | .op=>[([40],false)]
 | .cl=>[([41],false)]
noncomputable def lp(l:List Atom):List Pc:=l.flatMap bU
theorem fU(a b:List Atom):lp (a++b)=lp a++lp b:=Uq
theorem kZ{Γ:ay}{n o:Nat}{ρ:Loc}{h:H}{P:PS}{zs:Ss}{a:E}{es:Es}{w:List Nat}{b:Bool}{ps:List Pc}(pa:ai aw ρ a h=some (.ref o,h))(ho:cC h o ps)(pe:ch aw ρ es h=some ([.str w,.bool b],h))(l:ps.length<lim)(k:∀h',ac (· =o) h h'->cC h' o (ps++[(w,b)])->ag aw Γ n zs ρ h' P):ag aw Γ n (.cons (.expr (.append a (.tup es))) zs) ρ h P:=by
 refine am ho λvs ev pv=>?_
 have ad:=cC.add ev pv (w,b)
 exact bP pa ev (jm pe) ((ac.push (S:=ax)).some ev id) (by rw[pv.length];exact l) (k _ ad.2 ad.1)
section
variable{Γ:ay}(G:Prog Γ)
include G
theorem yc{n m o:Nat}{rs:List (List Nat)}{ps:List Pc}{h:H}(hm:h[m]? =some (.list (rs.map V.str)))(ho:cC h o ps)(hmo:m≠o)(hr:∀r∈rs,r.length+10<lim)(hb:ps.length+(lp (rs.map Atom.rem)).length<=lim){Q X:Post}
  (q:∀h',ac (· =o) h h'->cC h' o (ps++lp (rs.map Atom.rem))->Q .none h'):Γ n 48 [.ref m,.ref o] h Q X:=by
 refine G.intro rfl (by decide) ⟨rfl,?_⟩
 have hlim:=hlim
 refine gP G.mono (m:=m) (xs:=rs.map V.str) (λi ρ h'=>∃x y,ρ=[some (.ref m),some (.ref o),x,y]/\ac (· =o) h h'/\cC h' o (ps++lp ((rs.take i).map Atom.rem))) (aM _ rfl ⟨rfl,none,none,rfl,ac.refl,by simpa[lp]using ho⟩) (λi ρ h' ii=>?_) (λnP i x ρ h' kP hx ii=>?_) (λρ h' ii=>?_)
 ·refine bx ii λx y ae k e=>?_;clear ii
  exact k.some hm hmo
 ·refine bx ii λy1 y2 ae k e=>?_;clear ii;subst ae
  refine am (fQ hx) λr er bB=>?_;subst bB
  have hrl:=hr r (Sy er:r∈rs)
  have et:rs.take (i+1)=rs.take i++[r]:=by rw[Tg,er];rfl
  have el:lp ((rs.take (i+1)).map Atom.rem)=lp ((rs.take i).map Atom.rem)++bU (.rem r):=by
   rw[et,SN,fU];simp[lp]
  have hlen:(lp ((rs.take i).map Atom.rem)).length+(bU (.rem r)).length<=(lp (rs.map Atom.rem)).length:=by
   rw[(by rw[←fU,←SN,T4]:lp (rs.map Atom.rem)=lp ((rs.take (i+1)).map Atom.rem)++lp ((rs.drop (i+1)).map Atom.rem)),el];simp only[So];exact af 0xf9100 rfl
  rw[el,←Sw]at kP
  by_cases dp:125∈r
  ·have e1:bU (.rem r)=[(59::r,true)]:=by show(if _ then _ else _)=_;rw[if_pos dp]
   rw[e1]at hlen kP
   exact fu (nJ (p:=125∈r) rfl dp (kZ rfl e (aO (aV rfl rfl (add_str (by simp;exact af 0xf1901a1e19aa0 rfl hrl))) rfl) (by rw[So];rw[VZ]at hlen;exact aK 0x1f29300e191a30e2910 rfl hb hlen) λh2 k2 o2=>bp (kP _ _ ⟨_,_,rfl,k.trans k2,o2⟩)))
  ·have e1:bU (.rem r)=(bH 32 [] (123::(r++[125]))).map (·,false):=by show(if _ then _ else _)=_;rw[if_neg dp]
   rw[e1]at hlen kP
   rw[Sn]at hlen
   refine fu (ql (p:=125∈r) rfl dp (gP G.mono (m:=h'.length) (xs:=(bH 32 [] (123::(r++[125]))).map V.str) (λj ρ h2=>∃x,ρ=[some (.ref m),some (.ref o),some (.str r),x]/\ac (· =o) (h'++[.list ((bH 32 [] (123::(r++[125]))).map V.str)]) h2/\
     cC h2 o (ps++lp ((rs.take i).map Atom.rem)++((bH 32 [] (123::(r++[125]))).take j).map (·,false))) (aM (.split (.bin .add (.bin .add (.lit (.str [123])) (.loc 2)) (.lit (.str [125])))) (Ml (s:=123::(r++[125])) (aV (aV rfl rfl (add_str (by simp;exact af 0xf1901a1e19aa0 rfl hrl))) rfl (add_str (by simp;exact af 0xf191a91a01e19aa0 rfl hrl))) (by simp;exact af 0xf191a91a01e19aa0 rfl hrl)) ⟨rfl,_,rfl,ac.refl,by simpa using cC.keep ac.push e⟩) (λj ρ h2 ii=>?_) (λRY j z ρ h2 DB hz ii=>?_) (λρ h2 ii=>?_)))
   ·refine aN ii λx ae k2 e2=>?_;clear ii
    exact k2.some aE (λz=>by have:=e.lt;exact af 0xf1e012e10 rfl z this)
   ·refine aN ii λx ae k2 e2=>?_;clear ii;subst ae
    refine am (fQ hz) λw ew bB=>?_;subst bB
    have tH:(bH 32 [] (123::(r++[125]))).take (j+1)=(bH 32 [] (123::(r++[125]))).take j++[w]:=by rw[Tg,ew];rfl
    rw[tH,SN,←Sw]at DB
    have jl:=(Sr.mp ew).1
    exact fu (kZ rfl e2 rfl (by rw[So,So,Sn,TK];exact iF 0x1f2969300e561e450e19430e2910 rfl hb hlen jl (Uy _ _)) λh3 k3 o3=>bp (DB _ _ ⟨_,rfl,k2.trans k3,o3⟩))
   ·refine aN ii λx ae k2 e2=>?_;clear ii;subst ae
    rw[Sn,Tc]at e2
    exact bp (kP _ _ ⟨_,_,rfl,(k.trans ac.push).trans k2,e2⟩)
 ·refine bx ii λx y ae k e=>?_;clear ii
  rw[Sn,Tc]at e
  exact q h' k e
end
theorem ne_nil{h:H}{a b:Nat}{xs:List V}(ea:h[a]? =some (.list xs))(eb:h[b]? =some (.list [])):bX h .ne (.ref a) (.ref b)=some (!xs.isEmpty):=by
 rw[wO (ie ea) (ie eb)]
 unfold f9
 cases xs with
 |nil=>simp
 |cons x r=>simp
theorem NP{p:Nat}:binop .mul (.str [46]) (.int (1+((p%2:Nat):Int)*2))=some (.str (dots p)):=by
 show(if _ then _ else _)=_
 unfold dots
 by_cases h:p%2=0
 ·rw[if_pos h,h];rfl
 ·have h1:p%2=1:=by lia
  rw[if_neg h,h1];rfl
section
variable{Γ:ay}(G:Prog Γ)
include G
theorem DC{n a an ar ab ak o p:Nat}{told:Bool}{d:Nd}{n7:List Nat}{ps:List Pc}{h:H}(x:iV h a an ar ab ak d n7)(ok:d.Ok)(no:a≠o/\an≠o/\ar≠o/\ab≠o/\ak≠o)(ho:cC h o ps)(hp:p<1500)
  (hb:ps.length+(lp (b9 d p told)).length<lim) {Q X:Post} (q:∀h',ac (· =o) h h'->cC h' o (ps++lp (b9 d p told))->Q .none h'):Γ (n+1) 49 [.ref a,.int p,.bool told,.ref o] h Q X:=by
 refine G.intro rfl (by decide) ⟨rfl,?_⟩
 have hlim:=hlim
 have ol:=ho.lt
 have hsplit:lp (b9 d p told)=lp (d.aA.map Atom.rem)++(lp (if told||decide (p%2=0)|| !d.aA.isEmpty then [Atom.num p]else [])++([(d.word,false)]++(lp (d.aQ.map Atom.cv)++lp (d.rem.map Atom.rem)))):=by
  unfold b9
  rw[fU,fU,fU,fU];rfl
 rw[hsplit]at hb q
 simp only[So,SD,SU]at hb
 refine cT (aO (aB rfl rfl (bG x.o rfl rfl)) rfl) (yc G x.b ho no.2.2.2.1 ok.aA (by exact aK 0xf39101e399210 rfl hb) λh1 k1 e1=>⟨rfl,?_⟩)
 have nS:¬(a=o)/\¬(an=o)/\¬(ar=o)/\¬(ab=o)/\¬(ak=o):=no
 have x1:=x.keep k1 nS
 have hd:=(jR (n:=p/2+1) (by lia)).2.2.1
 have fz:∃hh,ai aw [some (.ref a),some (.int p),some (.bool told),some (.ref o),none] (.or (.loc 2) (.or (.cmp .ne (.idx (.loc 0) (.lit (.int 3))) (.lst .nil)) (.cmp .eq (.bin .mod (.loc 1) (.lit (.int 2))) (.lit (.int 0))))) h1=some (.bool (told||decide (p%2=0)|| !d.aA.isEmpty),hh)/\ac (· =o) h hh/\cC hh o (ps++lp (d.aA.map Atom.rem)):=by
  rcases told with _|_
  ·have NQ:(h1++[O.list []])[ab]? =some (O.list (d.aA.map V.str)):=(ac.push (S:=ax)).some x1.b id
   refine⟨h1++[O.list []],gK rfl rfl ?_,k1.trans ac.push,e1.keep ac.push⟩
   have c2:ai aw [some (.ref a),some (.int p),some (.bool false),some (.ref o),none] (.cmp .ne (.idx (.loc 0) (.lit (.int 3))) (.lst .nil)) h1=some (.bool (!d.aA.isEmpty),h1++[O.list []]):=
    (aH (op:= .ne) (aB rfl rfl (bG x1.o rfl rfl)) (ic rfl) (ne_nil NQ aE)).trans (by rcases d.aA with _|_<;>rfl)
   have c3:ai aw [some (.ref a),some (.int p),some (.bool false),some (.ref o),none] (.cmp .eq (.bin .mod (.loc 1) (.lit (.int 2))) (.lit (.int 0))) (h1++[O.list []])=some (.bool (decide (p%2=0)),h1++[O.list []]):=
    (aH (op:= .eq) (aV rfl rfl (mod_int (by decide))) rfl Mz).trans (congrArg (λz=>some (V.bool z,_)) (decide_eq_decide.mpr (by lia)))
   rcases h2: !d.aA.isEmpty with _|_
   ·rw[h2]at c2;exact(gK c2 rfl c3).trans (by rw[UQ,US])
   ·rw[h2]at c2;exact(lY c2 rfl).trans (by rw[VF])
  ·exact⟨h1,lY rfl rfl,k1,e1⟩
 generalize(told||decide (p%2=0)|| !d.aA.isEmpty)=b at fz hb q
 have rest:∀h2,ac (· =o) h h2->cC h2 o (ps++lp (d.aA.map Atom.rem)++lp (if b then [Atom.num p]else []))->
   ag aw Γ (n+1) (.cons (.expr (.append (.loc 3) (.tup (.cons (.idx (.loc 0) (.lit (.int 0))) (.cons (.lit (.bool false)) .nil)))))
    (.cons (.for [4] (.idx (.loc 0) (.lit (.int 1))) (.cons (.expr (.append (.loc 3) (.tup (.cons (.bin .add (.lit (.str [36])) (.strOf (.loc 4))) (.cons (.lit (.bool false)) .nil))))) .nil))
    (.cons (.expr (.call 48 (.cons (.idx (.loc 0) (.lit (.int 2))) (.cons (.loc 3) .nil)))) .nil))) [some (.ref a),some (.int p),some (.bool told),some (.ref o),none] h2 ⟨λ_ h=>Q .none h,Q,X⟩:=by
  intro h2 k2 o2
  have x2:=x.keep k2 nS
  refine kZ rfl o2 (aO (aB rfl rfl (bG x2.o rfl rfl)) rfl) (by simp only[So];exact aZ 0x1f4929101e49993210 rfl hb) λh3 js o3=>?_
  have k3:=k2.trans js
  have x3:=x.keep k3 nS
  refine gP G.mono (m:=an) (xs:=d.aQ.map λx=>V.int (Int.ofNat x)) (λi ρ h'=>∃y,ρ=[some (.ref a),some (.int p),some (.bool told),some (.ref o),y]/\ac (· =o) h h'/\cC h' o (ps++lp (d.aA.map Atom.rem)++lp (if b then [Atom.num p]else [])++[(d.word,false)]++lp ((d.aQ.take i).map Atom.cv))) (aM _ (aB rfl rfl (bG x3.o rfl rfl)) ⟨rfl,none,rfl,k3,by simpa[lp]using o3⟩) (λi ρ h' ii=>?_) (λnP i v ρ h' kP hv ii=>?_) (λρ h' ii=>?_)
  ·refine aN ii λy ae k e=>?_;clear ii
   exact k.some x.n no.2.1
  ·refine aN ii λy ae k e=>?_;clear ii;subst ae
   refine am (fQ hv) λg er bB=>?_;subst bB
   have hg:=ok.aQ g (Sy er)
   have hil:=(Sr.mp er).1
   have hnl:∀l:List Nat,(lp (l.map Atom.cv)).length=l.length:=λl=>by
    induction l with
    |nil=>rfl
    |cons z r ih=>rw[Th];show(bU (Atom.cv z)++lp (r.map Atom.cv)).length=_;simp[bU,ih]
   have e9:lp ((d.aQ.take (i+1)).map Atom.cv)=lp ((d.aQ.take i).map Atom.cv)++[(36::cG g,false)]:=by
    rw[Tg,er,Wh,SN,fU];rfl
   rw[e9,←Sw]at kP
   have hdg:=(jR (n:=g) (by exact av 0x1f3e83b00eff2b0 rfl hg)).2.2.1
   exact fu (kZ rfl e (aO (aV rfl (s7 rfl ⟨T8 g,Tf.mpr (Tq hg (by decide))⟩) (add_str (by simp;exact af 0xf0911a0e3a13ef42405b0 rfl hlim hdg))) rfl) (by simp only[So,SD,SU,hnl,TK]at hb ⊢;exact uL 0x1f69793929100e471e699999543210 rfl hb (TD _ _)) λh4 k4 o4=>bp (kP _ _ ⟨_,rfl,k.trans k4,o4⟩))
  ·refine aN ii λy ae k e=>?_;clear ii;subst ae
   rw[Sn,Tc]at e
   have x4:=x.keep k nS
   refine cT (aO (aB rfl rfl (bG x4.o rfl rfl)) rfl) (yc G x4.r e no.2.2.1 ok.rem (by simp only[So,SD,SU];exact iF 0xf6959493929101e699999543210 rfl hb) λh5 k5 e5=>⟨rfl,?_⟩)
   refine q h5 (k.trans k5) ?_
   simpa[Sw]using e5
 refine aN fz λhh c kh oh=>?_;clear fz
 rcases b with _|_
 ·exact xi c rfl (rest hh kh (by simpa[lp]using oh))
 ·have hd:=(jR (n:=p/2+1) (by lia)).2.2.1
  have nv:(dots p).length<=3:=by unfold dots;split<;>simp
  exact xh c rfl (kZ rfl oh (aO (aV (s7 (k:=((p/2+1:Nat):Int)) (aV (aV rfl rfl (xF (by decide))) rfl rfl) (by lia)) (aV rfl (aV rfl (aV (aV rfl rfl (mod_int (by decide))) rfl (mul_int (by constructor<;>lia))) rfl) (NP (p:=p))) (add_str (by exact ah 0xf09210e3a20e3a13ef42405b0 rfl hlim hd nv))) rfl) (by simp only[So];exact aK 0x1f39101e399210 rfl hb) λh4 k4 o4=>k_end (rest h4 (kh.trans k4) o4))
end
mutual
noncomputable def T.ok:T->Prop
 | .mk d ks=>d.Ok/\T.fj ks
noncomputable def T.fj:List T->Prop
 | []=>True
 |t::ts=>T.ok t/\T.fj ts
end
theorem T.n9{t:T}(h:t.ok):t.d.Ok:=by rcases t with⟨⟩;exact h.1
theorem DD:∀{ts:List T},T.fj ts->∀t∈ts,t.ok
 |t::ts,h,u,hu=>by
  rcases SH.mp hu with rfl|hu
  ·exact h.1
  ·exact DD h.2 u hu
noncomputable def M.sz(m:M):Nat:=m.toT.sz
theorem og(ms:List M):(M.bu ms).length=ms.length:=by rw[jX];simp
theorem aR.nd{h:H}{m:M}(x:aR h m):∃n r b k,iV h m.a n r b k m.d (m.kids.map M.a)/\bD h m.kids/\(∀i,i=m.a\/i=n\/i=r\/i=b\/i=k->i∈m.addrs):=by
 cases m with
 |mk a n r b k d kids=>exact⟨n,r,b,k,x.1,x.2,λi hi=>by simp[M.addrs,M.a]at hi ⊢;lia⟩
theorem tM{m:M}{c:M}(hc:c∈m.kids):∀x∈c.addrs,x∈m.addrs:=by
 cases m with
 |mk a n r b k d kids=>
  intro x hx
  have:x∈M.aS kids:=DA hc x hx
  simp[M.addrs,this]
theorem NR{m:M}:∀x∈M.aS m.kids,x∈m.addrs:=by
 cases m with
 |mk a n r b k d kids=>
  intro x hx
  have:x∈M.aS kids:=hx
  simp[M.addrs,this]
theorem tN{m:M}:m.sz=1+T.bt (M.bu m.kids):=by
 rcases m with⟨⟩;simp[M.sz,M.toT,T.sz,M.kids]
theorem tO{m c:M}(hc:c∈m.kids):c.sz<=T.bt (M.bu m.kids):=by
 rw[jX];exact xU (Ua hc)
theorem yd{m:M}(h:m.toT.ok):∀c∈m.kids,c.toT.ok:=by
 cases m with
 |mk a n r b k d kids=>
  intro c hc
  have h2:T.fj (M.bu kids):=h.2
  rw[jX]at h2
  exact DD h2 _ (Ua hc)
theorem n9{m:M}(h:m.toT.ok):m.d.Ok:=by have:=T.n9 h;rw[n8]at this;exact this
section
variable{Γ:ay}(G:Prog Γ)
include G
theorem NS:∀(N:Nat) {n p o:Nat} {told:Bool} {m:M} {ps:List Pc} {h:H},m.sz<=N->aR h m->m.toT.ok->(∀x∈m.addrs,x≠o)->cC h o ps->p+m.sz<=1500->ps.length+(lp (aY p told m.toT)).length<lim->
  ∀{Q X:Post},(∀h',ac (· =o) h h'->cC h' o (ps++lp (aY p told m.toT))->Q .none h')->Γ (n+N+2) 50 [.ref m.a,.int p,.bool told,.ref o] h Q X:=by
 intro N
 induction N with
 |zero=>intro n p o told m ps h hs;have:=m.toT.ik;unfold M.sz at hs;lia
 |succ N ih=>
  intro n p o told m ps h hs hm ok no ho hp hb Q X q
  refine G.intro rfl (by decide) ⟨rfl,?_⟩
  have hlim:=hlim
  refine fH hm.nd λan ar ab ak nd ks hin=>?_
  have nS:¬(m.a=o)/\¬(an=o)/\¬(ar=o)/\¬(ab=o)/\¬(ak=o):=⟨no _ (hin _ (by exact .inl (rfl))),no _ (hin _ (by exact .inr (.inl (rfl)))),no _ (hin _ (by exact .inr (.inr (.inl (rfl))))),no _ (hin _ (by exact .inr (.inr (.inr (.inl (rfl)))))),no _ (hin _ (by exact .inr (.inr (.inr (.inr (rfl))))))⟩
  have NT:aY p told m.toT=bN p told (m.kids.map M.toT):=by
   rcases m with⟨⟩;simp only[M.toT,aY,M.kids,jX]
  rw[NT]at hb q
  have hsz:=tN (m:=m)
  have jY:∀c∈m.kids,c.sz<=T.bt (M.bu m.kids):=λc hc=>tO hc
  have qI:∀c∈m.kids,c.toT.ok:=yd ok
  have dA:∀c∈m.kids,∀x∈c.addrs,x≠o:=λc hc x hx=>no x (tM hc x hx)
  have k8:m.kids.length<=T.bt (M.bu m.kids):=by have:=mu (M.bu m.kids);rw[og]at this;exact this
  have ye:(h++[O.list []])[ak]? =some (O.list ((m.kids.map M.a).map V.ref)):=(ac.push (S:=ax)).some nd.k id
  have k9:∀{ρ:Loc},cg ρ 4=some (.ref ak)->ai aw ρ (.cmp .ne (.loc 4) (.lst .nil)) h=some (.bool (!((m.kids.map M.a).map V.ref).isEmpty),h++[O.list []]):=λg=>aH (op:= .ne) (eP g) (ic rfl) (ne_nil ye aE)
  have k1:ac (· =o) h (h++[O.list []]):=ac.push
  have o1:cC (h++[O.list []]) o ps:=ho.keep ac.push
  refine bd (aB rfl rfl (bG nd.o rfl rfl)) ?_
  rcases hk:m.kids with _| ⟨c0,cr⟩
  ·rw[hk]at q k9
   exact xi (k9 rfl) rfl (q (h++[O.list []]) k1 (by simpa[bN,lp]using o1))
  ·have iu:=ye
   rw[hk]at k9
   refine xh (k9 rfl) rfl ?_
   clear k9 ye
   generalize h++[O.list []]=h1 at iu k1 o1 ⊢
   rw[hk]at q hb hsz jY qI dA iu k8
   simp only[Th]at iu
   have jr:=bD.keep k1 ks λx hx=>no x (NR x hx)
   rw[hk]at jr
   have iw:c0∈c0::cr:=Sq
   have hT:(c0::cr).map M.toT=c0.toT::cr.map M.toT:=rfl
   rw[hT]at hb q
   have NU:lp (bN p told (c0.toT::cr.map M.toT))=lp (b9 c0.d p told)++(lp ((cr.map M.toT).flatMap (eS p))++lp (aY (p+1) (bO c0.d|| !cr.isEmpty) c0.toT)):=by
    rw[bN,fU,fU,xV,n8]
    have:(cr.map M.toT).isEmpty=cr.isEmpty:=by rcases cr with⟨⟩<;>rfl
    rw[this]
   rw[NU]at hb q
   simp only[So]at hb
   have hz0:=jY c0 iw
   refine fH jr.1.nd λbn br bb bk tG _ qJ=>?_
   have DE:c0.a≠o/\bn≠o/\br≠o/\bb≠o/\bk≠o:=⟨dA _ iw _ (qJ _ (by exact .inl (rfl))),dA _ iw _ (qJ _ (by exact .inr (.inl (rfl)))),dA _ iw _ (qJ _ (by exact .inr (.inr (.inl (rfl))))),dA _ iw _ (qJ _ (by exact .inr (.inr (.inr (.inl (rfl)))))),dA _ iw _ (qJ _ (by exact .inr (.inr (.inr (.inr (rfl))))))⟩
   have RZ:=c0.toT.ik
   refine cT (aO (aB rfl rfl (bG iu rfl rfl)) rfl) ?_
   refine DC G (n:=n+N+1) tG (n9 (qI _ iw)) DE o1 (by unfold M.sz at hz0;exact aK 0x1f203e931a10e2910 rfl hp hsz) (by exact aK 0x1f39101e399210 rfl hb) λh2 k2 o2=>⟨rfl,?_⟩
   have K2:=k1.trans k2
   have R0:=bD.keep k2 jr λx hx=>by
    simp only[M.aS,SL]at hx
    refine Ts hx (λhx=>?_) (λhx=>?_)
    ·exact dA _ iw x hx
    ·have:∀l:List M,(∀c∈l,∀x∈c.addrs,x≠o)->x∈M.aS l->x≠o:=λl=>by
      induction l with
      |nil=>intro _ z;simp[M.aS]at z
      |cons c l ihl=>
       intro hc z
       simp only[M.aS,SL]at z
       refine Ts z (λz=>?_) (λz=>?_)
       ·exact hc c (by simp) x z
       ·exact ihl (λc hc'=>hc c (by simp[hc'])) z
     exact this cr (λc hc=>dA c (by simp[hc])) hx
   have NV:∀i,(lp (((cr.map M.toT).take i).flatMap (eS p))).length<=(lp ((cr.map M.toT).flatMap (eS p))).length:=λi=>by
    rw[(by rw[←Uq,T4]:(cr.map M.toT).flatMap (eS p)=((cr.map M.toT).take i).flatMap (eS p)++((cr.map M.toT).drop i).flatMap (eS p)),fU,So];exact af 0xf9100 rfl
   have hnc:ak≠o:=nS.2.2.2.2
   have DF:cr.length<=1500:=by simp only[SD]at k8;exact aZ 0xf233e941a10e491a30e2910 rfl hp k8 hsz
   refine gP G.mono (m:=h2.length) (xs:=(cr.map M.a).map V.ref) (λi ρ h'=>∃y,ρ=[some (.ref m.a),some (.int p),some (.bool told),some (.ref o),some (.ref ak),y]/\ac (· =o) (h2++[O.list ((cr.map M.a).map V.ref)]) h'/\cC h' o (ps++lp (b9 c0.d p told)++lp (((cr.map M.toT).take i).flatMap (eS p)))) ?_ (λi ρ h' ii=>?_) (λnP i v ρ h' kP hv ii=>?_) (λρ h' ii=>?_)
   ·have iU:bh (some (1:Int)) none (V.ref c0.a::(cr.map M.a).map V.ref)=(cr.map M.a).map V.ref:=tj (a:=1) (by simp)
    refine aM _ (qj rfl rfl (nG (k2.some iu nS.2.2.2.2) (by simp;exact af 0xf091a10e5dc3b13ef42405b0 rfl hlim DF))) ?_
    rw[iU]
    exact⟨rfl,none,rfl,ac.refl,by simpa[lp]using o2.keep ac.push⟩
   ·refine aN ii λy ae k e=>?_;clear ii
    exact k.some aE (λz=>by have:=o2.lt;exact af 0xf1e012e10 rfl z this)
   ·refine aN ii λy ae k e=>?_;clear ii;subst ae
    rw[Vd]at hv
    refine am (fQ hv) λc er bB=>?_;subst bB
    have cD:c∈c0::cr:=Su _ (Sy er)
    have et:(cr.map M.toT).take (i+1)=(cr.map M.toT).take i++[c.toT]:=by rw[Tg,TT,er];rfl
    have hfl:=NV (i+1)
    have nV:lp (((cr.map M.toT).take (i+1)).flatMap (eS p))=lp (((cr.map M.toT).take i).flatMap (eS p))++([([40],false)]++(lp (b9 c.d p true)++(lp (aY (p+1) (bO c.d) c.toT)++[([41],false)]))):=by
     rw[et,Uq,fU]
     congr 1
     simp only[TU,List.flatMap_nil,SM,eS,fU,n8,Sw];rfl
    rw[nV]at hfl kP
    simp only[So,SD,SU]at hfl
    have lc:=jY c cD
    have R1:=c.toT.ik
    refine fu (kZ rfl e rfl (by simp only[So];exact iF 0x1f4959100e29651e49993210 rfl hb hfl) λh3 ka oa=>?_)
    have hc3:aR h3 c:=((jr.mem c cD:aR h1 c).keep ((k2.trans ac.push).trans k:ac (· =o) h1 h') (dA c cD):aR h' c).keep ka (dA c cD)
    refine fH hc3.nd λcn DG cb ck oi _ qK=>?_
    have DH:c.a≠o/\cn≠o/\DG≠o/\cb≠o/\ck≠o:=⟨dA _ cD _ (qK _ (by exact .inl (rfl))),dA _ cD _ (qK _ (by exact .inr (.inl (rfl)))),dA _ cD _ (qK _ (by exact .inr (.inr (.inl (rfl))))),dA _ cD _ (qK _ (by exact .inr (.inr (.inr (.inl (rfl)))))),dA _ cD _ (qK _ (by exact .inr (.inr (.inr (.inr (rfl))))))⟩
    refine cT rfl ?_
    refine DC G (n:=n+N+1) oi (n9 (qI _ cD)) DH oa (by unfold M.sz at lc;exact aK 0x1f203e931a10e2910 rfl hp hsz) (by simp only[So,SD,SU];exact uM 0x1f49796959100e2999087651e49993210 rfl hb hfl) λh4 k4 o4=>⟨rfl,?_⟩
    have yf:=oi.keep k4 DH
    have yg:(h4++[O.list []])[DG]? =some (O.list (c.d.rem.map V.str)):=by rw[SA (aC yf.r)];exact yf.r
    have yh:(!(c.d.rem.map V.str).isEmpty)=bO c.d:=by unfold bO;rcases c.d.rem with⟨⟩<;>rfl
    refine cT (aO rfl (aO rfl (aO ((aH (op:= .ne) (aB rfl rfl (bG yf.o rfl rfl)) (ic rfl) (ne_nil yg aE)).trans (by rw[yh])) rfl))) ?_
    refine ih (n:=n) (by exact aK 0xf130e233e921a00e91a10 rfl hs hsz lc) ((hc3.keep k4 (dA c cD):aR h4 c).grow ac.push:aR (h4++[O.list []]) c) (qI c cD) (dA c cD) (o4.keep ac.push) (by exact aZ 0xf29491a00e343e931a10e2910 rfl hp hsz lc) (by simp only[So,SD,SU];exact uM 0x1f49089796959100e299996087651e49993210 rfl hb hfl) λh6 k6 o6=>⟨rfl,?_⟩
    refine kZ rfl o6 rfl (by simp only[So,SD,SU];exact uM 0x1f49089796959100e299996087651e49993210 rfl hb hfl) λh7 k7 o7=>bp (kP _ _ ⟨_,rfl,(((k.trans ka).trans k4).trans ac.push).trans (k6.trans k7),?_⟩)
    simpa[Sw]using o7
   ·refine aN ii λy ae k e=>?_;clear ii;subst ae
    rw[Sn,Sn]at e
    rw[show(cr.map M.toT).take cr.length=cr.map M.toT by rw[VP (by simp)]]at e
    have kc:ac (· =o) h1 h':=(k2.trans ac.push).trans k
    have yi:=kc.some iu nS.2.2.2.2
    have nW:=tG.keep kc DE
    have fin:∀h3,ac (· =o) h1 h3->aR h3 c0->cC h3 o (ps++lp (b9 c0.d p told)++lp ((cr.map M.toT).flatMap (eS p)))->Γ (n+N+2) 50 [.ref c0.a,.int ((p+1:Nat):Int),.bool (bO c0.d|| !cr.isEmpty),.ref o] h3 (λv h=>v= .none/\Q .none h) bot:=by
     intro h3 k3 hc3 o3
     refine ih (n:=n) (by exact aK 0xf130e233e921a00e91a10 rfl hs hsz hz0) hc3 (qI c0 iw) (dA c0 iw) o3 (by exact aZ 0xf29491a00e343e931a10e2910 rfl hp hsz hz0) (by simp only[So];exact aZ 0x1f493929101e49993210 rfl hb) λh6 k6 o6=>⟨rfl,?_⟩
     refine q h6 ((k1.trans k3).trans k6) ?_
     simpa[Sw]using o6
    have yg:(h'++[O.list []])[br]? =some (O.list (c0.d.rem.map V.str)):=by rw[SA (aC nW.r)];exact nW.r
    have yh:(!(c0.d.rem.map V.str).isEmpty)=bO c0.d:=by unfold bO;rcases c0.d.rem with⟨⟩<;>rfl
    have hf:=fin _ (kc.trans ac.push:ac (· =o) h1 (h'++[O.list []])) (((jr.mem c0 iw).keep kc (dA c0 iw):aR h' c0).grow ac.push) (e.keep ac.push)
    have yj:(h'++[O.list []])[ak]? =some (O.list ((c0::cr).map M.a |>.map V.ref)):=(ac.push (S:=ax)).some yi id
    have cl:∀{ρ:Loc},cg ρ 4=some (.ref ak)->ai aw ρ (.or (.cmp .ne (.idx (.idx (.loc 4) (.lit (.int 0))) (.lit (.int 2))) (.lst .nil)) (.cmp .gt (.len (.loc 4)) (.lit (.int 1)))) h'=some (.bool (bO c0.d|| !cr.isEmpty),h'++[O.list []]):=by
     intro ρ g
     have c2:ai aw ρ (.cmp .ne (.idx (.idx (.loc 4) (.lit (.int 0))) (.lit (.int 2))) (.lst .nil)) h'=some (.bool (bO c0.d),h'++[O.list []]):=(aH (op:= .ne) (aB (aB (eP g) rfl (bG yi rfl rfl)) rfl (bG nW.o rfl rfl)) (ic rfl) (ne_nil yg aE)).trans (by rw[yh])
     rcases ht:bO c0.d with _|_
     ·rw[ht]at c2
      refine gK c2 rfl ((aH (op:= .gt) (be (eP g) (dn yj) (SR.mpr (by simp;exact af 0xf091a10e5dc3b13ef42405b0 rfl hlim DF))) rfl cmp_gt).trans ?_)
      rw[show decide ((((c0::cr).map M.a |>.map V.ref).length:Int)>1)=(false|| !cr.isEmpty)by rcases cr with _| ⟨z,r⟩;rfl;simp;lia]
     ·rw[ht]at c2
      exact lY c2 rfl
    exact cT (aO (aB rfl rfl (bG yi rfl rfl)) (aO rfl (aO (cl rfl) rfl))) hf
end
end Mine
namespace Mine
theorem NW(v:List Nat):cS 34 [92,34] (cS 92 [92,92] v)=bI v:=by
 induction v with
 |nil=>rfl
 |cons c r ih=>
  have app:∀a b:List Nat,cS 34 [92,34] (a++b)=cS 34 [92,34] a++cS 34 [92,34] b:=λa b=>by
   induction a with
   |nil=>rfl
   |cons x a ih=>rw[Te,cS,cS,ih];simp
  rw[cS,app,ih,xG]
  congr 1
  unfold gQ
  by_cases h1:c=92
  ·subst h1;rfl
  ·rw[if_neg h1]
   by_cases h2:c=34
   ·subst h2;rfl
   ·rw[if_neg (by simp;exact⟨h2,h1⟩),cS,if_neg h2];rfl
theorem DI(c:Nat)(y:List Nat)(hy:y.length<=2)(h1:1<=y.length):∀s:List Nat,(cS c y s).length<=2*s.length
 | []=>by simp[cS]
 |d::r=>by
  have:=DI c y hy h1 r
  rw[cS]
  split<;>simp<;>lia
noncomputable def roomOf(w:Nat)(row:List Nat):Int:=if row=[]then-1 else max ((w:Int)-row.length) 0
theorem NX{w:Nat}{ps:List Pc}{res:List Nat}(h:res≠[]):(bY w (ps++[(res,false)])).2≠[]:=by
 rw[x8]
 unfold cB
 simp only[T9,if_false]
 split
 ·exact h
 ·split
  ·exact h
  ·simp
theorem mx(rows:List (List Nat))(r:List Nat):lines (rows++[r])=lines rows++(r++[10]):=by simp[lines]
theorem NY{t:Tag}(ok:gW t):(c9 t).length<=771:=by
 have:=ok.name.2.1
 have:=(mo t.2).2
 have:=ok.len
 simp[c9];lia
theorem tP:∀l:List Tag,(∀t∈l,gW t)->(lines (l.map c9)).length<=772*l.length
 | [],_=>by simp[lines]
 |t::l,h=>by
  have a:=tP l λx hx=>h x (Su _ hx)
  have b:=NY (h t Sq)
  rw[qE]at a ⊢
  simp at*;exact ah 0xfc91a23043b9191a00ec23043b10e3033b0 rfl b a
theorem kY.get{h:H}{o:Nat}{vs:List V}{ps:List Pc}(x:kY h o vs ps){i:Nat}{v:V}(e:vs[i]? =some v):∃y p,v= .ref y/\ps[i]? =some p/\h[y]? =some (.tup [.str p.1,.bool p.2]):=
 am (x.at e) λp a z=>aN z λy b _ c=>⟨y,p,b,a,c⟩
theorem qL{a b c:List Nat}(l:a.length+b.length<=lim)(e:a++b=c):binop .add (.str a) (.str b)=some (.str c):=e▸add_str l
theorem DJ{T:Top}{ρ:Loc}{a b:E}{h h1 h2:H}{i j:Int}(pa:ai T ρ a h=some (.int i,h1))(pb:ai T ρ b h1=some (.int j,h2)):ai T ρ (.max2 a b) h=some (.int (max i j),h2):=bC pa (bC pb rfl)
theorem tQ{T:Top}{Γ:ay}{n y:Nat}{h:H}{xs:List V}{is:List Nat}{b:Ss}{R:Post}{ρ:Loc}{N:Loc->H->Prop}(e:h[y]? =some (.tup xs))(hk:is.length≠1)(hl:xs.length=is.length)(k:ag T Γ n b (dF ρ is xs) h ⟨N,R,bot⟩):eM T Γ n is b R (.ref y) ρ h N:=ft (ya hk e hl) k
theorem NZ{T:Top}{Γ:ay}{n i:Nat}{op:Op}{ρ:Loc}{h:H}{x:V}{e:E}{zs:Ss}{P:PS}(g:cg ρ i=some x)(k:aj T Γ n e ρ h λv h=>match binop op x v with|some r=>ag T Γ n zs (bE ρ i r) h P|Option.none=>False):ag T Γ n (.cons (.aug i op e) zs) ρ h P:=Ct (iO g k)
theorem N1{T:Top}{Γ:ay}{n i:Nat}{ρ:Loc}{h:H}{v:List Nat}{Q:Post}(g:cg ρ i=some (.str v))(l:v.length<=255)(k:Q (.str (bI v)) h):aj T Γ n (.replace (.replace (.loc i) [92] [92,92]) [34] [92,34]) ρ h Q:=by
 have hlim:=hlim
 have r1:=DI 92 [92,92] (by simp) (by simp) v
 have r2:=(mo v).2
 refine iO g ⟨by exact ah 0xf120ec02a23ef42405b14eff2b0 rfl l hlim r1,by exact af 0xf103ef42405b10eff2b0 rfl l hlim,?_⟩
 show _/\_/\Q (.str (cS 34 [92,34] (cS 92 [92,92] v))) h
 rw[NW]
 exact⟨by exact ah 0xf120ec02a23ef42405b14eff2b0 rfl l hlim r2,by exact ah 0xf120ec02a23ef42405b14eff2b0 rfl l hlim r1,k⟩
section
variable{Γ:ay}(G:Prog Γ)
include G
theorem N5{n N m p w:Nat}{tags:List Tag}{t:M}{res:List Nat}{h:H}(tg:bT h m tags)(tok:∀x∈tags,gW x)(tl:tags.length<=6)(hm:aR h t)(ok:t.toT.ok)(hN:t.sz<=N)(hp:p+t.sz<=1500)(hres:res≠[])
  (hne:∀x∈lp (t.d.rem.map Atom.rem++aY p true t.toT)++[(res,false)],x.1≠[]) (hb:weight (lp (t.d.rem.map Atom.rem++aY p true t.toT)++[(res,false)])+10000<lim) {Q X:Post}
  (q:∀h',ac ax h h'->Q (.str (fE tags w (lp (t.d.rem.map Atom.rem++aY p true t.toT)++[(res,false)]))) h'):Γ (n+N+3) 51 [.ref m,.ref t.a,.int p,.str res,.int w] h Q X:=by
 refine G.intro rfl (by decide) ⟨rfl,?_⟩
 have hlim:=hlim
 have hwl:=qD (lp (t.d.rem.map Atom.rem++aY p true t.toT)++[(res,false)])
 have DK:=NX (w:=w) (ps:=lp (t.d.rem.map Atom.rem++aY p true t.toT)) hres
 have fA:(lp (t.d.rem.map Atom.rem)).length+(lp (aY p true t.toT)).length+1=(lp (t.d.rem.map Atom.rem++aY p true t.toT)++[(res,false)]).length:=by
  rw[fU];simp only[So,SD,SU]
 have DL:[]++lp (t.d.rem.map Atom.rem)++lp (aY p true t.toT)++[(res,false)]=lp (t.d.rem.map Atom.rem++aY p true t.toT)++[(res,false)]:=by rw[fU];rfl
 refine am tg λas nZ hat=>?_;clear tg
 have hal:=hat.length
 have hml:=aC nZ
 have K0:ac ax h (h++[O.list []]):=ac.push
 have DM:∀x∈t.addrs,x≠h.length:=λx hx=>SX (hm.lt x hx)
 have yk:∀{i:Nat},i<h.length->¬i=h.length:=SX
 refine fH (hm.grow K0:aR (h++[O.list []]) t).nd λan ar ab ak nd _ hin=>?_
 refine bd (ic rfl) ?_
 refine cT (aO (aB rfl rfl (bG nd.o rfl rfl)) rfl) ?_
 refine yc G (n:=n+N+2) nd.r (⟨[],aE,.nil⟩:cC (h++[O.list []]) h.length []) (DM _ (hin _ (by exact .inr (.inr (.inl (rfl)))))) (n9 ok).rem (by simp only[SU];exact dU 0xf2940a2e391a9540e0c32a1e2910 rfl hb hwl fA) λh2 k2 o2=>⟨rfl,?_⟩
 have K2:ac ax h h2:=K0.then k2 λi hi z=>yk hi z
 refine cT rfl ?_
 refine NS G N (n:=n) hN (hm.grow K2) ok DM o2 hp (by simp only[So,SU];exact dU 0x1f295940a2e391a9540e0c32a1e2910 rfl hb hwl fA) λh3 k3 o3=>⟨rfl,?_⟩
 refine kZ rfl o3 rfl (by simp only[So,SU];exact dU 0x1f295940a2e391a9540e0c32a1e2910 rfl hb hwl fA) λh4 k4 o4=>?_
 have K4:=(K2.then k3 λi hi z=>yk hi z:ac ax h h3).then k4 λi hi z=>yk hi z
 rw[DL]at o4
 clear k2 k3 k4 o2 o3 nd hin hm ok DL fA hwl
 generalize lp (t.d.rem.map Atom.rem++aY p true t.toT)++[(res,false)]=PS at*
 refine am o4 λyl N6 N7=>?_;clear o4
 refine bd rfl ?_
 refine gP G.mono (m:=m) (xs:=as.map V.ref) (λi ρ h'=>∃y7 y8,ρ=[some (.ref m),some (.ref t.a),some (.int p),some (.str res),some (.int w),some (.ref h.length),some (.str (lines ((tags.take i).map c9))),y7,y8,none,none,none]/\h'=h4) (aM _ rfl ⟨rfl,none,none,rfl,rfl⟩) (λi ρ h' ii=>?_) (λnP i v ρ h' kP hv ii=>?_) (λρ h' ii=>?_)
 ·refine bK ii λy7 y8 ae az=>?_;subst az
  exact K4.some nZ id
 ·refine bK ii λy7 y8 ae az=>?_;clear ii;subst ae;subst az
  refine am (fQ hv) λx er bB=>?_;subst bB
  refine am (hat.at er) λtg qF ht=>?_
  have hok:=tok _ (Sy qF)
  have et:lines ((tags.take (i+1)).map c9)=lines ((tags.take i).map c9)++([91]++tg.1++[32,34]++bI tg.2++[34,93,10]):=by
   rw[Tg,qF,SN,jW]
   congr 1
   simp[lines,c9]
  have my:=tP (tags.take i) λx hx=>tok x (List.mem_of_mem_take hx)
  have hlt:(tags.take i).length<=6:=by simp;exact af 0xf6a10e010e6a0 rfl tl (TD _ _)
  rw[et]at kP
  have hn:=hok.name.2.1
  have hv2:=hok.len
  have R2:=(mo tg.2).2
  have N8:=@So Nat
  refine tQ (K4.some ht id) (by decide) rfl ?_
  refine NZ rfl (CJ (CI (aV (aV rfl rfl (add_str ?_)) rfl (add_str ?_)) (N1 rfl hv2 (iO (add_str ?_) (aM _ rfl (iO (add_str ?_) (iO (add_str ?_) (bp (kP _ _ ⟨_,_,rfl,rfl⟩)))))))))<;>simp only[N8,SD,SU]<;>lia
 ·refine bK ii λy7 y8 ae az=>?_;clear ii
  rw[Sn,hal,Tc]at ae
  subst ae;subst az
  have my:=tP tags tok
  have rows:∀h5 s,ac ax h h5->h5[h.length]? =some (.list yl)->kY h5 h.length yl PS->s=lines (rowsOf tags)->ag aw Γ (n+N+3)
    (.cons (.assign 9 (.neg 1)) (.cons (.for [10,11] (.loc 5) (.cons (.ite (.and (.cmp .ge (.loc 9) (.lit (.int 0))) (.cmp .lt (.len (.loc 10)) (.loc 9))) (.cons (.aug 6 .add (.bin .add (.lit (.str [32])) (.loc 10)))
     (.cons (.aug 9 .sub (.bin .add (.lit (.int 1)) (.len (.loc 10)))) .nil)) (.cons (.aug 6 .add (.bin .add (.ite (.cmp .ge (.loc 9) (.lit (.int 0))) (.lit (.str [10])) (.lit (.str []))) (.loc 10)))
     (.cons (.assign 9 (.max2 (.bin .sub (.loc 4) (.len (.loc 10))) (.lit (.int 0)))) .nil))) (.cons (.ite (.loc 11) (.cons (.aug 6 .add (.lit (.str [10]))) (.cons (.assign 9 (.neg 1)) .nil)) .nil) .nil)))
     (.cons (.ret (.bin .add (.loc 6) (.lit (.str [10])))) .nil)))
    [some (.ref m),some (.ref t.a),some (.int p),some (.str res),some (.int w),some (.ref h.length),some (.str s),y7,y8,none,none,none] h5 ⟨λ_ h=>Q .none h,Q,X⟩:=by
   intro h5 R K5 e5 DN eR
   have hrl:R.length<=5000:=by
    rw[eR]
    unfold rowsOf
    split
    ·simp[lines]
    ·rw[jW];simp[lines]at my ⊢;lia
   have room:∀{r:List Nat},r≠[]->roomOf w r=max ((w:Int)-r.length) 0:=λhr=>if_neg hr
   refine bd rfl ?_
   refine gP G.mono (m:=h.length) (xs:=yl) (λi ρ h'=>∃tR tS,ρ=[some (.ref m),some (.ref t.a),some (.int p),some (.str res),some (.int w),some (.ref h.length),some (.str (R++lines (bY w (PS.take i)).1++(bY w (PS.take i)).2)),y7,y8,some (.int (roomOf w (bY w (PS.take i)).2)),tR,tS]/\h'=h5) (aM _ rfl ⟨rfl,none,none,by rw[show R++lines (bY w (PS.take 0)).1++(bY w (PS.take 0)).2=R by simp[bY,lines]];rfl,rfl⟩) (λi ρ h' ii=>?_) (λnP i v ρ h' kP hv ii=>?_) (λρ h' ii=>?_)
   ·refine bK ii λtR tS ae az=>?_;subst az
    exact e5
   ·refine bK ii λtR tS ae az=>?_;clear ii;subst ae;subst az
    refine bx (DN.get hv) λx pc ae ep ex=>?_;subst ae
    obtain⟨pp,en⟩:=pc
    have DO:pp≠[]:=hne _ (Sy ep)
    have et:PS.take (i+1)=PS.take i++[(pp,en)]:=by rw[Tg,ep];rfl
    have cV:weight (PS.take i)+(pp.length+2)<=weight PS:=by
     have e:=nY (PS.take (i+1)) (PS.drop (i+1))
     rw[T4,et,nY]at e
     exact aZ 0xf09413e423e939210 rfl e (by simp[weight]:weight [(pp,en)]=pp.length+2)
    have lf:fT (bY w (PS.take i))<=weight (PS.take i):=by unfold bY;exact ah 0xf202e0a10e9210 rfl (tJ w (PS.take i) ([],[])) (by simp[fT]:fT (([],[]):List (List Nat)×List Nat)=0)
    rw[et,x8]at kP
    generalize bY w (PS.take i)=L at*
    obtain⟨rows,row⟩:=L
    simp only[fT]at lf
    rw[←qE]at lf
    have hrb:(lines rows).length+row.length<=weight (PS.take i):=by split at lf<;>rename_i hz<;>(try subst hz)<;>simp at* <;>lia
    have qM:(pp.length:Int)<=lim:=SR.mpr (by exact aZ 0xf240e0992a431e2910 rfl hb cV)
    have last:∀(iq:List (List Nat)) (ir:List Nat),(lines iq).length+ir.length<=weight PS->cB w (rows,row) (pp,en)=(if en then (iq++[ir],[])else (iq,ir))->
      ag aw Γ (n+N+3) (.cons (.ite (.loc 11) (.cons (.aug 6 .add (.lit (.str [10]))) (.cons (.assign 9 (.neg 1)) .nil)) .nil) .nil)
      [some (.ref m),some (.ref t.a),some (.int p),some (.str res),some (.int w),some (.ref h.length),some (.str (R++lines iq++ir)),y7,y8,some (.int (roomOf w ir)),some (.str pp),some (.bool en)] h' ⟨nP,Q,bot⟩:=by
     intro iq ir hlen e
     rw[e]at kP
     rcases en with _|_
     ·exact cz rfl rfl (bp (kP _ _ ⟨_,_,rfl,rfl⟩))
     ·exact nI rfl rfl (fP rfl rfl (qL (c:=R++lines (iq++[ir])++[]) (by simp;exact aK 0xf191a9320e030e13884b21e1927104b0 rfl hb hrl hlen) (by rw[mx,SM];simp only[Sw])) (bd rfl (bp (kP _ _ ⟨_,_,rfl,rfl⟩))))
    refine tQ ex (by decide) rfl ?_
    by_cases h0:row=[]
    ·subst h0
     refine gJ (v:= .bool false) rfl rfl ?_
     refine fP rfl (aV (qi (x:= .bool false) rfl rfl rfl) rfl (add_str (by simp;exact aZ 0xf240e0992a431e2910 rfl hb cV))) (qL (c:=R++lines rows++pp) (by simp at*;exact dU 0xf1949520e350e0992a430e13884b21e1927104b0 rfl hb hrl cV hrb) (by rw[SM];rfl)) ?_
     refine bd ((DJ (aV rfl (be rfl rfl qM) rfl) rfl).trans (congrArg (λz=>some (V.int z,h')) (room DO).symm)) (k_end ?_)
     exact last rows pp (by simp at hrb;exact aZ 0xf29130e09430e2992a10 rfl cV lf) (by simp[cB])
    ·have er:=room h0
     have ge:roomOf w row≥0:=by rw[er];lia
     by_cases hw:row.length+1+pp.length>w
     ·refine nH (p:=(pp.length:Int)<roomOf w row) (jk (aH (op:= .ge) rfl rfl xy) (congrArg some (decide_eq_true ge)) (aH (op:= .lt) (be rfl rfl qM) rfl ti)) (by rw[er];lia) ?_
      refine fP rfl (aV (qh (aH (op:= .ge) rfl rfl xy) (congrArg some (decide_eq_true ge)) rfl) rfl (add_str (by simp;exact aZ 0xf2941a0e0992a431e2910 rfl hb cV))) (qL (c:=R++lines (rows++[row])++pp) (by simp at*;exact dU 0xf1991a49520e350e0992a430e13884b21e1927104b0 rfl hb hrl cV hrb) (by rw[mx];simp only[Sw])) ?_
      refine bd ((DJ (aV rfl (be rfl rfl qM) rfl) rfl).trans (congrArg (λz=>some (V.int z,h')) (room DO).symm)) (k_end ?_)
      exact last (rows++[row]) pp (by rw[mx];simp;exact aZ 0xf291991a430e09430e2992a10 rfl cV hrb) (by simp[cB,h0,hw])
     ·refine gM (p:=(pp.length:Int)<roomOf w row) (jk (aH (op:= .ge) rfl rfl xy) (congrArg some (decide_eq_true ge)) (aH (op:= .lt) (be rfl rfl qM) rfl ti)) (by rw[er];lia) ?_
      refine fP rfl (aV rfl rfl (add_str (by simp;exact aZ 0xf2941a0e0992a431e2910 rfl hb cV))) (qL (c:=R++lines rows++(row++[32]++pp)) (by simp at*;exact dU 0xf1991a49520e350e0992a430e13884b21e1927104b0 rfl hb hrl cV hrb) (by simp only[Sw])) ?_
      refine fP rfl (aV rfl (be rfl rfl qM) rfl) (o:= .int (roomOf w (row++[32]++pp))) (congrArg (λz=>some (V.int z)) ?_) (k_end ?_)
      ·rw[er,room (by simp)];simp only[So,SD,SU];lia
      ·exact last rows (row++[32]++pp) (by simp;exact aZ 0xf29991a1430e09430e2992a10 rfl cV hrb) (by simp[cB,h0,hw])
   ·refine bK ii λtR tS ae az=>?_;clear ii
    rw[DN.length,Tc]at ae
    subst ae;subst az
    have lf:fT (bY w PS)<=weight PS:=by unfold bY;exact ah 0xf202e0a10e9210 rfl (tJ w PS ([],[])) (by simp[fT]:fT (([],[]):List (List Nat)×List Nat)=0)
    have er:R++lines (bY w PS).1++(bY w PS).2++[10]=fE tags w PS:=by
     rw[fE,lay,nX,if_neg DK,jW,mx,eR];simp only[Sw]
    simp only[fT,if_neg DK]at lf
    rw[←qE]at lf
    exact bi (aV rfl rfl (qL (by simp;exact aZ 0xf191a994320e0991a430e13884b21e1927104b0 rfl hb hrl lf) er)) (q _ K5)
  have kp:ac ax h' (h'++[O.list []]):=ac.push
  have N9:=(K4.trans kp).some nZ id
  have r5:=λs=>rows _ s (K4.trans kp) (kp.some N6 id) (N7.keep ac.push)
  have k9:∀{ρ:Loc},cg ρ 0=some (.ref m)->ai aw ρ (.cmp .ne (.loc 0) (.lst .nil)) h'=some (.bool (!(as.map V.ref).isEmpty),h'++[O.list []]):=λg=>aH (op:= .ne) (eP g) (ic rfl) (ne_nil N9 aE)
  rcases as with _| ⟨a0,ar⟩
  ·have e0:=T5 hal.symm
   exact xi (k9 rfl) rfl (r5 _ (by rw[e0];rfl))
  ·have e0:tags≠[]:=λz=>by rw[z]at hal;exact absurd hal (by simp)
   exact xh (k9 rfl) rfl (fP rfl rfl (add_str (by simp only[SD,SU];lia)) (k_end (r5 _ (by rw[rowsOf,if_neg e0,jW];rfl))))
end
noncomputable def qN(b:Nat)(mv par:V)(word:List Nat)(place:Int):List (Nat×V):=[(7,mv),(6,par),(5,.str word),(4,.int place),(3,.ref (b+1)),(2,.ref (b+2)),(1,.ref (b+3)),(0,.ref (b+4))]
noncomputable def DP(b:Nat)(mv par:V)(word:List Nat):H:=[O.inst 0 (qN b mv par word (-1)),O.list [],O.list [],O.list [],O.list []]
theorem DQ{h g:H}{c:Nat}{fs:List (Nat×V)}(hc:c<3)(hf:fs.length<=20):b6 (h++O.inst c fs::g) (.ref h.length)=some (h.length,c,fs):=gU mr hc hf
section
variable{T:Top}{Γ:ay}{n:Nat}{ρ:Loc}{h g:H}{P:PS}{zs:Ss}{e a:E}{v:V}{f k':Nat}{fs:List (Nat×V)}
theorem iy(hk:Nat.ble k' 2=true)(hf:Nat.ble fs.length 20=true)(pe:ai T ρ e (h++ .inst k' fs::g)=some (v,h++ .inst k' fs::g))(pa:ai T ρ a (h++ .inst k' fs::g)=some (.ref h.length,h++ .inst k' fs::g))(k:ag T Γ n zs ρ (h++ .inst k' (gh fs f v)::g) P):ag T Γ n (.cons (.setattr a f e) zs) ρ (h++ .inst k' fs::g) P:=
 gO pe pa (DQ (Vw (Tb hk)) (Tb hf)) (by rw[xQ];exact k)
theorem oj(hk:Nat.ble k' 2=true)(hf:Nat.ble fs.length 20=true)(pa:ai T ρ a (h++ .inst k' fs::(g++[.list []]))=some (.ref h.length,h++ .inst k' fs::(g++[.list []])))(k:ag T Γ n zs ρ (h++ .inst k' (gh fs f (.ref (h.length+(g.length+1))))::(g++[.list []])) P):ag T Γ n (.cons (.setattr a f (.lst .nil)) zs) ρ (h++ .inst k' fs::g) P:=by
 refine Cs (aM (.lst .nil) rfl ?_)
 rw[Sw,Te,So,SD]
 exact aM a pa (CB (DQ (Vw (Tb hk)) (Tb hf)) (by rw[xQ];exact k))
end
theorem bS.mono{p p':Nat->Prop}{h:H}(k:∀i,p i->i<h.length->p' i){a:Nat}{t:T}(x:bS p h a t):bS p' h a t:=x.imp λa d ao x=>uS x λfs an ar ab ak x ok=>⟨fs,an,ar,ab,ak,x.imp k,ok⟩
theorem fC.mono{p p':Nat->Prop}{h:H}(k:∀i,p i->i<h.length->p' i){a:List Nat}{t:List T}(x:fC p h a t):fC p' h a t:=x.imp λ_ _ x=>x.mono k
theorem ac.after{S S':Nat->Prop}{a b c:H}(x:ac S a b)(y:ac S' b c)(hs:∀i,i<a.length->S' i->S i):ac S a c:=
 ⟨SQ x.len y.len,λi hi hn=>(y.get i (SV hi x.len) (λz=>hn (hs i hi z))).trans (x.get i hi hn)⟩
section
variable{Γ:ay}(G:Prog Γ)
include G
theorem DR{n:Nat}{mv par:V}{h:H}{Q X:Post}(q:Q .none (h++DP h.length mv par [])):Γ n 0 [.ref h.length,mv,par] (h++[.inst 0 []]) Q X:=by
 refine G.intro rfl (by decide) ⟨rfl,?_⟩
 exact iy rfl rfl rfl rfl (iy rfl rfl rfl rfl (iy rfl rfl rfl rfl (iy rfl rfl rfl rfl (oj rfl rfl rfl (oj rfl rfl rfl (oj rfl rfl rfl (oj rfl rfl rfl q)))))))
omit G in
theorem DS{h:H}{mv par:V}{w:List Nat}{pl:Int}{k:Nat}(hk:1<=k/\k<=4):(h++[O.inst 0 (qN h.length mv par w pl),O.list [],O.list [],O.list [],O.list []])[h.length+k]? =some (O.list []):=by
 rw[Tn (by exact af 0xf90110e01a rfl hk.1)]
 rw[(by exact SK (ah 0xf202e921910 rfl (SJ (af 0xf9100 rfl))) (ah 0xf023e921910 rfl (SJ (af 0xf9100 rfl))):h.length+k-h.length=k)]
 obtain⟨j,rfl⟩:∃j,k=j+1:=⟨k-1,(SJ hk.1).symm⟩
 exact List.getElem?_replicate_of_lt (n:=4) (Nat.lt_of_succ_le hk.2)
structure tT(h:H)(b:Nat)(mv par:V)(word:List Nat)(pl:Int):Prop where
 inst:h[b]? =some (.inst 0 (qN b mv par word pl))
 l:∀k,1<=k/\k<=4->h[b+k]? =some (.list [])
theorem DT{n:Nat}{h:H}{Q X:Post}(q:∀h',ac ax h h'->tT h' h.length (.int 0) .none [] (-1)->h'.length=h.length+5->Q (.ref h.length) h'):Γ (n+1) 2 [] h Q X:=by
 refine G.intro rfl (by decide) ⟨rfl,?_⟩
 exact kQ (cJ _ rfl (DR G ⟨rfl,q _ ac.push ⟨mr,λk hk=>DS hk⟩ (by simp[DP])⟩))
theorem DU{n a ak:Nat}{mv:V}{word:List Nat}{ao:List Nat}{fs:List (Nat×V)}{h:H}(ea:h[a]? =some (.inst 0 fs))(hf:fs.length<=20)(fk:bj fs 3=some (.ref ak))(ek:h[ak]? =some (.list (ao.map V.ref)))(hl:ao.length<lim){Q X:Post}
  (q:∀h',ac (· =ak) h h'->h'[ak]? =some (.list ((ao++[h.length]).map V.ref))->tT h' h.length mv (.ref a) word (-1)->h'.length=h.length+5->Q (.ref h.length) h'):Γ (n+1) 1 [.ref a,mv,.str word] h Q X:=by
 refine G.intro rfl (by decide) ⟨rfl,?_⟩
 have qO:=aC ek
 refine lV (cJ _ rfl (DR G ⟨rfl,?_⟩))
 refine iy rfl rfl rfl rfl ?_
 have Oa:(h++[O.inst 0 (qN h.length mv (.ref a) word (-1)),O.list [],O.list [],O.list [],O.list []])[a]? =some (.inst 0 fs):=(ac.push (S:=ax)).some ea id
 have iu:(h++[O.inst 0 (qN h.length mv (.ref a) word (-1)),O.list [],O.list [],O.list [],O.list []])[ak]? =some (.list (ao.map V.ref)):=(ac.push (S:=ax)).some ek id
 refine bP (bc rfl (gU Oa (by decide) hf) fk) iu rfl iu (by rw[Sn];exact hl) (bi rfl ?_)
 refine q _ (ac.push.trans (ac.set rfl)) ((bq iu).trans (by rw[SN];rfl)) ⟨?_,λk hk=>?_⟩ (by simp)
 ·rw[S0 (by exactλq0=>af 0xf3e101e10 rfl qO q0)];exact mr
 ·rw[S0 (by exactλq0=>ah 0xf3e92101e10 rfl qO q0)];exact DS hk
theorem Ob:∀(N:Nat) {n b:Nat} {m:M} {mv par:V} {pl:Int} {h:H},m.sz<=N->aR h m->m.toT.ok->m.sz+5<lim->(∀x∈m.addrs,x<b)->tT h b mv par m.d.word pl->
  ∀{Q X:Post},(∀h',ac (λi=>b<i/\i<=b+4) h h'->bS (λi=>b<=i) h' b m.toT->Q .none h')->Γ (n+N+2) 47 [.ref m.a,.ref b] h Q X:=by
 intro N
 induction N with
 |zero=>intro n b m mv par pl h hs;have:=m.toT.ik;unfold M.sz at hs;lia
 |succ N ih=>
  intro n b m mv par pl h hs hm ok hsl hlt fr Q X q
  refine G.intro rfl (by decide) ⟨rfl,?_⟩
  have hlim:=hlim
  refine fH hm.nd λan ar ab ak nd ks hin=>?_
  have okd:=n9 ok
  have hsz:=tN (m:=m)
  have jY:∀c∈m.kids,c.sz<=T.bt (M.bu m.kids):=λc hc=>tO hc
  have k8:m.kids.length<=T.bt (M.bu m.kids):=by have:=mu (M.bu m.kids);rw[og]at this;exact this
  have l5:=hlt _ (hin _ (.inl rfl))
  have ln:=hlt _ (hin an (by exact .inr (.inl (rfl))))
  have lr:=hlt _ (hin ar (by exact .inr (.inr (.inl (rfl)))))
  have lb:=hlt _ (hin ab (by exact .inr (.inr (.inr (.inl (rfl))))))
  have lk:=hlt _ (hin ak (by exact .inr (.inr (.inr (.inr (rfl))))))
  have e3:=fr.l 3 ⟨by decide,by decide⟩
  refine qm (bc rfl (gU fr.inst (by decide) (Tb rfl)) rfl) e3 (aB rfl rfl (mj (j:=1) nd.o (by simp) (by simp[lim]))) e3 nd.n (by simp;have:=okd.few.1;exact af 0xf011e27104b13ef42405b0 rfl hlim this) (λz=>by exact af 0xf2e093a11e10 rfl ln z) ?_
  have k1:ac (λi=>b<i/\i<=b+4) h (h.set (b+3) (O.list ([]++m.d.aQ.map λx=>V.int (Int.ofNat x)))):=ac.set (by exact⟨av 0x1f93a00 rfl,av 0xf94a093a0 rfl⟩)
  have j1:ac (· =b+3) h (h.set (b+3) (O.list ([]++m.d.aQ.map λx=>V.int (Int.ofNat x)))):=ac.set rfl
  have f1:(h.set (b+3) (O.list ([]++m.d.aQ.map λx=>V.int (Int.ofNat x))))[b+3]? =some (O.list (m.d.aQ.map λx=>V.int (Int.ofNat x))):=bq e3
  have e2:=j1.some (fr.l 2 ⟨by decide,by decide⟩) (by exactλq0=>av 0xf3e93a092a0 rfl q0)
  have e4:=j1.some (fr.l 4 ⟨by decide,by decide⟩) (by exactλq0=>av 0xf2e93a094a0 rfl q0)
  have e1:=j1.some (fr.l 1 ⟨by decide,by decide⟩) (by exactλq0=>av 0xf3e93a091a0 rfl q0)
  clear j1
  generalize h.set (b+3) (O.list ([]++m.d.aQ.map λx=>V.int (Int.ofNat x)))=h1 at k1 f1 e2 e4 e1 ⊢
  have in1:=k1.some fr.inst (by exactλq0=>av 0xf1e00 rfl q0.1)
  have o1:=k1.some nd.o (by exactλq0=>af 0xf1e011e10 rfl l5 q0.1)
  have r1:=k1.some nd.r (by exactλq0=>af 0xf1e011e10 rfl lr q0.1)
  refine qm (bc rfl (gU in1 (by decide) (Tb rfl)) rfl) e2 (aB rfl rfl (mj (j:=2) o1 (by simp) (by simp[lim]))) e2 r1 (by simp;have:=okd.few.2.1;exact af 0xf011e27104b13ef42405b0 rfl hlim this) (λz=>by exact af 0xf2e092a11e10 rfl lr z) ?_
  have k2:ac (λi=>b<i/\i<=b+4) h1 (h1.set (b+2) (O.list ([]++m.d.rem.map V.str))):=ac.set (by exact⟨av 0x1f92a00 rfl,av 0xf94a092a0 rfl⟩)
  have j2:ac (· =b+2) h1 (h1.set (b+2) (O.list ([]++m.d.rem.map V.str))):=ac.set rfl
  have f2:(h1.set (b+2) (O.list ([]++m.d.rem.map V.str)))[b+2]? =some (O.list (m.d.rem.map V.str)):=bq e2
  have g1:=j2.some f1 (by exactλq0=>av 0xf2e92a093a0 rfl q0)
  have g4:=j2.some e4 (by exactλq0=>av 0xf2e92a094a0 rfl q0)
  have g3:=j2.some e1 (by exactλq0=>av 0xf3e92a091a0 rfl q0)
  clear j2
  have K2:=k1.trans k2
  generalize h1.set (b+2) (O.list ([]++m.d.rem.map V.str))=h2 at K2 f2 g1 g4 g3 ⊢
  have Oc:=K2.some fr.inst (by exactλq0=>av 0xf1e00 rfl q0.1)
  have o2:=K2.some nd.o (by exactλq0=>af 0xf1e011e10 rfl l5 q0.1)
  have b2:=K2.some nd.b (by exactλq0=>af 0xf1e011e10 rfl lb q0.1)
  refine qm (bc rfl (gU Oc (by decide) (Tb rfl)) rfl) g4 (aB rfl rfl (mj (j:=3) o2 (by simp) (by simp[lim]))) g4 b2 (by simp;have:=okd.few.2.2;exact af 0xf011e27104b13ef42405b0 rfl hlim this) (λz=>by exact af 0xf2e094a11e10 rfl lb z) ?_
  have k3:ac (λi=>b<i/\i<=b+4) h2 (h2.set (b+4) (O.list ([]++m.d.aA.map V.str))):=ac.set (by exact⟨av 0x1f94a00 rfl,av 0xf00 rfl⟩)
  have j3:ac (· =b+4) h2 (h2.set (b+4) (O.list ([]++m.d.aA.map V.str))):=ac.set rfl
  have ym:(h2.set (b+4) (O.list ([]++m.d.aA.map V.str)))[b+4]? =some (O.list (m.d.aA.map V.str)):=bq g4
  have DV:=j3.some g1 (by exactλq0=>av 0xf3e94a093a0 rfl q0)
  have DW:=j3.some f2 (by exactλq0=>av 0xf3e94a092a0 rfl q0)
  have DX:=j3.some g3 (by exactλq0=>av 0xf3e94a091a0 rfl q0)
  have K3:=K2.trans k3
  generalize h2.set (b+4) (O.list ([]++m.d.aA.map V.str))=h3 at K3 ym DV DW DX ⊢
  have bl:b+4<h3.length:=aC ym
  refine kR ?_
  refine Cr G.mono (m:=ak) (xs:=(m.kids.map M.a).map V.ref) (λi ρ h'=>∃(y:Option V) (cs:List Nat),ρ=[some (.ref m.a),some (.ref b),y]/\ac (λi=>b<i/\i<=b+4) h h'/\h'[b+1]? =some (.list (cs.map V.ref))/\h'[b+2]? =some (O.list (m.d.rem.map V.str))/\
    h'[b+3]? =some (O.list (m.d.aQ.map λx=>V.int (Int.ofNat x)))/\h'[b+4]? =some (O.list (m.d.aA.map V.str))/\fC (λx=>b+4<x) h' cs ((m.kids.take i).map M.toT)) ?_ (λi ρ h' ii=>?_) (λnP i v ρ h' kP hv ii=>?_) (λρ h' ii=>?_)
  ·exact aM _ (aB rfl rfl (mj (j:=4) (K3.some nd.o (by exactλq0=>af 0xf1e011e10 rfl l5 q0.1)) (by simp) (by simp[lim]))) ⟨rfl,none,[],rfl,K3,DX,DW,DV,ym,.nil⟩
  ·refine bx ii λy cs ae k _=>?_;clear ii;subst ae
   exact k.some nd.k (by exactλq0=>af 0xf1e011e10 rfl lk q0.1)
  ·refine uW ii λy cs ae k q1 q2 q3 q4 th=>?_;clear ii;subst ae
   rw[TT,TT]at hv
   cases er:m.kids[i]? with
   |none=>rw[er]at hv;(exact nn hv)
   |some c=>
    rw[er]at hv
    obtain rfl:=Sv hv
    have cD:=Sy er
    have et:m.kids.take (i+1)=m.kids.take i++[c]:=by rw[Tg,er];rfl
    have hc':aR h' c:=(ks.mem c cD).keep k λx hx=>by exactλq0=>af 0xf1e011e10 rfl (hlt x (tM cD x hx)) q0.1
    have hcl:=th.length
    have lc:=jY c cD
    have hil:=(Sr.mp er).1
    simp only[Sn,TK]at hcl
    refine fH hc'.nd λcn cr cb ck oi _ _=>?_
    refine fu (Mv (xu rfl (Mu (aO rfl (aO rfl (aO (aB rfl rfl (mj (j:=0) oi.o (by simp) (by simp[lim]))) rfl))) ?_)))
    refine DU G (k.some fr.inst (by exactλq0=>av 0xf1e00 rfl q0.1)) (Tb rfl) rfl q1 (by lia) λh5 k5 e5 sJ R4=>?_
    have om:b+4<h'.length:=aC q4
    have hc5:aR h5 c:=hc'.keep k5 λx hx=>by exactλq0=>af 0xf3e91a101e10 rfl (hlt x (tM cD x hx)) q0
    refine ih (n:=n) (by exact aK 0xf130e233e921a00e91a10 rfl hs hsz lc) hc5 (yd ok c cD) (by exact aK 0x1f195a30e233e921a01e195a0 rfl hsl hsz lc) (λx hx=>by exact ah 0x1f121e021e194a0 rfl om (hlt x (tM cD x hx))) sJ λh6 k6 Od=>⟨rfl,?_⟩
    refine bp (kP _ _ ?_);refine⟨_,cs++[h'.length],rfl,(k.trans (k5.mono λi _ z=>by exact⟨af 0x1f013e91a10 rfl z,af 0xf94a102e91a10 rfl z⟩)).after k6 (λi hi z=>by have:=k.len;lia),k6.some e5 (by exactλq0=>af 0xf1e91a011e194a0 rfl om q0.1),k6.some (k5.some q2 (by exactλq0=>av 0xf2e91a092a0 rfl q0)) (by exactλq0=>af 0xf1e92a011e194a0 rfl om q0.1),k6.some (k5.some q3 (by exactλq0=>av 0xf2e91a093a0 rfl q0)) (by exactλq0=>af 0xf1e93a011e194a0 rfl om q0.1),k6.some (k5.some q4 (by exactλq0=>av 0xf2e91a094a0 rfl q0)) (by exactλq0=>af 0xf1e011e10 rfl om q0.1),?_⟩
    ·rw[et,SN]
     exact((((th.mono (p':=λx=>b+4<x/\x<h'.length) λi hi hl=>⟨hi,hl⟩).keep k5 λi hi z=>by exact af 0xf2e91a011e194a0 rfl hi.1 z:fC (λx=>b+4<x/\x<h'.length) h5 cs ((m.kids.take i).map M.toT)).keep k6 λi hi z=>by exact af 0xf1e011e10 rfl hi.2 z.1).mono λi hi _=>hi.1).app (.cons (Od.mono λi hi _=>by exact ah 0x1f200e211e10 rfl om hi) .nil)
  ·refine uW ii λy cs ae k q1 q2 q3 q4 th=>?_;clear ii;subst ae
   rw[Sn,Sn,Tc]at th
   show Q .none h'
   refine q h' k ?_
   cases m with
   |mk a n' r' b' k' d kids=>
    rw[M.toT,jX]
    exact bS.of ⟨SW b,by exact av 0xf93a00 rfl,by exact av 0xf92a00 rfl,by exact av 0xf94a00 rfl,by exact av 0xf91a00 rfl,k.some fr.inst (by exactλq0=>av 0xf1e00 rfl q0.1),Tb rfl,rfl,rfl,rfl,rfl,rfl,q3,q2,q4,q1⟩ okd (th.mono λi hi _=>by exact af 0xf101e194a0 rfl hi)
end
noncomputable def bL:List T->List (List Nat)
 | []=>[]
 |k::_=>k.d.aA
mutual
noncomputable def cm(parted clear:Bool):T->T
 | .mk d kids=> .mk ⟨d.word,d.aQ,d.rem++(if parted then []else bL kids),if clear then []else d.aA⟩ (cP parted kids)
noncomputable def cP(parted:Bool):List T->List T
 | []=>[]
 |k::ks=>cm (!ks.isEmpty) (!parted) k::fV ks
noncomputable def fV:List T->List T
 | []=>[]
 |k::ks=>cm false false k::fV ks
end
theorem oo{h:H}:∀{as bs:List M},bD h (as++bs)↔bD h as/\bD h bs
 | [],bs=>by simp[bD]
 |a::as,bs=>by
  rw[Te]
  simp only[bD]
  rw[oo (as:=as)]
  exact and_assoc.symm
theorem mA:∀{as bs:List M},M.aS (as++bs)=M.aS as++M.aS bs
 | [],bs=>by simp[M.aS]
 |a::as,bs=>by rw[Te,M.aS,mA (as:=as),M.aS,Sw]
theorem Oe{A B c c':List Nat}{L:Nat}(nd:(A++(c++B)).Nodup)(hA:∀x∈A,x<L)(hB:∀x∈B,x<L)(nc:c'.Nodup)(hc:∀x∈c',x∈c\/L<=x):(A++(c'++B)).Nodup:=by
 rw[T2]at nd ⊢
 refine du nd λn1 n2 n3=>?_;clear nd
 rw[T2]at n2 ⊢
 refine du n2 λn4 n5 n6=>?_;clear n2
 refine⟨n1,⟨nc,n5,λx hx y hy=>?_⟩,λx hx y hy=>?_⟩
 ·refine Ts (hc x hx) (λh=>?_) (λh=>?_)
  ·exact n6 x h y hy
  ·have:=hB y hy;exactλq0=>ah 0xf2e211e020e10 rfl h this q0
 ·refine Ts (SL.mp hy) (λhy=>?_) (λhy=>?_)
  ·refine Ts (hc y hy) (λh=>?_) (λh=>?_)
   ·exact n3 x hx y (SP _ h)
   ·have:=hA x hx;exactλq0=>ah 0xf3e121e020e10 rfl h this q0
  ·exact n3 x hx y (SY _ hy)
noncomputable def jt(d:Nd):Nd:=⟨d.word,d.aQ,d.rem,[]⟩
theorem Of(p:Bool)(d:Nd)(ks:List T):cm p false (.mk (jt d) ks)=cm p true (.mk d ks):=by simp[cm,jt]
theorem qP{l:List Nat}(nd:l.Nodup){i k x y:Nat}(hi:l[i]? =some x)(hk:i<k)(hy:y∈l.drop k):y≠x:=by
 rw[←T4 k l,T2]at nd
 refineλz=>nd.2.2 x ?_ y hy z.symm
 exact Sy (i:=i) (by rw[VD hk];exact hi)
theorem cX{l:List Nat}(nd:l.Nodup){i j x y:Nat}(hi:l[i]? =some x)(hj:l[j]? =some y)(hij:i≠j):x≠y:=by
 refine Ts (Nat.lt_or_gt_of_ne hij) (λz=>?_) (λz=>?_)
 ·exact(qP nd hi z (Sy (i:=0) (by rw[Uv];exact hj))).symm
 ·exact qP nd hj z (Sy (i:=0) (by rw[Uv];exact hi))
theorem Og{l:List Nat}(nd:l.Nodup){L:Nat}(hl:∀x∈l,x<L)(i:Nat):(l.set i L).Nodup:=by
 induction l generalizing i with
 |nil=>exact nd
 |cons x r ih=>
  rw[TX]at nd
  cases i with
  |zero=>exact TX.mpr ⟨λz=>Tv _ (hl L (Su _ z)),nd.2⟩
  |succ i=>
   refine TX.mpr ⟨λz=>?_,ih nd.2 (λx hx=>hl x (Su _ hx)) i⟩
   refine Ts (List.mem_or_eq_of_mem_set z) (λz=>?_) (λz=>?_)
   ·exact nd.1 z
   ·exact Tv L (z▸hl x Sq)
theorem qQ{p:Nat->Prop}{a b c d e:Nat}{l:List Nat}(h1:p a)(h2:p b)(h3:p c)(h4:p d)(h5:p e)(h6:∀x∈l,p x):∀x∈a::b::c::d::e::l,p x:=
 UB.mpr ⟨h1,UB.mpr ⟨h2,UB.mpr ⟨h3,UB.mpr ⟨h4,UB.mpr ⟨h5,h6⟩⟩⟩⟩⟩
theorem DY{p:Nat->Prop}{a b c d e:Nat}{l:List Nat}(h:∀x∈a::b::c::d::e::l,p x):p a/\p b/\p c/\p d/\p e:=
 ⟨h _ (.head _),h _ (.tail _ (.head _)),h _ (.tail _ (.tail _ (.head _))),h _ (.tail _ (.tail _ (.tail _ (.head _)))),h _ (.tail _ (.tail _ (.tail _ (.tail _ (.head _)))))⟩
theorem Oh{h:H}{m:Nat}{ds es:List M}{c:M}(e:h[m]? =some (.list (((ds++c::es).map M.a).map V.ref)))(l:ds.length<=lim):cq aw h (.ref m) (.int (ds.length:Int))=some (.ref c.a):=
 bG e (nL.trans (by simp)) (V0 l)
theorem mem_mid{ds es:List M}{c:M}{x:Nat}:x∈M.aS (ds++c::es)↔x∈M.aS ds\/x∈c.addrs\/x∈M.aS es:=by
 rw[mA,SL];exact or_congr Iff.rfl SL
theorem Oi{h1 h2:H}{a an ar ab ak:Nat}{d:Nd}{ds es:List M}{c1 c2:M}(hm:aR h1 (.mk a an ar ab ak d (ds++c1::es)))(nd:(M.mk a an ar ab ak d (ds++c1::es)).addrs.Nodup)(m2:aR h2 c2)(ea:c2.a=c1.a)(k:ac (λi=>i∈c1.addrs) h1 h2)(sub:∀x∈c2.addrs,x∈c1.addrs\/h1.length<=x)(qR:c2.addrs.Nodup):
  aR h2 (.mk a an ar ab ak d (ds++c2::es))/\(M.mk a an ar ab ak d (ds++c2::es)).addrs.Nodup:=by
 have ms:=oo.mp hm.2
 have DZ:((a::an::ar::ab::ak::M.aS ds)++(c1.addrs++M.aS es)).Nodup:=by rw[M.addrs,mA]at nd;exact nd
 have n2:=T2.mp DZ
 have n3:=T2.mp n2.2.1
 have D3:∀x∈(a::an::ar::ab::ak::M.aS ds),¬x∈c1.addrs:=λx hx hz=>n2.2.2 x hx x (SP _ hz) rfl
 have n1:=hm.1
 refine⟨⟨?_,oo.mpr ⟨bD.keep k ms.1 λx hx=>D3 x (SY [a,an,ar,ab,ak] hx),m2,bD.keep k ms.2.2 λx hx hz=>n3.2.2 x hz x hx rfl⟩⟩,?_⟩
 ·rw[(by simp[ea]:(ds++c2::es).map M.a=(ds++c1::es).map M.a)];exact n1.keep k (DY D3)
 ·rw[M.addrs,mA]
  exact Oe DZ (qQ (aC n1.o) (aC n1.n) (aC n1.r) (aC n1.b) (aC n1.k) λx hx=>bD.lt ms.1 x hx) (λx hx=>bD.lt ms.2.2 x hx) qR sub
theorem more{c:M}{es:List M}:decide (((((([]:List M)++c::es).map M.a).map V.ref).length:Int)>1)= !(es.map M.toT).isEmpty:=by
 rcases es with _| ⟨e,r⟩
 ·rfl
 ·exact decide_eq_true (by simp only[Sn,SD,TB];lia)
theorem Oj{h:H}{a an ar ab ak ca cn cr cb ck:Nat}{d cd:Nd}{lh rest:List M}(hm:aR h (.mk a an ar ab ak d (.mk ca cn cr cb ck cd lh::rest)))(nd:(M.mk a an ar ab ak d (.mk ca cn cr cb ck cd lh::rest)).addrs.Nodup){h2:H}
  (e:h2=((h.set ar (.list ((d.rem++cd.aA).map V.str)))++[O.list []]).set ca (.list [.str cd.word,.ref cn,.ref cr,.ref h.length,.ref ck])):
  aR h2 (.mk a an ar ab ak ⟨d.word,d.aQ,d.rem++cd.aA,d.aA⟩ (.mk ca cn cr h.length ck (jt cd) lh::rest))/\(M.mk a an ar ab ak ⟨d.word,d.aQ,d.rem++cd.aA,d.aA⟩ (.mk ca cn cr h.length ck (jt cd) lh::rest)).addrs.Nodup/\ac (λx=>x=ar\/x=ca) h h2:=by
 have n0:=hm.1
 have nc:=hm.2.1.1
 have kp:ac (λx=>x=ar\/x=ca) h h2:=by
  rw[e]
  exact((ac.set (.inl rfl)).trans ac.push).trans (ac.set (.inr rfl))
 have two:∀{i x:Nat},(M.mk a an ar ab ak d (.mk ca cn cr cb ck cd lh::rest)).addrs[i]? =some x->i≠2->i≠5->¬(x=ar\/x=ca):=λhx p q z=>z.elim (cX nd hx rfl p) (cX nd hx rfl q)
 have tl:∀{x:Nat},x∈M.aS lh++M.aS rest->¬(x=ar\/x=ca):=λhx z=>z.elim (qP (k:=10) nd rfl (i:=2) (by decide) hx) (qP (k:=10) nd rfl (i:=5) (by decide) hx)
 have e2:h2[ar]? =some (.list ((d.rem++cd.aA).map V.str)):=by
  rw[e,S0 (cX nd (i:=5) (j:=2) rfl rfl (by decide)),SA (by simpa using aC n0.r),bq n0.r]
 have Ol:h2[ca]? =some (.list [.str cd.word,.ref cn,.ref cr,.ref h.length,.ref ck]):=by
  rw[e,Uc (by simp;exact Vv (aC nc.o))]
 have eL:h2[h.length]? =some (.list []):=by
  rw[e,S0 (SX (aC nc.o)),Tn (by simp)]
  simp
 exact⟨⟨⟨kp.some n0.o (two (i:=0) rfl (by decide) (by decide)),kp.some n0.n (two (i:=1) rfl (by decide) (by decide)),e2,kp.some n0.b (two (i:=3) rfl (by decide) (by decide)),kp.some n0.k (two (i:=4) rfl (by decide) (by decide))⟩,
  ⟨⟨Ol,kp.some nc.n (two (i:=6) rfl (by decide) (by decide)),kp.some nc.r (two (i:=7) rfl (by decide) (by decide)),eL,kp.some nc.k (two (i:=9) rfl (by decide) (by decide))⟩,bD.keep kp hm.2.1.2 λx hx=>tl (SP _ hx)⟩,bD.keep kp hm.2.2 λx hx=>tl (SY _ hx)⟩,
  Og nd (λx hx=>aR.lt hm x hx) 8,kp⟩
noncomputable def tU(parted:Bool)(d:Nd)(ts:List T):Nd:=⟨d.word,d.aQ,d.rem++(if parted then []else bL ts),d.aA⟩
noncomputable def Om(h:H)(a an ar ab ak:Nat)(parted:Bool)(d:Nd)(kids:List M)(i:Nat)(ρ:Loc)(h':H):Prop:=
 ∃(y:Option V) (ds pre es:List M) (d':Nd),ρ=[some (.ref a),some (.bool parted),some (.ref ak),y]/\kids=pre++es/\ds.length=i/\pre.length=i/\
  cP parted (kids.map M.toT)=ds.map M.toT++(if i=0 then cP parted else fV) (es.map M.toT)/\d'=(if i=0 then d else tU parted d (kids.map M.toT))/\ac (λi=>i∈(M.mk a an ar ab ak d kids).addrs) h h'/\aR h' (.mk a an ar ab ak d' (ds++es))/\
  (M.mk a an ar ab ak d' (ds++es)).addrs.Nodup/\(∀x∈M.aS (ds++es),x∈M.aS kids\/h.length<=x)
section
variable{Γ:ay}(G:Prog Γ)
include G
theorem On:∀(N:Nat) {n:Nat} {m:M} {parted:Bool} {h:H},m.sz<=N->N<1000->aR h m->m.toT.ok->m.addrs.Nodup->
  ∀{Q X:Post},(∀h' m',aR h' m'->m'.toT=cm parted false m.toT->m'.a=m.a->ac (λi=>i∈m.addrs) h h'->(∀x∈m'.addrs,x∈m.addrs\/h.length<=x)->m'.addrs.Nodup->Q .none h')->Γ (n+N+1) 52 [.ref m.a,.bool parted] h Q X:=by
 intro N
 induction N with
 |zero=>intro n m parted h hs;have:=m.toT.ik;unfold M.sz at hs;lia
 |succ N ih=>
  intro n m parted h hs hN hm ok Oo Q X q
  refine G.intro rfl (by decide) ⟨rfl,?_⟩
  have hlim:=hlim
  rcases m with⟨a,an,ar,ab,ak,d,kids⟩
  have nd:=hm.1
  have okd:d.Ok:=ok.1
  have kJ:∀c∈kids,c.toT.ok:=yd (m:= .mk a an ar ab ak d kids) ok
  have hsz:=tN (m:= .mk a an ar ab ak d kids)
  have jY:∀c∈kids,c.sz<=T.bt (M.bu kids):=λc hc=>tO (m:= .mk a an ar ab ak d kids) hc
  have k8:kids.length<=T.bt (M.bu kids):=by have:=mu (M.bu kids);rw[og]at this;exact this
  simp only[M.kids]at hsz
  have jV:kids.length<=lim:=by exact aZ 0xf140e343e931a20e023ef42405b11e3e83b0 rfl hN hlim hs hsz k8
  refine bd (aB rfl rfl (bG nd.o rfl rfl)) ?_
  refine mh G.mono (k:=kids.length) jV (Om h a an ar ab ak parted d kids) (aM _ (be rfl (dn nd.k) (by simp only[Sn];exact SR.mpr jV)) ⟨by simp only[Sn],none,[],[],kids,d,rfl,rfl,rfl,rfl,rfl,rfl,ac.refl,hm,Oo,λx hx=> .inl hx⟩) (λnP i ρ h' kP hi ii=>?_) (λρ h' ii=>?_)
  ·refine xE ii λy ii=>?_;refine xE ii λds ii=>?_;refine rC ii λpre es d' ae ek el ep eK ed K hm' mB sub=>?_;clear ii;subst ae;subst el
   rcases es with _| ⟨c,es⟩
   ·exact absurd hi (by rw[ek,SM,ep];exact Tv _)
   have cD:c∈kids:=by rw[ek];exact SY _ (.head _)
   have lc:=jY _ cD
   have tV:=kJ _ cD
   have hin:∀{x},x∈M.aS kids->x∈(M.mk a an ar ab ak d kids).addrs:=λz=>SY [a,an,ar,ab,ak] z
   have hlen:((ds++c::es).map M.a).length=kids.length:=by rw[ek];simp only[Sn,So,ep]
   have call:∀{h1:H} {d1:Nd} {c1:M} {b:Bool},c1.sz=c.sz->c1.toT.ok->(ds=[]->(!(es.map M.toT).isEmpty)=b)->(ds≠[]->false=b)->d1=tU parted d (kids.map M.toT)->cP parted (kids.map M.toT)=ds.map M.toT++cm b false c1.toT::fV (es.map M.toT)->
     (∀x∈M.aS (ds++c1::es),x∈M.aS kids\/h.length<=x)->aR h1 (.mk a an ar ab ak d1 (ds++c1::es))->(M.mk a an ar ab ak d1 (ds++c1::es)).addrs.Nodup->ac (λi=>i∈(M.mk a an ar ab ak d kids).addrs) h h1->
     ag aw Γ (n+(N+1)+1) (.cons (.expr (.call 52 (.cons (.idx (.loc 2) (.loc 3)) (.cons (.and (.cmp .eq (.loc 3) (.lit (.int 0))) (.cmp .gt (.len (.loc 2)) (.lit (.int 1)))) .nil)))) .nil) [some (.ref a),some (.bool parted),some (.ref ak),some (.int ds.length)] h1
      ⟨nP,Q,bot⟩:=by
    intro h1 d1 c1 b tF Oq Os Ot Ou Ov tW hm1 cL K1
    have n1:=hm1.1
    have ms1:=oo.mp hm1.2
    have l1:((((ds++c1::es).map M.a).map V.ref).length:Int)<=lim:=SR.mpr (by simp only[Sn,So,SD]at hlen ⊢;exact ah 0xf122e020e10 rfl jV hlen)
    have cond:ai aw [some (.ref a),some (.bool parted),some (.ref ak),some (.int ds.length)] (.and (.cmp .eq (.loc 3) (.lit (.int 0))) (.cmp .gt (.len (.loc 2)) (.lit (.int 1)))) h1=some (.bool b,h1):=by
     rcases ds with _| ⟨d0,ds⟩
     ·exact jk rfl rfl ((aH (op:= .gt) (be rfl (dn n1.k) l1) rfl cmp_gt).trans (congrArg (λz=>some (V.bool z,h1)) (more.trans (Os rfl))))
     ·exact(lX (x:= .bool false) rfl rfl).trans (congrArg (λz=>some (V.bool z,h1)) (Ot (λz=>nomatch z)))
    refine cT (aO (aB rfl rfl (Oh n1.k (by exact ah 0xf121e020e10 rfl jV hi))) (aO cond rfl)) ?_
    have oi:c1.addrs.Nodup:=by
     rw[M.addrs,mA]at cL
     have Ow:((a::an::ar::ab::ak::M.aS ds)++(c1.addrs++M.aS es)).Nodup:=cL
     exact(T2.mp (T2.mp Ow).2.1).1
    refine ih (n:=n) (by exact aZ 0xf142e340e233e921a00e91a10 rfl hs hsz lc tF) (by exact af 0x1f101e191a0 rfl hN) ms1.2.1 Oq oi λh2 c2 hm2 yn Ox k2 tX qR=>⟨rfl,bp (kP _ _ ⟨_,ds++[c2],pre++[c],es,d1,rfl,ek.trans (VG ..),by rw[So];rfl,by rw[So,ep];rfl,?_,Ou,K1.after k2 (λx hx z=>?_),?_⟩)⟩
    ·rw[Ov,SN,Sw,←yn];rfl
    ·exact hin ((tW x (mem_mid.mpr (.inr (.inl z)))).resolve_right (Uh hx))
    ·have ks:=Oi hm1 cL hm2 Ox k2 tX qR
     have sb:∀x∈M.aS (ds++c2::es),x∈M.aS kids\/h.length<=x:=λx hx=>(mem_mid.mp hx).elim (λz=>tW x (mem_mid.mpr (.inl z))) λz=>z.elim (λz=>(tX x z).elim (λz=>tW x (mem_mid.mpr (.inr (.inl z)))) λz=> .inr (SQ K1.len z)) λz=>tW x (mem_mid.mpr (.inr (.inr z)))
     rw[VG]at ks sb
     exact⟨ks.1,ks.2,sb⟩
   rcases ds with _| ⟨d0,ds⟩
   ·rcases parted with _|_
    ·rcases c with⟨ca,cn,cr,cb,ck,cd,lh⟩
     have Oy:=T5 ep
     subst Oy
     have n1:=hm'.1
     have nc:=hm'.2.1.1
     have yo:=mB
     have ot:cd.Ok:=tV.1
     have fe:=okd.few.2.1
     have fc:=ot.few.2.2
     have qS:d'=d:=ed
     subst qS
     have ou:=λx hx=>sub x (SP _ hx)
     have CF:=Oj hm' mB rfl
     rw[SN]at CF
     have ks:ac (· =ar) h' (h'.set ar (O.list (d'.rem.map V.str++cd.aA.map V.str))++[O.list []]):=(ac.set (S:=(· =ar)) rfl).trans ac.push
     refine eO (v:= .bool true) rfl rfl (qm (aB rfl rfl (bG n1.o rfl rfl)) n1.r (aB (aB rfl rfl (bG n1.k rfl rfl)) rfl (bG nc.o rfl rfl)) n1.r nc.b (by simp only[Sn];exact ah 0xf09121e27104b21e27104b13ef42405b0 rfl hlim fc fe) (λz=>cX yo (i:=2) (j:=8) rfl rfl (by decide) z) (xq (j:=3) rfl (aB rfl rfl (bG (ks.some n1.k (cX yo (i:=4) (j:=2) rfl rfl (by decide))) rfl rfl)) rfl (ks.some nc.o (cX yo (i:=5) (j:=2) rfl rfl (by decide))) rfl (SV (TN 3) (Tb rfl)) (Tb rfl) (k_end ?_)))
     rw[UX]
     refine call (c1:= .mk ca cn cr h'.length ck (jt cd) lh) (b:= !(es.map M.toT).isEmpty) ?_ ⟨⟨ot.aQ,ot.rem,(λr hr=>nomatch hr),⟨ot.txt.1,λr hr=>nomatch hr⟩,⟨ot.few.1,ot.few.2.1,Nat.zero_lt_of_lt fc⟩⟩,tV.2⟩ (λ_=>rfl) (λz=>absurd rfl z) ?_ (eK.trans (congrArg (λz=>[]++z::fV (es.map M.toT)) (Of _ _ _).symm)) (λx hx=>(SL.mp hx).elim (qQ (ou _ (.head _)) (ou _ (.tail _ (.head _))) (ou _ (.tail _ (.tail _ (.head _)))) (.inr K.len) (ou _ (.tail _ (.tail _ (.tail _ (.tail _ (.head _)))))) (λx hx=>ou x (SY [ca,cn,cr,cb,ck] hx)) x) λz=>sub x (SY _ z)) CF.1 CF.2.1 (K.after CF.2.2 λx hx z=>z.elim (λz=>z▸ .tail _ (.tail _ (.head _))) λz=>hin ((ou x (z▸ .head _)).resolve_right (Uh hx)))
     ·simp[M.sz,M.toT,T.sz]
     ·rw[ek];rfl
    ·refine cz (v:= .bool false) rfl rfl (call (b:= !(es.map M.toT).isEmpty) rfl tV (λ_=>rfl) (λz=>absurd rfl z) (ed.trans ?_) eK sub hm' mB K)
     rw[tU,if_pos rfl,SM];rfl
   ·exact cz (lX (x:= .bool false) rfl rfl) rfl (call (b:=false) rfl tV (λz=>nomatch z) (λ_=>rfl) ed eK sub hm' mB K)
  ·refine xE ii λy ii=>?_;refine xE ii λds ii=>?_;refine rC ii λpre es d' ae ek el ep eK ed K hm' mB sub=>?_;clear ii;subst ae
   have Oz:es=[]:=by
    refine T5 ?_
    have:=congrArg List.length ek
    rw[So,ep]at this
    exact SK (af 0xf0a13e9100 rfl this) (av 0xf00a rfl)
   subst Oz
   rw[SM]at hm' mB sub
   refine bp (q h' _ hm' ?_ rfl K (qQ (.inl (.head _)) (.inl (.tail _ (.head _))) (.inl (.tail _ (.tail _ (.head _)))) (.inl (.tail _ (.tail _ (.tail _ (.head _))))) (.inl (.tail _ (.tail _ (.tail _ (.tail _ (.head _)))))) λx hx=>(sub x hx).imp (λz=>SY [a,an,ar,ab,ak] z) id) mB)
   rw[M.toT,M.toT,jX,jX,cm,eK]
   rcases kids with _| ⟨c,r⟩
   ·have qS:d'=d:=ed
    have OA:=T5 el
    rw[qS,OA]
    rcases parted with _|_<;>simp[bL,cP]
   ·have qS:d'=tU parted d _:=ed
    rw[qS]
    show T.mk _ _=T.mk _ (ds.map M.toT++[])
    rw[SM];rfl
end
end Mine
namespace Mine
noncomputable def yp(p:Nat->Prop)(h:H)(whole:List Nat)(a:Nat)(d:Nd)(ao:List Nat):Prop:=∃fs an ar ab ak pl,eQ p h a d ao fs an ar ab ak/\d.Ok/\(d.word≠[]->bj fs 4=some (.int ((pl:Nat):Int)))/\(d.word≠[]->pl+d.word.length<=whole.length/\(whole.drop pl).take d.word.length=d.word)
noncomputable def dB(p:Nat->Prop)(h:H)(whole:List Nat):Nat->T->Prop:=ig (yp p h whole)
noncomputable abbrev dO(p:Nat->Prop)(h:H)(whole:List Nat):List Nat->List T->Prop:=A2 (dB p h whole)
theorem dB.OB{p:Nat->Prop}{h:H}{whole:List Nat}{a:Nat}{t:T}(x:dB p h whole a t):bS p h a t:=x.imp λa d ao x=>rA x λfs an ar ab ak pl x ok _ _=>⟨fs,an,ar,ab,ak,x,ok⟩
theorem dB.D4{p p':Nat->Prop}{h h':H}{whole:List Nat}(k:∀{a d ao fs an ar ab ak},eQ p h a d ao fs an ar ab ak->eQ p' h' a d ao fs an ar ab ak){a:Nat}{t:T}(x:dB p h whole a t):dB p' h' whole a t:=x.imp λa d ao x=>rA x λfs an ar ab ak pl x ok f g=>⟨fs,an,ar,ab,ak,pl,k x,ok,f,g⟩
theorem dB.keep{p S:Nat->Prop}{h h':H}{whole:List Nat}(k:ac S h h')(hs:∀i,p i->¬S i){a:Nat}{t:T}(x:dB p h whole a t):dB p h' whole a t:=x.D4 λx=>x.keep k hs
theorem dO.keep{p S:Nat->Prop}{h h':H}{whole:List Nat}(k:ac S h h')(hs:∀i,p i->¬S i){a:List Nat}{t:List T}(x:dO p h whole a t):dO p h' whole a t:=x.imp λ_ _ x=>x.keep k hs
theorem D5{h:H}:∀{xs:List V},(∀v∈xs,∃d,eF h v=some d)->∃ds,fg h xs=some ds
 | [],_=>⟨[],rfl⟩
 |v::r,hv=>by
  refine xE (hv v Sq) λd e=>?_
  refine xE (D5 (xs:=r) λx hx=>hv x (Su _ hx)) λds e2=>?_
  exact⟨d::ds,by rw[fg,e,e2]⟩
theorem OC{h:H}{xs:List V}(hv:∀v∈xs,∃d,eF h v=some d):f9 h xs xs=some true:=by
 refine xE (D5 hv) λds e=>?_
 unfold f9
 rw[if_neg (by simp)]
 split
 ·rfl
 ·rw[e];simp
theorem yq{h:H}{a b:Nat}{xs:List V}(ea:h[a]? =some (.list xs))(eb:h[b]? =some (.list xs))(hv:∀v∈xs,∃d,eF h v=some d):bX h .ne (.ref a) (.ref b)=some false:=by
 rw[wO (ie ea) (ie eb),OC hv];rfl
theorem D6{h:H}{l:List (List Nat)}(ok:∀r∈l,cE r=true):∀v∈l.map V.str,∃d,eF h v=some d:=by
 intro v hv
 refine am (TY.mp hv) λr hr ae=>?_;subst ae
 exact⟨.flat (.str r),by simp[eF,jC,ok r hr]⟩
theorem OD{h:H}{l:List Nat}:∀v∈l.map (λx=>V.int (Int.ofNat x)),∃d,eF h v=some d:=by
 intro v hv
 refine am (TY.mp hv) λr hr ae=>?_;subst ae
 exact⟨.flat (.int (Int.ofNat r)),by simp[eF,jC]⟩
theorem dB.inv{p:Nat->Prop}{h:H}{whole:List Nat}{a:Nat}{t:T}(x:dB p h whole a t):∃ao,yp p h whole a t.d ao/\dO p h whole ao t.kids:=ig.casesOn (motive_1:=λa t _=>∃ao,yp p h whole a t.d ao/\dO p h whole ao t.kids) x λx ks=>⟨_,x,ks⟩
theorem ne_self{h:H}{s t:List Nat}(e:s=t):bX h .ne (.str s) (.str t)=some false:=congrArg (λb=>some (!b)) (decide_eq_true e)
theorem get_map{α β:Type}{f:α->β}{l:List α}{i:Nat}{a:α}(e:l[i]? =some a):(l.map f)[i]? =some (f a):=by rw[TT,e];rfl
theorem qT{α:Type}{f:α->V}{h:H}{m i:Nat}{l:List α}{a:α}(o:h[m]? =some (.list (l.map f)))(e:l[i]? =some a)(b:i<=lim):cq aw h (.ref m) (.int (i:Int))=some (f a):=bG o (nL.trans (get_map e)) (V0 b)
section
variable{Γ:ay}(G:Prog Γ)
include G
theorem OE:∀(N:Nat) {n a:Nat} {m:M} {p:Nat->Prop} {whole:List Nat} {h:H},m.sz<=N->N<1000->whole.length<lim->aR h m->dB p h whole a m.toT->∀{Q X:Post},Q (.bool true) h->Γ (n+N+1) 53 [.ref m.a,.ref a,.str whole] h Q X:=by
 intro N
 induction N with
 |zero=>intro n a m p whole h hs;have:=m.toT.ik;unfold M.sz at hs;lia
 |succ N ih=>
  intro n a m p whole h hs hN hw hm hr Q X q
  refine G.intro rfl (by decide) ⟨rfl,?_⟩
  have hlim:=hlim
  rcases m with⟨ma,an,ar,ab,ak,d,kids⟩
  have nd:=hm.1
  have hsz:=tN (m:= .mk ma an ar ab ak d kids)
  have jY:∀c∈kids,c.sz<=T.bt (M.bu kids):=λc hc=>tO (m:= .mk ma an ar ab ak d kids) hc
  have k8:kids.length<=T.bt (M.bu kids):=by have:=mu (M.bu kids);rw[og]at this;exact this
  simp only[M.kids]at hsz
  refine am hr.inv λao rn D7=>rA rn λfs bn br bb bk pl x ok fp pw=>?_
  have hal:ao.length=kids.length:=D7.length.trans (og kids)
  have hk:kids.length<=lim:=by exact aZ 0xf140e343e931a20e023ef42405b11e3e83b0 rfl hN hlim hs hsz k8
  have jV:(((kids.map M.a).map V.ref).length:Int)<=lim:=by simp only[Sn];exact SR.mpr hk
  have rest:ag aw Γ (n+(N+1)+1) (.cons (.ite (.cmp .ne (.len (.idx (.loc 0) (.lit (.int 4)))) (.len (.attr (.loc 1) 3))) (.cons (.ret (.lit (.bool false))) .nil) .nil)
    (.cons (.dX 3 (.len (.idx (.loc 0) (.lit (.int 4)))) (.cons (.ite (.not (.call 53 (.cons (.idx (.idx (.loc 0) (.lit (.int 4))) (.loc 3)) (.cons (.idx (.attr (.loc 1) 3) (.loc 3)) (.cons (.loc 2) .nil))))) (.cons (.ret (.lit (.bool false))) .nil) .nil) .nil))
    (.cons (.ret (.lit (.bool true))) .nil))) [some (.ref ma),some (.ref a),some (.str whole),none] h ⟨λ_ h=>Q .none h,Q,X⟩:=by
   refine cz (aH (op:= .ne) (be (aB rfl rfl (bG nd.o rfl rfl)) (dn nd.k) jV) (be (bc rfl x.on x.fk) (dn x.k) (by simp only[Sn];rw[hal];exact SR.mpr hk)) MA) (congrArg (λb=>some (!b)) (decide_eq_true (by simp only[Sn];rw[hal]))) ?_
   refine mh G.mono (k:=kids.length) hk (λi ρ h'=>h'=h/\∃y,ρ=[some (.ref ma),some (.ref a),some (.str whole),y]) (aM _ (be (aB rfl rfl (bG nd.o rfl rfl)) (dn nd.k) jV) ⟨by simp only[Sn],rfl,none,rfl⟩) (λnP i ρ h' kP hi ii=>?_) (λρ h' ii=>?_)
   ·refine lA ii λae y az=>?_;clear ii;subst ae;subst az
    have cD:kids[i]∈kids:=Tx hi
    have hai:i<ao.length:=by exact ah 0x1f021e123e10 rfl hal hi
    have hil:i<=lim:=SQ (SZ hi) hk
    have OF:=D7.two (i:=i) (SI hai) (show(M.bu kids)[i]? =some kids[i].toT by rw[jX];exact get_map (SI hi))
    exact xm (aO (aB (aB rfl rfl (bG nd.o rfl rfl)) rfl (qT nd.k (get_map (SI hi)) hil)) (aO (aB (bc rfl x.on x.fk) rfl (qT x.k (SI hai) hil)) rfl))
     (ih (n:=n) (by exact aK 0xf130e233e921a00e91a10 rfl hs hsz (jY _ cD)) (by exact af 0x1f101e191a0 rfl hN) hw (hm.2.mem _ cD) OF (kP _ _ ⟨rfl,_,rfl⟩))
   ·refine lA ii λae y az=>?_;clear ii;subst ae;subst az
    exact bi rfl q
  refine cz (v:= .bool false) (gK (x:= .bool false) (aH (op:= .ne) (aB rfl rfl (bG nd.o rfl rfl)) (bc rfl x.on x.fw) (ne_self rfl)) rfl
   (gK (x:= .bool false) (aH (op:= .ne) (aB rfl rfl (bG nd.o rfl rfl)) (bc rfl x.on x.fn) (yq nd.n x.n OD)) rfl
   (gK (x:= .bool false) (aH (op:= .ne) (aB rfl rfl (bG nd.o rfl rfl)) (bc rfl x.on x.fr) (yq nd.r x.r (D6 ok.txt.1))) rfl
   (aH (op:= .ne) (aB rfl rfl (bG nd.o rfl rfl)) (bc rfl x.on x.fb) (yq nd.b x.b (D6 ok.txt.2)))))) rfl ?_
  by_cases h0:d.word=[]
  ·exact cz (v:= .bool false) (lX (aH (op:= .ne) (aB rfl rfl (bG nd.o rfl rfl)) rfl (ne_self h0)) rfl) rfl rest
  ·have pw:=pw h0
   have fp:=fp h0
   have iU:bh (some (pl:Int)) (some ((pl:Int)+(d.word.length:Int))) whole=d.word:=(qr (b:=pl+d.word.length) (SQ (S9 _ _) pw.1) pw.1).trans (by rw[UL,VJ];exact pw.2)
   exact cz (v:= .bool false) (jk (aH (op:= .ne) (aB rfl rfl (bG nd.o rfl rfl)) rfl xz) (congrArg (λb=>some (!b)) (decide_eq_false h0))
    (aH (op:= .ne) (qp rfl (bc rfl x.on fp) (aV (bc rfl x.on fp) (be (aB rfl rfl (bG nd.o rfl rfl)) rfl (SR.mpr (SQ (SQ (UV _ _) pw.1) (SZ hw)))) rfl) (lZ (SZ hw))) (aB rfl rfl (bG nd.o rfl rfl)) (ne_self iU))) rfl rest
end
noncomputable def bits:List (List Nat):=aw.gt 3
noncomputable def Nm(t:List Nat):Prop:=∃ws:List (List Nat),ws.length<=3/\(∀w∈ws,w∈bits)/\t=aG [32] ws
theorem yr:∀w∈bits,w.length<=30:=by decide
theorem yt:∀ws:List (List Nat),(∀w∈ws,w.length<=30)->(aG [32] ws).length<=31*ws.length
 | [],_=>by simp[aG]
 |x::r,h=>by
  have b:=h x Sq
  rw[xJ]
  split
  ·simp;exact af 0xfc91a11f2b00e1e2b0 rfl b
  ·simp;exact ah 0xfc91a11f2b991a020e1e2b20ec11f2b0 rfl (yt r λw hw=>h w (Su _ hw)) b
theorem Nm.len{t:List Nat}(h:Nm t):t.length<=93:=by
 refine aN h λws hl hb ae=>?_;clear h;subst ae
 have:=yt ws λw hw=>yr w (hb w hw)
 lia
theorem mD{h:H}{xs:List V}:fJ (h++[.tup xs]) (.ref h.length)=some xs:=fy aE
section
variable{T:Top}{ρ:Loc}{h h1 h2:H}{a b:E}
theorem ow{i j:Nat}(pa:ai T ρ a h=some (.int (i:Int),h1))(pb:ai T ρ b h1=some (.int (j:Int),h2))(l:0<j):ai T ρ (.dm a b) h=some (.ref h2.length,h2++[.tup [.int ((i/j:Nat):Int),.int ((i%j:Nat):Int)]]):=bC pa (bC pb (if_pos (Tf.mpr l)))
end
inductive D8(a q0:Nat)(h:H)(i:Nat):Loc->H->Prop
 |mk {h':H} (q':Nat) (x y:Option V) (ws:List (List Nat)) (k:ac ax h h') (e:h'[a]? =some (.list (ws.map V.str))) (b:∀w∈ws,w∈bits) (l:ws.length=i):D8 a q0 h i [some (.int q'),some (.ref a),some (.int ((q0%4:Nat):Int)),x,y] h'
section
variable{Γ:ay}(G:Prog Γ)
include G
theorem D9{n q0:Nat}{h:H}{Q X:Post}(q:∀t h',ac ax h h'->Nm t->Q (.str t) h'):Γ n 45 [.int q0] h Q X:=by
 refine G.intro rfl (by decide) ⟨rfl,bd rfl (jp (ow (i:=q0) (j:=4) rfl rfl (by decide)) mD rfl ?_)⟩
 have hc4:q0%4<4:=Ul _ (by decide)
 have l4:q0%4<=lim:=SQ (SZ hc4) (by decide)
 refine mh G.mono (k:=q0%4) l4 (D8 h.length q0 h) (aM _ rfl ⟨rfl,q0/4,none,none,[],ac.push.trans ac.push,(SA (aC aE)).trans aE,(λw hw=>nomatch hw),rfl⟩) (λnP i ρ h' kP hi ii=>?_) (λρ h' ii=>?_)
 ·refine ii.casesOn λ{h'} q' x y ws K e hb hl=>?_;clear ii
  have hlt:=aC e
  have hc4:q'%12<12:=Ul _ (by decide)
  have e2:=(SA (l₂:=[O.tup [V.int ((q'/12:Nat):Int),V.int ((q'%12:Nat):Int)]]) hlt).trans e
  have gG:q'%12<bits.length:=hc4
  refine jp (ow (i:=q') (j:=12) rfl rfl (by decide)) mD rfl (bP rfl e2 (aB rfl rfl (qq (s:=bits[q'%12]) (SI gG) (SQ (SZ hc4) (by decide)))) e2 (by rw[Sn,hl];exact SV hi l4) (bp (kP _ _ ⟨_,_,_,ws++[bits[q'%12]],K.after (ac.push.trans (ac.set (S:=(· =h.length)) rfl)) (λi hi z=>absurd hi (z▸Tv _)),(bq e2).trans (by rw[SN];rfl),(λw hw=>(SL.mp hw).elim (hb w) λhw=>Sx.mp hw▸Tx _),by rw[So,hl];rfl⟩)))
 ·refine ii.casesOn λ{h'} q' x y ws K e hb hl=>?_;clear ii
  have:=yt ws λw hw=>yr w (hb w hw)
  exact bi (qk (ss:=ws) rfl ((congrArg (·.bind dE) (ie e)).trans (strs_map ws)) (hl▸l4) (SQ this (SQ (T3 31 (hl▸Vx hc4:ws.length<=3)) (by decide)))) (q _ _ K ⟨ws,hl▸Vx hc4,hb,rfl⟩)
end
mutual
noncomputable def M.nodes:M->List Nat
 | .mk a _ _ _ _ _ kids=>a::M.cp kids
noncomputable def M.cp:List M->List Nat
 | []=>[]
 |m::ms=>M.nodes m++M.cp ms
end
mutual
noncomputable def T.All(P:Nd->Prop):T->Prop
 | .mk d kids=>P d/\T.cx P kids
noncomputable def T.cx(P:Nd->Prop):List T->Prop
 | []=>True
 |m::ms=>T.All P m/\T.cx P ms
end
noncomputable def Nd.cnt(d:Nd):Nat:=d.aQ.length+d.rem.length+d.aA.length
mutual
noncomputable def T.cnt:T->Nat
 | .mk d kids=>1+d.cnt+T.bJ kids
noncomputable def T.bJ:List T->Nat
 | []=>0
 |m::ms=>T.cnt m+T.bJ ms
end
mutual
theorem OG:∀{m:M},∀x∈m.nodes,x∈m.addrs
 | .mk a n r b k d kids,x,hx=>by
  simp only[M.nodes,SH,M.addrs]at*
  refine Ts hx (λhx=>?_) (λhx=>?_)
  ·exact .inl hx
  ·exact .inr (.inr (.inr (.inr (.inr (yu x hx)))))
theorem yu:∀{ms:List M},∀x∈M.cp ms,x∈M.aS ms
 | [],x,hx=>by simp[M.cp]at hx
 |m::ms,x,hx=>by
  simp only[M.cp,SL,M.aS]at*
  refine Ts hx (λhx=>?_) (λhx=>?_)
  ·exact .inl (OG x hx)
  ·exact .inr (yu x hx)
end
theorem yv{P:Nd->Prop}:∀{as bs:List T},T.cx P (as++bs)↔T.cx P as/\T.cx P bs
 | [],bs=>by simp[T.cx]
 |a::as,bs=>by
  rw[Te]
  simp only[T.cx]
  rw[yv (as:=as)]
  exact and_assoc.symm
theorem yw:∀{as bs:List T},T.bJ (as++bs)=T.bJ as+T.bJ bs
 | [],bs=>by simp[T.bJ]
 |a::as,bs=>by rw[Te,T.bJ,yw (as:=as),T.bJ,Tu]
theorem tY:∀{as bs:List M},M.cp (as++bs)=M.cp as++M.cp bs
 | [],bs=>by simp[M.cp]
 |a::as,bs=>by rw[Te,M.cp,tY (as:=as),M.cp,Sw]
theorem tZ{as bs:List M}:M.bu (as++bs)=M.bu as++M.bu bs:=by simp[jX]
noncomputable def li:List (List Nat):=aw.gt 2
structure bW(d:Nd):Prop where
 word:d.word∈li
 aQ:∀x∈d.aQ,x<=255
 rem:∀r∈d.rem,Nm r
 aA:∀r∈d.aA,Nm r
theorem Ea:∀ts:List T,ts.length<=T.bJ ts
 | []=>by simp[T.bJ]
 |t::ts=>by
  rcases t with⟨⟩
  simp[T.bJ,T.cnt];exact aK 0xf9193921a91a00e10 rfl (Ea ts)
structure Zp(ms:List M)(g:M->List M)(z:M)(rest rest':List Nat)(c0:Nat)(W:H->Prop):Prop where
 eq:g z=ms
 ad:∀z',(M.aS (g z')).Perm (z'.addrs++rest)
 no:∀z',(M.cp (g z')).Perm (z'.nodes++rest')
 as:∀z',z'.a=z.a->(g z').map M.a=ms.map M.a
 al:T.cx bW (M.bu ms)->T.All bW z.toT/\∀z',T.All bW z'.toT->T.cx bW (M.bu (g z'))
 cn:∀z',T.bJ (M.bu (g z'))=z'.toT.cnt+c0
 mi:∀h z',z'.a=z.a->(bD h (g z')↔aR h z'/\W h)
 wk:∀{S:Nat->Prop} {h h':H},ac S h h'->(∀y∈rest,¬S y)->W h->W h'
theorem t6{F A Z R:List Nat}(h:A.Perm (Z++R)):(F++A).Perm (Z++(F++R)):=(h.append_left F).trans (List.perm_append_comm_assoc F Z R)
theorem Zp.up{kids:List M}{g:M->List M}{z:M}{rest rest':List Nat}{c0:Nat}{W:H->Prop}(Z:Zp kids g z rest rest' c0 W)(a n r b k:Nat)(d:Nd):Zp [.mk a n r b k d kids] (λz'=>[.mk a n r b k d (g z')]) z ([a,n,r,b,k]++rest) ([a]++rest') (c0+(1+d.cnt)) (λh=>iV h a n r b k d (kids.map M.a)/\W h) where
 eq:=congrArg (λl=>[M.mk a n r b k d l]) Z.eq
 ad z':=by rw[M.aS,M.aS,SM];exact t6 (F:=[a,n,r,b,k]) (Z.ad z')
 no z':=by rw[M.cp,M.cp,SM];exact t6 (F:=[a]) (Z.no z')
 as _ _:=rfl
 al h:=⟨(Z.al h.1.2).1,λz' h'=>⟨⟨h.1.1,(Z.al h.1.2).2 z' h'⟩,trivial⟩⟩
 cn z':=by
  have:=Z.cn z'
  show 1+d.cnt+T.bJ (M.bu (g z'))+0=_
  exact SK (aK 0xf9932190a9032e9210 rfl this) (aK 0xf90a903993213e9210 rfl this)
 mi h z' e:=by
  show(iV h a n r b k d ((g z').map M.a)/\bD h (g z'))/\True↔_
  rw[Z.as z' e,Z.mi h z' e]
  exact⟨λh=>⟨h.1.2.1,h.1.1,h.1.2.2⟩,λh=>⟨⟨h.2.1,h.1,h.2.2⟩,trivial⟩⟩
 wk K hs w:=⟨w.1.keep K (DY hs),Z.wk K (λy hy=>hs y (SY _ hy)) w.2⟩
mutual
theorem focus{x:Nat}:∀{m:M},x∈m.nodes->∃z g rest rest' c0 W,z.a=x/\Zp [m] g z rest rest' c0 W
 | .mk a n r b k d kids,hx=>(SH.mp hx).elim
  (λe=>⟨.mk a n r b k d kids,λz=>[z],[],[],0,λ_=>True,e.symm,rfl,λ_=> .refl _,λ_=> .refl _,λz' e=>congrArg (λi=>[i]) e,λh=>⟨h.1,λz' h'=>⟨h',trivial⟩⟩,λ_=>rfl,λ_ _ _=>Iff.rfl,λ_ _ _=>trivial⟩)
  λhx=>xE (yx hx) λz q=>xE q λg q=>oX q λrest rest' c0 q=>am q λW e Z=>⟨z,_,_,_,_,_,e,Z.up a n r b k d⟩
theorem yx{x:Nat}:∀{ms:List M},x∈M.cp ms->∃z g rest rest' c0 W,z.a=x/\Zp ms g z rest rest' c0 W
 | [],hx=>nomatch hx
 |m::ms,hx=>(SL.mp hx).elim
  (λhx=>xE (focus hx) λz q=>xE q λg q=>oX q λrest rest' c0 q=>am q λW e Z=>⟨z,λz'=>g z'++ms,rest++M.aS ms,rest'++M.cp ms,c0+T.bJ (M.bu ms),λh=>W h/\bD h ms,e,
   {eq:=congrArg (· ++ms) Z.eq
    ad:=λz'=>by rw[mA,←Sw];exact(Z.ad z').append_right _
    no:=λz'=>by rw[tY,←Sw];exact(Z.no z').append_right _
    as:=λz' e=>by rw[SN,Z.as z' e];rfl
    al:=λh=>⟨(Z.al ⟨h.1,trivial⟩).1,λz' h'=>by rw[tZ];exact yv.mpr ⟨(Z.al ⟨h.1,trivial⟩).2 z' h',h.2⟩⟩
    cn:=λz'=>by rw[tZ,yw,Z.cn,Tu]
    mi:=λh z' e=>by rw[oo,Z.mi h z' e,and_assoc]
    wk:=λK hs w=>⟨Z.wk K (λy hy=>hs y (SP _ hy)) w.1,bD.keep K w.2 λy hy=>hs y (SY _ hy)⟩}⟩)
  λhx=>xE (yx hx) λz q=>xE q λg q=>oX q λrest rest' c0 q=>am q λW e Z=>⟨z,λz'=>m::g z',m.addrs++rest,m.nodes++rest',c0+m.toT.cnt,λh=>aR h m/\W h,e,
   {eq:=congrArg (m:: ·) Z.eq
    ad:=λz'=>t6 (Z.ad z')
    no:=λz'=>t6 (Z.no z')
    as:=λz' e=>congrArg (m.a:: ·) (Z.as z' e)
    al:=λh=>⟨(Z.al h.2).1,λz' h'=>⟨h.1,(Z.al h.2).2 z' h'⟩⟩
    cn:=λz'=>by
     show m.toT.cnt+T.bJ (M.bu (g z'))=_
     rw[Z.cn,Nat.add_left_comm,Ur c0]
    mi:=λh z' e=>by
     show aR h m/\bD h (g z')↔_
     rw[Z.mi h z' e];exact and_left_comm
    wk:=λK hs w=>⟨aR.keep K w.1 λy hy=>hs y (SP _ hy),Z.wk K (λy hy=>hs y (SY _ hy)) w.2⟩}⟩
end
structure ju(d:Nd):Prop where
 word:d.word=[]
 aQ:d.aQ=[]
 rem:∀r∈d.rem,Nm r
 aA:d.aA=[]
structure Drawn(h:H)(m:M)(bs:List Nat)(c:Nat):Prop where
 mine:aR h m
 nd:m.addrs.Nodup
 root:ju m.d
 kids:T.cx bW (M.bu m.kids)
 mem:∀b∈bs,b∈M.cp m.kids
 cnt:m.toT.cnt<=c
theorem Drawn.grow{h h':H}{m:M}{bs:List Nat}{c:Nat}(D:Drawn h m bs c)(k:ac ax h h'):Drawn h' m bs c:=⟨D.mine.grow k,D.nd,D.root,D.kids,D.mem,D.cnt⟩
structure Zt(m:M)(f:M->M)(z:M)(rest:List Nat)(c0:Nat)(W:H->Prop):Prop where
 eq:f z=m
 ad:∀z',(f z').addrs.Perm (z'.addrs++rest)
 as:∀z',z'.a=z.a->(f z').a=m.a
 me:∀z',z'.a=z.a->(∀y∈M.cp z.kids,y∈M.cp z'.kids)->(∀y∈M.cp m.kids,y∈M.cp (f z').kids)/\∀y∈M.cp z'.kids,y∈M.cp (f z').kids
 al:ju m.d->T.cx bW (M.bu m.kids)->((z.a≠m.a->bW z.d)/\(z.a=m.a->ju z.d)/\T.cx bW (M.bu z.kids))/\∀z',(z.a≠m.a->bW z'.d)->(z.a=m.a->ju z'.d)->T.cx bW (M.bu z'.kids)->ju (f z').d/\T.cx bW (M.bu (f z').kids)
 cn:∀z',(f z').toT.cnt=z'.toT.cnt+c0
 mi:∀h z',z'.a=z.a->(aR h (f z')↔aR h z'/\W h)
 wk:∀{S:Nat->Prop} {h h':H},ac S h h'->(∀y∈rest,¬S y)->W h->W h'
theorem M.all{m:M}:T.All bW m.toT↔bW m.d/\T.cx bW (M.bu m.kids):=by rcases m with⟨⟩;exact Iff.rfl
theorem M.Eb(m:M):m.nodes=m.a::M.cp m.kids:=by rcases m with⟨⟩;rfl
theorem Drawn.zip{h:H}{m:M}{bs:List Nat}{c x:Nat}(D:Drawn h m bs c)(hx:x∈m.a::bs):∃z f rest c0 W,z.a=x/\Zt m f z rest c0 W:=by
 by_cases e:x=m.a
 ·exact⟨m,id,[],0,λ_=>True,e.symm,rfl,λz'=>by rw[SM];exact .refl _,λ_ e=>e,λz' _ hy=>⟨hy,λ_ hy=>hy⟩,λr a=>⟨⟨λz=>absurd rfl z,λ_=>r,a⟩,λz' _ r a=>⟨r rfl,a⟩⟩,λ_=>rfl,λ_ _ _=>⟨λh=>⟨h,trivial⟩,λh=>h.1⟩,λ_ _ _=>trivial⟩
 ·have hk:=D.mem x ((SH.mp hx).resolve_left e)
  have mn:=D.mine.lt
  refine xE (yx hk) λz q=>xE q λg q=>oX q λrest rest' c0 q=>am q λW ez Z=>?_
  rcases m with⟨a,n,r,b,k,d,kids⟩
  have ne:z.a≠a:=λw=>e (ez.symm.trans w)
  have Y:=Z.up a n r b k d
  refine⟨z,λz'=> .mk a n r b k d (g z'),[a,n,r,b,k]++rest,c0+(1+d.cnt),_,ez,congrArg (M.mk a n r b k d) Z.eq,λz'=>?_,λ_ _=>rfl,λz' e' hy=>⟨λy hy'=>?_,λy hy'=>(Z.no z').mem_iff.mpr (SP _ (by rw[M.Eb];exact .tail _ hy'))⟩,λr al=>⟨⟨λ_=>(M.all.mp (Z.al al).1).1,λw=>absurd w ne,(M.all.mp (Z.al al).1).2⟩,λz' kd _ al'=>⟨r,(Z.al al).2 z' (M.all.mpr ⟨kd ne,al'⟩)⟩⟩,λz'=>Y.cn z',λh z' e'=>⟨λw=>(Y.mi h z' e').mp ⟨w,trivial⟩,λw=>((Y.mi h z' e').mpr w).1⟩,Y.wk⟩
  ·have:=Y.ad z'
   rw[M.aS,M.aS,SM]at this
   exact this
  ·have Ze:g z=kids:=Z.eq
   have hy':y∈M.cp kids:=hy'
   rw[←Ze]at hy'
   refine(Z.no z').mem_iff.mpr (SL.mpr ((SL.mp ((Z.no z).mem_iff.mp hy')).imp (λw=>?_) id))
   rw[M.Eb]at w ⊢
   exact(SH.mp w).elim (λw=>by rw[w,←e'];exact .head _) λw=> .tail _ (hy y w)
theorem OH{x n r b k:Nat}{L:List Nat}(nd:(x::n::r::b::k::L).Nodup):∀y∈L,¬(y=n\/y=r\/y=b\/y=k):=λy hy z=>by
 have ne:∀{i w:Nat},(x::n::r::b::k::L)[i]? =some w->i<5->y≠w:=λe l=>qP nd e l hy
 exact z.elim (ne (i:=1) rfl (by decide)) λz=>z.elim (ne (i:=2) rfl (by decide)) λz=>z.elim (ne (i:=3) rfl (by decide)) (ne (i:=4) rfl (by decide))
theorem Drawn.step{h:H}{m:M}{bs:List Nat}{c x:Nat}(D:Drawn h m bs c)(hx:x∈m.a::bs):
  ∃n r b k d,∃kids:List M,iV h x n r b k d (kids.map M.a)/\(x≠m.a->bW d)/\(x=m.a->ju d)/\[x,n,r,b,k].Nodup/\(∀y∈[x,n,r,b,k],y∈m.addrs)/\kids.length<=c/\d.cnt<=c/\
   ∀(h':H) (d':Nd) (new:List M),iV h' x n r b k d' ((kids++new).map M.a)->(x≠m.a->bW d')->(x=m.a->ju d')->ac (λi=>i=n\/i=r\/i=b\/i=k) h h'->bD h' new->T.cx bW (M.bu new)->(∀y∈M.aS new,h.length<=y)->(M.aS new).Nodup->
    d'.cnt+T.bJ (M.bu new)<=d.cnt+1->∃m',Drawn h' m' (bs++M.cp new) (c+1)/\m'.a=m.a/\(∀y∈m'.addrs,y∈m.addrs\/y∈M.aS new):=by
 refine xE (D.zip hx) λz q=>xE q λf q=>iH q λrest c0 q=>am q λW ez Z=>?_
 rcases z with⟨a,n,r,b,k,d,kids⟩
 have ex:a=x:=ez
 subst ex
 have mz:=(Z.mi h _ rfl).mp (Z.eq.symm▸D.mine)
 have pz:=Z.ad (.mk a n r b k d kids)
 rw[Z.eq]at pz
 have OI:=pz.nodup_iff.mp D.nd
 have Ec:(a::n::r::b::k::(M.aS kids++rest)).Nodup:=OI
 have cn:=Z.cn (.mk a n r b k d kids)
 rw[Z.eq]at cn
 have cn:m.toT.cnt=1+d.cnt+T.bJ (M.bu kids)+c0:=cn
 have al:=Z.al D.root D.kids
 have hlen:=Ea (M.bu kids)
 rw[og]at hlen
 have hc:=D.cnt
 refine⟨n,r,b,k,d,kids,mz.1.1,al.1.1,al.1.2.1,(T2.mp (Ec:([a,n,r,b,k]++(M.aS kids++rest)).Nodup)).1,λy hy=>pz.mem_iff.mpr (SP _ (SP (M.aS kids) hy:y∈[a,n,r,b,k]++M.aS kids)),by exact dU 0xf540e500e243e939210 rfl cn hlen hc,by exact aZ 0xf410e403e9392911a0 rfl cn hc,λh' d' new yy kd rd K mn an qU OJ hcc=>?_⟩
 have Ed:=OH Ec
 have t8:=Z.cn (.mk a n r b k d' (kids++new))
 have t8:(f (.mk a n r b k d' (kids++new))).toT.cnt=1+d'.cnt+T.bJ (M.bu (kids++new))+c0:=t8
 rw[tZ,yw]at t8
 have al':=al.2 (.mk a n r b k d' (kids++new)) kd rd (by show T.cx bW (M.bu (kids++new));rw[tZ];exact yv.mpr ⟨al.1.2.2,an⟩)
 have me:=Z.me (.mk a n r b k d' (kids++new)) rfl (λy hy=>by show y∈M.cp (kids++new);rw[tY];exact SP _ hy)
 have pm:(f (.mk a n r b k d' (kids++new))).addrs.Perm (M.aS new++m.addrs):=by
  refine(Z.ad _).trans (.trans ?_ (pz.symm.append_left _))
  rw[M.addrs,mA,←Sw]
  exact(List.perm_append_comm (l₁:=a::n::r::b::k::M.aS kids)).append_right rest
 refine⟨_,⟨(Z.mi h' (.mk a n r b k d' (kids++new)) rfl).mpr ⟨⟨yy,oo.mpr ⟨bD.keep K mz.1.2 λy hy=>Ed y (SP _ hy),mn⟩⟩,Z.wk K (λy hy=>Ed y (SY _ hy)) mz.2⟩,pm.nodup_iff.mpr (T2.mpr ⟨OJ,D.nd,λu hu v hv e=>Tv _ (SV (D.mine.lt v hv) (e▸qU u hu))⟩),al'.1,al'.2,λy hy=>(SL.mp hy).elim (λhy=>me.1 y (D.mem y hy)) λhy=>me.2 y (by show y∈M.cp (kids++new);rw[tY];exact SY _ hy),by exact uL 0xf91a472e939962951a70e91a19650e403e9392911a0 rfl cn hc hcc t8⟩,Z.as _ rfl,λy hy=>(SL.mp (pm.mem_iff.mp hy)).symm⟩
noncomputable def dq:List (List Nat):=aw.gt 4
noncomputable def Ee:List (List Nat):=aw.gt 5
noncomputable def iz:List (List Nat):=aw.gt 6
noncomputable def yz:List Nat:=[82,101,115,117,108,116]
theorem Ef:∀w∈dq,(∀c∈w,CW c=true)/\w.length<=255/\(w.head?.map isLetter)=some true/\cE w=true:=by decide
theorem OK:∀w∈Ee,w.length<=255/\(∀c∈w,tc c=false)/\cE w=true:=by decide
theorem t9:∀w∈iz,w.length<=255/\(∀c∈w,tc c=false)/\cE w=true/\results.contains w=true/\w≠[]:=by decide
theorem Eg{w:List Nat}(h:w∈dq):mm w:=by
 refine kf (Ef w h) λa b c _=>?_
 cases w with
 |nil=>(exact nn c)
 |cons x r=>exact⟨a,b,x,r,rfl,by simpa using c⟩
theorem names_nodup:dq.Nodup:=by decide
theorem OL:∀k (hk:k<dq.length),dq[k]=yz->k=2:=by decide
structure ua(tags:List Tag)(res:List Nat):Prop where
 ok:∀t∈tags,gW t/\cE t.1=true/\cE t.2=true/\t.1∈dq
 res:∀t∈tags,t.1=yz->t.2=res
theorem bT.snoc{h:H}{tg:Nat}{tags:List Tag}{as:List Nat}{t:Tag}(e:h[tg]? =some (.list (as.map V.ref)))(g:A2 (λa t=>h[a]? =some (.tup [.str t.1,.str t.2])) as tags):
  bT ((h++[O.tup [V.str t.1,V.str t.2]]).set tg (.list (as.map V.ref++[.ref h.length]))) tg (tags++[t]):=
 have e1:=(SA (aC e)).trans e
 ⟨as++[h.length],(bq e1).trans (congrArg (λl=>some (O.list l)) (SN (f:=V.ref) (l₁:=as) (l₂:=[h.length])).symm),(g.imp λa t' z=>(S0 λy=>by rw[←y,e]at z;exact O.noConfusion (Sv z)).trans ((SA (aC z)).trans z)).app (.cons ((S0 (SX (aC e))).trans aE) .nil)⟩
theorem yA{h:H}{a:Nat}{xs:List V}(e:h[a]? =some (.list xs))(h0:0<xs.length):cq aw h (.ref a) (.int (-1))=some (xs[xs.length-1]):=by
 have e1:(-1:Int)+(xs.length:Int)=((xs.length-1:Nat):Int):=by omega
 refine bG e ?_ rfl
 unfold gc
 rw[if_neg (by decide),e1,if_pos (T8 _)]
 exact SI (WF h0 Nat.one_pos)
noncomputable def OM:Ss:=(.cons (.unpack [10,11] (.dm (.bin .mod (.loc 9) (.pow 10 9)) (.lit (.int 6))))
 (.cons (.unpack [10,3] (.dm (.loc 10) (.len (.loc 8))))
 (.cons (.ite (.cmp .eq (.loc 11) (.lit (.int 3))) (.cons (.expr (.append (.idx (.idx (.loc 8) (.loc 3)) (.lit (.int 2))) (.call 45 (.cons (.loc 10) .nil))))
 .nil) (.cons (.ite (.and (.cmp .eq (.loc 11) (.lit (.int 4))) (.cmp .gt (.loc 3) (.lit (.int 0)))) (.cons (.expr (.append (.idx (.idx (.loc 8) (.loc 3)) (.lit (.int 3))) (.call 45 (.cons (.loc 10) .nil))))
 .nil) (.cons (.ite (.and (.cmp .eq (.loc 11) (.lit (.int 5))) (.cmp .gt (.loc 3) (.lit (.int 0)))) (.cons (.expr (.append (.idx (.idx (.loc 8) (.loc 3)) (.lit (.int 1))) (.bin .mod (.loc 10) (.lit (.int 256)))))
 .nil) (.cons (.assign 12 (.lst (.cons (.idx (.glob 20) (.bin .mod (.loc 10) (.lit (.int 10)))) (.cons (.lst .nil) (.cons (.lst .nil) (.cons (.lst .nil) (.cons (.lst .nil) .nil)))))))
 (.cons (.expr (.append (.idx (.idx (.loc 8) (.ite (.cmp .eq (.loc 11) (.lit (.int 0))) (.neg 1) (.loc 3))) (.lit (.int 4))) (.loc 12)))
 (.cons (.expr (.append (.loc 8) (.loc 12)))
 .nil))))
 .nil))
 .nil))
 .nil)))
structure yB(L:Nat)(md sl tp:Nat)(rest:List V)(h:H)(m:M)(bs:List Nat)(c:Nat):Prop where
 D:Drawn h m bs c
 etop:m.a=tp
 made:h[md]? =some (.list ((m.a::bs).map V.ref))
 iU:h[sl]? =some (.list rest)
 ne:md∉m.addrs/\sl∉m.addrs/\sl≠md/\L<=md/\L<=sl
 ge:∀y∈m.addrs,L<=y
 few:bs.length<=c
section
variable{T:Top}{ρ:Loc}{a b:E}{h h1 h2:H}
theorem ub{p q:Prop} [Decidable p] [Decidable q] (pa:ai T ρ a h=some (.bool (decide p),h))(pb:ai T ρ b h=some (.bool (decide q),h)):ai T ρ (.and a b) h=some (.bool (decide (p/\q)),h):=by
 by_cases c:p
 ·exact(jk pa (congrArg some (decide_eq_true c)) pb).trans (by rw[decide_eq_decide.mpr (and_iff_right c)])
 ·exact(lX pa (congrArg some (decide_eq_false c))).trans (by rw[decide_eq_false c,decide_eq_false λz=>c z.1])
theorem Eh{w:List Nat}(pa:ai T ρ a h=some (.str w,h)):ai T ρ (.lst (.cons a (.cons (.lst .nil) (.cons (.lst .nil) (.cons (.lst .nil) (.cons (.lst .nil) .nil)))))) h=some (.ref (h.length+4),h++[O.list [],O.list [],O.list [],O.list [],O.list [.str w,.ref h.length,.ref (h.length+1),.ref (h.length+2),.ref (h.length+3)]]):=
 (ic (aO pa rfl)).trans (by simp only[So,SD,SU,Sw,Te,TB,Tu])
end
theorem Ei{g l:H}{k:Nat}:(g++l)[g.length+k]? =l[k]? :=by rw[Tn (S9 _ _),VJ]
theorem Ej{L:Nat}:[L+4,L,L+1,L+2,L+3].Nodup:=by simp
section
variable{Γ:ay}(G:Prog Γ)
include G
theorem ON{n L md sl tp c:Nat}{rest:List V}{m:M}{bs:List Nat}{h:H}(S:yB L md sl tp rest h m bs c)(hc:c<=1000){nums:Int}{o0 o1 o2 o3 o4 o5 o6 o7 eh jZ iW:Option V}{P:PS}
  (q:∀h' m' bs' p3 fW ia dM,ac (λi=>L<=i) h h'->yB L md sl tp rest h' m' bs' (c+1)->P.N [o0,o1,o2,p3,o4,o5,o6,o7,some (.ref md),some (.int nums),fW,ia,dM] h'):
  ag aw Γ (n+1) OM [o0,o1,o2,o3,o4,o5,o6,o7,some (.ref md),some (.int nums),eh,jZ,iW] h P:=by
 have hlim:=hlim
 have few:=S.few
 refine xE (show∃w:Nat,nums%((10 ^ 9:Nat):Int)=(w:Int)from⟨_,(We (WG _ (by decide))).symm⟩) λw hw=>?_
 refine jp (ow (i:=w) (j:=6) (aV rfl rfl ((mod_int (by decide)).trans (congrArg (λz=>some (V.int z)) hw))) rfl (by decide)) mD rfl ?_
 have k1:ac ax h (h++[O.tup [V.int ((w/6:Nat):Int),V.int ((w%6:Nat):Int)]]):=ac.push
 generalize h++[O.tup [V.int ((w/6:Nat):Int),V.int ((w%6:Nat):Int)]]=g1 at k1 ⊢
 generalize w/6=u
 generalize w%6=lj
 refine jp (ow (i:=u) rfl (be rfl (dn (k1.some S.made id)) (SR.mpr (by simp only[Sn,SD];exact ah 0xf191a20e023ef42405b10e3e83b0 rfl hc hlim few))) (UD _)) mD rfl ?_
 have hwl:u%((m.a::bs).map V.ref).length<(m.a::bs).length:=by rw[Sn];exact Ul _ (UD _)
 generalize u/((m.a::bs).map V.ref).length=u2
 generalize u%((m.a::bs).map V.ref).length=which at hwl ⊢
 have k2:ac ax h (g1++[O.tup [V.int (u2:Int),V.int (which:Int)]]):=k1.trans ac.push
 generalize g1++[O.tup [V.int (u2:Int),V.int (which:Int)]]=g2 at k2 ⊢
 show ag aw Γ (n+1) _ [o0,o1,o2,some (.int which),o4,o5,o6,o7,some (.ref md),some (.int nums),some (.int u2),some (.int lj),iW] g2 P
 have e2:=k2.some S.made id
 have D2:=S.D.grow k2
 have R5:=aC S.made
 have yC:=aC e2
 have Ek:which<=lim:=by simp only[SD]at hwl;exact aK 0xf131e91a230e023ef42405b10e3e83b0 rfl hc hlim few hwl
 have ex:=SI hwl
 generalize(m.a::bs)[which]=x at ex
 have nz:0<which->x≠m.a:=by
  rcases which with _|w'
  ·exactλz=>absurd z (Tv 0)
  ·intro _ e
   have hb:=yu _ (S.D.mem _ (Sy (ex:bs[w']? =some x)))
   have nd:=S.D.nd
   rcases m with⟨a,n,r,b,k,d,kids⟩
   rw[(e:x=a)]at hb
   exact(TX.mp nd).1 (.tail _ (.tail _ (.tail _ (.tail _ hb))))
 have fin:∀(h':H) (m':M) (new:List Nat) (p3 fW ia dM:Option V),ac (λi=>i∈m.addrs\/i=md) g2 h'->Drawn h' m' (bs++new) (c+1)->new.length<=1->m'.a=m.a->h'[md]? =some (.list ((m'.a::(bs++new)).map V.ref))->(∀y∈m'.addrs,y∈m.addrs\/g2.length<=y)->P.N [o0,o1,o2,p3,o4,o5,o6,o7,some (.ref md),some (.int nums),fW,ia,dM] h':=by
  intro h' m' new p3 fW ia dM K D' hl ea em sub
  have hne:=S.ne
  have hk2:=k2.len
  have sl2:=aC (k2.some S.iU id)
  refine q h' m' _ p3 fW ia dM ((k2.mono λ_ _ z=>z.elim).trans (K.mono λi _ z=>z.elim (S.ge i) λz=>z▸hne.2.2.2.1)) ⟨D',ea.trans S.etop,em,K.some (k2.some S.iU id) (λz=>z.elim hne.2.1 hne.2.2.1),⟨λz=>(sub _ z).elim hne.1 (Uh yC),λz=>(sub _ z).elim hne.2.1 (Uh sl2),hne.2.2⟩,λy hy=>(sub y hy).elim (S.ge y) λw=>SQ (SQ hne.2.2.2.1 (SZ yC)) w,by rw[So];exact UK few hl⟩
 have in4:∀{x n r b k:Nat},(∀y∈[x,n,r,b,k],y∈m.addrs)->∀i,(i=n\/i=r\/i=b\/i=k)->i∈m.addrs:=λsub i z=>z.elim (λz=>z▸sub _ (.tail _ (.head _))) λz=>z.elim (λz=>z▸sub _ (.tail _ (.tail _ (.head _)))) λz=>z.elim (λz=>z▸sub _ (.tail _ (.tail _ (.tail _ (.head _))))) λz=>z▸sub _ (.tail _ (.tail _ (.tail _ (.tail _ (.head _)))))
 have kid:∀(x:Nat) (e:E),x∈m.a::bs->(∀(g:H) (dM:Option V),g[md]? =some (.list ((m.a::bs).map V.ref))->ai aw [o0,o1,o2,some (.int which),o4,o5,o6,o7,some (.ref md),some (.int nums),some (.int u2),some (.int lj),dM] (.idx (.loc 8) e) g=some (.ref x,g))->
   ag aw Γ (n+1) (.cons (.assign 12 (.lst (.cons (.idx (.glob 20) (.bin .mod (.loc 10) (.lit (.int 10)))) (.cons (.lst .nil) (.cons (.lst .nil) (.cons (.lst .nil) (.cons (.lst .nil) .nil)))))))
    (.cons (.expr (.append (.idx (.idx (.loc 8) e) (.lit (.int 4))) (.loc 12))) (.cons (.expr (.append (.loc 8) (.loc 12))) .nil))) [o0,o1,o2,some (.int which),o4,o5,o6,o7,some (.ref md),some (.int nums),some (.int u2),some (.int lj),iW] g2 P:=by
  intro x e hx he
  refine uY (D2.step hx) λan ar ab ak d kids na kd rd ey sub kl dl go=>?_
  have El:u2%10<li.length:=Ul _ (by decide:0<10)
  refine bd (Eh (aB rfl (aV rfl rfl (mod_int (by decide))) (qq (k:=2) (j:=u2%10) (SI El) (by have:=Ul u2 (by decide:0<10);exact af 0xf011eaa13ef42405b0 rfl hlim this)))) ?_
  have Em:li[u2%10]∈li:=Tx El
  generalize hw:li[u2%10]=word at Em
  have k3:ac ax g2 (g2++[O.list [],O.list [],O.list [],O.list [],O.list [V.str word,V.ref g2.length,V.ref (g2.length+1),V.ref (g2.length+2),V.ref (g2.length+3)]]):=ac.push
  have n0:=λk=>Ei (k:=k) (g:=g2) (l:=[O.list [],O.list [],O.list [],O.list [],O.list [V.str word,V.ref g2.length,V.ref (g2.length+1),V.ref (g2.length+2),V.ref (g2.length+3)]])
  generalize g2++[O.list [],O.list [],O.list [],O.list [],O.list [V.str word,V.ref g2.length,V.ref (g2.length+1),V.ref (g2.length+2),V.ref (g2.length+3)]]=g3 at k3 n0 ⊢
  have k0:=k3.some na.k id
  have e3:=k3.some e2 id
  have OO:ak≠md:=λz=>S.ne.1 (z▸sub ak (.tail _ (.tail _ (.tail _ (.tail _ (.head _))))))
  have kB:ac (· =ak) g2 (g3.set ak (O.list (List.map V.ref (kids.map M.a)++[V.ref (g2.length+4)]))):=(k3.mono λ_ _ z=>z.elim).trans (ac.set rfl)
  have qO:(g3.set ak (O.list (List.map V.ref (kids.map M.a)++[V.ref (g2.length+4)])))[ak]? =some (.list (((kids++[M.mk (g2.length+4) g2.length (g2.length+1) (g2.length+2) (g2.length+3) ⟨word,[],[],[]⟩ []]).map M.a).map V.ref)):=(bq k0).trans (by rw[SN,SN];rfl)
  have OP:=aC na.k
  have oy:∀{i o},g3[g2.length+i]? =some o->(g3.set ak (O.list (List.map V.ref (kids.map M.a)++[V.ref (g2.length+4)])))[g2.length+i]? =some o:=λe=>(S0 (SX (SV OP (S9 _ _)))).trans e
  refine bP (aB (he g3 _ e3) rfl (bG (k3.some na.o id) rfl rfl)) k0 rfl k0 (by simp only[Sn];exact ah 0x1f120e023ef42405b10e3e83b0 rfl hc hlim kl) ?_
  generalize g3.set ak (O.list (List.map V.ref (kids.map M.a)++[V.ref (g2.length+4)]))=g4 at kB qO oy ⊢
  have e4:=kB.some e2 (λz=>OO z.symm)
  have kC:ac (· =md) g4 (g4.set md (O.list ((m.a::bs).map V.ref++[V.ref (g2.length+4)]))):=ac.set rfl
  refine bP rfl e4 rfl e4 (by simp only[Sn,SD];exact ah 0x1f191a20e023ef42405b10e3e83b0 rfl hc hlim few) (bp ?_)
  have qU:∀y∈M.aS [M.mk (g2.length+4) g2.length (g2.length+1) (g2.length+2) (g2.length+3) ⟨word,[],[],[]⟩ []],g2.length<=y:=qQ (S9 _ _) (SW _) (S9 _ _) (S9 _ _) (S9 _ _) (λy hy=>nomatch hy)
  have kA:=kB.mono (S':=λi=>i=an\/i=ar\/i=ab\/i=ak) λi _ z=> .inr (.inr (.inr z))
  refine aN (go g4 d [M.mk (g2.length+4) g2.length (g2.length+1) (g2.length+2) (g2.length+3) ⟨word,[],[],[]⟩ []]
   ⟨kB.some na.o (cX ey (i:=0) (j:=4) rfl rfl (by decide)),kB.some na.n (cX ey (i:=1) (j:=4) rfl rfl (by decide)),kB.some na.r (cX ey (i:=2) (j:=4) rfl rfl (by decide)),kB.some na.b (cX ey (i:=3) (j:=4) rfl rfl (by decide)),qO⟩ kd rd kA
   ⟨⟨⟨oy (n0 4),oy (n0 0),oy (n0 1),oy (n0 2),oy (n0 3)⟩,trivial⟩,trivial⟩
   ⟨⟨⟨Em,(λx hx=>nomatch hx),(λx hx=>nomatch hx),(λx hx=>nomatch hx)⟩,trivial⟩,trivial⟩ qU Ej (SW _)) λm' D' ea' sub'=>?_
  exact fin _ m' [g2.length+4] _ _ _ _ ((kA.mono λi _ z=> .inl (in4 sub i z)).trans (kC.mono λi _ z=> .inr z)) ⟨D'.mine.keep kC (λy hy z=>(sub' y hy).elim (λw=>S.ne.1 (z▸w)) λw=>Uh yC (z▸qU y w)),D'.nd,D'.root,D'.kids,D'.mem,D'.cnt⟩ (SW 1) ea' ((bq e4).trans (by rw[ea',←Te,SN];rfl)) λy hy=>(sub' y hy).imp id (qU y)
 refine uY (D2.step (Sy ex)) λan ar ab ak d kids na kd rd ey sub kl dl go=>?_
 have yD:d.aQ.length+d.rem.length+d.aA.length<=c:=dl
 have ei:∀{dM:Option V} {i:Nat} {v:V},gc [V.str d.word,V.ref an,V.ref ar,V.ref ab,V.ref ak] (i:Int)=some v->Nat.ble i lim=true->ai aw [o0,o1,o2,some (.int which),o4,o5,o6,o7,some (.ref md),some (.int nums),some (.int u2),some (.int lj),dM] (.idx (.idx (.loc 8) (.loc 3)) (.lit (.int (i:Int)))) g2=some (v,g2):=λe l=>aB (aB rfl rfl (qT e2 ex Ek)) rfl (bG na.o e l)
 have chg:∀(d':Nd) (h':H) (p3 fW ia dM:Option V),iV h' x an ar ab ak d' (kids.map M.a)->(x≠m.a->bW d')->(x=m.a->ju d')->ac (λi=>i=an\/i=ar\/i=ab\/i=ak) g2 h'->d'.cnt<=d.cnt+1->P.N [o0,o1,o2,p3,o4,o5,o6,o7,some (.ref md),some (.int nums),fW,ia,dM] h':=by
  intro d' h' p3 fW ia dM yy OQ OR K hcc
  refine aN (go h' d' [] (by rw[SM];exact yy) OQ OR K trivial trivial (λy hy=>nomatch hy) List.nodup_nil hcc) λm' D' ea' sub'=>?_
  exact fin h' m' [] _ _ _ _ (K.mono λi _ z=> .inl (in4 sub i z)) D' (Ub _) ea' (by rw[ea',SM];exact K.some e2 λz=>S.ne.1 (in4 sub _ z)) λy hy=>(sub' y hy).elim .inl λw=>nomatch w
 have put:∀{w:Nat} {o:O} {g3:H},ac ax g2 g3->ac (· =w) g2 (g3.set w o):=λk3=>(k3.mono λ_ _ z=>z.elim).trans (ac.set rfl)
 by_cases d3:(lj:Int)=3
 ·refine nJ rfl d3 (ta (ei (i:=2) rfl rfl) na.r rfl (D9 G λt g3 k3 nm=>nD (k3.some na.r id) ⟨by simp only[Sn];exact aZ 0x1f130e0949323ef42405b10e3e83b0 rfl hc hlim yD,rfl,bp (chg ⟨d.word,d.aQ,d.rem++[t],d.aA⟩ _ _ _ _ _
   ⟨(put k3).some na.o (cX ey (i:=0) (j:=2) rfl rfl (by decide)),(put k3).some na.n (cX ey (i:=1) (j:=2) rfl rfl (by decide)),(bq (k3.some na.r id)).trans (by rw[SN];rfl),(put k3).some na.b (cX ey (i:=3) (j:=2) rfl rfl (by decide)),(put k3).some na.k (cX ey (i:=4) (j:=2) rfl rfl (by decide))⟩
    (λz=>⟨(kd z).word,(kd z).aQ,λr hr=>(SL.mp hr).elim ((kd z).rem r) (λe=>Sx.mp e▸nm),(kd z).aA⟩)
    (λz=>⟨(rd z).word,(rd z).aQ,λr hr=>(SL.mp hr).elim ((rd z).rem r) (λe=>Sx.mp e▸nm),(rd z).aA⟩)
    ((put k3).mono λi _ z=> .inr (.inl z)) (by simp only[Nd.cnt,So,SD,SU];exact ah 0xf91a92910929991a0a10 rfl))⟩))
 refine ql rfl d3 ?_
 by_cases d4:(lj:Int)=4/\(which:Int)>0
 ·refine nJ (ub rfl rfl) d4 (ta (ei (i:=3) rfl rfl) na.b rfl (D9 G λt g3 k3 nm=>nD (k3.some na.b id) ⟨by simp only[Sn];exact aK 0x1f130e09323ef42405b10e3e83b0 rfl hc hlim yD,rfl,bp (chg ⟨d.word,d.aQ,d.rem,d.aA++[t]⟩ _ _ _ _ _
   ⟨(put k3).some na.o (cX ey (i:=0) (j:=3) rfl rfl (by decide)),(put k3).some na.n (cX ey (i:=1) (j:=3) rfl rfl (by decide)),(put k3).some na.r (cX ey (i:=2) (j:=3) rfl rfl (by decide)),(bq (k3.some na.b id)).trans (by rw[SN];rfl),(put k3).some na.k (cX ey (i:=4) (j:=3) rfl rfl (by decide))⟩
    (λz=>⟨(kd z).word,(kd z).aQ,(kd z).rem,λr hr=>(SL.mp hr).elim ((kd z).aA r) (λe=>Sx.mp e▸nm)⟩)
    (λz=>absurd z (nz (Tf.mp d4.2)))
    ((put k3).mono λi _ z=> .inr (.inr (.inl z))) (by simp only[Nd.cnt,So,SD,SU];exact af 0xf91a9109991a0a10 rfl))⟩))
 refine ql (ub rfl rfl) d4 ?_
 by_cases d5:(lj:Int)=5/\(which:Int)>0
 ·have OS:u2%256<256:=Ul _ (by decide)
  refine nJ (ub rfl rfl) d5 (bP (v:= .int ((u2%256:Nat):Int)) (ei (i:=1) rfl rfl) na.n (aV rfl rfl (mod_int (by decide))) na.n (by simp only[Sn];exact aZ 0x1f120e0949323ef42405b10e3e83b0 rfl hc hlim yD) (bp (chg ⟨d.word,d.aQ++[u2%256],d.rem,d.aA⟩ _ _ _ _ _
   ⟨(put ac.refl).some na.o (cX ey (i:=0) (j:=1) rfl rfl (by decide)),(bq na.n).trans (by rw[SN];rfl),(put ac.refl).some na.r (cX ey (i:=2) (j:=1) rfl rfl (by decide)),(put ac.refl).some na.b (cX ey (i:=3) (j:=1) rfl rfl (by decide)),(put ac.refl).some na.k (cX ey (i:=4) (j:=1) rfl rfl (by decide))⟩
    (λz=>⟨(kd z).word,λr hr=>(SL.mp hr).elim ((kd z).aQ r) (λe=>by rw[Sx.mp e];exact Vx OS),(kd z).rem,(kd z).aA⟩)
    (λz=>absurd z (nz (Tf.mp d5.2)))
    ((put ac.refl).mono λi _ z=> .inl z) (by simp only[Nd.cnt,So,SD,SU];exact ah 0xf91a929109291991a0a0 rfl))))
 refine ql (ub rfl rfl) d5 ?_
 by_cases h0:(lj:Int)=0
 ·exact kid _ _ (Tx (by rw[Sn];exact TN _:((m.a::bs).map V.ref).length-1<(m.a::bs).length)) λg dM e3=>aB rfl (qh rfl (congrArg some (decide_eq_true h0)) rfl) ((yA e3 (UD _)).trans (congrArg some (Ww _)))
 ·exact kid x _ (Sy ex) λg dM e3=>aB rfl (qi rfl (congrArg some (decide_eq_false h0)) rfl) (qT e3 ex Ek)
end
theorem OT{a b:Nat}(ha:a<64)(hb:b<30):binop .shr (.int (a:Int)) (.int (b:Int))=some (.int ((a/2 ^ b:Nat):Int)):=by
 have h1:(0:Int)<=(a:Int)/\(a:Int)<2 ^ 30/\(0:Int)<=(b:Int)/\(b:Int)<30:=⟨by lia,by lia,by lia,by lia⟩
 rw[L4,if_pos h1]
 simp
theorem OU{a:Nat}:binop .band (.int (a:Int)) (.int 1)=some (.int ((a%2:Nat):Int)):=by
 rw[L5,if_pos ⟨by lia,by trivial⟩]
 simp
noncomputable def OV:Ss:=(.cons (.ite (.bin .band (.bin .shr (.loc 2) (.loc 6)) (.lit (.int 1))) (.cons (.expr (.append (.loc 5) (.tup (.cons (.idx (.glob 22) (.loc 6)) (.cons (.ite (.cmp .eq (.loc 6) (.lit (.int 2))) (.loc 4) (.idx (.glob 23) (.bin .mod (.bin .add (.loc 1) (.loc 6)) (.lit (.int 6))))) .nil)))))
 .nil) .nil)
 .nil)
noncomputable def yE(nm head mask which tg:Nat)(res:List Nat)(g2:H)(i:Nat)(ρ:Loc)(h':H):Prop:=∃(y:Option V) (tags:List Tag),ρ=[some (.ref nm),some (.int head),some (.int mask),some (.int which),some (.str res),some (.ref tg),y,none,none,none,none,none,none]/\ac ax g2 h'/\bT h' tg tags/\
 List.Sublist (tags.map (·.1)) (dq.take i)/\ua tags res
section
variable{Γ:ay}(G:Prog Γ)
include G
theorem OW{n nm head mask which i:Nat}{res:List Nat}{g2 h':H}{ρ:Loc}{P:PS}(uc:mask<64)(hres:res∈iz)(hi:i<6)(ii:yE nm head mask which g2.length res g2 i ρ h')(q:∀ρ h,yE nm head mask which g2.length res g2 (i+1) ρ h->P.N ρ h):
  ag aw Γ (n+1) OV (bE ρ 6 (.int (i:Int))) h' P:=by
 have hlim:=hlim
 refine uR ii λy tags zz K fX sub ok=>?_
 refine am fX λas ea ga=>?_
 have la:=ga.length
 have yF:tags.length<=6:=by have:=sub.length_le;simp at this;exact ah 0xf6a10e020e211e6a0 rfl hi this (Uy _ _)
 have hil:i<dq.length:=hi
 have tk:dq.take (i+1)=dq.take i++[dq[i]]:=by rw[Tg,SI hil];rfl
 have eL:bE ρ 6 (.int (i:Int))=[some (.ref nm),some (.int head),some (.int mask),some (.int which),some (.str res),some (.ref g2.length),some (.int (i:Int)),none,none,none,none,none,none]:=by rw[zz];rfl
 generalize bE ρ 6 (.int (i:Int))=ρ' at eL ⊢
 have fz:ai aw ρ' (.bin .band (.bin .shr (.loc 2) (.loc 6)) (.lit (.int 1))) h'=some (.int ((mask/2 ^ i%2:Nat):Int),h'):=by
  rw[eL]
  exact aV (aV rfl rfl (OT (b:=i) uc (by exact av 0x1f1e2b01e6a0 rfl hi:i<30))) rfl (OU (a:=mask/2 ^ i))
 by_cases hb:mask/2 ^ i%2=0
 ·rw[hb]at fz
  exact cz fz rfl (bp (q _ _ ⟨_,tags,eL,K,⟨as,ea,ga⟩,sub.trans (by rw[tk];exact List.sublist_append_left _ _),ok⟩))
 ·refine nI fz (congrArg some (decide_eq_true (λz=>hb (U6 z)))) ?_
  have il:i<=lim:=by exact af 0xf103ef42405b11e6a0 rfl hi hlim
  have en:cq aw h' (.gt 4) (.int (i:Int))=some (.str dq[i]):=qq (k:=4) (SI hil) il
  have key:∀(v:List Nat) (e:E),gW (dq[i],v)->cE v=true->(i=2->v=res)->ai aw ρ' e h'=some (.str v,h')->
    ag aw Γ (n+1) (.cons (.expr (.append (.loc 5) (.tup (.cons (.idx (.glob 22) (.loc 6)) (.cons e .nil))))) .nil) ρ' h' P:=by
   intro v e tok sL OX pe
   refine bP (by rw[eL];rfl) ea (jm (aO (aB rfl (eP (by rw[eL];rfl)) en) (aO pe rfl))) ((ac.push (S:=ax)).some ea id) (by simp only[Sn];exact ah 0x1f010e6a22e213ef42405b0 rfl hlim la yF) (bp (q _ _ ⟨_,tags++[(dq[i],v)],eL,K.after (ac.push.trans (ac.set (S:=(· =g2.length)) rfl)) (λi hi z=>Tv _ (z▸hi)),bT.snoc (t:=(dq[i],v)) ea ga,?_,?_⟩))
   ·rw[tk,SN];exact sub.append (List.Sublist.refl _)
   ·have nm:=Ef _ (Tx hil)
    exact⟨λt ht=>(SL.mp ht).elim (ok.ok t) λht=>by rw[Sx.mp ht];exact⟨tok,nm.2.2.2,sL,Tx hil⟩,λt ht=>(SL.mp ht).elim (ok.res t) λht e=>by rw[Sx.mp ht]at e ⊢;exact OX (OL i hil e)⟩
  by_cases i2:(i:Int)=2
  ·have r:=t9 res hres
   exact key res _ ⟨Eg (Tx hil),r.1,r.2.1⟩ r.2.2.1 (λ_=>rfl) (by rw[eL];exact qh rfl (congrArg some (decide_eq_true i2)) rfl)
  ·have h6:(head+i)%6<Ee.length:=Ul _ (by decide:0<6)
   have r:=OK _ (Tx h6)
   exact key _ _ ⟨Eg (Tx hil),r.1,r.2.1⟩ r.2.2 (λz=>absurd (congrArg Int.ofNat z) i2) (by rw[eL];exact qi rfl (congrArg some (decide_eq_false i2)) (aB rfl (aV (aV rfl rfl rfl) rfl (mod_int (by decide))) (qq (k:=5) (j:=(head+i)%6) (SI h6) (by have:=Ul (head+i) (by decide:0<6);exact af 0xf011e6a13ef42405b0 rfl hlim this))))
end
section
variable{Γ:ay}(G:Prog Γ)
include G
theorem En{n nm:Nat}{xs:List Int}{h:H}(hx:h[nm]? =some (.list (xs.map V.int)))(h1:1<=xs.length)(h2:xs.length<=100){Q X:Post}
  (q:∀h' tg m bs tags aq res,ac ax h h'->bT h' tg tags->tags.length<=6->(tags.map (·.1)).Nodup->ua tags res->Drawn h' m bs xs.length->aq<300->res∈iz->h.length<=tg->(∀y∈m.addrs,h.length<=y)->(∀y∈m.addrs,tg<y)->
   Q (.ref h'.length) (h'++[.tup [.ref tg,.ref m.a,.int (Int.ofNat aq),.str res]])):Γ (n+1) 46 [.ref nm] h Q X:=by
 refine G.intro rfl (by decide) ⟨rfl,?_⟩
 have hlim:=hlim
 have OY:xs[0]? =some xs[0]:=SI (by exact av 0x1f00a0e01a rfl h1)
 refine xE (show∃w:Nat,xs[0]%((10 ^ 9:Nat):Int)=(w:Int)from⟨_,(We (WG (b:=((10 ^ 9:Nat):Int)) _ (by decide))).symm⟩) λw hw=>?_
 refine jp (ow (i:=w) (j:=64) (aV (aB rfl rfl (qT (i:=0) hx OY (Ub _))) rfl ((mod_int (by decide)).trans (congrArg (λz=>some (V.int z)) hw))) rfl (by decide)) mD rfl ?_
 have k1:ac ax h (h++[O.tup [V.int ((w/64:Nat):Int),V.int ((w%64:Nat):Int)]]):=ac.push
 generalize h++[O.tup [V.int ((w/64:Nat):Int),V.int ((w%64:Nat):Int)]]=g1 at k1 ⊢
 have uc:w%64<64:=Ul _ (by decide)
 generalize w/64=hd
 generalize w%64=mask at uc ⊢
 refine jp (ow (i:=hd) (j:=4) rfl rfl (by decide)) mD rfl ?_
 have k2:ac ax h (g1++[O.tup [V.int ((hd/4:Nat):Int),V.int ((hd%4:Nat):Int)]]):=k1.trans ac.push
 generalize g1++[O.tup [V.int ((hd/4:Nat):Int),V.int ((hd%4:Nat):Int)]]=g2 at k2 ⊢
 have Eo:hd%4<iz.length:=Ul _ (by decide:0<4)
 have hwl:hd%4<=lim:=by have:=Ul hd (by decide:0<4);exact af 0xf011e4a13ef42405b0 rfl hlim this
 generalize hd/4=head
 generalize hd%4=which at Eo hwl ⊢
 refine bd (aB rfl rfl (qq (k:=6) (j:=which) (SI Eo) hwl)) ?_
 have hres:iz[which]∈iz:=Tx _
 generalize hr:iz[which]=res at hres
 refine bd (ic rfl) ?_
 refine mh G.mono (k:=6) (by decide) (yE nm head mask which g2.length res g2) (aM _ rfl ⟨rfl,none,[],rfl,ac.push,⟨[],aE,.nil⟩,List.nil_sublist _,⟨λt ht=>(nomatch ht),λt ht=>(nomatch ht)⟩⟩) (λnP i ρ h' kP hi ii=>?_) (λρ h' ii=>?_)
 ·exact OW G (P:=⟨_,_,_⟩) uc hres hi ii kP
 ·refine uR ii λy tags ae K fX sub ok=>?_;clear ii;subst ae
  have pP:g2.length<h'.length:=am fX λas e _=>aC e
  have yF:tags.length<=6:=by have:=sub.length_le;simp at this;exact af 0xf6a00e6a10e10 rfl this (Uy _ _)
  have hx':=(k2.trans K).some hx id
  refine bd (Eh (w:=[]) rfl) ?_
  refine bd ((ic rfl).trans (by simp only[So,SD,SU,Sw,Te,TB]:_=some (V.ref (h'.length+5),h'++[O.list [],O.list [],O.list [],O.list [],O.list [V.str [],V.ref h'.length,V.ref (h'.length+1),V.ref (h'.length+2),V.ref (h'.length+3)],O.list [V.ref (h'.length+4)]]))) ?_
  have n0:=λk l=>Ei (k:=k) (g:=h') (l:=[O.list [],O.list [],O.list [],O.list [],O.list [V.str [],V.ref h'.length,V.ref (h'.length+1),V.ref (h'.length+2),V.ref (h'.length+3)],O.list [V.ref (h'.length+4)]]++l)
  have kq:ac ax h' (h'++[O.list [],O.list [],O.list [],O.list [],O.list [V.str [],V.ref h'.length,V.ref (h'.length+1),V.ref (h'.length+2),V.ref (h'.length+3)],O.list [V.ref (h'.length+4)]]):=ac.push
  have lq:(h'++[O.list [],O.list [],O.list [],O.list [],O.list [V.str [],V.ref h'.length,V.ref (h'.length+1),V.ref (h'.length+2),V.ref (h'.length+3)],O.list [V.ref (h'.length+4)]]).length=h'.length+6:=So
  have n0:=λk l=>(congrArg (λz:H=>z[h'.length+k]?) (Sw h' _ l)).trans (n0 k l)
  generalize h'++[O.list [],O.list [],O.list [],O.list [],O.list [V.str [],V.ref h'.length,V.ref (h'.length+1),V.ref (h'.length+2),V.ref (h'.length+3)],O.list [V.ref (h'.length+4)]]=hh at kq lq n0 ⊢
  have iU:bh (some (1:Int)) none (xs.map V.int)=(xs.drop 1).map V.int:=(tj (a:=1) (by simpa using h1)).trans V5.symm
  have L0:=λk=>n0 k [O.list ((xs.drop 1).map V.int)]
  refine gP G.mono (m:=h'.length+6) (xs:=(xs.drop 1).map V.int) (λi ρ h3=>∃(o3 o6 o9 eh jZ iW:Option V) (m:M) (bs:List Nat),ρ=[some (.ref nm),some (.int head),some (.int mask),o3,some (.str res),some (.ref g2.length),o6,some (.ref (h'.length+4)),some (.ref (h'.length+5)),o9,eh,jZ,iW]/\ac (λi=>h'.length<=i) h' h3/\
    yB h'.length (h'.length+5) (h'.length+6) (h'.length+4) ((xs.drop 1).map V.int) h3 m bs (1+i)) (aM _ (qj rfl rfl (nG (kq.some hx' id) (by simp only[Sn];exact af 0xf103ef42405b10e642b0 rfl h2 hlim))) ?_) (λi ρ h3 ii=>?_) (λnP i x ρ h3 kP hxi ii=>?_) (λρ h3 ii=>?_)
  ·rw[iU]
   refine⟨congrArg V.ref lq,_,_,_,_,_,_,.mk (h'.length+4) h'.length (h'.length+1) (h'.length+2) (h'.length+3) ⟨[],[],[],[]⟩ [],[],rfl,(kq.mono λ_ _ z=>z.elim).trans ac.push,⟨⟨⟨⟨L0 4,L0 0,L0 1,L0 2,L0 3⟩,trivial⟩,Ej,⟨rfl,rfl,(λx hx=>nomatch hx),rfl⟩,trivial,(λx hx=>nomatch hx),SW _⟩,rfl,L0 5,L0 6,⟨?_,?_,?_,S9 _ _,S9 _ _⟩,qQ (S9 _ _) (SW _) (S9 _ _) (S9 _ _) (S9 _ _) (λy hy=>nomatch hy),Ub _⟩⟩
   ·simp[M.addrs,M.aS]
   ·simp[M.addrs,M.aS]
   ·simp
  ·refine uX ii λo3 o6 o9 eh jZ iW m bs ae K3 S=>?_
   exact S.iU
  ·refine uX ii λo3 o6 o9 eh jZ iW m bs ae K3 S=>?_;clear ii;subst ae
   refine am (fQ hxi) λr er bB=>?_;subst bB
   have hil:=(Sr.mp er).1
   simp only[VB]at hil
   exact fu (ON G S (by exact ah 0xf3e83b911a0e021e210e642b0 rfl h2 hil (Vc _ _)) (P:=⟨_,_,_⟩) λh4 m' bs' p3 fW ia dM K4 S4=>kP _ _ ⟨p3,_,_,fW,ia,dM,m',bs',rfl,K3.trans K4,S4⟩)
  ·refine uX ii λo3 o6 o9 eh jZ iW m bs ae K3 S=>?_;clear ii;subst ae
   have Kn:ac ax h' h3:=⟨K3.len,λi hi _=>K3.get i hi (by exact Uh (af 0x1f101e10 rfl hi))⟩
   have hl1:1+((xs.drop 1).map V.int).length=xs.length:=by simp;exact SK (af 0xf1901a2e191a0 rfl (SJ (av 0xf01a0e01a rfl h1))) (af 0xf901a13e191a0 rfl (SJ (av 0xf01a0e01a rfl h1)))
   have D:=S.D
   rw[hl1]at D
   have hk2:=k2.len
   have hkk:=K.len
   refine bi (jm (aO rfl (aO rfl (aO (aV rfl rfl (mod_int (by decide))) rfl)))) ?_
   rw[←S.etop]
   refine q h3 g2.length m bs tags (head%300) res (k2.trans (K.trans Kn)) (bT.keep (S:=ax) Kn fX) yF ((sub.trans (Vu _ _)).nodup names_nodup:(tags.map (·.1)).Nodup) ok D (Ul _ (by decide)) hres hk2 (λy hy=>?_) (λy hy=>?_)
   ·have:=S.ge y hy;exact aK 0xf320e310e021e10 rfl pP hk2 this
   ·have:=S.ge y hy;exact ah 0x1f200e211e10 rfl pP this
end
noncomputable abbrev Tok:=Int×V×Nat
noncomputable def TL(h:H)(tv:Nat)(toks:List Tok):Prop:=∃vs,h[tv]? =some (.list vs)/\xP h vs toks/\toks.length<lim
theorem jQ.keep{h h':H}{v:V}{t:Tok}(k:ac ax h h')(a:jQ h v t):jQ h' v t:=by
 refine am a λx e g=>?_;clear a
 exact⟨x,e,k.some g id⟩
theorem TL.keep{h h':H}{tv:Nat}{toks:List Tok}(k:ac ax h h')(x:TL h tv toks):TL h' tv toks:=by
 refine aN x λvs e t l=>?_;clear x
 exact⟨vs,k.some e id,t.imp λv t a=>a.keep k,l⟩
theorem TL.get{h:H}{tv:Nat}{toks:List Tok}(x:TL h tv toks){i:Nat}{t:Tok}(e:toks[i]? =some t):∃a,cq aw h (.ref tv) (.int i)=some (.ref a)/\h[a]? =some (.tup [.int t.1,t.2.1,.int t.2.2]):=by
 refine aN x λvs ev tt l=>?_;clear x
 refine Gg (tt.get e) λv e1 a ae e2=>?_;subst ae
 have hi:=(Sr.mp e1)
 refine xE hi λhi e3=>?_
 refine⟨a,?_,e2⟩
 rw[mj ev hi (by exact ah 0xf122e021e10 rfl l tt.length),e3]
theorem TL.len{h:H}{tv:Nat}{toks:List Tok}(x:TL h tv toks):kr aw h (.ref tv)=some (toks.length:Int)/\toks.length<lim:=by
 refine aN x λvs ev tt l=>?_;clear x
 rw[dn ev,tt.length];exact⟨rfl,l⟩
noncomputable def kindOf(toks:List Tok)(i:Nat):Int:=match toks[i]? with|some t=>t.1|none=>0
noncomputable def ce(b:Nat)(mv par:V)(word:List Nat)(place:Int)(bf:Nat):List (Nat×V):=[(7,mv),(6,par),(5,.str word),(4,.int place),(3,.ref (b+1)),(2,.ref (b+2)),(1,.ref (b+3)),(0,.ref bf)]
structure bV(h:H)(b:Nat)(mv par:V)(w:List Nat)(pl:Int)(bf:Nat)(ns:List Nat)(R B:List (List Nat))(ao:List Nat):Prop where
 inst:h[b]? =some (.inst 0 (ce b mv par w pl bf))
 k:h[b+1]? =some (.list (ao.map V.ref))
 r:h[b+2]? =some (.list (R.map V.str))
 n:h[b+3]? =some (.list (ns.map λx=>V.int (Int.ofNat x)))
 bb:h[bf]? =some (.list (B.map V.str))
noncomputable def dP(nd made:Nat)(first fresh:Bool)(wa la:Nat):List (Nat×V):=[(16,.ref nd),(15,.int made),(14,.bool first),(13,.bool fresh),(12,.ref wa),(11,.ref la)]
noncomputable def cy(h:H)(rd nd made:Nat)(first fresh:Bool)(wa la:Nat):Prop:=h[rd]? =some (.inst 2 (dP nd made first fresh wa la))
theorem cy.on{h:H}{rd nd made:Nat}{first fresh:Bool}{wa la:Nat}(x:cy h rd nd made first fresh wa la):b6 h (.ref rd)=some (rd,2,dP nd made first fresh wa la):=gU x (by decide) (by simp[dP])
theorem yG{h:H}{b bf:Nat}{mv par:V}{w:List Nat}{pl:Int}(x:h[b]? =some (.inst 0 (ce b mv par w pl bf))):b6 h (.ref b)=some (b,0,ce b mv par w pl bf):=gU x (by decide) (by simp[ce])
section
variable{nd made:Nat}{first fresh:Bool}{wa la b bf:Nat}{mv par v:V}{w:List Nat}{pl:Int}
theorem mE:bj (dP nd made first fresh wa la) 16=some (.ref nd):=rfl
theorem qV:bj (dP nd made first fresh wa la) 15=some (.int made):=rfl
theorem yH:bj (dP nd made first fresh wa la) 14=some (.bool first):=rfl
theorem Ep:bj (dP nd made first fresh wa la) 13=some (.bool fresh):=rfl
theorem yI:bj (dP nd made first fresh wa la) 12=some (.ref wa):=rfl
theorem ud:bj (dP nd made first fresh wa la) 11=some (.ref la):=rfl
theorem OZ:bj (ce b mv par w pl bf) 6=some par:=rfl
theorem Et:bj (ce b mv par w pl bf) 5=some (.str w):=rfl
theorem O0:bj (ce b mv par w pl bf) 4=some (.int pl):=rfl
theorem uf:bj (ce b mv par w pl bf) 3=some (.ref (b+1)):=rfl
theorem mF:bj (ce b mv par w pl bf) 2=some (.ref (b+2)):=rfl
theorem yJ:bj (ce b mv par w pl bf) 1=some (.ref (b+3)):=rfl
theorem Eu:bj (ce b mv par w pl bf) 0=some (.ref bf):=rfl
end
theorem cy.keep{S:Nat->Prop}{h h':H}{rd nd made:Nat}{first fresh:Bool}{wa la:Nat}(x:cy h rd nd made first fresh wa la)(k:ac S h h')(hs:¬S rd):cy h' rd nd made first fresh wa la:=k.some x hs
theorem bV.keep{S:Nat->Prop}{h h':H}{b bf:Nat}{mv par:V}{w:List Nat}{pl:Int}{ns:List Nat}{R B:List (List Nat)}{ao:List Nat}(x:bV h b mv par w pl bf ns R B ao)(k:ac S h h')(hs:¬S b/\¬S (b+1)/\¬S (b+2)/\¬S (b+3)/\¬S bf):bV h' b mv par w pl bf ns R B ao:=
 ⟨k.some x.inst hs.1,k.some x.k hs.2.1,k.some x.r hs.2.2.1,k.some x.n hs.2.2.2.1,k.some x.bb hs.2.2.2.2⟩
theorem j4{h:H}{a b:Nat}{o o':O}(ea:h[a]? =some o)(eb:h[b]? =some o')(n:o≠o'):a≠b:=by
 rintro rfl
 rw[ea]at eb
 exact n (Sv eb)
theorem bZ{h:H}{a b:Nat}{c:Nat}{fs:List (Nat×V)}{xs:List V}(ea:h[a]? =some (.inst c fs))(eb:h[b]? =some (.list xs)):a≠b:=j4 ea eb (by simp)
theorem ac.same{S:Nat->Prop}{h:H}{a:Nat}{o:O}(e:h[a]? =Option.some o):ac S h (h.set a o):=⟨by simp,λi hi _=>by
 by_cases z:a=i
 ·subst z;rw[bq e,e]
 ·rw[S0 z]⟩
theorem ac.qW{h:H}{a:Nat}{x y z:O}:ac (· =a) h (((h.set a x).set a y).set a z):=((ac.set (S:=(· =a)) rfl).trans (ac.set rfl)).trans (ac.set rfl)
theorem ac.yK{h:H}{a:Nat}{w x y z:O}:ac (· =a) h ((((h.set a w).set a x).set a y).set a z):=ac.qW.trans (ac.set rfl)
section
variable{Γ:ay}(G:Prog Γ)
include G
theorem iA{n tv i:Nat}{toks:List Tok}{h:H}(x:TL h tv toks)(hi:i<lim){Q X:Post}(q:Q (.int (kindOf toks i)) h):Γ n 27 [.ref tv,.int i] h Q X:=by
 refine G.intro rfl (by decide) ⟨rfl,?_⟩
 refine xA x.len λl1 l2=>?_
 have lt:=aH (op:= .lt) (ρ:=[some (.ref tv),some (.int i)]) (a:= .loc 1) (b:= .len (.loc 0)) rfl (be (T:=aw) rfl l1 (SR.mpr (SZ l2))) rfl
 by_cases hl:i<toks.length
 ·refine am (x.get (SI hl)) λa e1 e2=>?_
  refine bi (qh lt (congrArg some (decide_eq_true (Tf.mpr hl))) (aB (aB rfl rfl e1) rfl (My (j:=0) e2 (by simp) (by simp[lim])))) ?_
  unfold kindOf at q
  rw[SI hl]at q
  exact q
 ·refine bi (qi lt (congrArg some (decide_eq_false λz=>hl (Tf.mp z))) rfl) ?_
  unfold kindOf at q
  rw[Tz.mpr (by exact af 0xf100e10 rfl (S7 hl))]at q
  exact q
theorem ug{n rd b made wa la:Nat}{first fresh:Bool}{fs:List (Nat×V)}{ar:Nat}{R:List (List Nat)}{h:H}(st:cy h rd b made first fresh wa la)(ew:h[wa]? =some (.list []))(en:h[b]? =some (.inst 0 fs))(hf:fs.length<=20)(fr:bj fs 2=some (.ref ar))(er:h[ar]? =some (.list (R.map V.str)))(ne:ar≠wa)(hR:R.length<=lim){Q X:Post}
  (q:∀h',ac (· =rd) h h'->cy h' rd b made first fresh h.length la->h'[h.length]? =some (.list [])->h'.length=h.length+1->Q .none h'):Γ n 32 [.ref rd] h Q X:=by
 refine G.intro rfl (by decide) ⟨rfl,?_⟩
 refine qm (nF (bc rfl st.on mE) (gU en (by decide) hf) fr) er (bc rfl st.on yI) er ew (by simpa using hR) ne ?_
 rw[SM]
 have k1:ac ax h (h.set ar (.list (R.map V.str))):=ac.same er
 have hl:(h.set ar (O.list (R.map V.str))).length=h.length:=UX
 have st1:=st.keep (k1.trans (ac.push (g:=[O.list []]))) id
 refine gO (ic rfl) rfl st1.on ?_
 rw[hl]
 refine q _ (((k1.trans ac.push).mono λ_ _ z=>z.elim).trans (ac.set rfl)) (bq st1) ?_ (by simp)
 rw[S0 (by exactλq0=>af 0xf3e101e10 rfl (aC st) q0),←hl]
 exact aE
theorem O1{n rd b made wa la:Nat}{first:Bool}{W:List (List Nat)}{r:List Nat}{h:H}(st:cy h rd b made first true wa la)(ew:h[wa]? =some (.list (W.map V.str)))(hW:W.length<lim){Q X:Post}
  (q:∀h',ac (· =wa) h h'->h'[wa]? =some (.list ((W++[r]).map V.str))->Q .none h'):Γ n 34 [.ref rd,.str r] h Q X:=by
 refine G.intro rfl (by decide) ⟨rfl,?_⟩
 refine eO (bc rfl st.on Ep) rfl (bP (bc rfl st.on yI) ew rfl ew (by simpa using hW) ?_)
 exact q _ (ac.set rfl) (by rw[bq ew];simp)
theorem O2{n rd b made wa la:Nat}{first:Bool}{fs:List (Nat×V)}{ar:Nat}{R:List (List Nat)}{r:List Nat}{h:H}(st:cy h rd b made first false wa la)(en:h[b]? =some (.inst 0 fs))(hf:fs.length<=20)(fr:bj fs 2=some (.ref ar))(er:h[ar]? =some (.list (R.map V.str)))(hR:R.length<lim){Q X:Post}
  (q:∀h',ac (· =ar) h h'->h'[ar]? =some (.list ((R++[r]).map V.str))->Q .none h'):Γ n 34 [.ref rd,.str r] h Q X:=by
 refine G.intro rfl (by decide) ⟨rfl,?_⟩
 refine gJ (bc rfl st.on Ep) rfl (bP (nF (bc rfl st.on mE) (gU en (by decide) hf) fr) er rfl er (by simpa using hR) ?_)
 exact q _ (ac.set rfl) (by rw[bq er];simp)
theorem O3{n rd b made wa la pb:Nat}{first fresh:Bool}{fs:List (Nat×V)}{ar:Nat}{R:List (List Nat)}{Lf:List V}{pl:Int}{h:H}(st:cy h rd b made first fresh wa la)(hm:1<=made)(ew:h[wa]? =some (.list []))(en:h[b]? =some (.inst 0 fs))(hf:fs.length<=20)(fr:bj fs 2=some (.ref ar))(fp:bj fs 6=some (.ref pb))(er:h[ar]? =some (.list (R.map V.str)))(ne:ar≠wa)(hR:R.length<=lim)
  (el:h[la]? =some (.list Lf)) (hL:Lf.length<lim) {Q X:Post}
  (q:∀h',ac (λi=>i=rd\/i=la) h h'->cy h' rd pb 0 first true h.length la->h'[h.length]? =some (.list [])->h'[h.length+1]? =some (.tup [.ref b,.int made,.bool first])->h'[la]? =some (.list (Lf++[.ref (h.length+1)]))->h'.length=h.length+2->Q .none h'):Γ (n+1) 35 [.ref rd,.int pl] h Q X:=by
 refine G.intro rfl (by decide) ⟨rfl,?_⟩
 refine d8 (aH (op:= .eq) (bc rfl st.on qV) rfl rfl) (by lia) ?_
 have rl:rd≠la:=bZ st el
 have hrd:=aC st
 have hla:=aC el
 refine cT rfl (ug G st ew en hf fr er ne hR λh1 k1 st1 w1 l1=>⟨rfl,?_⟩)
 have qX:h1[la]? =some (.list Lf):=k1.some el (λz=>rl z.symm)
 have Ew:(h1++[O.tup [.ref b,.int made,.bool first]])[la]? =some (.list Lf):=(ac.push (S:=ax)).some qX id
 refine bP (bc rfl st1.on ud) qX (jm (aO (bc rfl st1.on mE) (aO (bc rfl st1.on qV) (aO (bc rfl st1.on yH) rfl)))) Ew hL ?_
 have k2:ac (· =la) h1 ((h1++[O.tup [.ref b,.int made,.bool first]]).set la (.list (Lf++[.ref h1.length]))):=ac.push.trans (ac.set rfl)
 have st2:=st1.keep k2 rl
 have Ey:=k2.some (k1.some en (j4 en st (by simp[dP]))) (bZ en el)
 have g0:=k2.some w1 λz=>by exact af 0xf3e101e10 rfl hla z.symm
 have g1:((h1++[O.tup [.ref b,.int made,.bool first]]).set la (.list (Lf++[.ref h1.length])))[h.length+1]? =some (.tup [.ref b,.int made,.bool first]):=by
  rw[S0 (by exactλq0=>af 0xf3e91a101e10 rfl hla q0),←l1];exact aE
 have g2:((h1++[O.tup [.ref b,.int made,.bool first]]).set la (.list (Lf++[.ref h1.length])))[la]? =some (.list (Lf++[.ref (h.length+1)])):=by
  rw[bq Ew,l1]
 have gl:((h1++[O.tup [.ref b,.int made,.bool first]]).set la (.list (Lf++[.ref h1.length]))).length=h.length+2:=by simp[l1]
 have kk:=(k1.mono λi _ z=>(.inl z:i=rd\/i=la)).trans (k2.mono λi _ z=> .inr z)
 generalize((h1++[O.tup [.ref b,.int made,.bool first]]).set la (.list (Lf++[.ref h1.length])))=h2 at st2 Ey g0 g1 g2 gl kk ⊢
 refine gO (nF (bc rfl st2.on mE) (gU Ey (by decide) hf) fp) rfl st2.on ?_
 have st3:cy (h2.set rd _) rd pb made first fresh h.length la:=bq st2
 refine gO rfl rfl st3.on ?_
 have j5:cy ((h2.set rd _).set rd _) rd pb 0 first fresh h.length la:=bq st3
 refine gO rfl rfl j5.on ?_
 refine q _ (kk.trans (ac.qW.mono λi _ z=> .inl z)) (bq j5) (ac.qW.some g0 λz=>by exact af 0xf3e101e10 rfl hrd z.symm) (ac.qW.some g1 λz=>by exact af 0xf3e91a101e10 rfl hrd z.symm) (ac.qW.some g2 rl.symm) (by simpa using gl)
theorem O4{n rd b made wa la k m tp:Nat}{f:Bool}{first fresh:Bool}{fs:List (Nat×V)}{ar:Nat}{R:List (List Nat)}{Lf:List V}{pl:Int}{h:H}(st:cy h rd b made first fresh wa la)(hm:1<=made)(ew:h[wa]? =some (.list []))(en:h[b]? =some (.inst 0 fs))(hf:fs.length<=20)(fr:bj fs 2=some (.ref ar))(er:h[ar]? =some (.list (R.map V.str)))(ne:ar≠wa)(hR:R.length<=lim)
  (el:h[la]? =some (.list (Lf++[.ref tp]))) (hL:Lf.length<lim) (et:h[tp]? =some (.tup [.ref k,.int m,.bool f])) {Q X:Post}
  (q:∀h',ac (λi=>i=rd\/i=la) h h'->cy h' rd k m f true h.length la->h'[h.length]? =some (.list [])->h'[la]? =some (.list Lf)->h'.length=h.length+1->Q .none h'):Γ (n+1) 36 [.ref rd,.int pl] h Q X:=by
 refine G.intro rfl (by decide) ⟨rfl,?_⟩
 have rl:rd≠la:=bZ st el
 refine d8 (p:=(made:Int)=0) (gK (aH (op:= .eq) (be (bc rfl st.on ud) (dn el) (SR.mpr (by simp;exact af 0xf191a01e10 rfl hL))) rfl rfl) (congrArg some (decide_eq_false (by simp;lia))) (aH (op:= .eq) (bc rfl st.on qV) rfl rfl)) (by lia) ?_
 refine cT rfl (ug G st ew en hf fr er ne hR λh1 k1 st1 w1 l1=>⟨rfl,?_⟩)
 have qX:h1[la]? =some (.list (Lf++[.ref tp])):=k1.some el (λz=>rl z.symm)
 have k2:ac (· =la) h1 (h1.set la (.list Lf)):=ac.set rfl
 have yn:=k2.some (k1.some et (j4 et st (by simp))) (j4 et el (by simp))
 refine s8 (vs:=[.ref k,.int m,.bool f]) (bc rfl st1.on ud) qX UO (by simp;exact af 0xf191a01e10 rfl hL) (by rw[TI];exact fy yn) rfl ?_
 rw[TI]
 have st2:=st1.keep k2 rl
 have kk:=(k1.mono λi _ z=>(.inl z:i=rd\/i=la)).trans (k2.mono λi _ z=> .inr z)
 have g0:=k2.some w1 λz=>by exact af 0xf3e101e10 rfl (aC el) z.symm
 have g2:(h1.set la (.list Lf))[la]? =some (.list Lf):=bq qX
 have gl:(h1.set la (.list Lf)).length=h.length+1:=by simp[l1]
 generalize(h1.set la (.list Lf))=h2 at st2 g0 g2 gl kk ⊢
 refine gO rfl rfl st2.on ?_
 have st3:cy (h2.set rd _) rd k made first fresh h.length la:=bq st2
 refine gO rfl rfl st3.on ?_
 have j5:cy ((h2.set rd _).set rd _) rd k m first fresh h.length la:=bq st3
 refine gO rfl rfl j5.on ?_
 have se:cy (((h2.set rd _).set rd _).set rd _) rd k m f fresh h.length la:=bq j5
 refine gO rfl rfl se.on ?_
 refine q _ (kk.trans (ac.yK.mono λi _ z=> .inl z)) (bq se) (ac.yK.some g0 λz=>by exact af 0xf3e101e10 rfl (aC st) z.symm) (ac.yK.some g2 rl.symm) (by simpa using gl)
end
section
variable{Γ:ay}(G:Prog Γ)
include G
theorem O5{n rd b made wa la bf:Nat}{mv par:V}{w word:List Nat}{pl:Int}{ns:List Nat}{R B W:List (List Nat)}{ao:List Nat}{first fresh:Bool}{place:Nat}{h:H}
  (st:cy h rd b made first fresh wa la) (cu:bV h b mv par w pl bf ns R B ao) (ew:h[wa]? =some (.list (W.map V.str))) (cond:0<made->first=false->W=[]) (ne:wa≠b+1/\wa≠b+2) (hR:R.length<=lim) (ha:ao.length+1<lim) {Q X:Post}
  (q:∀h' c aW,ac (λi=>i=b+1\/i=rd) h h'->h.length<=c->bV h' c (.int 0) (.ref b) word place aW [] [] W []->(aW=wa\/h.length<=aW)->aW<c->h'[b+1]? =some (.list ((ao++[c]).map V.ref))->cy h' rd c (made+1) (decide (ao.length=0)) false (c+5) la->h'[c+5]? =some (.list [])->h'.length=c+6->Q .none h'):
  Γ (n+2) 33 [.ref rd,.str word,.int place] h Q X:=by
 refine G.intro rfl (by decide) ⟨rfl,?_⟩
 have hrd:=aC st
 have R6:=aC ew
 have hb1:=aC cu.k
 have O6:rd≠b:=by
  intro zq;obtain rfl:=zq.symm
  have:=cu.inst.symm.trans st
  simp at this
 have ll:rd≠b+1:=bZ st cu.k
 have qY:rd≠b+2:=bZ st cu.r
 have R7:rd≠wa:=bZ st ew
 have main:∀h1 aW,ac (· =rd) h h1->cy h1 rd b made first fresh aW la->h1[aW]? =some (.list (W.map V.str))->(aW=wa\/h.length<=aW)->
   ag aw Γ (n+2) (.cons (.assign 3 (.call 1 (.cons (.attr (.loc 0) 16) (.cons (.glob 0) (.cons (.loc 1) .nil)))))
    (.cons (.setattr (.loc 3) 4 (.loc 2))
    (.cons (.setattr (.loc 3) 0 (.attr (.loc 0) 12))
    (.cons (.setattr (.loc 0) 14 (.cmp .eq (.len (.attr (.attr (.loc 0) 16) 3)) (.lit (.int 1))))
    (.cons (.setattr (.loc 0) 16 (.loc 3))
    (.cons (.kj (.loc 0) 15 .add (.lit (.int 1)))
    (.cons (.setattr (.loc 0) 12 (.lst .nil))
    (.cons (.setattr (.loc 0) 13 (.lit (.bool false)))
    .nil)))))))) [some (.ref rd),some (.str word),some (.int place),none] h1 ⟨λ_ h=>Q .none h,Q,X⟩:=by
  intro h1 aW k1 st1 yL Ez
  have cb:=k1.some cu.inst (λz=>O6 z.symm)
  have ck:=k1.some cu.k (λz=>ll z.symm)
  have O7:=aC yL
  have oz:=aC st1
  have O8:=aC ck
  have gG:=aC cb
  have R8:aW≠b+1:=by
   rcases Ez with zq|z<;>try obtain rfl:=zq.symm
   ·exact ne.1
   ·exactλq0=>ah 0xf2e020e211e10 rfl hb1 z q0
  refine d9 (aO (bc rfl st1.on mE) rfl) (DU G cb (by simp[ce]) uf ck (by exact af 0x1f101e191a0 rfl ha) λh2 k2 e2 fr l2=>?_)
  generalize hc:h1.length=c at*
  have fi:h2[c]? =some (.inst 0 (ce c (.int 0) (.ref b) word (-1) (c+4))):=fr.inst
  refine gO rfl rfl (yG fi) ?_
  have O9:cy (h2.set c (.inst 0 (ce c (.int 0) (.ref b) word place (c+4)))) rd b made first fresh aW la:=(st1.keep k2 ll).keep (S:=(· =c)) (ac.set rfl) (by exactλq0=>af 0xf3e101e10 rfl oz q0)
  refine xk fi (bc rfl O9.on yI) rfl rfl rfl ?_
  have k3:ac (λi=>i=b+1\/c<=i) h1 (h2.set c (.inst 0 (ce c (.int 0) (.ref b) word place aW))):=(k2.mono λ_ _ z=> .inl z).trans (ac.set (.inr (SW _)))
  have i3:(h2.set c (.inst 0 (ce c (.int 0) (.ref b) word place aW)))[c]? =some (.inst 0 (ce c (.int 0) (.ref b) word place aW)):=bq fi
  have e3:(h2.set c (.inst 0 (ce c (.int 0) (.ref b) word place aW)))[b+1]? =some (.list ((ao++[c]).map V.ref)):=by rw[S0 (by exactλq0=>af 0xf2e011e10 rfl O8 q0)];exact e2
  have l3:(h2.set c (.inst 0 (ce c (.int 0) (.ref b) word place aW))).length=c+5:=UX.trans l2
  have f3:∀k,1<=k/\k<=4->(h2.set c (.inst 0 (ce c (.int 0) (.ref b) word place aW)))[c+k]? =some (.list []):=λk hk=>by
   rw[S0 (by exactλq0=>af 0xf3e90110e01a rfl hk.1 q0)];exact fr.l k hk
  show ag aw Γ (n+2) _ _ (h2.set c (.inst 0 (ce c (.int 0) (.ref b) word place aW))) _
  generalize h2.set c (.inst 0 (ce c (.int 0) (.ref b) word place aW))=h3 at k3 i3 e3 l3 f3 ⊢
  have st3:=st1.keep k3 (λz=>by rcases z with z|z<;>lia)
  have Pa:=k3.some cb (λz=>by rcases z with z|z<;>lia)
  refine gO (aH (op:= .eq) (be (nF (bc rfl st3.on mE) (yG Pa) uf) (dn e3) (SR.mpr (by simp;exact af 0xf101e10 rfl ha))) rfl rfl) rfl st3.on ?_
  rw[(decide_eq_decide.mpr (by rw[Sn,So,VZ];lia):decide ((((ao++[c]).map V.ref).length:Int)=1)=decide (ao.length=0))]
  refine xk st3 rfl rfl rfl rfl ?_
  refine Mw rfl (xj st3 rfl rfl) rfl rfl rfl (xj st3 rfl rfl) ?_
  rw[WQ]
  have l6:(h3.set rd (.inst 2 (dP c (made+1) (decide (ao.length=0)) fresh aW la))).length=c+5:=UX.trans l3
  have oB:cy (h3.set rd (.inst 2 (dP c (made+1) (decide (ao.length=0)) fresh aW la))++[O.list []]) rd c (made+1) (decide (ao.length=0)) fresh aW la:=
   cy.keep (S:=ax) (bq st3) ac.push id
  refine gO (ic rfl) rfl oB.on ?_
  refine xk oB rfl rfl rfl rfl ?_
  show Q .none ((h3.set rd (.inst 2 (dP c (made+1) (decide (ao.length=0)) fresh aW la))++[O.list []]).set rd (.inst 2 (dP c (made+1) (decide (ao.length=0)) false (h3.set rd (.inst 2 (dP c (made+1) (decide (ao.length=0)) fresh aW la))).length la)))
  rw[l6]
  have K7:ac (· =rd) h3 ((h3.set rd (.inst 2 (dP c (made+1) (decide (ao.length=0)) fresh aW la))++[O.list []]).set rd (.inst 2 (dP c (made+1) (decide (ao.length=0)) false (c+5) la))):=(ac.set (S:=(· =rd)) rfl).trans (ac.push.trans (ac.set (S:=(· =rd)) rfl))
  have Pb:=k3.some yL (λz=>by rcases z with z|z<;>lia)
  have hk1:=k1.len
  refine q _ c aW ?_ (by exact ah 0xf120e022e10 rfl hc hk1) ⟨K7.some i3 (by exactλq0=>af 0xf2e011e10 rfl oz q0),K7.some (f3 1 (by exact⟨fG 0xf1a1a rfl,fG 0xf4a1a rfl⟩)) (by exactλq0=>af 0xf2e091a11e10 rfl oz q0),K7.some (f3 2 (by exact⟨fG 0xf2a1a rfl,fG 0xf4a2a rfl⟩)) (by exactλq0=>af 0xf2e092a11e10 rfl oz q0),K7.some (f3 3 (by exact⟨fG 0xf3a1a rfl,fG 0xf4a3a rfl⟩)) (by exactλq0=>af 0xf2e093a11e10 rfl oz q0),K7.some Pb (λz=>?_)⟩ Ez (by exact af 0x1f101e10 rfl O7) (K7.some e3 (λz=>ll z.symm)) (bq oB) ?_ ?_
  ·have kk:ac (λi=>i=b+1\/c<=i\/i=rd) h1 _:=(k3.mono (S':=λi=>i=b+1\/c<=i\/i=rd) λi _ z=>z.elim .inl (λy=> .inr (.inl y))).trans (K7.mono (S':=λi=>i=b+1\/c<=i\/i=rd) λi _ z=> .inr (.inr z))
   exact(k1.mono λi _ z=> .inr z).trans (kk.mono λi hi z=>by
    rcases z with z|z|z
    ·exact .inl z
    ·lia
    ·exact .inr z)
  ·subst z;exact absurd yL (by rw[show h1[aW]? =_ from st1];simp)
  ·rw[S0 (by exactλq0=>af 0xf3e95a101e10 rfl oz q0),Tn (by simp[l3])];simp[l3]
  ·simp[l3]
 have EA:=main h wa ac.refl st ew (.inl rfl)
 have c1:ai aw [some (.ref rd),some (.str word),some (.int place),none] (.cmp .gt (.attr (.loc 0) 15) (.lit (.int 0))) h=some (.bool (decide ((made:Int)>0)),h):=aH (bc rfl st.on qV) rfl rfl
 by_cases hm:0<made
 ·have c2:=congrArg some (decide_eq_true (Tf.mpr hm))
  rcases first with _|_
  ·obtain rfl:=(cond hm rfl).symm
   exact eO (jk c1 c2 (w9 (bc rfl st.on yH) rfl)) rfl (cT rfl (ug G st ew cu.inst (by simp[ce]) mF cu.r (λz=>ne.2 z.symm) hR λh1 k1 st1 w1 l1=>⟨rfl,main h1 h.length k1 st1 w1 (.inr (SW _))⟩))
  ·exact cz (jk c1 c2 (w9 (bc rfl st.on yH) rfl)) rfl EA
 ·exact cz (lX c1 (congrArg some (decide_eq_false λz=>hm (Tf.mp z)))) (congrArg some (decide_eq_false λz=>hm (Tf.mp z))) EA
end
section
variable{Γ:ay}(G:Prog Γ)
include G
theorem oF{n rd tv i:Nat}{toks:List Tok}{t:Tok}{h:H}{Q X:Post}(x:TL h tv toks)(e:toks[i]? =some t)
  (q:ag aw Γ n (.cons (.ite (.cmp .eq (.loc 3) (.glob 5)) (.cons (.while (.cmp .eq (.call 27 (.cons (.loc 1) (.cons (.bin .add (.loc 2) (.lit (.int 1))) .nil))) (.glob 6)) (.cons (.aug 2 .add (.lit (.int 1)))
 .nil))
 .nil) (.cons (.ite (.cmp .eq (.loc 3) (.glob 7)) (.cons (.expr (.call 33 (.cons (.loc 0) (.cons (.loc 4) (.cons (.loc 5) .nil)))))
 .nil) (.cons (.ite (.cmp .eq (.loc 3) (.glob 8)) (.cons (.expr (.call 34 (.cons (.loc 0) (.cons (.loc 4) .nil))))
 .nil) (.cons (.ite (.cmp .eq (.loc 3) (.glob 10)) (.cons (.expr (.call 35 (.cons (.loc 0) (.cons (.loc 5) .nil))))
 .nil) (.cons (.ite (.cmp .eq (.loc 3) (.glob 11)) (.cons (.expr (.call 36 (.cons (.loc 0) (.cons (.loc 5) .nil))))
 .nil) (.cons (.ite (.and (.cmp .eq (.loc 3) (.glob 9)) (.cmp .gt (.attr (.loc 0) 15) (.lit (.int 0)))) (.cons (.expr (.append (.attr (.attr (.loc 0) 16) 1) (.loc 4)))
 .nil) (.cons .dead
 .nil))
 .nil))
 .nil))
 .nil))
 .nil))
 .nil))
 (.cons (.ret (.bin .add (.loc 2) (.lit (.int 1))))
 .nil)) [some (.ref rd),some (.ref tv),some (.int i),some (.int t.1),some t.2.1,some (.int t.2.2)] h ⟨λ_ h=>Q .none h,Q,X⟩):Γ n 37 [.ref rd,.ref tv,.int i] h Q X:=by
 refine G.intro rfl (by decide) ⟨rfl,?_⟩
 refine am (x.get e) λa e1 e2=>?_
 exact jp (aB rfl rfl e1) (fy e2) rfl q
theorem Pd{n rd tv i pl:Nat}{v:V}{toks:List Tok}{h:H}{Q X:Post}(x:TL h tv toks)(e:toks[i]? =some (6,v,pl))(q:Γ n 33 [.ref rd,v,.int pl] h (λw h'=>w= .none/\Q (.int ((i+1:Nat):Int)) h') bot):Γ (n+1) 37 [.ref rd,.ref tv,.int i] h Q X:=
 oF G x e (gJ rfl rfl (nI rfl rfl (cT rfl (G.mono.out (λw h' z=>⟨z.1,(bi rfl z.2:ag aw Γ (n+1) (.cons (.ret _) .nil) _ h' _)⟩) (λ_ _ z=>z) q))))
theorem EB{n rd tv i pl:Nat}{v:V}{toks:List Tok}{h:H}{Q X:Post}(x:TL h tv toks)(e:toks[i]? =some (7,v,pl))(q:Γ n 34 [.ref rd,v] h (λw h'=>w= .none/\Q (.int ((i+1:Nat):Int)) h') bot):Γ (n+1) 37 [.ref rd,.ref tv,.int i] h Q X:=
 oF G x e (gJ rfl rfl (gN rfl rfl (nI rfl rfl (cT rfl (G.mono.out (λw h' z=>⟨z.1,(bi rfl z.2:ag aw Γ (n+1) (.cons (.ret _) .nil) _ h' _)⟩) (λ_ _ z=>z) q)))))
theorem Pe{n rd tv i pl:Nat}{v:V}{toks:List Tok}{h:H}{Q X:Post}(x:TL h tv toks)(e:toks[i]? =some (9,v,pl))(q:Γ n 35 [.ref rd,.int pl] h (λw h'=>w= .none/\Q (.int ((i+1:Nat):Int)) h') bot):Γ (n+1) 37 [.ref rd,.ref tv,.int i] h Q X:=
 oF G x e (gJ rfl rfl (gN rfl rfl (gN rfl rfl (nI rfl rfl (cT rfl (G.mono.out (λw h' z=>⟨z.1,(bi rfl z.2:ag aw Γ (n+1) (.cons (.ret _) .nil) _ h' _)⟩) (λ_ _ z=>z) q))))))
theorem Pf{n rd tv i pl:Nat}{v:V}{toks:List Tok}{h:H}{Q X:Post}(x:TL h tv toks)(e:toks[i]? =some (10,v,pl))(q:Γ n 36 [.ref rd,.int pl] h (λw h'=>w= .none/\Q (.int ((i+1:Nat):Int)) h') bot):Γ (n+1) 37 [.ref rd,.ref tv,.int i] h Q X:=
 oF G x e (gJ rfl rfl (gN rfl rfl (gN rfl rfl (gN rfl rfl (nI rfl rfl (cT rfl (G.mono.out (λw h' z=>⟨z.1,(bi rfl z.2:ag aw Γ (n+1) (.cons (.ret _) .nil) _ h' _)⟩) (λ_ _ z=>z) q)))))))
theorem Pg{n rd b made wa la tv i pl x:Nat}{first fresh:Bool}{fs:List (Nat×V)}{an:Nat}{ns:List Nat}{toks:List Tok}{h:H}{Q X:Post}(tl:TL h tv toks)(e:toks[i]? =some (8,.int (Int.ofNat x),pl))(st:cy h rd b made first fresh wa la)(hm:1<=made)(en:h[b]? =some (.inst 0 fs))(hf:fs.length<=20)(fn:bj fs 1=some (.ref an))
  (eN:h[an]? =some (.list (ns.map λx=>V.int (Int.ofNat x)))) (hN:ns.length<lim) (q:∀h',ac (· =an) h h'->h'[an]? =some (.list ((ns++[x]).map λx=>V.int (Int.ofNat x)))->Q (.int ((i+1:Nat):Int)) h'):Γ (n+1) 37 [.ref rd,.ref tv,.int i] h Q X:=by
 refine oF G tl e (gJ rfl rfl (gN rfl rfl (gN rfl rfl (gN rfl rfl (gN rfl rfl (nJ (p:=(made:Int)>0) (jk rfl rfl (aH (op:= .gt) (bc rfl st.on qV) rfl rfl)) (Tf.mpr hm) (bP (nF (bc rfl st.on mE) (gU en (by decide) hf) fn) eN rfl eN (by rw[Sn];exact hN) ?_)))))))
 exact k_end (bi rfl (q _ (ac.set rfl) (by rw[bq eN];simp)))
theorem Ph{n rd tv i pl d:Nat}{v:V}{toks:List Tok}{h:H}{Q X:Post}(x:TL h tv toks)(e:toks[i]? =some (4,v,pl))(hd:∀j,j<d->kindOf toks (i+1+j)=5)(hn:kindOf toks (i+1+d)≠5)(hl:i+d+1<lim)(q:Q (.int ((i+d+1:Nat):Int)) h):Γ (n+1) 37 [.ref rd,.ref tv,.int i] h Q X:=by
 refine oF G x e ?_
 refine eO rfl rfl (kR ?_)
 refine Cq G.mono (λk ρ h'=>h'=h/\∃j,j+k=d/\ρ=[some (.ref rd),some (.ref tv),some (.int ((i+j:Nat):Int)),some (.int 4),some v,some (.int (pl:Int))]) (λnP k ρ h' kP ii=>?_) (k:=d) ⟨rfl,0,by exact SK (av 0xf0900a rfl) (av 0xf900a0 rfl),rfl⟩
 refine mN ii λae j hj az=>?_;clear ii;subst ae;subst az
 refine iA G (i:=i+j+1) x (by exact aZ 0x1f291a9302e19431e291a910 rfl hl hj) ?_
 rw[Vm i j 1]
 by_cases qZ:j<d
 ·refine l9 rfl (congrArg some (decide_eq_true (hd j qZ))) (fP rfl rfl rfl (bp (kP _ _ ?_)))
  exact⟨k-1,by exact af 0x1f102e191a0 rfl (SJ (ah 0xf11a1e203e2910 rfl hj qZ)),rfl,j+1,by exact SK (aK 0xf29391a02e191a32e2910 rfl hj (SJ (ah 0xf11a1e203e2910 rfl hj qZ))) (aK 0xf9391a023e191a33e2910 rfl hj (SJ (ah 0xf11a1e203e2910 rfl hj qZ))),rfl⟩
 ·obtain rfl:d=j:=by exact SK (af 0xf100e10 rfl (S7 qZ)) (ah 0xf202e2910 rfl hj)
  exact jP rfl (congrArg some (decide_eq_false hn)) (k_end (bi rfl q))
noncomputable def EC:E:= .cmp .ne (.call 27 (.cons (.loc 0) (.cons (.loc 1) .nil))) (.glob 12)
noncomputable def ED:Ss:=(.cons (.ite (.cmp .ge (.loc 1) (.len (.loc 0))) (.cons (.raise (.neg 1))
 .nil) .nil)
 (.cons (.assign 1 (.call 37 (.cons (.loc 4) (.cons (.loc 0) (.cons (.loc 1) .nil)))))
 .nil))
omit G in
theorem iB{toks:List Tok}{i:Nat}{t:Tok}(e:toks[i]? =some t):kindOf toks i=t.1:=by unfold kindOf;rw[e]
noncomputable def Run(Γ:ay)(n tv root tg rd:Nat)(P:PS)(k i:Nat)(h:H):Prop:=
 gp (aj aw Γ n EC) (λρ h N=>ag aw Γ n ED ρ h {P with N:=N}) P.N k [some (.ref tv),some (.int i),some (.ref root),some (.ref tg),some (.ref rd),none,none,none] h
theorem Run.turn{n tv root tg rd k i:Nat}{P:PS}{toks:List Tok}{t:Tok}{h:H}(x:TL h tv toks)(e:toks[i]? =some t)(ne:t.1≠11)(q:Γ n 37 [.ref rd,.ref tv,.int i] h (λv h'=>∃j:Nat,v= .int j/\Run Γ (n+1) tv root tg rd P k j h') bot):Run Γ (n+1) tv root tg rd P (k+1) i h:=by
 refine xA x.len λl1 l2=>?_
 have hi:=(Sr.mp e).1
 refine iA G x (by exact ah 0x1f121e021e10 rfl l2 hi) ?_
 rw[iB e]
 refine l9 rfl (congrArg (λz=>some (!z)) (decide_eq_false ne)) ?_
 exact d8 (aH (op:= .ge) rfl (be rfl l1 (SR.mpr (SZ l2))) rfl) (by lia) (d9 rfl (G.mono.out (λv h' z=>by obtain⟨j,rfl,z⟩:=z;exact z) (λ_ _ z=>z) q))
end
noncomputable abbrev KV:=Int×V
noncomputable def kv(t:Tok):KV:=(t.1,t.2.1)
noncomputable def Tks(toks:List Tok)(i:Nat)(l:List KV):Prop:=∃r,(toks.drop i).map kv=l++r
theorem Tks.get{toks:List Tok}{i j:Nat}{l:List KV}{x:KV}(s:Tks toks i l)(e:l[j]? =some x):∃pl,toks[i+j]? =some (x.1,x.2,pl):=by
 refine xE s λr s=>?_
 have:((toks.drop i).map kv)[j]? =some x:=by
  rw[s,SA (Sr.mp e).1];exact e
 rw[TT,Uv]at this
 cases e2:toks[i+j]? with
 |none=>rw[e2]at this;(exact nn this)
 |some t=>
  rw[e2]at this
  simp only[Uk,Wr]at this
  exact⟨t.2.2,by rw[←this];rfl⟩
theorem Tks.right{toks:List Tok}{i:Nat}{a b:List KV}(s:Tks toks i (a++b)):Tks toks (i+a.length) b:=by
 refine xE s λr s=>?_
 refine⟨r,?_⟩
 rw[←WJ,V5,s,Sw]
 exact Vk
theorem Tks.left{toks:List Tok}{i:Nat}{a b:List KV}(s:Tks toks i (a++b)):Tks toks i a:=by
 refine xE s λr s=>?_
 exact⟨b++r,by rw[s,Sw]⟩
theorem Tks.head{toks:List Tok}{i:Nat}{x:KV}{l:List KV}(s:Tks toks i (x::l)):∃pl,toks[i]? =some (x.1,x.2,pl):=s.get (j:=0) rfl
theorem Tks.tail{toks:List Tok}{i:Nat}{x:KV}{l:List KV}(s:Tks toks i (x::l)):Tks toks (i+1) l:=s.right (a:=[x])
noncomputable def jv:Atom->List KV
 | .rem t=>[(7,.str t)]
 | .num p=>(4,.int (Int.ofNat (p/2+1)))::List.replicate (dots p).length (5,.str [46])
 | .word w=>[(6,.str w)]
 | .cv n=>[(8,.int (Int.ofNat n))]
 | .op=>[(9,.str [40])]
 | .cl=>[(10,.str [41])]
noncomputable def cf(l:List Atom):List KV:=l.flatMap jv
theorem yM(a b:List Atom):cf (a++b)=cf a++cf b:=Uq
theorem q9(a:Atom)(b:List Atom):cf (a::b)=jv a++cf b:=TU
theorem EE:cf []=[]:=rfl
noncomputable def jw(whole:List Nat)(toks:List Tok):Prop:=∀(i pl:Nat) (w:List Nat),toks[i]? =some (6,.str w,pl)->pl+w.length<=whole.length/\(whole.drop pl).take w.length=w
structure Span(toks:List Tok)(l:List Atom)(k i k' i':Nat):Prop where
 s:Tks toks i (cf l)
 i:i+(cf l).length=i'
 k:k'+l.length=k
theorem Span.app{toks:List Tok}{a b:List Atom}{k i k' i':Nat}(x:Span toks (a++b) k i k' i'):∃k1 i1,Span toks a k i k1 i1/\Span toks b k1 i1 k' i':=
 have s:Tks toks i (cf a++cf b):=yM a b▸x.s
 ⟨k'+b.length,i+(cf a).length,⟨s.left,rfl,by rw[←x.k,So,Tu,Ur b.length]⟩,s.right,by rw[←x.i,yM,So,Tu],rfl⟩
theorem Span.one{toks:List Tok}{a:Atom}{t:KV}{k i k' i':Nat}(e:jv a=[t])(x:Span toks [a] k i k' i'):∃pl,toks[i]? =some (t.1,t.2,pl)/\k'+1=k/\i+1=i':=by
 have e':cf [a]=[t]:=by rw[q9,EE,SM,e]
 have s:=x.s
 have ei:=x.i
 rw[e']at s ei
 exact xE s.head λpl h=>⟨pl,h,x.k,ei⟩
theorem Span.nil{toks:List Tok}{k i k' i':Nat}(x:Span toks [] k i k' i'):k'=k/\i=i':=⟨x.k,x.i⟩
theorem Span.to{toks:List Tok}{a b:List Atom}{k i k' i':Nat}(e:a=b)(x:Span toks a k i k' i'):Span toks b k i k' i':=e▸x
structure Rd(h0 h:H)(rd la:Nat)(Lf:List V)(b made:Nat)(first fresh:Bool)(wa:Nat)(W:List (List Nat)):Prop where
 k0:ac ax h0 h
 st:cy h rd b made first fresh wa la
 ew:h[wa]? =some (.list (W.map V.str))
 el:h[la]? =some (.list Lf)
 base:h0.length<=rd/\h0.length<=wa/\h0.length<=la
 wl:wa≠la
structure eV(h0:H)(b bf wa la:Nat):Prop where
 b0:h0.length<=b
 w:wa≠b+1/\wa≠b+2/\wa≠b+3/\wa≠bf
 l:la≠b+1/\la≠b+2/\la≠b+3/\la≠bf
theorem ac.low{S:Nat->Prop}{h0 h h':H}(k:ac ax h0 h)(k':ac S h h')(hs:∀i,S i->h0.length<=i):ac ax h0 h':=k.after k' λi hi z=>by have:=hs i z;lia
theorem Rd.yN{h0 h:H}{rd la:Nat}{Lf:List V}{b made:Nat}{first fresh:Bool}{wa:Nat}{W:List (List Nat)}(x:Rd h0 h rd la Lf b made first fresh wa W):rd≠wa/\rd≠la:=⟨bZ x.st x.ew,bZ x.st x.el⟩
theorem yO{α:Type}{R rs:List α}{r:α}(h:R.length+(r::rs).length<lim):(R++[r]).length+rs.length<lim:=by rw[So,Tu,Ur [r].length];exact h
section
variable{Γ:ay}(G:Prog Γ){h0:H}{tv:Nat}{toks:List Tok}(x0:TL h0 tv toks){n root tg rd la:Nat}{P:PS}{Lf:List V}
include G x0
theorem EF:∀(rs:List (List Nat)) {h:H} {k k' i' b bf made wa i:Nat} {first:Bool} {mv par:V} {w:List Nat} {pl:Int} {ns:List Nat} {R B:List (List Nat)} {ao:List Nat},Rd h0 h rd la Lf b made first false wa []->bV h b mv par w pl bf ns R B ao->eV h0 b bf wa la->bf≠b+2->Span toks (rs.map Atom.rem) k i k' i'->R.length+rs.length<lim->
  (∀h',ac (· =b+2) h h'->Rd h0 h' rd la Lf b made first false wa []->bV h' b mv par w pl bf ns (R++rs) B ao->Run Γ (n+5) tv root tg rd P k' i' h')->Run Γ (n+5) tv root tg rd P k i h:=by
 intro rs
 induction rs with
 |nil=>
  intro h k k' i' b bf made wa i first mv par w pl ns R B ao x cu sd nb s hl q
  rw[←s.nil.1,s.nil.2]
  exact q h ac.refl x ((SM R).symm▸cu)
 |cons r rs ih=>
  intro h k k' i' b bf made wa i first mv par w pl ns R B ao x cu sd nb s hl q
  refine bK (Span.app (a:=[Atom.rem r]) s) λk1 i1 s1 s2=>aN (s1.one rfl) λp0 e ek ei=>?_;subst ek ei
  have tl:=x0.keep x.k0
  refine Run.turn G tl e (by simp) (EB G tl e (O2 G x.st cu.inst (by simp[ce]) mF cu.r (Tq (S9 _ _) hl) λh1 k1 r1=>⟨rfl,i+1,rfl,?_⟩))
  exact ih (⟨x.k0.low k1 λj z=>by exact ah 0xf203e92a120e10 rfl sd.b0 z,x.st.keep k1 (bZ x.st cu.r:rd≠b+2),k1.some x.ew sd.w.2.1,k1.some x.el sd.l.2.1,x.base,x.wl⟩:Rd h0 h1 rd la Lf b made first false wa []) (⟨k1.some cu.inst (by exactλq0=>av 0xf3e92a00 rfl q0),k1.some cu.k (by exactλq0=>av 0xf3e92a091a0 rfl q0),r1,k1.some cu.n (by exactλq0=>av 0xf2e92a093a0 rfl q0),k1.some cu.bb nb⟩:bV h1 b mv par w pl bf ns (R++[r]) B ao) sd nb s2 (yO hl) λh2 k2 x2 iX=>q h2 (k1.trans k2) x2 (Sw R [r] rs▸iX)
theorem Pi:∀(rs:List (List Nat)) {h:H} {k k' i' b made wa i:Nat} {first:Bool} {W:List (List Nat)},Rd h0 h rd la Lf b made first true wa W->Span toks (rs.map Atom.rem) k i k' i'->W.length+rs.length<lim->
  (∀h',ac (· =wa) h h'->Rd h0 h' rd la Lf b made first true wa (W++rs)->Run Γ (n+5) tv root tg rd P k' i' h')->Run Γ (n+5) tv root tg rd P k i h:=by
 intro rs
 induction rs with
 |nil=>
  intro h k k' i' b made wa i first W x s hl q
  rw[←s.nil.1,s.nil.2]
  exact q h ac.refl ((SM W).symm▸x)
 |cons r rs ih=>
  intro h k k' i' b made wa i first W x s hl q
  refine bK (Span.app (a:=[Atom.rem r]) s) λk1 i1 s1 s2=>aN (s1.one rfl) λp0 e ek ei=>?_;subst ek ei
  have tl:=x0.keep x.k0
  refine Run.turn G tl e (by simp) (EB G tl e (O1 G x.st x.ew (Tq (S9 _ _) hl) λh1 k1 r1=>⟨rfl,i+1,rfl,?_⟩))
  exact ih (⟨x.k0.low k1 λj z=>by exact ah 0xf203e120e10 rfl x.base.2.1 z,x.st.keep k1 x.yN.1,r1,k1.some x.el (λz=>x.wl z.symm),x.base,x.wl⟩:Rd h0 h1 rd la Lf b made first true wa (W++[r])) s2 (yO hl) λh2 k2 x2=>q h2 (k1.trans k2) (Sw W [r] rs▸x2)
theorem Pj:∀(rs:List Nat) {h:H} {k k' i' b bf made wa i:Nat} {first fresh:Bool} {mv par:V} {w:List Nat} {pl:Int} {ns:List Nat} {R B:List (List Nat)} {ao:List Nat},Rd h0 h rd la Lf b made first fresh wa []->1<=made->bV h b mv par w pl bf ns R B ao->eV h0 b bf wa la->bf≠b+3->Span toks (rs.map Atom.cv) k i k' i'->ns.length+rs.length<lim->
  (∀h',ac (· =b+3) h h'->Rd h0 h' rd la Lf b made first fresh wa []->bV h' b mv par w pl bf (ns++rs) R B ao->Run Γ (n+5) tv root tg rd P k' i' h')->Run Γ (n+5) tv root tg rd P k i h:=by
 intro rs
 induction rs with
 |nil=>
  intro h k k' i' b bf made wa i first fresh mv par w pl ns R B ao x hm cu sd nb s hl q
  rw[←s.nil.1,s.nil.2]
  exact q h ac.refl x ((SM ns).symm▸cu)
 |cons r rs ih=>
  intro h k k' i' b bf made wa i first fresh mv par w pl ns R B ao x hm cu sd nb s hl q
  refine bK (Span.app (a:=[Atom.cv r]) s) λk1 i1 s1 s2=>aN (s1.one rfl) λp0 e ek ei=>?_;subst ek ei
  have tl:=x0.keep x.k0
  refine Run.turn G tl e (by simp) (Pg G tl e x.st hm cu.inst (by simp[ce]) yJ cu.n (Tq (S9 _ _) hl) λh1 k1 r1=>⟨i+1,rfl,?_⟩)
  exact ih (⟨x.k0.low k1 λj z=>by exact ah 0xf203e93a120e10 rfl sd.b0 z,x.st.keep k1 (bZ x.st cu.n:rd≠b+3),k1.some x.ew sd.w.2.2.1,k1.some x.el sd.l.2.2.1,x.base,x.wl⟩:Rd h0 h1 rd la Lf b made first fresh wa []) hm (⟨k1.some cu.inst (by exactλq0=>av 0xf3e93a00 rfl q0),k1.some cu.k (by exactλq0=>av 0xf3e93a091a0 rfl q0),k1.some cu.r (by exactλq0=>av 0xf3e93a092a0 rfl q0),r1,k1.some cu.bb nb⟩:bV h1 b mv par w pl bf (ns++[r]) R B ao) sd nb s2 (yO hl) λh2 k2 x2 iX=>q h2 (k1.trans k2) x2 (Sw ns [r] rs▸iX)
theorem Pk{k p k' i':Nat}{num:Bool}{word:List Nat}{whole:List Nat}(po:jw whole toks){h:H}{b bf made wa i:Nat}{first fresh:Bool}{mv par:V}{w:List Nat}{pl:Int}{ns:List Nat}{R B W:List (List Nat)}{ao:List Nat}(x:Rd h0 h rd la Lf b made first fresh wa W)(cu:bV h b mv par w pl bf ns R B ao)(sd:eV h0 b bf wa la)
  (cond:0<made->first=false->W=[]) (hR:R.length<=lim) (ha:ao.length+1<lim) (s:Span toks ((if num then [Atom.num p]else [])++[Atom.word word]) k i k' i')
  (q:∀h' c aW j6,ac (λi=>i=b+1\/i=rd) h h'->h.length<=c->bV h' c (.int 0) (.ref b) word (Int.ofNat j6) aW [] [] W []->(aW=wa\/h.length<=aW)->aW<c->h'[b+1]? =some (.list ((ao++[c]).map V.ref))->Rd h0 h' rd la Lf c (made+1) (decide (ao.length=0)) false (c+5) []->h'.length=c+6->
   (j6+word.length<=whole.length/\(whole.drop j6).take word.length=word)->Run Γ (n+5) tv root tg rd P k' i' h'):
  Run Γ (n+5) tv root tg rd P k i h:=by
 have tl:=x0.keep x.k0
 refine bK s.app λk1 i1 s1 s2=>aN (s2.one rfl) λp0 e ek ei=>?_;subst ek ei;clear s s2
 have EG:Run Γ (n+5) tv root tg rd P (k'+1) i1 h:=by
  refine Run.turn G tl e (by simp) (Pd G tl e ?_)
  refine O5 G x.st cu x.ew cond ⟨sd.w.1,sd.w.2.1⟩ hR ha λh' c aW k1 hc iY hw1 lm hk st1 w1 l1=>⟨rfl,i1+1,rfl,?_⟩
  exact q h' c aW p0 k1 hc iY hw1 lm hk ⟨x.k0.low k1 λi z=>z.elim (λz=>by exact ah 0xf203e91a120e10 rfl sd.b0 z) (λz=>z▸x.base.1),st1,w1,k1.some x.el (λz=>z.elim sd.l.1 (λz=>x.yN.2 z.symm)),⟨x.base.1,by exact ah 0xf95a120e020e10 rfl hc x.k0.len,x.base.2.2⟩,by exactλq0=>ah 0xf2e295a11e020e10 rfl hc (aC x.el) q0⟩ l1 (po i1 p0 word e)
 rcases num with _|_
 ·rw[←s1.nil.1,s1.nil.2];exact EG
 have s3:Tks toks i (jv (.num p)++[]):=s1.s
 have st:Tks toks i ((4,V.int (Int.ofNat (p/2+1)))::List.replicate (dots p).length (5,.str [46])):=(SM (jv (.num p))▸s3:)
 have el:i+(dots p).length+1=i1:=by have:=s1.i;rw[if_pos rfl,q9,EE,SM,jv,SD,List.length_replicate]at this;exact this
 have ek:k'+1+1=k:=s1.k
 refine xE st.head λp2 e2=>?_
 rw[←ek]
 refine Run.turn G tl e2 (by simp) (Ph G tl e2 (d:=(dots p).length) (λj hj=>?_) ?_ (el▸Ud (Sr.mp e).1 tl.len.2) ⟨_,rfl,el▸EG⟩)
 ·refine xE (st.get (j:=j+1) (x:=(5,.str [46])) (by rw[U1,U0,if_pos hj])) λp3 e3=>?_
  rw[Tu,Ur 1,iB e3]
 ·rw[Tu,Ur 1,←Tu,el,iB e];exact(by decide:(6:Int)≠5)
end
theorem yP{α:Type}:∀(c:Bool) (a:List α),(if c then []else a).length<=a.length
 |true,_=>Ub _
 |false,_=>SW _
theorem Pm{α:Type}:∀(c:Bool) (a:List α),(if c then a else []).length<=a.length
 |false,_=>Ub _
 |true,_=>SW _
section
variable{Γ:ay}(G:Prog Γ){h0:H}{tv:Nat}{toks:List Tok}(x0:TL h0 tv toks){n root tg rd la:Nat}{P:PS}{Lf:List V}
include G x0
theorem EH{k k' i' p:Nat}{told:Bool}{d:Nd}{whole:List Nat}(po:jw whole toks){h:H}{b bf made wa i:Nat}{first fresh:Bool}{mv par:V}{w:List Nat}{pl:Int}{ns:List Nat}{R B:List (List Nat)}{ao:List Nat}(x:Rd h0 h rd la Lf b made first fresh wa [])(cu:bV h b mv par w pl bf ns R B ao)(sd:eV h0 b bf wa la)(nb:bf≠b+2)
  (cond:0<made->first=false->fresh=false) (hR:R.length+d.aA.length<lim) (ha:ao.length+1<lim) (hn:d.aQ.length<lim) (hr:d.rem.length<lim) (s:Span toks (b9 d p told) k i k' i')
  (q:∀h' c aW j6,ac (λi=>i=b+1\/i=b+2\/i=rd\/i=wa) h h'->h.length<=c->bV h' c (.int 0) (.ref b) d.word (Int.ofNat j6) aW d.aQ d.rem (if fresh then d.aA else []) []->(aW=wa\/h.length<=aW)->aW<c->h'[b+1]? =some (.list ((ao++[c]).map V.ref))->h'[b+2]? =some (.list ((R++(if fresh then []else d.aA)).map V.str))->
   Rd h0 h' rd la Lf c (made+1) (decide (ao.length=0)) false (c+5) []->(j6+d.word.length<=whole.length/\(whole.drop j6).take d.word.length=d.word)->Run Γ (n+5) tv root tg rd P k' i' h'):
  Run Γ (n+5) tv root tg rd P k i h:=by
 refine bK (Span.app (a:=d.aA.map Atom.rem) s) λk1 i1 s1 s=>?_
 refine bK (Span.app (a:=_++[Atom.word d.word]) (s.to (Sw _ _ _).symm)) λk2 i2 s2 s=>bK s.app λk3 i3 s3 s4=>?_;clear s
 have eX:=aC x.el
 have hb2:=aC cu.r
 have main:∀(h1:H) (R' W:List (List Nat)),ac (λi=>i=b+2\/i=wa) h h1->Rd h0 h1 rd la Lf b made first fresh wa W->bV h1 b mv par w pl bf ns R' B ao->(0<made->first=false->W=[])->R'=R++(if fresh then []else d.aA)->W=(if fresh then d.aA else [])->Run Γ (n+5) tv root tg rd P k1 i1 h1:=by
  intro h1 R' W k1 x1 iY cW eR eW
  have l1:=k1.len
  have sR:R'.length<=lim:=by rw[eR,So];exact SQ (UU (yP fresh _) _) (SZ hR)
  refine Pk G x0 po x1 iY sd cW sR ha s2 λh2 c aW j6 k2 hc iX hw1 lm hk x2 l2 pk=>?_
  have hcl:h.length<=c:=SQ l1 hc
  have iZ:aW=wa\/h.length<=aW:=hw1.elim .inl (λz=> .inr (SQ l1 z))
  have law:la≠aW:=iZ.elim (λz y=>x.wl (z▸y.symm)) (λz=>by exactλq0=>ah 0xf3e200e211e10 rfl eX z q0)
  have j7:eV h0 c aW (c+5) la:=⟨by exact ah 0xf120e020e10 rfl hcl x.k0.len,⟨by exactλq0=>av 0xf2e91a095a0 rfl q0,by exactλq0=>av 0xf2e92a095a0 rfl q0,by exactλq0=>av 0xf2e93a095a0 rfl q0,by exactλq0=>af 0xf2e095a11e10 rfl lm q0⟩,⟨by exactλq0=>ah 0xf3e91a200e211e10 rfl eX hcl q0,by exactλq0=>ah 0xf3e92a200e211e10 rfl eX hcl q0,by exactλq0=>ah 0xf3e93a200e211e10 rfl eX hcl q0,law⟩⟩
  refine Pj G x0 d.aQ x2 (by exact av 0xf91a01a rfl) iX j7 (by exactλq0=>af 0xf3e93a101e10 rfl lm q0) s3 ((Uj _).symm▸hn) λh3 k3 x3 rb=>?_
  refine EF G x0 d.rem x3 rb j7 (by exactλq0=>af 0xf3e92a101e10 rfl lm q0) s4 ((Uj _).symm▸hr) λh4 k4 x4 yQ=>?_
  have r2:h2[b+2]? =some (.list (R'.map V.str)):=k2.some iY.r (λz=>z.elim (by lia) (λy=>bZ x1.st iY.r y.symm))
  have kk:ac (λi=>i=b+1\/i=b+2\/i=rd\/i=wa) h h4:=
   (((k1.mono λj _ z=> .inr (z.elim .inl λz=> .inr (.inr z))).trans (k2.mono λj _ z=>z.elim .inl λz=> .inr (.inr (.inl z)))).after k3 λj hj z=>by lia).after k4 λj hj z=>by lia
  have e1:h4[b+1]? =some (.list ((ao++[c]).map V.ref)):=k4.some (k3.some hk (by exactλq0=>ah 0xf3e93a291a00e211e192a0 rfl hb2 hcl q0)) (by exactλq0=>ah 0xf3e92a291a00e211e192a0 rfl hb2 hcl q0)
  have e2:h4[b+2]? =some (.list (R'.map V.str)):=k4.some (k3.some r2 (by exactλq0=>ah 0xf3e93a200e211e10 rfl hb2 hcl q0)) (by exactλq0=>ah 0xf3e92a200e211e10 rfl hb2 hcl q0)
  exact q h4 c aW j6 kk hcl (eW▸yQ) iZ lm e1 (eR▸e2) x4 pk
 rcases fresh with _|_
 ·exact EF G x0 d.aA x cu sd nb s1 hR λh1 k1 x1 iY=>main h1 _ [] (k1.mono λj _ z=> .inl z) x1 iY (λ_ _=>rfl) rfl rfl
 ·refine Pi G x0 d.aA x s1 ((Uj _).symm▸Tq (UV _ _) hR) λh1 k1 x1=>?_
  exact main h1 R d.aA (k1.mono λj _ z=> .inr z) x1 (cu.keep k1 ⟨bZ cu.inst x.ew,λz=>sd.w.1 z.symm,λz=>sd.w.2.1 z.symm,λz=>sd.w.2.2.1 z.symm,λz=>sd.w.2.2.2 z.symm⟩) (λa b=>nomatch (cond a b)) (SM R).symm rfl
end
theorem dB.mono{p p':Nat->Prop}{h:H}{whole:List Nat}(k:∀i,p i->p' i){a:Nat}{t:T}(x:dB p h whole a t):dB p' h whole a t:=x.D4 λx=>x.imp λi z _=>k i z
theorem dO.mono{p p':Nat->Prop}{h:H}{whole:List Nat}(k:∀i,p i->p' i){a:List Nat}{t:List T}(x:dO p h whole a t):dO p' h whole a t:=x.imp λ_ _ x=>x.mono k
theorem Po:∀w∈bits,cE w=true:=by decide
theorem EI(a b:List Nat):cE (a++b)=(cE a&&cE b):=by unfold cE;exact List.all_append
theorem EJ:∀ws:List (List Nat),(∀w∈ws,cE w=true)->cE (aG [32] ws)=true
 | [],_=>rfl
 |x::r,h=>by
  rw[xJ,EI,(h x Sq)]
  split
  ·rfl
  ·rw[EI,(EJ r λw hw=>h w (Su _ hw))];rfl
theorem Nm.txt{t:List Nat}(h:Nm t):cE t=true:=by
 refine aN h λws hl hb ae=>?_;clear h;subst ae
 exact EJ ws λw hw=>Po w (hb w hw)
theorem EK{d:Nd}(kd:bW d){X Y:List (List Nat)}(hX:∀r∈X,Nm r)(hY:∀r∈Y,Nm r)(l:d.aQ.length+d.rem.length+X.length+Y.length<10000):Nd.Ok ⟨d.word,d.aQ,d.rem++X,Y⟩:=by
 have nl:∀r,Nm r->r.length+10<lim:=λr hr=>by have:=hr.len;have:=hlim;lia
 have rc:∀r∈d.rem++X,Nm r:=λr hr=>(SL.mp hr).elim (kd.rem r) (hX r)
 exact⟨kd.aQ,λr hr=>nl r (rc r hr),λr hr=>nl r (hY r hr),⟨λr hr=>(rc r hr).txt,λr hr=>(hY r hr).txt⟩,⟨by simp;exact aZ 0x1f401e49392910 rfl l,by simp;exact aZ 0x1f49211e49392910 rfl l,by simp;exact ah 0x1f211e2910 rfl l⟩⟩
theorem yR{ks:List T}(al:T.cx bW ks):∀r∈bL ks,Nm r:=by
 cases ks with
 |nil=>intro r hr;simp[bL]at hr
 |cons k ks=>rcases k with⟨⟩;exact al.1.1.aA
theorem yS(ks:List T):(bL ks).length<=T.bJ ks:=by
 cases ks with
 |nil=>simp[bL]
 |cons k ks=>rcases k with⟨⟩;simp[bL,T.d,T.bJ,T.cnt,Nd.cnt];exact aK 0xf939299011a0 rfl
noncomputable def EL(h:H)(b wa:Nat):Prop:=∃fs ar,∃R:List (List Nat),h[b]? =some (.inst 0 fs)/\fs.length<=20/\bj fs 2=some (.ref ar)/\h[ar]? =some (.list (R.map V.str))/\ar≠wa/\R.length<=lim
theorem Pp:∀w∈li,w≠[]:=by decide
noncomputable def Fv(b rd wa la i:Nat):Prop:=i=b+1\/i=b+2\/i=rd\/i=wa\/i=la
noncomputable def Pn(m n fY x:Nat):Prop:=m<=x/\x<n/\x≠fY
noncomputable def Pw(m wa n fY x:Nat):Prop:=(m<=x\/x=wa)/\x<n/\x≠fY
section
variable{b rd wa w la c j m:Nat}
theorem Fv.of2(z:j=rd\/j=la):Fv b rd wa la j:=z.elim (λz=> .inr (.inr (.inl z))) λz=> .inr (.inr (.inr (.inr z)))
theorem Fv.EM(z:j=b+1\/j=b+2\/j=rd\/j=wa):Fv b rd wa la j:=z.elim .inl λz=> .inr (z.elim .inl λz=> .inr (z.elim .inl λz=> .inr (.inl z)))
theorem Fv.Pq(hj:j<w)(z:j=b+1\/j=b+2\/j=rd\/j=w):Fv b rd wa la j:= .EM (z.imp id (.imp id (.imp id λz=>absurd z (SX hj))))
theorem Fv.old(z:Fv c rd w la j)(hj:j<m)(hc:m<=c)(hw:m<=w):j=rd\/j=la:=by unfold Fv at z;lia
theorem Fv.uh(hj:j<m)(hc:m<=c)(hw:m<=w)(h1:j≠rd)(h2:j≠la):¬Fv c rd w la j:=λz=>(z.old hj hc hw).elim h1 h2
theorem Fv.shift(z:Fv b rd w la j)(hj:j<w):Fv b rd wa la j:=z.imp id (.imp id (.imp id (.imp (λz=>absurd z (SX hj)) id)))
theorem Fv.rf(hj:m<=j)(hb:b+2<m)(hr:rd<m)(hl:la<m)(hw:j≠w):¬Fv b rd w la j:=by unfold Fv;lia
end
theorem n2{x a b:Nat}(h1:x≠a)(h2:x≠b):¬(x=a\/x=b):=λz=>z.elim h1 h2
theorem n5{x a b c d e:Nat}(h1:x≠a)(h2:x≠b)(h3:x≠c)(h4:x≠d)(h5:x≠e):¬(x=a\/x=b\/x=c\/x=d\/x=e):=λz=>z.elim h1 λz=>z.elim h2 λz=>z.elim h3 λz=>z.elim h4 h5
theorem EN{p:Nat->Prop}{h:H}{whole:List Nat}{c aW pl:Nat}{mv par:V}{d:Nd}{R B:List (List Nat)}{ao:List Nat}{kids:List T}(cu:bV h c mv par d.word (Int.ofNat pl) aW d.aQ R B ao)(ok:Nd.Ok ⟨d.word,d.aQ,R,B⟩)
  (pc:p c/\p (c+1)/\p (c+2)/\p (c+3)/\p aW) (pk:pl+d.word.length<=whole.length/\(whole.drop pl).take d.word.length=d.word) (ks:dO p h whole ao kids):dB p h whole c (.mk ⟨d.word,d.aQ,R,B⟩ kids):=
 .mk ⟨_,_,_,_,_,pl,⟨pc.1,pc.2.2.2.1,pc.2.2.1,pc.2.2.2.2,pc.2.1,cu.inst,(show(8:Nat)<=20 by decide),Et,yJ,mF,Eu,uf,cu.n,cu.r,cu.bb,cu.k⟩,ok,λ_=>O0,λ_=>pk⟩ ks
theorem bV.rl{h0 h h':H}{rd la:Nat}{Lf:List V}{c made:Nat}{first fresh:Bool}{wa:Nat}{W:List (List Nat)}{b bf:Nat}{mv par:V}{w:List Nat}{pl:Int}{ns:List Nat}{R B:List (List Nat)}{ao:List Nat}(cu:bV h b mv par w pl bf ns R B ao)(x:Rd h0 h rd la Lf c made first fresh wa W)(l:la≠b+1/\la≠b+2/\la≠b+3/\la≠bf)(k:ac (λi=>i=rd\/i=la) h h'):bV h' b mv par w pl bf ns R B ao:=
 cu.keep k ⟨n2 (j4 cu.inst x.st (by simp)) (bZ cu.inst x.el),n2 (bZ x.st cu.k).symm l.1.symm,n2 (bZ x.st cu.r).symm l.2.1.symm,n2 (bZ x.st cu.n).symm l.2.2.1.symm,n2 (bZ x.st cu.bb).symm l.2.2.2.symm⟩
theorem bV.fv{h0 h h':H}{rd la:Nat}{Lf:List V}{c made:Nat}{first fresh:Bool}{wa:Nat}{W:List (List Nat)}{b bf:Nat}{mv par:V}{w:List Nat}{pl:Int}{ns:List Nat}{R B R':List (List Nat)}{ao EO:List Nat}(cu:bV h b mv par w pl bf ns R B ao)(x:Rd h0 h rd la Lf c made first fresh wa W)(sd:eV h0 b bf wa la)(n1:bf≠b+1)(nb:bf≠b+2)(k:ac (Fv b rd wa la) h h')
  (ek:h'[b+1]? =some (.list (EO.map V.ref))) (er:h'[b+2]? =some (.list (R'.map V.str))):bV h' b mv par w pl bf ns R' B EO:=
 ⟨k.some cu.inst (n5 (by exactλq0=>av 0xf3e91a00 rfl q0) (by exactλq0=>av 0xf3e92a00 rfl q0) (j4 cu.inst x.st (by simp)) (bZ cu.inst x.ew) (bZ cu.inst x.el)),ek,er,k.some cu.n (n5 (by exactλq0=>av 0xf2e91a093a0 rfl q0) (by exactλq0=>av 0xf2e92a093a0 rfl q0) (bZ x.st cu.n).symm sd.w.2.2.1.symm sd.l.2.2.1.symm),k.some cu.bb (n5 n1 nb (bZ x.st cu.bb).symm sd.w.2.2.2.symm sd.l.2.2.2.symm)⟩
theorem bV.new{h h':H}{rd la b w' c bf m:Nat}{mv par:V}{w:List Nat}{pl:Int}{ns:List Nat}{R B:List (List Nat)}{ao:List Nat}(cu:bV h c mv par w pl bf ns R B ao)(k:ac (Fv b rd w' la) h h')(hb:b+2<m)(hr:rd<m)(hl:la<m)(hc:m<=c)(hw:c+3<w')(hf:bf<c)(n1:bf≠b+1)(n2:bf≠b+2)(n3:bf≠rd)(n4:bf≠la):bV h' c mv par w pl bf ns R B ao:=
 cu.keep k ⟨Fv.rf hc hb hr hl (by exactλq0=>af 0xf3e101e193a0 rfl hw q0),Fv.rf (Uf hc) hb hr hl (by exactλq0=>af 0xf3e191a01e193a0 rfl hw q0),Fv.rf (Uf hc) hb hr hl (by exactλq0=>af 0xf3e192a01e193a0 rfl hw q0),Fv.rf (Uf hc) hb hr hl (by exactλq0=>af 0xf3e101e10 rfl hw q0),n5 n1 n2 n3 (by exactλq0=>ah 0xf3e121e021e193a0 rfl hw hf q0) n4⟩
theorem eV.push{h0:H}{b bf wa la m:Nat}(sd:eV h0 b bf wa la)(hb:b+3<m)(hf:bf<m):eV h0 b bf m la:=⟨sd.b0,⟨by exactλq0=>af 0xf2e91a011e193a0 rfl hb q0,by exactλq0=>af 0xf2e92a011e193a0 rfl hb q0,by exactλq0=>af 0xf2e011e10 rfl hb q0,by exactλq0=>af 0xf2e011e10 rfl hf q0⟩,sd.l⟩
theorem eV.new{h0:H}{c aW w2 la m:Nat}(Pr:h0.length<=m)(hc:m<=c)(hl:la<m)(hw1:aW<c)(hla:la≠aW)(hw:c+5<=w2):eV h0 c aW w2 la:=⟨SQ Pr hc,⟨by exactλq0=>af 0xf2e91a010e195a0 rfl hw q0,by exactλq0=>af 0xf2e92a010e195a0 rfl hw q0,by exactλq0=>af 0xf2e93a010e195a0 rfl hw q0,by exactλq0=>ah 0xf2e020e295a11e10 rfl hw1 hw q0⟩,⟨by exactλq0=>ah 0xf3e91a121e020e10 rfl hc hl q0,by exactλq0=>ah 0xf3e92a121e020e10 rfl hc hl q0,by exactλq0=>ah 0xf3e93a121e020e10 rfl hc hl q0,hla⟩⟩
theorem EP(d:Nd)(kk:List T)(f2:Bool):∀fresh:Bool,T.mk ⟨d.word,d.aQ,d.rem++(if f2 then []else bL kk),if fresh then d.aA else []⟩ (cP f2 kk)=cm f2 (!fresh) (.mk d kk)
 |true=>by rw[cm];rfl
 |false=>by rw[cm];rfl
theorem Ps{α:Type}{P:α->Prop}{l:List α}(h:∀r∈l,P r):∀c:Bool,∀r∈(if c then []else l),P r
 |false=>h
 |true=>λ_ z=>(nomatch z)
theorem Pt{α:Type}{P:α->Prop}{l:List α}(h:∀r∈l,P r):∀c:Bool,∀r∈(if c then l else []),P r
 |true=>h
 |false=>λ_ z=>(nomatch z)
theorem cond_of{made:Nat}{first:Bool}:∀{fresh:Bool},(fresh=true->1<=made/\first=true)->0<made->first=false->fresh=false
 |false,_,_,_=>rfl
 |true,c,_,hf=>(nomatch (c rfl).2.symm.trans hf)
section
variable{Γ:ay}(G:Prog Γ){h0:H}{tv:Nat}{toks:List Tok}(x0:TL h0 tv toks){n root tg rd la:Nat}{P:PS}
include G x0
set_option maxHeartbeats 8000000 in
theorem Pu{whole:List Nat}(po:jw whole toks):∀(N:Nat) {k i k' i' p:Nat} {told:Bool} {kids:List T} {Lf:List V} {h:H} {b bf made wa:Nat} {first fresh:Bool} {mv par:V} {w:List Nat} {pl:Int} {ns:List Nat} {R B:List (List Nat)},T.bt kids<N->Rd h0 h rd la Lf b made first fresh wa []->bV h b mv par w pl bf ns R B []->eV h0 b bf wa la->bf≠b+1->bf≠b+2->
  (fresh=true->1<=made/\first=true)->T.cx bW kids->R.length+T.bJ kids<5000->Lf.length+N<100001->Span toks (bN p told kids) k i k' i'->
  (∀h' ao b' made' first' fresh' fY,ac (Fv b rd wa la) h h'->Rd h0 h' rd la Lf b' made' first' fresh' fY []->made<=made'->EL h' b' fY->h'[b+1]? =some (.list (ao.map V.ref))->h'[b+2]? =some (.list ((R++(if fresh then []else bL kids)).map V.str))->
   dO (Pw h.length wa h'.length fY) h' whole ao (cP fresh kids)->(fY=wa\/h.length<=fY)->Run Γ (n+5) tv root tg rd P k' i' h')->
  Run Γ (n+5) tv root tg rd P k i h:=by
 have hlim:=hlim
 intro N
 induction N with
 |zero=>
  intro k i k' i' p told kids Lf h b bf made wa first fresh mv par w pl ns R B hsz
  exact absurd hsz (WI _)
 |succ N ih=>
  intro k i k' i' p told kids Lf h b bf made wa first fresh mv par w pl ns R B hsz x cu sd EQ nb cond al hc hL s q
  rcases kids with _| ⟨⟨d,kk⟩,ks⟩
  ·rw[←(Span.nil s).1,(Span.nil s).2]
   exact q h [] b made first fresh wa ac.refl x (SW _) ⟨_,_,R,cu.inst,by simp[ce],mF,cu.r,λz=>sd.w.2.1 z.symm,by exact ah 0xf011e13884b9213ef42405b0 rfl hlim hc⟩ cu.k (cu.r.trans (congrArg (λz=>some (O.list (z.map V.str))) ((congrArg (R++ ·) (ite_self _)).trans (SM R)).symm)) .nil (.inl rfl)
  simp only[T.bt,T.sz]at hsz
  simp only[T.bJ,T.cnt,Nd.cnt]at hc
  have fk:=yS kk
  have Pv:∀(ks:List T) {k i k' i' wa c0 yT:Nat} {fresh:Bool} {ao:List Nat} {made:Nat} {R:List (List Nat)} {wc:List Nat} {yU:Int} {Rc:List (List Nat)} {h:H},T.bt ks<N->Rd h0 h rd la Lf c0 made true fresh wa []->1<=made->bV h b mv par w pl bf ns R B ao->ao.length≠0->eV h0 b bf wa la->h[c0]? =some (.inst 0 (ce c0 (.int 0) (.ref b) wc yU yT))->h[c0+2]? =some (.list (Rc.map V.str))->c0+2≠wa->c0+2≠la->Rc.length<=lim->
    T.cx bW ks->ao.length+T.bJ ks<5000->R.length<10000->Span toks (dy p ks) k i k' i'->b+3<c0->
    (∀h' new fresh' fY,ac (Fv b rd wa la) h h'->Rd h0 h' rd la Lf c0 made true fresh' fY []->fresh'=(fresh|| !ks.isEmpty)->h'[b+1]? =some (.list ((ao++new).map V.ref))->h'[b+2]? =some (.list (R.map V.str))->dO (Pn h.length h'.length fY) h' whole new (fV ks)->(fY=wa\/h.length<=fY)->
     Run Γ (n+5) tv root tg rd P k' i' h')->Run Γ (n+5) tv root tg rd P k i h:=by
   intro ks
   induction ks with
   |nil=>
    intro k i k' i' wa c0 yT fresh ao made R wc yU Rc h hsz x hm cu ha sd ei er nw nl yV al hcn hR s n1 q
    rw[←(Span.nil s).1,(Span.nil s).2]
    exact q h [] fresh wa ac.refl x (US _).symm ((SM ao).symm▸cu.k) cu.r .nil (.inl rfl)
   |cons c ks Px=>
    intro k i k' i' wa c0 yT fresh ao made R wc yU Rc h hsz x hm cu ha sd ei er nw nl yV al hcn hR s n1 q
    rcases c with⟨cd,ck⟩
    simp only[T.bt,T.sz]at hsz
    simp only[T.bJ,T.cnt,Nd.cnt]at hcn
    have Py:=yS ck
    refine bK (Span.app (b:=dy p ks) s) λk4 i4 s s5=>bK (Span.app s) λk3 i3 s s4=>bK (Span.app s) λk2 i2 s s3=>bK (Span.app s) λk1 i1 s1 s2=>aN (s1.one rfl) λp0 e0 iu Pz=>aN (s4.one rfl) λp4 e4 yj yW=>?_
    subst iu Pz yj yW
    have hbase:=x.base
    have eX:=aC x.el
    have oH:=aC x.st
    have j8:=aC cu.n
    have hb2:b+2<h.length:=T1 j8
    have hk0:=x.k0.len
    have tl:=x0.keep x.k0
    refine Run.turn G tl e0 (by simp) (Pe G tl e0 (O3 G x.st hm x.ew ei (by simp[ce]) mF OZ er nw yV x.el (by exact ah 0x1f011e186a15b9213ef42405b0 rfl hlim hL) λh1 k1 st1 w1 t1 PA l1=>⟨rfl,i+1,rfl,?_⟩))
    have x1:Rd h0 h1 rd la (Lf++[.ref (h.length+1)]) b 0 true true h.length []:=⟨x.k0.low k1 λj z=>z.elim (λz=>z▸hbase.1) λz=>z▸hbase.2.2,st1,w1,PA,⟨hbase.1,hk0,hbase.2.2⟩,(SX eX).symm⟩
    have PB:=sd.push j8 (aC cu.bb)
    refine EH (d:=cd) G x0 po x1 (cu.rl x sd.l k1) PB nb (λa=>nomatch a) (by exact iF 0x1f09411e13884b9969599431a21e27104b13ef42405b0 rfl hlim hR hcn) (by exact ah 0x1f091a11e13884b9213ef42405b0 rfl hlim hcn) (by exact iF 0x1f021e13884b996959949321a13ef42405b0 rfl hlim hcn) (by exact iF 0x1f031e13884b996959949321a13ef42405b0 rfl hlim hcn) s2 λh2 c2 mG PC k2 hc2 iX lm oI hk2 hr2 x2 pk=>?_
    have ER:h.length<=mG:=by lia
    have gX:h.length<=c2:=by exact ah 0xf210e203e92a10 rfl l1 hc2
    have j7:eV h0 c2 mG (c2+5) la:= .new hk0 gX eX oI (by exactλq0=>ah 0xf3e200e211e10 rfl eX ER q0) (SW _)
    have oJ:=aC x2.ew
    refine ih (by exact ah 0x1f201e291901a rfl hsz) x2 iX j7 (by exactλq0=>af 0xf3e91a101e10 rfl oI q0) (by exactλq0=>af 0xf3e92a101e10 rfl oI q0) (λz=>nomatch z) al.1.2 (by exact iF 0x1f69421e6995949939211a0 rfl hcn) (by simp;exact ah 0x1f29191a01e2991a10 rfl hL) s3 λh3 yX b3 ES ET EU oK k3 x3 hmd ui yY yZ y0 PD=>?_
    have hl2:=k2.len
    have hl3:=k3.len
    refine oZ ui λR9 Sa R3 PE PF sH qG ne3 PG=>?_;clear ui
    have t3:h3[h.length+1]? =some (.tup [.ref c0,.int made,.bool true]):=k3.some (k2.some t1 (by lia)) (n5 (by exactλq0=>ah 0xf3e91a291a10e203e92a10 rfl l1 hc2 q0) (by exactλq0=>af 0xf3e92a191a00e10 rfl gX q0) (by exactλq0=>af 0xf2e091a11e10 rfl oH q0) (by exactλq0=>af 0xf3e95a191a00e10 rfl gX q0) (by exactλq0=>af 0xf2e091a11e10 rfl eX q0))
    have EV:=x0.keep x3.k0
    refine Run.turn G EV e4 (by simp) (Pf G EV e4 (O4 G x3.st (SV (UD _) hmd) x3.ew PE PF sH qG ne3 PG x3.el (by exact ah 0x1f011e186a15b9213ef42405b0 rfl hlim hL) t3 λh4 k4 j5 w4 za l4=>⟨rfl,_,rfl,?_⟩))
    have x4:Rd h0 h4 rd la Lf c0 made true true h3.length []:=⟨x3.k0.low k4 λj z=>z.elim (λz=>z▸hbase.1) λz=>z▸hbase.2.2,j5,w4,za,⟨hbase.1,x3.k0.len,hbase.2.2⟩,(SX (aC x3.el)).symm⟩
    have K:ac (Fv b rd wa la) h h4:=(((k1.mono λj _=> .of2).after k2 λj hj=> .Pq hj).after k3 λj hj z=> .of2 (z.old hj gX (Uf gX))).after k4 λj _=> .of2
    have ll:=(bZ x.st cu.k).symm
    have qY:=(bZ x.st cu.r).symm
    have PH:h4[b+1]? =some (.list ((ao++[c2]).map V.ref)):=k4.some (k3.some hk2 (Fv.uh (T1 hb2) gX (Uf gX) ll sd.l.1.symm)) (n2 ll sd.l.1.symm)
    have PI:h4[b+2]? =some (.list (R.map V.str)):=(k4.some (k3.some hr2 (Fv.uh hb2 gX (Uf gX) qY sd.l.2.1.symm)) (n2 qY sd.l.2.1.symm)).trans (congrArg (λz=>some (O.list (List.map V.str z))) (SM R))
    have yQ:=cu.fv x sd EQ nb K PH PI
    have uj:h.length<=h3.length:=SQ k1.len (SQ hl2 hl3)
    have zb:=sd.push (SV j8 uj) (SV (aC cu.bb) uj)
    have cl:c0<h.length:=aC ei
    have yW:=K.some ei (n5 (bZ ei cu.k) (bZ ei cu.r) (j4 ei x.st (by simp)) (bZ ei x.ew) (bZ ei x.el))
    have tL:=K.some er (n5 (by exactλq0=>af 0xf2e91a092a11e193a0 rfl n1 q0) (by exactλq0=>af 0xf2e92a092a11e193a0 rfl n1 q0) (bZ x.st er).symm nw nl)
    have rb:bV h4 c2 (.int 0) (.ref b) cd.word (Int.ofNat PC) mG cd.aQ (cd.rem++bL ck) cd.aA yX:=(iX.fv x2 j7 (by exactλq0=>af 0xf3e91a101e10 rfl oI q0) (by exactλq0=>af 0xf3e92a101e10 rfl oI q0) k3 yY yZ).rl x3 j7.l k4
    have pn:∀y,h.length<=y->y<h3.length->Pn h.length h4.length h3.length y:=λy a b=>⟨a,SV b k4.len,SX b⟩
    have PJ:dO (Pn h.length h4.length h3.length) h4 whole yX (cP false ck):=dO.keep k4 (λy hy=>n2 (by have:=hy.1;exactλq0=>ah 0xf2e020e211e10 rfl oH this q0) (by have:=hy.1;exactλq0=>ah 0xf2e020e211e10 rfl eX this q0)) (dO.mono (λy hy=>pn y (by have:=hy.1;lia) hy.2.1) y0)
    have ra:=EN rb (EK al.1.1 (yR al.1.2) al.1.1.aA (by exact dU 0x1f27104b929510e351e13884b9949399211a0 rfl hcn Py)) ⟨pn _ gX (by exact ah 0x1f200e211e195a0 rfl oJ hl3),pn _ (by exact af 0xf91a100e10 rfl gX) (by exact ah 0x1f291a00e211e195a0 rfl oJ hl3),pn _ (by exact af 0xf92a100e10 rfl gX) (by exact ah 0x1f292a00e211e195a0 rfl oJ hl3),pn _ (by exact af 0xf93a100e10 rfl gX) (by exact ah 0x1f293a00e211e195a0 rfl oJ hl3),pn _ ER (by exact aK 0x1f300e321e295a11e10 rfl oI oJ hl3)⟩ pk PJ
    replace ra:=(EP cd ck false true)▸ra
    refine Px (h:=h4) (ao:=ao++[c2]) (R:=R) (wa:=h3.length) (by exact ah 0x1f211e2910 rfl hsz) x4 hm yQ (by simp) zb yW tL (by lia) nl yV al.2 (by simp;exact aZ 0x1f49391a01e499392911a0 rfl hcn) hR s5 n1 λh5 new oM fZ K5 x5 PK PL rg oO zc=>?_
    have l5:=K5.len
    exact q h5 (c2::new) oM fZ (K.after K5 λj hj z=>z.shift (SV hj uj)) x5 (PK.trans (VF fresh).symm) (Sw ao [c2] new▸PL) rg
     (.cons ((ra.keep K5 λy hy=>Fv.rf hy.1 hb2 oH eX hy.2.2).mono λy hy=>⟨hy.1,SV hy.2.1 l5,by have:=hy.2.1;have:=hy.2.2;lia⟩) (oO.mono λy hy=>⟨by have:=hy.1;exact aK 0xf320e300e123e91a10 rfl l4 uj this,hy.2⟩)) (by right;lia)
  refine bK (Span.app s) λk1 i1 s1 s=>bK (Span.app s) λk2 i2 s2 s3=>?_
  have eX:=aC x.el
  have oH:=aC x.st
  have j8:=aC cu.n
  have hb2:b+2<h.length:=T1 j8
  have hk0:=x.k0.len
  have ll:=(bZ x.st cu.k).symm
  have qY:=(bZ x.st cu.r).symm
  refine EH (d:=d) G x0 po x cu sd nb (cond_of cond) (by exact dU 0x1f09311e13884b9959499321a13ef42405b0 rfl hlim hc) (by simp;exact av 0x1f01a3ef42405b0 rfl hlim) (by exact iF 0x1f021e13884b996959949321a13ef42405b0 rfl hlim hc) (by exact iF 0x1f031e13884b996959949321a13ef42405b0 rfl hlim hc) s1 λh1 c aW Sb k1 hc1 iY hw1 iZ hk1 hr1 x1 pk=>?_
  have rh:=aC x1.ew
  have hl1:=k1.len
  have ri:aW≠b+1/\aW≠b+2/\aW≠la/\aW≠rd:=hw1.elim (λz=>z▸⟨sd.w.1,sd.w.2.1,x.wl,x.yN.1.symm⟩) λz=>⟨by exactλq0=>ah 0xf2e91a020e211e193a0 rfl j8 z q0,by exactλq0=>ah 0xf2e92a020e211e193a0 rfl j8 z q0,by exactλq0=>ah 0xf2e020e211e10 rfl eX z q0,by exactλq0=>ah 0xf2e020e211e10 rfl oH z q0⟩
  have K1:ac (Fv b rd wa la) h h1:=k1.mono λj _=> .EM
  refine Pv ks (R:=R++(if fresh then []else d.aA)) (ao:=[c]) (by exact ah 0x1f211e91a291901a rfl hsz) x1 (UD _) (cu.fv x sd EQ nb K1 hk1 hr1) (by simp) (sd.push (by exact ah 0x1f95a200e211e10 rfl j8 hc1) (by have:=aC cu.bb;exact ah 0x1f95a121e020e10 rfl hc1 this)) iY.inst iY.r (by exactλq0=>av 0xf3e95a092a0 rfl q0) (by exactλq0=>ah 0xf2e092a20e211e10 rfl eX hc1 q0) (by exact iF 0xf031e13884b996959949321a13ef42405b0 rfl hlim hc) al.2 (by simp;exact aZ 0x1f4931a1e499392911a0 rfl hc) (by rw[So];have:=yP fresh d.aA;exact dU 0x1f27104b9500e251e13884b9949399211a0 rfl hc this) s2 (by exact ah 0x1f200e211e10 rfl j8 hc1) λh2 new EW mG k2 x2 PN PO hr2 PP lm=>?_
  have hl2:=k2.len
  have EX:c+5<=mG:=by lia
  have hch:h.length<=mG:=by exact ah 0xf200e295a10e10 rfl hc1 EX
  have iX:=iY.new k2 hb2 oH eX hc1 (by exact av 0x1f95a093a0 rfl) iZ ri.1 ri.2.1 ri.2.2.2 ri.2.2.1
  have j7:eV h0 c aW mG la:= .new hk0 hc1 eX iZ ri.2.2.1.symm EX
  refine ih (by exact ah 0x1f201e91a291901a rfl hsz) x2 iX j7 (by exactλq0=>af 0xf3e91a101e10 rfl iZ q0) (by exactλq0=>af 0xf3e92a101e10 rfl iZ q0) (λ_=>⟨UD _,rfl⟩) al.1.2 (by exact iF 0x1f69421e6995949939211a0 rfl hc) (by exact ah 0x1f29101e2991a10 rfl hL) s3 λh3 yX b3 ES ET EU oK k3 x3 hmd ui yY yZ y0 PD=>?_
  have hl3:=k3.len
  have oJ:=aC x2.ew
  have K:ac (Fv b rd wa la) h h3:=(K1.after k2 λj hj z=>z.shift (by exact ah 0x1f95a121e020e10 rfl hc1 hj)).after k3 λj hj z=> .of2 (z.old hj hc1 hch)
  have PQ:h3[b+1]? =some (.list ((c::new).map V.ref)):=k3.some PO (Fv.uh (T1 hb2) hc1 hch ll sd.l.1.symm)
  have PR:=k3.some hr2 (Fv.uh hb2 hc1 hch qY sd.l.2.1.symm)
  have rb:=iX.fv x2 j7 (by exactλq0=>af 0xf3e91a101e10 rfl iZ q0) (by exactλq0=>af 0xf3e92a101e10 rfl iZ q0) k3 yY yZ
  have oP:c+5<=oK:=by lia
  have kJ:=EK al.1.1 (Ps (yR al.1.2) EW) (Pt al.1.1.aA fresh) (by have:=yP EW (bL kk);have:=Pm fresh d.aA;lia)
  have pw:∀y,h.length<=y->y<h3.length->y≠oK->Pw h.length wa h3.length oK y:=λy a b c=>⟨.inl a,b,c⟩
  have ra:=EN (p:=Pw h.length wa h3.length oK) rb kJ ⟨pw _ hc1 (by exact aK 0x1f300e320e211e195a0 rfl rh hl2 hl3) (by exactλq0=>af 0xf3e100e195a0 rfl oP q0),pw _ (by exact af 0xf91a100e10 rfl hc1) (by exact aK 0x1f391a00e320e211e195a0 rfl rh hl2 hl3) (by exactλq0=>af 0xf3e191a00e195a0 rfl oP q0),pw _ (by exact af 0xf92a100e10 rfl hc1) (by exact aK 0x1f392a00e320e211e195a0 rfl rh hl2 hl3) (by exactλq0=>af 0xf3e192a00e195a0 rfl oP q0),pw _ (by exact af 0xf93a100e10 rfl hc1) (by exact aK 0x1f393a00e320e211e195a0 rfl rh hl2 hl3) (by exactλq0=>af 0xf3e193a00e195a0 rfl oP q0),⟨hw1.symm,by exact aZ 0x1f400e430e321e295a11e10 rfl iZ rh hl2 hl3,by exactλq0=>ah 0xf3e200e295a11e10 rfl iZ oP q0⟩⟩ pk (y0.mono λy hy=>⟨.inl (hy.1.elim (λz=>by exact aK 0xf300e320e210e10 rfl hl1 hl2 z) λz=>by exact ah 0xf203e120e10 rfl hch z),hy.2⟩)
  rw[EP,PN]at ra
  exact q h3 (c::new) b3 ES ET EU oK K x3 (Wm hmd) ui PQ PR (.cons ra ((dO.keep k3 (λy hy=>by
   have:=hy.1;have:=hy.2.1;have:=hy.2.2
   exact n5 (by lia) (by lia) (by lia) (by exact this) (by lia)) PP).mono λy hy=>pw y (by have:=hy.1;exact ah 0xf200e210e10 rfl hl1 this) (by have:=hy.2.1;exact ah 0x1f121e020e10 rfl hl3 this) (by have:=hy.2.1;have:=hy.2.2;lia))) (.inr (by exact ah 0xf200e295a10e10 rfl hc1 oP))
end
noncomputable def dC(t:Tag):List KV:=[(1,.str [91]),(6,.str t.1),(3,.str t.2),(2,.str [93])]
structure cY(h:H)(m:Nat)(as:List Nat)(tags:List Tag):Prop where
 l:h[m]? =some (.list (as.map V.ref))
 g:A2 (λa t=>∃sp:Nat,h[a]? =some (.tup [.str t.1,.str t.2,.int sp])) as tags
theorem cY.n{h:H}{m:Nat}{as:List Nat}{tags:List Tag}(x:cY h m as tags):as.length=tags.length:=x.g.length
theorem cY.keep{h h':H}{m:Nat}{as:List Nat}{tags:List Tag}(x:cY h m as tags){S:Nat->Prop}(k:ac S h h')(sm:¬S m)(st:∀a∈as,¬S a):cY h' m as tags:=⟨k.some x.l sm,x.g.wI λa _ m z=>z.imp λ_ e=>k.some e (st a m)⟩
theorem cY.grow{h h':H}{m:Nat}{as:List Nat}{tags:List Tag}(x:cY h m as tags)(k:ac ax h h'):cY h' m as tags:=x.keep k id λ_ _=>id
theorem cY.lt{h:H}{m:Nat}{as:List Nat}{tags:List Tag}(x:cY h m as tags)(a:Nat)(ha:a∈as):a<h.length:=iH (x.g.mem ha) λ_ _ e=>aC e
theorem cY.ne{h:H}{m:Nat}{as:List Nat}{tags:List Tag}(x:cY h m as tags){b:Nat}{xs:List V}(eb:h[b]? =some (.list xs))(a:Nat)(ha:a∈as):a≠b:=iH (x.g.mem ha) λ_ _ e=>j4 e eb λz=>O.noConfusion z
section
variable{Γ:ay}(G:Prog Γ)
include G
theorem EY{n m:Nat}{as:List Nat}{tags:List Tag}{name:List Nat}{h:H}(x:cY h m as tags){Q X:Post}(q0:(∀t∈tags,t.1≠name)->Q .none h)(q1:∀(a:Nat) (t:Tag) (sp:Nat),t∈tags->t.1=name->h[a]? =some (.tup [.str t.1,.str t.2,.int sp])->Q (.ref a) h):Γ n 29 [.ref m,.str name] h Q X:=by
 refine G.intro rfl (by decide) ⟨rfl,?_⟩
 refine gP G.mono (m:=m) (xs:=as.map V.ref) (λi ρ h'=>h'=h/\(∀j,j<i->∀t,tags[j]? =some t->t.1≠name)/\∃y,ρ=[some (.ref m),some (.str name),y]) (aM _ rfl ⟨rfl,rfl,λj hj=>absurd hj (WI _),none,rfl⟩) (λi ρ h' ii=>ii.1▸x.l) (λnP i v ρ h' kP hv ii=>?_) (λρ h' ii=>?_)
 ·refine zL ii λae no y az=>?_;clear ii;subst ae;subst az
  refine am (fQ hv) λa ea bB=>?_;subst bB
  refine am (x.g.at ea) λu et he=>xE he λsp e=>fu ?_
  by_cases hn:u.1=name
  ·exact gM (aH (op:= .eq) (aB rfl rfl (fR e rfl rfl)) rfl rfl) hn (bi rfl (q1 a u sp (Sy et) hn e))
  ·refine d8 (aH (op:= .eq) (aB rfl rfl (fR e rfl rfl)) rfl rfl) hn (bp (kP _ _ ⟨rfl,λj hj t et'=>?_,_,rfl⟩))
   refine(Nat.lt_succ_iff_lt_or_eq.mp hj).elim (λz=>no j z t et') λz=>?_
   rw[z,et]at et'
   exact Sv et'▸hn
 ·refine zL ii λae no y az=>?_;clear ii;subst ae;subst az
  refine bi (e:= .lit .none) rfl (q0 λt ht=>?_)
  refine xE (VW.mp ht) λj e=>?_
  exact no j (by rw[Sn,x.n];exact sO e) t e
theorem PT{n tv i:Nat}{toks:List Tok}{t:Tag}{h:H}(x:TL h tv toks)(s:Tks toks i (dC t))(ht:mm t.1){Q X:Post}
  (q:∀h' (sp:Nat),ac ax h h'->Q (.ref h'.length) (h'++[.tup [.str t.1,.str t.2,.int sp]])):Γ (n+2) 30 [.ref tv,.int i] h Q X:=by
 refine G.intro rfl (by decide) ⟨rfl,?_⟩
 refine xE (s.get (j:=0) rfl) λp0 e0=>?_
 refine xE (s.get (j:=1) rfl) λp1 e1=>?_
 refine xE (s.get (j:=2) rfl) λp2 e2=>?_
 refine xE (s.get (j:=3) rfl) λp3 e3=>?_
 refine bd (v:= .ref h.length) (h':=h++[O.tup [V.int 1,V.int 6,V.int 3,V.int 2]]) rfl ?_
 have k1:ac ax h (h++[O.tup [V.int 1,V.int 6,V.int 3,V.int 2]]):=ac.push
 have ek:(h++[O.tup [V.int 1,V.int 6,V.int 3,V.int 2]])[h.length]? =some (.tup [V.int 1,V.int 6,V.int 3,V.int 2]):=aE
 generalize h++[O.tup [V.int 1,V.int 6,V.int 3,V.int 2]]=h1 at k1 ek ⊢
 have x1:=x.keep k1
 refine mh G.mono (k:=4) (by decide) (λj ρ h'=>h'=h1/\∃y,ρ=[some (.ref tv),some (.int i),some (.ref h.length),y,none]) (aM _ rfl ⟨rfl,rfl,none,rfl⟩) (λnP j ρ h' kP hj ii=>?_) (λρ h' ii=>?_)
 ·refine lA ii λae y az=>?_;clear ii;subst ae;subst az
  have hk:cq aw h' (.ref h.length) (.int j)=some (.int (kindOf toks (i+j))):=by
   have:j=0\/j=1\/j=2\/j=3:=by lia
   rcases this with zq|zq|zq|zq<;>obtain rfl:=zq.symm
   ·rw[iB e0];exact fR ek rfl rfl
   ·rw[iB e1];exact fR ek rfl rfl
   ·rw[iB e2];exact fR ek rfl rfl
   ·rw[iB e3];exact fR ek rfl rfl
  refine qn rfl (iA G (i:=i+j) x1 (by exact aK 0x1f29301e4a31e211e193a0 rfl ((Sr.mp e3).1:i+3<toks.length) x.len.2 hj) ?_)
  exact jP (aB rfl rfl hk) (congrArg (λz=>some (!z)) (decide_eq_true rfl)) (k_end (bp (kP _ _ ⟨rfl,_,rfl⟩)))
 ·refine lA ii λae y az=>?_;clear ii;subst ae;subst az
  refine am (x1.get e1) λa1 b1 c1=>?_
  refine am (x1.get e2) λa2 b2 c2=>?_
  refine bd (e:= .idx (.idx (.loc 0) (.bin .add (.loc 1) (.lit (.int 1)))) (.lit (.int 1))) (aB (aB rfl rfl b1) rfl (fR c1 rfl rfl)) ?_
  refine xm rfl (CY G ht (k_end ?_))
  exact bi (jm (aO rfl (aO (aB (aB rfl rfl b2) rfl (fR c2 rfl rfl)) (aO (aB (aB rfl rfl b2) rfl (fR c2 rfl rfl)) rfl)))) (q h' p2 k1)
noncomputable def EZ:E:=(.or (.cmp .eq (.call 27 (.cons (.loc 0) (.cons (.loc 1) .nil))) (.glob 2)) (.cmp .eq (.call 27 (.cons (.loc 0) (.cons (.loc 1) .nil))) (.glob 8)))
noncomputable def E0:Ss:=(.cons (.ite (.cmp .eq (.call 27 (.cons (.loc 0) (.cons (.loc 1) .nil))) (.glob 8)) (.cons (.expr (.append (.loc 2) (.idx (.idx (.loc 0) (.loc 1)) (.lit (.int 1)))))
 (.cons (.aug 1 .add (.lit (.int 1)))
 .nil)) (.cons (.assign 4 (.call 30 (.cons (.loc 0) (.cons (.loc 1) .nil))))
 (.cons (.ite (.isNone true (.call 29 (.cons (.loc 3) (.cons (.idx (.loc 4) (.lit (.int 0))) .nil)))) (.cons .dead
 .nil) .nil)
 (.cons (.expr (.append (.loc 3) (.loc 4)))
 (.cons (.aug 1 .add (.lit (.int 4)))
 .nil)))))
 .nil)
noncomputable def oQ(Γ:ay)(n tv rm tg:Nat)(P:PS)(k i:Nat)(y:Option V)(h:H):Prop:=
 gp (aj aw Γ n EZ) (λρ h N=>ag aw Γ n E0 ρ h {P with N:=N}) P.N k [some (.ref tv),some (.int i),some (.ref rm),some (.ref tg),y] h
variable{h0:H}{tv:Nat}{toks:List Tok}(x0:TL h0 tv toks)
include x0
theorem PU{n rm tg k i:Nat}{P:PS}{y:Option V}{h:H}(k0:ac ax h0 h)(hi:i<lim)(nk:kindOf toks i≠1/\kindOf toks i≠7)(q:P.N [some (.ref tv),some (.int i),some (.ref rm),some (.ref tg),y] h):oQ Γ (n+1) tv rm tg P (k+1) i y h:=by
 have tl:=x0.keep k0
 exact iA G tl hi (jP rfl (congrArg some (decide_eq_false nk.1)) (iA G tl hi (jP rfl (congrArg some (decide_eq_false nk.2)) q)))
theorem PV{n rm tg E k:Nat}{P:PS}{y:Option V}:∀(rs:List (List Nat)) {i:Nat} {R:List (List Nat)} {h:H},ac ax h0 h->h0.length<=rm->h[rm]? =some (.list (R.map V.str))->R.length+rs.length<lim->Tks toks i (cf (rs.map Atom.rem))->i+rs.length=E->
  (∀h',ac ax h0 h'->ac (· =rm) h h'->h'[rm]? =some (.list ((R++rs).map V.str))->oQ Γ (n+1) tv rm tg P k E y h')->oQ Γ (n+1) tv rm tg P (k+rs.length) i y h:=by
 intro rs
 induction rs with
 |nil=>intro i R h k0 hb e hl s he q;exact(show i=E from he)▸q h k0 ac.refl (by rw[SM];exact e)
 |cons r rs ih=>
  intro i R h k0 hb e hl s he q
  refine xE s.head λp0 e1=>?_
  have tl:=x0.keep k0
  have hil:i<lim:=Ud (sO e1) tl.len.2
  have k7:=iB e1
  have hl':R.length+1+rs.length<lim:=(Wi R.length rs.length).symm▸hl
  refine am (tl.get e1) λa b1 c1=>?_
  refine iA G tl hil (jP rfl (congrArg (λz=>some (decide (z=(1:Int)))) k7) (iA G tl hil (l9 rfl (congrArg some (decide_eq_true k7)) (qn rfl (iA G tl hil (l9 rfl (congrArg some (decide_eq_true k7)) (bP rfl e (aB (aB rfl rfl b1) rfl (fR c1 rfl rfl)) e (by rw[Sn];exact Tq (S9 _ _) hl) (fP rfl rfl rfl ?_))))))))
  have k1:ac (· =rm) h (h.set rm (.list (R.map V.str++[.str r]))):=ac.set rfl
  exact ih (R:=R++[r]) (k0.low k1 λj z=>z▸hb) hb ((bq e).trans (by rw[SN];rfl)) (by rw[So];exact hl') s.tail ((Wi i rs.length).trans he) λh2 k2 kk e2=>q h2 k2 (k1.trans kk) (by rw[Sw]at e2;exact e2)
theorem PW{n rm tg k E:Nat}{P:PS}:∀(ts:List Tag) {i:Nat} {y:Option V} {done:List Tag} {as:List Nat} {h:H},ac ax h0 h->h0.length<=tg->cY h tg as done->ts.Pairwise (λu v=>u.1≠v.1)->(∀u∈done,∀v∈ts,u.1≠v.1)->(∀t∈ts,mm t.1)->done.length+ts.length<1000->Tks toks i (ts.flatMap dC)->i+4*ts.length=E->
  (∀h' as' y',ac ax h0 h'->ac (· =tg) h h'->cY h' tg as' (done++ts)->(∀a∈as',a∈as\/h.length<=a)->oQ Γ (n+3) tv rm tg P k E y' h')->oQ Γ (n+3) tv rm tg P (k+ts.length) i y h:=by
 intro ts
 induction ts with
 |nil=>intro i y done as h k0 hb e nd dj it hl s he q;exact(show i=E from he)▸q h as y k0 ac.refl (by rw[SM];exact e) (λa ha=> .inl ha)
 |cons t ts ih=>
  intro i y done as h k0 hb e nd dj it hl s he q
  rw[TU]at s
  refine xE s.left.head λp0 e1=>?_
  have tl:=x0.keep k0
  have hil:i<lim:=Ud (sO e1) tl.len.2
  have k7:=iB e1
  have hl':done.length+1+ts.length<1000:=(Wi done.length ts.length).symm▸hl
  refine iA G tl hil (l9 rfl (congrArg some (decide_eq_true k7)) (qn rfl (iA G tl hil (jP rfl (congrArg (λz=>some (decide (z=(7:Int)))) k7) (d9 rfl (PT G tl s.left (it t Sq) λh1 sp k1=>?_))))))
  have kp:ac ax h1 (h1++[O.tup [V.str t.1,V.str t.2,V.int sp]]):=ac.push
  have e2:(h1++[O.tup [V.str t.1,V.str t.2,V.int sp]])[h1.length]? =some (.tup [V.str t.1,V.str t.2,V.int sp]):=aE
  generalize h1++[O.tup [V.str t.1,V.str t.2,V.int sp]]=h2 at kp e2 ⊢
  have k2:=k1.trans kp
  have t2:=e.grow k2
  refine fO (cJ _ (aO rfl (aO (aB rfl rfl (fR e2 rfl rfl)) rfl)) (EY G t2 (λ_=>?_) (λa u Sd hu z=>absurd z (dj u hu t Sq))))
  refine k_end (bP rfl t2.l rfl t2.l (by rw[Sn,t2.n];exact Ud (Tq (S9 _ _) hl) (by decide)) (fP rfl rfl rfl ?_))
  have k3:ac (· =tg) h2 (h2.set tg (.list (as.map V.ref++[.ref h1.length]))):=ac.set rfl
  have t3:cY (h2.set tg (.list (as.map V.ref++[.ref h1.length]))) tg (as++[h1.length]) (done++[t]):=
   ⟨(bq t2.l).trans (congrArg (λl=>some (O.list l)) (SN (f:=V.ref) (l₁:=as) (l₂:=[h1.length])).symm),(t2.g.wI λa _ m z=>z.imp λ_ e=>(S0 (t2.ne t2.l a m).symm).trans e).app (.cons ⟨sp,(S0 (j4 t2.l e2 λz=>O.noConfusion z)).trans e2⟩ .nil)⟩
  exact ih (done:=done++[t]) (k0.trans k2 |>.low k3 λj z=>z▸hb) hb t3 (Wj.mp nd).2 (λu hu v hv=>(SL.mp hu).elim (λz=>dj u z v (Su _ hv)) λz=>Sx.mp z▸(Wj.mp nd).1 v hv) (λu hu=>it u (Su _ hu)) (by rw[So];exact hl') s.right ((congrArg (· +4*ts.length) rfl).trans ((Tu i 4 _).trans ((congrArg (i+ ·) (Ur 4 _)).trans he))) λh4 as' y' k4 kk t4 sub=>q h4 as' y' k4 ((k2.mono λ_ _ z=>z.elim).trans (k3.trans kk)) (VG done t ts▸t4) λa ha=>
   (sub a ha).elim (λz=>(SL.mp z).elim .inl λz=> .inr (Sx.mp z▸k1.len)) λz=> .inr (SQ k2.len (by rw[UX]at z;exact z))
end
section
variable{Γ:ay}(G:Prog Γ)
include G
theorem PX{n root:Nat}{h:H}{Q X:Post}(q:∀h',ac ax h h'->cy h' h.length root 0 false false (h.length+1) (h.length+2)->h'[h.length+1]? =some (.list [])->h'[h.length+2]? =some (.list [])->h'.length=h.length+3->Q .none h'):Γ n 26 [.ref h.length,.ref root] (h++[.inst 2 []]) Q X:=by
 refine G.intro rfl (by decide) ⟨rfl,?_⟩
 refine iy rfl rfl rfl rfl (iy rfl rfl rfl rfl (iy rfl rfl rfl rfl (iy rfl rfl rfl rfl (oj rfl rfl rfl (oj rfl rfl rfl ?_)))))
 exact q (h++[O.inst 2 (dP root 0 false false (h.length+1) (h.length+2)),O.list [],O.list []]) ac.push mr (by rw[Tn (by exact av 0xf91a00 rfl)];simp) (by rw[Tn (by exact av 0xf92a00 rfl)];simp) (by simp)
noncomputable def mH(tg root:Nat)(res:List Nat):List (Nat×V):=[(10,.ref tg),(9,.ref root),(8,.str res)]
theorem PY{n tg root:Nat}{res:List Nat}{h:H}{Q X:Post}(q:Q .none (h++[.inst 1 (mH tg root res)])):Γ n 25 [.ref h.length,.ref tg,.ref root,.str res] (h++[.inst 1 []]) Q X:=by
 refine G.intro rfl (by decide) ⟨rfl,?_⟩
 exact iy rfl rfl rfl rfl (iy rfl rfl rfl rfl (iy rfl rfl rfl rfl q))
omit G in
theorem E3(tags:List Tag):(tags.flatMap dC).length=4*tags.length:=by
 induction tags with
 |nil=>rfl
 |cons t ts ih=>rw[TU,So,ih];simp[dC];exact SK (av 0xfc91a04a9c04a4a rfl) (av 0xf9c04a4ac91a04a rfl)
theorem PZ{n tv rm i:Nat}{toks:List Tok}{tags:List Tag}{rs:List (List Nat)}{h0 h:H}(x0:TL h0 tv toks)(k0:ac ax h0 h)(em:h[rm]? =some (.list []))(base:h0.length<=rm)(it:∀t∈tags,mm t.1)(nd:(tags.map (·.1)).Nodup)(tl:tags.length<=6)(rl:rs.length<10000)
  (s:Tks toks i (tags.flatMap dC++cf (rs.map Atom.rem))) (hi:i+4*tags.length+rs.length<lim) (nk:kindOf toks (i+4*tags.length+rs.length)≠1/\kindOf toks (i+4*tags.length+rs.length)≠7) {Q X:Post}
  (q:∀h' tg as,ac (· =rm) h h'->ac ax h0 h'->h.length<=tg->h'[rm]? =some (.list (rs.map V.str))->cY h' tg as tags->(∀a∈as,h.length<=a)->Q (.ref h'.length) (h'++[.tup [.ref tg,.int ((i+4*tags.length+rs.length:Nat):Int)]])):Γ (n+3) 31 [.ref tv,.int i,.ref rm] h Q X:=by
 refine G.intro rfl (by decide) ⟨rfl,?_⟩
 have hlim:=hlim
 refine bd rfl ?_
 have hrm:=aC em
 have k1:ac ax h (h++[O.list []]):=ac.push
 have s2:=s.right
 rw[E3]at s2
 have run:∀P:PS,(∀h' y as,ac (· =rm) h h'->ac ax h0 h'->h'[rm]? =some (.list (rs.map V.str))->cY h' h.length as tags->(∀a∈as,h.length<=a)->P.N [some (.ref tv),some (.int ((i+4*tags.length+rs.length:Nat):Int)),some (.ref rm),some (.ref h.length),y] h')->oQ Γ (n+3) tv rm h.length P (1+rs.length+tags.length) i none (h++[O.list []]):=by
  intro P q
  refine PW G x0 tags (done:=[]) (as:=[]) (k0.trans k1) k0.len ⟨aE,.nil⟩ (List.pairwise_map.mp nd) (λu hu=>nomatch hu) it (by simp;exact av 0x1f3e83b00e6a0 rfl tl) s.left rfl λh2 zd y2 k2 lu t2 tX=>?_
  refine PV G x0 rs (R:=[]) k2 base (lu.some (k1.some em id) (by exactλq0=>af 0xf3e101e10 rfl hrm q0):h2[rm]? =some (.list [])) (by simp;exact ah 0x1f211e2910 rfl hi) s2 rfl λh3 k3 E4 e3=>?_
  have E5:∀a∈zd,h.length<=a:=λa ha=>by
   refine Ts (tX a ha) (λz=>?_) (λz=>?_)
   ·exact nm z
   ·simp at z;exact af 0xf100e191a0 rfl z
  have t3:cY h3 h.length zd tags:=t2.keep E4 (by exactλq0=>af 0xf2e011e10 rfl hrm q0) (λa ha z=>by exact ah 0xf0e212e021e10 rfl hrm z (E5 a ha))
  refine PU G x0 k3 hi nk ?_
  refine q h3 y2 zd ?_ k3 e3 t3 E5
  exact((k1.mono λ_ _ z=>z.elim).after lu λj hj z=>by lia).trans E4
 refine kR (⟨_,run _ λh' y as kk kn e t ge=>?_⟩:wpS aw Γ (n+3) (.while EZ E0) [some (.ref tv),some (.int i),some (.ref rm),some (.ref h.length),none] (h++[O.list []]) _)
 exact bi rfl (q h' h.length as kk kn (SW _) e t ge)
end
noncomputable def dQ:List T->List T
 | []=>[]
 | .mk d ks::r=> .mk (jt d) ks::r
theorem P0(p:Nat)(kids:List T):bN p true kids=(bL kids).map Atom.rem++bN p true (dQ kids):=by
 cases kids with
 |nil=>rfl
 |cons k ks=>
  cases k with
  |mk d kk=>
  simp[dQ,bN,bL,T.d,b9,jt,aY,bO]
theorem P1(kids:List T):cP false (dQ kids)=cP false kids:=by
 cases kids with
 |nil=>rfl
 |cons k ks=>
  cases k with
  |mk d kk=>simp[dQ,cP,cm,jt]
theorem P2(kids:List T):bL (dQ kids)=[]:=by
 cases kids with
 |nil=>rfl
 |cons k ks=>rcases k with⟨⟩;rfl
theorem P3{kids:List T}(al:T.cx bW kids):T.cx bW (dQ kids)/\T.bJ (dQ kids)<=T.bJ kids/\T.bt (dQ kids)=T.bt kids:=by
 cases kids with
 |nil=>exact⟨al,SW _,rfl⟩
 |cons k ks=>
  cases k with
  |mk d kk=>
  obtain⟨⟨kd,ze⟩,zf⟩:=al
  refine⟨⟨⟨⟨kd.word,kd.aQ,kd.rem,λr hr=>nomatch hr⟩,ze⟩,zf⟩,?_,rfl⟩
  simp[dQ,T.bJ,T.cnt,jt,Nd.cnt]
theorem uk:∀ts:List T,T.bt ts<=T.bJ ts
 | []=>SW _
 | .mk d kk::ts=>by
  have:=uk ts
  have:=uk kk
  simp only[T.bt,T.sz,T.bJ,T.cnt]
  lia
theorem P4{p:Nat}{kids:List T}{toks:List Tok}{i:Nat}(s:Tks toks i (cf (bN p true (dQ kids))))(h:kids≠[]):kindOf toks i=4:=by
 cases kids with
 |nil=>exact absurd rfl h
 |cons k ks=>
  cases k with
  |mk d kk=>
  simp only[dQ,bN,T.d,b9,jt,Ut,TB,WR,if_true,Te,Sw]at s
  rw[q9]at s
  simp only[jv]at s
  refine xE s.left.head λpl e=>?_
  rw[iB e]
theorem P5(rs:List (List Nat)):(cf (rs.map Atom.rem)).length=rs.length:=by
 induction rs with
 |nil=>rfl
 |cons r rs ih=>rw[Th,q9,So,ih,Ur];rfl
theorem P6{toks:List Tok}{tags:List Tag}{d:Nd}{kids:List T}{i cZ p:Nat}(s:Tks toks i (tags.flatMap dC++cf (d.rem.map Atom.rem++bN p true kids)))(hE:cZ=i+(tags.flatMap dC++cf (d.rem.map Atom.rem++bN p true kids)).length):
  Tks toks i (tags.flatMap dC++cf ((d.rem++bL kids).map Atom.rem))/\Span toks (bN p true (dQ kids)) (1+(bN p true (dQ kids)).length) (i+4*tags.length+(d.rem++bL kids).length) 1 cZ:=by
 have e:tags.flatMap dC++cf (d.rem.map Atom.rem++bN p true kids)=(tags.flatMap dC++cf ((d.rem++bL kids).map Atom.rem))++cf (bN p true (dQ kids)):=by
  rw[P0,←Sw,←SN,yM,Sw]
 have el:i+(tags.flatMap dC++cf ((d.rem++bL kids).map Atom.rem)).length=i+4*tags.length+(d.rem++bL kids).length:=by rw[So,E3,P5,Tu]
 rw[e]at s hE
 exact⟨s.left,el▸s.right,el▸(Tu _ _ _).trans (congrArg (i+ ·) So.symm) |>.trans hE.symm,rfl⟩
theorem P7{kids:List T}{toks:List Tok}{k i cZ p:Nat}(s:Span toks (bN p true (dQ kids)) k i 1 cZ)(h:kindOf toks cZ≠1/\kindOf toks cZ≠7):kindOf toks i≠1/\kindOf toks i≠7:=by
 rcases kids with _|_
 ·exact(Span.nil s).2▸h
 ·rw[P4 s.s (nomatch ·)];exact⟨by decide,by decide⟩
section
variable{Γ:ay}(G:Prog Γ)
include G
theorem Run.done{n tv root tg rd k i:Nat}{P:PS}{toks:List Tok}{t:Tok}{h:H}(x:TL h tv toks)(e:toks[i]? =some t)(lS:t.1=11)(q:P.N [some (.ref tv),some (.int i),some (.ref root),some (.ref tg),some (.ref rd),none,none,none] h):Run Γ (n+1) tv root tg rd P (k+1) i h:=by
 refine iA G x (by exact ah 0x1f201e211e10 rfl ((Sr.mp e).1) x.len.2) ?_
 exact jP rfl (congrArg (λz=>some (!z)) (decide_eq_true ((iB e).trans lS))) q
theorem Run.miss{n tv root tg rd k i:Nat}{P:PS}{toks:List Tok}{h:H}(x:TL h tv toks)(e:toks.length=i)(q:P.X (.int (-1)) h):Run Γ (n+1) tv root tg rd P (k+1) i h:=by
 refine xA x.len λl1 l2=>?_
 refine iA G x (by exact ah 0x1f211e203e10 rfl e l2) ?_
 have:kindOf toks i=0:=by unfold kindOf;rw[Tz.mpr (by exact af 0xf102e10 rfl e)]
 rw[this]
 exact l9 rfl rfl (gM (aH (op:= .ge) rfl (be rfl l1 (SR.mpr (SZ l2))) rfl) (by lia) (Mm rfl q))
theorem E6{n tv i p:Nat}{toks:List Tok}{tags:List Tag}{t:T}{res whole:List Nat}{h0:H}(po:jw whole toks)(x0:TL h0 tv toks)(it:∀u∈tags,mm u.1)(nd:(tags.map (·.1)).Nodup)(tl:tags.length<=6)(rt:ju t.d)(al:T.cx bW t.kids)(hc:t.cnt<2000)(P8:∀u∈tags,u.1=yz->u.2=res)
  (s:Tks toks i (tags.flatMap dC++cf (t.d.rem.map Atom.rem++aY p true t))) {cZ:Nat} (hE:cZ=i+(tags.flatMap dC++cf (t.d.rem.map Atom.rem++aY p true t)).length) {Q X:Post}
  (fin:((∃pl,toks[cZ]? =some (11,.str res,pl))/\∀h' rec root tg as (p':Nat->Prop),ac ax h0 h'->h'[rec]? =some (.inst 1 (mH tg root res))->cY h' tg as tags->dB p' h' whole root (cm false false t)->(∀y,p' y->y<h'.length)->Q (.ref h'.length) (h'++[.tup [.ref rec,.int ((cZ+1:Nat):Int)]]))\/(toks.length=cZ/\∀h',ac ax h0 h'->X (.int (-1)) h')):Γ (n+6) 38 [.ref tv,.int i] h0 Q X:=by
 have hlim:=hlim
 cases t with
 |mk d kids=>
 simp only[T.d,T.kids,T.cnt,Nd.cnt,aY]at rt al hc s hE fin
 refine du (P3 al) λP9 cc sc=>?_
 have fc:=yS kids
 refine xA (P6 s hE) λsA sp=>?_
 have E7:=sp.i
 clear s hE
 have hrl:(d.rem++bL kids).length=d.rem.length+(bL kids).length:=by simp
 have Qa:=x0.len.2
 have ul:cZ<=toks.length/\kindOf toks cZ≠1/\kindOf toks cZ≠7:=by
  clear sA sp E7
  rcases fin with⟨⟨pl,e⟩,_⟩| ⟨e,_⟩
  ·exact⟨SZ (Sr.mp e).1,by rw[iB e];exact⟨(by decide:(11:Int)≠1),(by decide:(11:Int)≠7)⟩⟩
  ·exact⟨UY e.symm,by unfold kindOf;rw[Tz.mpr (UY e)];exact⟨by decide,by decide⟩⟩
 have nk:=P7 sp ul.2
 replace ul:=ul.1
 refine G.intro rfl (by decide) ⟨rfl,?_⟩
 refine d9 rfl (DT G λh1 k1 f1 l1=>?_)
 have oR:bV h1 h0.length (.int 0) .none [] (-1) (h0.length+4) [] [] [] []:=⟨f1.inst,f1.l 1 (by exact⟨fG 0xf1a1a rfl,fG 0xf4a1a rfl⟩),f1.l 2 (by exact⟨fG 0xf2a1a rfl,fG 0xf4a2a rfl⟩),f1.l 3 (by exact⟨fG 0xf3a1a rfl,fG 0xf4a3a rfl⟩),f1.l 4 (by exact⟨fG 0xf4a1a rfl,fG 0xf4a4a rfl⟩)⟩
 generalize hb:h0.length=b at*
 refine nK (aO rfl (aO rfl (aO (bc rfl (yG oR.inst) mF) rfl))) ?_
 refine PZ G x0 k1 oR.r (by exact af 0xf92a102e10 rfl hb) it nd tl (by exact dU 0x1f27104b52e94150e341e7d03b939929101a rfl hc fc hrl) sA (by exact aZ 0x1f400e321e432e2910 rfl E7 Qa ul) nk λh2 tg as lu k2 qH e2 t2 Qb=>?_
 have hl2:=lu.len
 refine ft (fy aE) ⟨rfl,?_⟩
 generalize Qc:h2++[O.tup [V.ref tg,V.int ((i+4*tags.length+(d.rem++bL kids).length:Nat):Int)]]=h3
 have js:ac ax h2 h3:=Qc▸ac.push
 have k3:=k2.trans js
 have hl3:=js.len
 refine Mo rfl (PX G λh4 mI j5 w4 za l4=>⟨rfl,?_⟩)
 have k4:=k3.trans mI
 have E8:=js.trans mI
 have Qd:bV h2 b (.int 0) .none [] (-1) (b+4) [] (d.rem++bL kids) [] []:=⟨lu.some oR.inst (by exactλq0=>av 0xf3e92a00 rfl q0),lu.some oR.k (by exactλq0=>av 0xf3e92a091a0 rfl q0),e2,lu.some oR.n (by exactλq0=>av 0xf2e92a093a0 rfl q0),lu.some oR.bb (by exactλq0=>av 0xf2e92a094a0 rfl q0)⟩
 have um:=Qd.keep E8 ⟨id,id,id,id,id⟩
 have t4:=t2.grow E8
 have x4:Rd h0 h4 h3.length (h3.length+2) [] b 0 false false (h3.length+1) []:=⟨k4,j5,w4,za,⟨by exact aZ 0xf400e430e323e95a122e10 rfl hb l1 hl2 hl3,by exact aZ 0xf91a400e430e323e95a122e10 rfl hb l1 hl2 hl3,by exact aZ 0xf92a400e430e323e95a122e10 rfl hb l1 hl2 hl3⟩,by exactλq0=>av 0xf3e92a091a0 rfl q0⟩
 have zb:eV h0 b (b+4) (h3.length+1) (h3.length+2):=⟨by exact af 0xf102e10 rfl hb,⟨by exactλq0=>aK 0xf2e91a191a30e320e203e95a10 rfl l1 hl2 hl3 q0,by exactλq0=>aK 0xf2e92a191a30e320e203e95a10 rfl l1 hl2 hl3 q0,by exactλq0=>aK 0xf2e93a191a30e320e203e95a10 rfl l1 hl2 hl3 q0,by exactλq0=>aK 0xf2e94a191a30e320e203e95a10 rfl l1 hl2 hl3 q0⟩,⟨by exactλq0=>aK 0xf2e91a192a30e320e203e95a10 rfl l1 hl2 hl3 q0,by exactλq0=>aK 0xf2e92a192a30e320e203e95a10 rfl l1 hl2 hl3 q0,by exactλq0=>aK 0xf2e93a192a30e320e203e95a10 rfl l1 hl2 hl3 q0,by exactλq0=>aK 0xf2e94a192a30e320e203e95a10 rfl l1 hl2 hl3 q0⟩⟩
 have Qe:=uk (dQ kids)
 have run:∀P:PS,(∀h5 ao b5 uo uq oM fZ,ac (Fv b h3.length (h3.length+1) (h3.length+2)) h4 h5->Rd h0 h5 h3.length (h3.length+2) [] b5 uo uq oM fZ []->EL h5 b5 fZ->h5[b+1]? =some (.list (ao.map V.ref))->h5[b+2]? =some (.list ((d.rem++bL kids).map V.str))->dO (Pw h4.length (h3.length+1) h5.length fZ) h5 whole ao (cP false kids)->(fZ=h3.length+1\/h4.length<=fZ)->
   Run Γ (n+6) tv b tg h3.length P 1 cZ h5)->Run Γ (n+6) tv b tg h3.length P (1+(bN p true (dQ kids)).length) (i+4*tags.length+(d.rem++bL kids).length) h4:=by
  intro P q
  refine Pu G x0 (n:=n+1) po (T.bt (dQ kids)+1) (TN _) x4 um zb (by exactλq0=>av 0xf2e91a094a0 rfl q0) (by exactλq0=>av 0xf2e92a094a0 rfl q0) (by simp) P9 (by rw[hrl];exact dU 0x1f13884b949510e350e345e7d03b939929101a rfl hc cc fc) (by simp;exact aK 0x1f186a15b91a30e230e121e7d03b910 rfl hc cc Qe) sp λh5 ao b5 uo uq oM fZ k5 x5 _ ur zg rg oO zc=>?_
  rw[P1]at oO
  exact q h5 ao b5 uo uq oM fZ k5 x5 ur zg (rg.trans (congrArg (λz=>some (O.list (List.map V.str z))) ((congrArg _ (P2 kids)).trans (SM _)))) oO zc
 refine kR (⟨_,run _ λh5 ao b5 uo uq oM fZ k5 x5 ur zg rg oO zc=>?_⟩:wpS aw Γ (n+6) (.while EC ED) [some (.ref tv),some (.int ((i+4*tags.length+(d.rem++bL kids).length:Nat):Int)),some (.ref b),some (.ref tg),some (.ref h3.length),none,none,none] h4 _)
 have zh:=x0.keep x5.k0
 rcases fin with⟨⟨pl,e⟩,q⟩| ⟨e,q⟩
 rotate_left
 ·exact Run.miss G zh e (q h5 x5.k0)
 refine Run.done G zh e rfl ?_
 dsimp only
 have Se:=k5.len
 have Sf:=aC x5.ew
 have Sg:=aC x5.st
 refine am (zh.get e) λa5 E9 c5=>?_
 refine jp (jm (aO (aB (aB rfl rfl E9) rfl (fR c5 rfl rfl)) (aO (aB (aB rfl rfl E9) rfl (fR c5 rfl rfl)) rfl))) (fy aE) rfl ?_
 generalize Qg:h5++[O.tup [V.str res,V.int (pl:Int)]]=h6
 have f5:ac ax h5 h6:=Qg▸ac.push
 have rj:=f5.len
 have oB:=x5.st.keep f5 id
 have Qh:=f5.some x5.el id
 refine cz (aH (op:= .gt) (be (bc rfl oB.on ud) (dn Qh) (SR.mpr (Ub _))) rfl rfl) rfl ?_
 refine oZ ur λfs ar Rz en hf fr er nw Qi=>?_;clear ur
 refine cT rfl ?_
 refine ug G oB (f5.some x5.ew id) (f5.some en id) hf fr (f5.some er id) nw Qi λh7 lw Sh w7 l7=>⟨rfl,?_⟩
 have Fa:=lw.len
 have rk:bV h5 b (.int 0) .none [] (-1) (b+4) [] (d.rem++bL kids) [] ao:=by
  have low:∀{j:Nat} {o:O},h4[j]? =some o->j≠b+1->j≠b+2->j<=b+4->h5[j]? =some o:=λe a1 a2 a3=>k5.some e (by rintro(z|z|z|z|z)<;>lia)
  exact⟨low um.inst (by exactλq0=>av 0xf3e91a00 rfl q0) (by exactλq0=>av 0xf3e92a00 rfl q0) (by exact ah 0xf94a220e012e91a10 rfl l7 Fa),zg,rg,low um.n (by exactλq0=>av 0xf2e91a093a0 rfl q0) (by exactλq0=>av 0xf2e92a093a0 rfl q0) (by exact ah 0xf94a293a20e012e91a10 rfl l7 Fa),low um.bb (by exactλq0=>av 0xf2e91a094a0 rfl q0) (by exactλq0=>av 0xf2e92a094a0 rfl q0) (by exact av 0xf00 rfl)⟩
 have pb:∀y,y<=b+4->y≠h3.length/\y≠fZ/\y<h5.length:=λy hy=>⟨by lia,by lia,by lia⟩
 have Qj:dO (λy=>y≠h3.length/\y≠fZ/\y<h5.length) h5 whole ao (cP false kids):=dO.mono (λy hy=>by
  refine du hy λy1 y2 y3=>?_
  exact⟨by lia,y3,y2⟩) oO
 have Qk:Nd.Ok ⟨[],[],d.rem++bL kids,[]⟩:=by
  have nl:∀r,Nm r->r.length+10<lim:=λr hr=>by have:=hr.len;exact af 0x1f09aa10e5d2b13ef42405b0 rfl hlim this
  have rc:∀r∈d.rem++bL kids,Nm r:=λr hr=>(SL.mp hr).elim (rt.rem r) (yR al r)
  exact⟨λx hx=>(nomatch hx),λr hr=>nl r (rc r hr),λr hr=>(nomatch hr),⟨λr hr=>(rc r hr).txt,λr hr=>(nomatch hr)⟩,⟨by simp,by rw[hrl];exact aZ 0x1f27104b9410e341e7d03b939929101a rfl hc fc,by simp⟩⟩
 have Ql:dB (λy=>y≠h3.length/\y≠fZ/\y<h5.length) h5 whole b (cm false false (.mk d kids)):=by
  have es:cm false false (.mk d kids)= .mk ⟨[],[],d.rem++bL kids,[]⟩ (cP false kids):=by simp[cm,rt.word,rt.aQ,rt.aA]
  rw[es]
  exact .mk ⟨_,b+3,b+2,b+4,b+1,0,⟨pb _ (S9 _ _),pb _ (UU (by decide) _),pb _ (UU (by decide) _),pb _ (SW _),pb _ (UU (by decide) _),rk.inst,by simp[ce],Et,yJ,mF,Eu,uf,rk.n,rk.r,rk.bb,rk.k⟩,Qk,λz=>absurd rfl z,λz=>absurd rfl z⟩ Qj
 have Qm:=(Ql.keep f5 (λ_ _=>id)).keep lw (λy hy=>hy.1)
 have Qn:=aC t2.l
 have t5:cY h5 tg as tags:=t4.keep k5 (by rintro(z|z|z|z|z)<;>lia) (λa ha=>by
  have:=Qb a ha
  have:=t2.lt a ha
  rintro(z|z|z|z|z)<;>lia)
 have t7:cY h7 tg as tags:=(t5.grow f5).keep lw (by exactλq0=>ah 0xf3e121e020e10 rfl hl3 Qn q0) (λa ha z=>by exact ah 0xf1e023e120e10 rfl hl3 z (t2.lt a ha))
 have k7:ac ax h0 h7:=(x5.k0.trans f5).low lw λj z=>by lia
 have nN:∀o7:Option V,ag aw Γ (n+6) (.cons (.ret (.tup (.cons (.new 1 (.cons (.loc 3) (.cons (.loc 2) (.cons (.loc 5) .nil)))) (.cons (.bin .add (.loc 1) (.lit (.int 1))) .nil)))) .nil) [some (.ref tv),some (.int cZ),some (.ref b),some (.ref tg),some (.ref h3.length),some (.str res),some (.int pl),o7] h7 ⟨λ_ h=>Q .none h,Q,X⟩:=by
  intro o7
  refine s9 (Mp rfl (PY G ⟨rfl,cJ (.cons (.bin .add (.loc 1) (.lit (.int 1))) .nil) rfl ?_⟩))
  have kz:ac ax h7 (h7++[O.inst 1 (mH tg b res)]):=ac.push
  exact q _ h7.length b tg as _ (k7.trans kz) aE (t7.grow kz) (Qm.keep kz λ_ _=>id) (λy hy=>by simp;exact af 0x1f91a101e10 rfl ((λy hy=>by exact aK 0x1f231e033e91a120e10 rfl rj l7 hy.2.2:∀y,(y≠h3.length/\y≠fZ/\y<h5.length)->y<h7.length) y hy))
 refine d9 rfl (EY G t7 (λ_=>cz (lX rfl rfl) rfl (nN _)) (λa u sp hu hun ea=>?_))
 exact cz (jk rfl rfl (aH (op:= .ne) (aB rfl rfl (fR ea rfl rfl)) rfl rfl)) (congrArg (λz=>some (!z)) (decide_eq_true (P8 u hu hun))) (nN _)
end
inductive Laid:List Pc->List Nat->Prop
 |nil:Laid [] []
 |cons {p:Pc} {s:Nat} {ps:List Pc} {t:List Nat} (hs:s=32\/s=10) (hp:p.2=true->s=10) (r:Laid ps t):Laid (p::ps) (p.1++s::t)
theorem Laid.snoc{ps:List Pc}{t:List Nat}(x:Laid ps t){p:Pc}{s:Nat}(hs:s=32\/s=10)(hp:p.2=true->s=10):Laid (ps++[p]) (t++(p.1++[s])):=by
 induction x with
 |nil=>exact .cons hs hp .nil
 |cons a b r ih=>
  simpa using(Laid.cons a b ih)
theorem Laid.split:∀{ps qs:List Pc} {t:List Nat},Laid (ps++qs) t->∃a b,t=a++b/\Laid ps a/\Laid qs b
 | [],qs,t,x=>⟨[],t,rfl,.nil,x⟩
 |p::ps,qs,t,x=>by
  rw[Te]at x
  cases x with
  |cons hs hp r=>
   refine bx (Laid.split r) λa b ae xa xb=>?_;subst ae
   exact⟨_,b,by simp,.cons hs hp xa,xb⟩
noncomputable def oU(ps:List Pc)(s:List (List Nat)×List Nat):Prop:=(s.2=[]->Laid ps (lines s.1))/\(s.2≠[]->∀x,x=32\/x=10->Laid ps (lines s.1++(s.2++[x]))\/(False))
theorem Qo{w:Nat}{ps:List Pc}{s:List (List Nat)×List Nat}(j:oU ps s){x:Pc}(hx:x.1≠[]):oU (ps++[x]) (cB w s x):=by
 obtain⟨rows,row⟩:=s
 obtain⟨p,e⟩:=x
 have fin:∀(ut:List (List Nat)) (pre:List Nat),Laid ps (lines ut++pre)->(pre++p≠[])->oU (ps++[(p,e)]) (if e then (ut++[pre++p],[])else (ut,pre++p)):=by
  intro ut pre l0 nz
  cases e with
  |true=>
   refine⟨λ_=>?_,λz=>absurd rfl z⟩
   simp only[if_true]
   rw[mx]
   simpa using(l0.snoc (p:=(p,true)) (s:=10) (.inr rfl) (λ_=>rfl))
  |false=>
   refine⟨λz=>absurd z nz,λ_ y hy=> .inl ?_⟩
   simp only[T9,if_false]
   simpa using(l0.snoc (p:=(p,false)) (s:=y) hy (λz=>by simp at z))
 unfold cB
 simp only[]
 by_cases hr:row=[]
 ·subst hr
  simp only[if_true]
  simpa using(fin rows [] (by simpa using j.1 rfl) (by simpa using hx))
 ·simp only[if_neg hr]
  by_cases hw:row.length+1+p.length>w
  ·simp only[if_pos hw]
   have:=fin (rows++[row]) [] (by rw[mx];have:=(j.2 hr 10 (.inr rfl)).elim id False.elim;simpa using this) (by simpa using hx)
   simpa using this
  ·simp only[if_neg hw]
   have:=fin rows (row++[32]) (by simpa using((j.2 hr 32 (.inl rfl)).elim id False.elim)) (by simp)
   simpa using this
theorem Qp(w:Nat)(ps:List Pc)(h:∀x∈ps,x.1≠[]):oU ps (bY w ps):=by
 have key:∀(qs ps:List Pc) (s:List (List Nat)×List Nat),oU ps s->(∀x∈qs,x.1≠[])->oU (ps++qs) (qs.foldl (cB w) s):=by
  intro qs
  induction qs with
  |nil=>intro ps s j _;simpa using j
  |cons x qs ih=>
   intro ps s j hq
   rw[Vb]
   simpa using(ih (ps++[x]) _ (Qo (w:=w) j (hq x Sq)) λy hy=>hq y (Su _ hy))
 unfold bY
 simpa using(key ps [] ([],[]) ⟨λ_=> .nil,λz=>absurd rfl z⟩ h)
theorem Qq(w:Nat)(ps:List Pc)(h:∀x∈ps,x.1≠[]):Laid ps (lines (lay w ps)):=by
 have j:=Qp w ps h
 unfold lay nX
 by_cases hr:(bY w ps).2=[]
 ·rw[if_pos hr,SM];exact j.1 hr
 ·rw[if_neg hr,mx];exact(j.2 hr 10 (.inr rfl)).elim id False.elim
noncomputable def plain(w:List Nat):Prop:=w≠[]/\∀c∈w,isBlank c=false
theorem Fb{cur w:List Nat}(hw:∀c∈w,isBlank c=false)(r:List Nat):cA cur (w++r)=cA (cur++w) r:=by
 induction w generalizing cur with
 |nil=>simp
 |cons c w ih=>
  rw[Te,kW,hw c Sq]
  simp only[T9,if_false]
  rw[ih λd hd=>hw d (Su _ hd)];simp
theorem Fc{w:List Nat}(hw:plain w){s:Nat}(hs:isBlank s=true)(r:List Nat):cA [] (w++s::r)=w::cA [] r:=by
 rw[Fb hw.2,TB,kW,hs]
 simp only[if_true]
 rw[if_neg hw.1]
theorem Fd{w:List Nat}(hw:plain w):cA [] w=[w]:=by
 have:=Fb (cur:=[]) hw.2 []
 rw[SM]at this
 rw[this,TB,nM,if_neg hw.1]
theorem Fe:∀ws:List (List Nat),(∀w∈ws,plain w)->wordsOf (aG [32] ws)=ws
 | [],_=>by unfold wordsOf;simp[aG,nM]
 | [w],h=>Fd (h w Sq)
 |w::x::r,h=>by
  have ih:=Fe (x::r) λy hy=>h y (Su _ hy)
  rw[aG]
  unfold wordsOf at ih ⊢
  rw[Sw,V1,Fc (h w Sq) (by decide),ih]
theorem Qs:∀(s cur:List Nat) (c:Nat),c∈s->isBlank c=true\/∃w∈cA cur s,c∈w:=by
 have inc:∀(s cur:List Nat) (c:Nat),c∈cur->∃w∈cA cur s,c∈w:=by
  intro s
  induction s with
  |nil=>
   intro cur c h
   have:cur≠[]:=by rintro rfl;exact nm h
   rw[nM,if_neg this]
   exact⟨cur,by simp,h⟩
  |cons d s ih=>
   intro cur c h
   have:cur≠[]:=by rintro rfl;exact nm h
   rw[kW]
   by_cases hb:isBlank d=true
   ·rw[if_pos hb,if_neg this];exact⟨cur,by simp,h⟩
   ·rw[if_neg hb];exact ih _ c (by simp[h])
 intro s
 induction s with
 |nil=>intro cur c h;(exact nm h)
 |cons d s ih=>
  intro cur c h
  rw[kW]
  by_cases hb:isBlank d=true
  ·rw[if_pos hb]
   rcases SH.mp h with rfl|h
   ·exact .inl hb
   ·rcases ih [] c h with z| ⟨w,hw,hc⟩
    ·exact .inl z
    ·right
     split
     ·exact⟨w,hw,hc⟩
     ·exact⟨w,Su _ hw,hc⟩
  ·rw[if_neg hb]
   rcases SH.mp h with rfl|h
   ·right;exact inc s _ c (by simp)
   ·exact ih _ c h
theorem Ff{acc w:List Nat}(hw:∀c∈w,c≠32)(r:List Nat):bH 32 acc (w++r)=bH 32 (w.reverse++acc) r:=by
 induction w generalizing acc with
 |nil=>simp
 |cons c w ih=>
  rw[Te,bH,if_neg (hw c Sq),ih λd hd=>hw d (Su _ hd)];simp
theorem uu:∀(ws:List (List Nat)) (x pre:List Nat),(∀w∈x::ws,∀c∈w,c≠32)->(∀c∈pre,c≠32)->bH 32 [] (pre++(aG [32] (x::ws)++[125]))=ee 125 ((pre++x)::ws)
 | [],x,pre,h,hp=>by
  rw[show aG [32] [x]=x from rfl,ee]
  have:=Ff (acc:=[]) (w:=pre++(x++[125])) (λc hc=>by
   refine Ts (SL.mp hc) (λhc=>?_) (λhc=>?_)
   ·exact hp c hc
   ·refine Ts (SL.mp hc) (λhc=>?_) (λhc=>?_)
    ·exact(h x Sq) c hc
    ·rw[Sx.mp hc];decide) []
  rw[SM]at this
  rw[this,bH];simp
 |y::ws,x,pre,h,hp=>by
  have ih:=uu ws y [] (λw hw=>h w (Su _ hw)) (λc hc=>nomatch hc)
  rw[aG,ee]
  have:=Ff (acc:=[]) (w:=pre++x) (λc hc=>by
   refine Ts (SL.mp hc) (λhc=>?_) (λhc=>?_)
   ·exact hp c hc
   ·exact(h x Sq) c hc) ([32]++(aG [32] (y::ws)++[125]))
  rw[(by simp:pre++(x++[32]++aG [32] (y::ws)++[125])=(pre++x)++([32]++(aG [32] (y::ws)++[125]))),this,V1,bH,if_pos rfl,SM,List.reverse_reverse]
  rw[TB]at ih
  rw[ih]
  simp
theorem jx:∀w∈bits,w≠[]/\(∀c∈w,isBlank c=false)/\(∀c∈w,c≠32/\c≠10/\c≠13):=by decide
theorem Nm.words{t:List Nat}(h:Nm t):∃ws:List (List Nat),ws.length<=3/\(∀w∈ws,w∈bits)/\t=aG [32] ws/\wordsOf t=ws/\norm t=t:=by
 refine aN h λws hl hb ae=>?_;clear h;subst ae
 have:=Fe ws λw hw=>⟨(jx w (hb w hw)).1,(jx w (hb w hw)).2.1⟩
 exact⟨ws,hl,hb,rfl,this,by unfold norm;rw[this]⟩
theorem mem_join{c:Nat}:∀ws:List (List Nat),c∈aG [32] ws->c=32\/∃w∈ws,c∈w
 | [],h=>by simp[aG]at h
 | [x],h=> .inr ⟨x,by simp,h⟩
 |x::y::r,h=>by
  rw[aG]at h
  simp only[SL,Sx]at h
  rcases h with(h|h)|h
  ·exact .inr ⟨x,by simp,h⟩
  ·exact .inl h
  ·rcases mem_join (y::r) h with z| ⟨w,hw,hc⟩
   ·exact .inl z
   ·exact .inr ⟨w,Su _ hw,hc⟩
theorem Fi{c:Nat}:∀(ws:List (List Nat)) (w:List Nat),w∈ws->c∈w->c∈aG [32] ws
 | [x],w,hw,hc=>by rw[Sx.mp hw]at hc;exact hc
 |x::y::r,w,hw,hc=>by
  rw[aG]
  rcases SH.mp hw with rfl|hw
  ·simp[hc]
  ·simp[Fi (y::r) w hw hc]
theorem Qt{t:List Nat}(h:Nm t):ci t=(bU (.rem t)).map wire:=by
 refine jb h.words λws hl hb e ew en=>?_
 unfold ci
 by_cases dp:125∈t
 ·rw[if_pos dp,en]
  have:bU (.rem t)=[(59::t,true)]:=by show(if _ then _ else _)=_;rw[if_pos dp]
  rw[this];simp[wire]
 ·rw[if_neg dp,ew]
  have:bU (.rem t)=(bH 32 [] (123::(t++[125]))).map (·,false):=by show(if _ then _ else _)=_;rw[if_neg dp]
  rw[this,Vd]
  have ei:(wire∘λx:List Nat=>(x,false))=id:=by funext x;simp[wire]
  rw[ei,List.map_id]
  cases ws with
  |nil=>subst e;decide
  |cons w ws=>
   have:=uu ws w [123] (λv hv c hc=>((jx v (hb v hv)).2.2 c hc).1) (λc hc=>by rw[Sx.mp hc];decide)
   rw[e]
   rw[show(123::(aG [32] (w::ws)++[125]))=[123]++(aG [32] (w::ws)++[125])from rfl,this]
   rfl
theorem Fj:∀(ws:List (List Nat)) (x pre t:List Nat),(∀w∈x::ws,plain w)->Laid ((ee 125 ((pre++x)::ws)).map (·,false)) t->∃b s,t=pre++(b++[125,s])/\(s=32\/s=10)/\cA [] b=x::ws
 | [],x,pre,t,h,l=>by
  rw[ee,Th,Ut]at l
  cases l with
  |cons hs hp r=>
   rcases r with⟨⟩
   exact⟨x,_,by simp,hs,Fd (h x Sq)⟩
 |y::ws,x,pre,t,h,l=>by
  rw[ee,Th]at l
  cases l with
  | @cons _ s _ t2 hs hp r=>
   refine bx (Fj ws y [] t2 (λw hw=>h w (Su _ hw)) (by simpa using r)) λb s2 e hs2 ew=>?_
   rw[TB]at e
   subst e
   refine⟨x++s::b,s2,by simp,hs2,?_⟩
   rw[Fc (h x Sq) (by rcases hs with rfl|rfl<;>decide),ew]
theorem Qu{t txt:List Nat}(h:Nm t)(dp:125∉t)(l:Laid (bU (.rem t)) txt):∃b s,txt=123::(b++[125,s])/\(s=32\/s=10)/\norm b=t/\125∉b:=by
 have e1:bU (.rem t)=(bH 32 [] (123::(t++[125]))).map (·,false):=by show(if _ then _ else _)=_;rw[if_neg dp]
 refine jb h.words λws hl hb e ew en=>?_
 rw[e1]at l
 cases ws with
 |nil=>
  subst e
  rw[show bH 32 [] (123::(aG [32] []++[125]))=[[123,125]]from by decide,Th,Ut]at l
  cases l with
  |cons hs hp r=>
   rcases r with⟨⟩
   exact⟨[],_,rfl,hs,by decide,by simp⟩
 |cons w ws=>
  have sj:=uu ws w [123] (λv hv c hc=>((jx v (hb v hv)).2.2 c hc).1) (λc hc=>by rw[Sx.mp hc];decide)
  rw[e,show(123::(aG [32] (w::ws)++[125]))=[123]++(aG [32] (w::ws)++[125])from rfl,sj]at l
  refine bx (Fj ws w [123] txt (λv hv=>⟨(jx v (hb v hv)).1,(jx v (hb v hv)).2.1⟩) l) λb s et hs Fk=>?_
  refine⟨b,s,by rw[et];rfl,hs,?_,λz=>?_⟩
  ·unfold norm wordsOf;rw[Fk,e]
  ·rcases Qs b [] 125 z with y| ⟨v,hv,hc⟩
   ·revert y;decide
   ·rw[Fk]at hv
    exact dp (by rw[e];exact Fi (w::ws) v hv hc)
theorem mJ{p:Pc}{txt:List Nat}(l:Laid [p] txt):∃s,txt=p.1++[s]/\(s=32\/s=10)/\(p.2=true->s=10):=by
 cases l with
 |cons hs hp r=>
  rcases r with⟨⟩
  exact⟨_,rfl,hs,hp⟩
noncomputable def jy:Atom->Prop
 | .rem t=>Nm t
 | .num p=>p<1500
 | .word w=>w∈li
 | .cv n=>n<=255
 | .op=>True
 | .cl=>True
noncomputable def eY(i:Item):KV:=(i.kind,i.val)
theorem Qv:∀r∈results,r.all isDigit=false:=by decide
theorem Qw{w:List Nat}(h:w.all isDigit=true):results.contains w=false:=by
 cases e:results.contains w with
 |false=>rfl
 |true=>
  have:=Qv w (by simpa using e)
  rw[h]at this;exact bad this.symm
theorem Qx{c:Nat}(h:isDigit c=true):dw c=true:=by unfold dw;rw[h];cases isLetter c<;>simp
theorem Fl:∀w∈li,results.contains w=false/\w.all isDigit=false/\(∀c∈w,dw c=true)/\(w.head?.map λc=>isLetter c||isDigit c)=some true/\w.length<=10/\(∀c∈w,c≠10):=by decide
theorem Qy:∀w∈dq,results.contains w=false/\w.all isDigit=false/\(∀c∈w,dw c=true)/\(w.head?.map λc=>isLetter c||isDigit c)=some true/\w.length<=10:=by decide
theorem Qz:∀w∈iz,w=[42]\/(results.contains w=true/\w.all isDigit=false/\(∀c∈w,dw c=true)/\(w.head?.map λc=>isLetter c||isDigit c)=some true/\w.length<=10):=by decide
theorem mK{s:Nat}(h:s=32\/s=10):isBlank s=true:=by rcases h with zq|zq<;>(obtain rfl:=zq.symm)<;>decide
theorem zi{s:Nat}(h:s=32\/s=10):dw s=false/\isDigit s=false:=by rcases h with zq|zq<;>(obtain rfl:=zq.symm)<;>decide
theorem uv{w rest:List Nat}{k:Int}{v:V}(h0:(w.head?.map λc=>isLetter c||isDigit c)=some true)(hw:∀c∈w,dw c=true)(hl:w.length<=10)(h9:w.all isDigit=true->w.length<=9)(hr:∀x,rest.head? =some x->dw x=false)(e:iQ w=(k,v)):cU w rest k v:=by
 cases w with
 |nil=>(exact nn h0)
 |cons c w=>
  have:=cU.word (c:=c) (w:=w) (rest:=rest) (by simpa using h0) hw hr h9 (by exact av 0xfff2b00eaa0 rfl hl)
  rw[e]at this
  exact this
theorem QA{a:Atom}(ok:jy a){t1:List Nat}(l:Laid (bU a) t1){items:List Item}(I:cK items):∃its:List Item,cK (its++items)/\flat (its++items)=t1++flat items/\its.map eY=jv a:=by
 cases a with
 |rem t=>
  by_cases dp:125∈t
  ·have e1:bU (.rem t)=[(59::t,true)]:=by show(if _ then _ else _)=_;rw[if_pos dp]
   rw[e1]at l
   refine aN (mJ l) λs e hs QB=>?_
   have:=QB rfl
   obtain rfl:=this.symm
   refine jb ok.words λws hl hb et ew en=>?_
   have yb:∀c∈t,kU c=true:=by
    intro c hc
    rw[et]at hc
    rcases mem_join ws hc with rfl| ⟨w,hw,hcw⟩
    ·decide
    ·have:=(jx w (hb w hw)).2.2 c hcw
     unfold kU
     simp[this]
   refine⟨[⟨59::t,[10],7,.str t⟩],.cons ?_ (by simp[isBlank]) I,by rw[e];simp[flat],rfl⟩
   have:=cU.row (b:=t) (rest:=[10]++flat items) yb (λx hx=>by simp at hx;subst hx;decide)
   rw[en]at this
   exact this
  ·refine mO (Qu ok dp l) λb s e hs en nb=>?_
   refine⟨[⟨[123]++b++[125],[s],7,.str t⟩],.cons ?_ (by intro c hc;rw[Sx.mp hc];exact mK hs) I,by rw[e];simp[flat],rfl⟩
   have:=cU.MV (b:=b) (rest:=[s]++flat items) nb
   rw[en]at this
   exact this
 |num p=>
  refine aN (mJ l) λs e hs _=>?_
  have hp:p<1500:=ok
  refine kf (jR (n:=p/2+1) (by lia)) λd1 d2 d3 d4=>?_
  simp only[jS]at e
  have Fm:∀r:List Nat,cU (cG (p/2+1)) (46::r) 4 (.int (Int.ofNat (p/2+1))):=by
   intro r
   refine uv ?_ (λc hc=>Qx (Tl.mp d2 c hc)) (by exact av 0xfaa00e3a0 rfl d3) (λ_=>by exact av 0xf9a00e3a0 rfl d3) (λx hx=>by simp at hx;subst hx;decide) ?_
   ·cases hd:cG (p/2+1)with
    |nil=>exact absurd hd d4
    |cons c w=>
     have:isDigit c=true:=Tl.mp d2 c (by rw[hd];simp)
     simp[this]
   ·unfold iQ
    rw[Qw d2,d2]
    simp[d1]
  have dot:∀(r:List Nat),cU [46] r 5 (.str [46]):=λr=> .single rfl
  have Fo:cK (⟨[46],[s],5,.str [46]⟩::items):= .cons (dot _) (by intro c hc;rw[Sx.mp hc];exact mK hs) I
  unfold dots at e
  by_cases h2:p%2=0
  ·rw[if_pos h2]at e
   refine⟨[⟨cG (p/2+1),[],4,.int (Int.ofNat (p/2+1))⟩,⟨[46],[s],5,.str [46]⟩],.cons (Fm _) (by intro c hc;exact nm hc) Fo,by rw[e];simp[flat],?_⟩
   simp[jv,dots,h2,eY]
  ·rw[if_neg h2]at e
   refine⟨[⟨cG (p/2+1),[],4,.int (Int.ofNat (p/2+1))⟩,⟨[46],[],5,.str [46]⟩,⟨[46],[],5,.str [46]⟩,⟨[46],[s],5,.str [46]⟩],.cons (Fm _) (by intro c hc;exact nm hc) (.cons (dot _) (by intro c hc;exact nm hc) (.cons (dot _) (by intro c hc;exact nm hc) Fo)),by rw[e];simp[flat],?_⟩
   simp[jv,dots,h2,eY,List.replicate]
 |word w=>
  refine aN (mJ l) λs e hs _=>?_
  refine rz (Fl w ok) λw1 w2 w3 w4 w5 _=>?_
  refine⟨[⟨w,[s],6,.str w⟩],.cons ?_ (by intro c hc;rw[Sx.mp hc];exact mK hs) I,by rw[e];simp[flat],rfl⟩
  refine uv w4 w3 w5 (λz=>by rw[w2]at z;exact bad z) (λx hx=>by simp at hx;subst hx;exact(zi hs).1) ?_
  unfold iQ
  rw[w1,w2];simp
 |cv n=>
  refine aN (mJ l) λs e hs _=>?_
  have hn:n<=255:=ok
  refine kf (jR (n:=n) (by exact av 0x1f3e83b00eff2b0 rfl hn)) λd1 d2 d3 d4=>?_
  refine⟨[⟨36::cG n,[s],8,.int (Int.ofNat n)⟩],.cons ?_ (by intro c hc;rw[Sx.mp hc];exact mK hs) I,by rw[e];simp[flat],rfl⟩
  have:=cU.cv (ds:=cG n) (rest:=[s]++flat items) d4 (Tl.mp d2) (λx hx=>by simp at hx;subst hx;exact(zi hs).2) (by exact av 0xf9a00e3a0 rfl d3) (by exact ah 0xf122e020e10 rfl hn d1)
  rw[d1]at this
  exact this
 |op=>
  refine aN (mJ l) λs e hs _=>?_
  exact⟨[⟨[40],[s],9,.str [40]⟩],.cons (.single rfl) (by intro c hc;rw[Sx.mp hc];exact mK hs) I,by rw[e];simp[flat],rfl⟩
 |cl=>
  refine aN (mJ l) λs e hs _=>?_
  exact⟨[⟨[41],[s],10,.str [41]⟩],.cons (.single rfl) (by intro c hc;rw[Sx.mp hc];exact mK hs) I,by rw[e];simp[flat],rfl⟩
theorem Fp{qs:List Pc}{tail:List Nat}{K:List KV}:∀(A:List Atom) (txt:List Nat),(∀a∈A,jy a)->Laid (lp A++qs) txt->(∀t2,Laid qs t2->∃items,cK items/\flat items=t2++tail/\items.map eY=K)->∃items,cK items/\flat items=txt++tail/\items.map eY=cf A++K
 | [],txt,_,l,f=>by
  refine aN (f txt l) λitems a b c=>?_
  exact⟨items,a,b,c⟩
 |a::A,txt,ok,l,f=>by
  have e:lp (a::A)=bU a++lp A:=TU
  rw[e,Sw]at l
  refine bx l.split λt1 t2 ae l1 l2=>?_;subst ae
  refine aN (Fp A t2 (λb hb=>ok b (Su _ hb)) l2 f) λitems i1 i2 i3=>?_
  refine aN (QA (ok a Sq) l1 i1) λits j1 j2 j3=>?_
  refine⟨its++items,j1,by rw[j2,i2,Sw],?_⟩
  rw[SN,j3,i3,q9,Sw]
theorem Fq{t:Tag}(ok:gW t)(hn:t.1∈dq){g:List Nat}(hg:∀c∈g,isBlank c=true){items:List Item}(I:cK items):∃its:List Item,cK (its++items)/\flat (its++items)=c9 t++(g++flat items)/\its.map eY=dC t:=by
 refine uP (Qy t.1 hn) λn1 n2 n3 n4 n5=>?_
 refine⟨[⟨[91],[],1,.str [91]⟩,⟨t.1,[32],6,.str t.1⟩,⟨[34]++bI t.2++[34],[],3,.str t.2⟩,⟨[93],g,2,.str [93]⟩],.cons (.single rfl) (by intro c hc;exact nm hc) (.cons ?_ (by intro c hc;rw[Sx.mp hc];decide) (.cons (.text ok.len ok.Du) (by intro c hc;exact nm hc) (.cons (.single rfl) hg I))),by simp[flat,c9],rfl⟩
 refine uv n4 n3 n5 (λz=>by rw[n2]at z;exact bad z) (λx hx=>by simp at hx;subst hx;decide) ?_
 unfold iQ
 rw[n1,n2];simp
theorem QC{items:List Item}(I:cK items):∀(tags:List Tag),(∀t∈tags,gW t/\t.1∈dq)->∃its:List Item,cK its/\flat its=lines (rowsOf tags)++flat items/\its.map eY=tags.flatMap dC++items.map eY:=by
 have key:∀(tags:List Tag),tags≠[]->(∀t∈tags,gW t/\t.1∈dq)->∃its:List Item,cK its/\flat its=lines (tags.map c9)++([10]++flat items)/\its.map eY=tags.flatMap dC++items.map eY:=by
  intro tags
  induction tags with
  |nil=>intro h;exact absurd rfl h
  |cons t ts ih=>
   intro _ ok
   have uw:=ok t Sq
   by_cases hts:ts=[]
   ·obtain rfl:=hts.symm
    refine aN (Fq uw.1 uw.2 (g:=[10,10]) (by decide) I) λits a b c=>?_
    exact⟨its++items,a,by rw[b];simp[lines],by rw[SN,c];simp⟩
   ·refine aN (ih hts λu hu=>ok u (Su _ hu)) λr a b c=>?_
    refine aN (Fq uw.1 uw.2 (g:=[10]) (by decide) a) λits a2 b2 c2=>?_
    exact⟨its++r,a2,by rw[b2,b];simp[lines],by rw[SN,c2,c];simp⟩
 intro tags ok
 by_cases ht:tags=[]
 ·obtain rfl:=ht.symm
  exact⟨items,I,by simp[rowsOf,lines],by simp⟩
 ·refine aN (key tags ht ok) λits a b c=>?_
  refine⟨its,a,?_,c⟩
  rw[b,rowsOf,if_neg ht,jW]
  simp[lines]
theorem QD{tags:List Tag}{A:List Atom}{res e:List Nat}{w:Nat}{items2:List Item}(tok:∀t∈tags,gW t/\t.1∈dq)(QE:∀a∈A,jy a)(hres:res∈iz)(hne:∀x∈lp A++[(res,false)],x.1≠[])(he:∀c∈e,isBlank c=true)(I:cK items2):
  ∃items,cK items/\flat items=fE tags w (lp A++[(res,false)])++(e++flat items2)/\items.map eY=tags.flatMap dC++(cf A++((11,V.str res)::items2.map eY)):=by
 have l:=Qq w _ hne
 obtain⟨its,a,b,c⟩:=Fp A _ QE l (tail:=e++flat items2) (K:=(11,V.str res)::items2.map eY) (λt2 l2=>by
  refine aN (mJ l2) λs e2 hs _=>?_
  refine⟨⟨res,s::e,11,.str res⟩::items2,.cons ?_ ?_ I,by rw[e2];simp[flat],rfl⟩
  ·rcases Qz res hres with rfl| ⟨r1,r2,r3,r4,r5⟩
   ·exact .star
   ·refine uv r4 r3 r5 (λz=>by rw[r2]at z;exact bad z) (λx hx=>by simp at hx;subst hx;exact(zi hs).1) ?_
    unfold iQ
    rw[r1];simp
  ·intro c hc
   rcases SH.mp hc with zq|hc<;>try obtain rfl:=zq.symm
   ·exact mK hs
   ·exact he c hc)
 refine aN (QC a tags tok) λits2 a2 b2 c2=>?_
 refine⟨its2,a2,?_,by rw[c2,c]⟩
 rw[b2,b]
 unfold fE
 rw[jW,Sw]
theorem Fs(ks:List T):(fV ks).isEmpty=ks.isEmpty:=by rcases ks with⟨⟩<;>simp[fV]
theorem QF(k:T)(ks:List T):bL (k::ks)=k.d.aA:=rfl
noncomputable def S1(ks:List T):Prop:=∀(p:Nat) (told:Bool) (R:List (List Nat)),(R++bL ks).map Atom.rem++bN p (told|| !(R++bL ks).isEmpty) (cP false ks)=R.map Atom.rem++bN p (told|| !R.isEmpty) ks
noncomputable def S2(ks:List T):Prop:=∀p:Nat,bN p true (cP true ks)=bN p true ks
noncomputable def S3(ks:List T):Prop:=∀p:Nat,dy p (fV ks)=dy p ks
mutual
theorem sT:∀t:T,S1 t.kids/\S2 t.kids
 | .mk d kk=>⟨(sK kk).1,(sK kk).2.1⟩
theorem sK:∀ks:List T,S1 ks/\S2 ks/\S3 ks
 | []=>⟨λp told R=>by simp[bL,cP,bN],λp=>by simp[cP,bN],λp=>by simp[fV,dy]⟩
 | .mk d kk::ks=>by
  refine xA (sT (.mk d kk)) λa1 a2=>?_
  refine du (sK ks) λb1 b2 b3=>?_
  simp only[T.kids]at a1 a2
  refine⟨λp told R=>?_,λp=>?_,λp=>?_⟩
  ·simp only[cP,cm,bN,T.d,aY,QF,V2,if_true,Fs]
   rw[b3 p]
   cases hk:ks.isEmpty with
   |false=>
    simp only[V2,if_true,VF,SM]
    rw[a2 (p+1)]
    simp only[b9,Ut,TB,Wx,U7,US,SN,Sw]
    have e:(told|| !(R++d.aA).isEmpty||decide (p%2=0))=(told|| !R.isEmpty||decide (p%2=0)|| !d.aA.isEmpty):=by
     rcases R with⟨⟩<;>rcases hb:d.aA with⟨⟩<;>rcases told with⟨⟩<;>simp
    rw[e]
   |true=>
    simp only[U7,T9,if_false,US]
    have hks:ks=[]:=by simpa using hk
    subst hks
    have:=a1 (p+1) false d.rem
    simp only[UQ]at this
    simp only[b9,bO,Ut,TB,Wx,U7,US,Sw,dy]
    rw[this]
    have e:(told|| !(R++d.aA).isEmpty||decide (p%2=0))=(told|| !R.isEmpty||decide (p%2=0)|| !d.aA.isEmpty):=by
     rcases R with⟨⟩<;>rcases hb:d.aA with⟨⟩<;>rcases told with⟨⟩<;>simp
    rw[e]
    simp[SN]
  ·simp only[cP,cm,bN,T.d,aY,U7,T9,if_false,Fs]
   rw[b3 p]
   cases hk:ks.isEmpty with
   |false=>
    simp only[V2,if_true,VF,SM]
    rw[a2 (p+1)]
   |true=>
    simp only[U7,T9,if_false,US]
    have hks:ks=[]:=by simpa using hk
    subst hks
    have:=a1 (p+1) false d.rem
    simp only[UQ]at this
    simp only[b9,bO,Sw,dy,TB]
    rw[this]
  ·simp only[fV,cm,dy,T.d,aY,T9,if_false]
   rw[b3 p]
   have:=a1 (p+1) false d.rem
   simp only[UQ]at this
   simp only[b9,bO,Sw]
   simp only[←Sw (List.map Atom.rem (d.rem++bL kk))]
   rw[this]
   simp only[Sw]
end
noncomputable def f6(p:Nat)(t:T):List Atom:=t.d.rem.map Atom.rem++aY p true t
theorem QG(p:Nat)(t:T):f6 p (cm false false t)=f6 p t:=by
 cases t with
 |mk d kids=>
  have:=(sK kids).1 p true d.rem
  simp only[WR]at this
  unfold f6
  simp only[cm,T.d,aY,T9,if_false]
  exact this
mutual
theorem zj:∀(t:T) (a b:Bool),(cm a b t).sz=t.sz
 | .mk d kk,a,b=>by simp only[cm,T.sz,(Ft kk a).1]
theorem Ft:∀(ks:List T) (a:Bool),T.bt (cP a ks)=T.bt ks/\T.bt (fV ks)=T.bt ks
 | [],a=>by simp[cP,fV]
 |k::ks,a=>by
  simp only[cP,fV,T.bt,zj k,(Ft ks a).2,and_self]
end
mutual
theorem Fu:∀(t:T) (p:Nat) (told:Bool),(aY p told t).length<=4*T.bJ t.kids
 | .mk d kk,p,told=>by rw[aY];exact(Fw kk p told).1
theorem Fw:∀(ks:List T) (p:Nat) (told:Bool),(bN p told ks).length<=4*T.bJ ks/\(dy p ks).length<=4*T.bJ ks
 | [],p,told=>by simp[bN,dy]
 |k::ks,p,told=>by
  have a:=Fu k (p+1)
  have m:∀tl:Bool,(b9 k.d p tl).length<=2+k.d.cnt:=by
   intro tl
   unfold b9 Nd.cnt
   simp only[So,Sn]
   split<;>simp<;>lia
  have hc:k.cnt=1+k.d.cnt+T.bJ k.kids:=by rcases k with⟨⟩;rfl
  simp only[bN,dy,So,T.bJ,hc,SD,SU]
  have b1:=((Fw ks p) true).2
  exact⟨by exact dU 0xfc9593911a4a992400ec54a40ec34a20e912a0 rfl (m told) (a (bO k.d|| !ks.isEmpty)) b1,by exact dU 0xfc9593911a4a94991a0a929091a0a0ec54a40ec34a20e912a0 rfl (m true) (a (bO k.d)) b1⟩
end
mutual
theorem Fy:∀(t:T) (p:Nat) (told:Bool),T.cx bW t.kids->p+t.sz<=1501->∀a∈aY p told t,jy a
 | .mk d kk,p,told,al,hp=>by
  rw[aY]
  simp only[T.sz]at hp
  exact(Fz kk p told al (by exact af 0xf5dc3b9100e5dd3b9911a0 rfl hp)).1
theorem Fz:∀(ks:List T) (p:Nat) (told:Bool),T.cx bW ks->p+T.bt ks<=1500->(∀a∈bN p told ks,jy a)/\(∀a∈dy p ks,jy a)
 | [],p,told,_,_=>by simp[bN,dy]
 |k::ks,p,told,al,hp=>by
  cases k with
  |mk d kk=>
  obtain⟨⟨kd,ze⟩,zf⟩:=al
  simp only[T.bt,T.sz]at hp
  have a:=λtl=>Fy (.mk d kk) (p+1) tl ze (by simp only[T.sz];exact ah 0xf5dd3b9191a00e5dc3b99210 rfl hp)
  have b:=Fz ks p true zf (by exact aK 0xf39200e399210 rfl hp)
  have m:∀tl:Bool,∀x∈b9 d p tl,jy x:=by
   intro tl x hx
   unfold b9 at hx
   simp only[SL,TY]at hx
   rcases hx with⟨r,hr,rfl⟩|hx|hx| ⟨n,hn,rfl⟩| ⟨r,hr,rfl⟩
   ·exact kd.aA r hr
   ·split at hx
    ·rw[Sx.mp hx];show p<1500;exact aK 0x1f300e3992911a0 rfl hp
    ·exact nm hx
   ·rw[Sx.mp hx];exact kd.word
   ·exact kd.aQ n hn
   ·exact kd.rem r hr
  refine⟨λx hx=>?_,λx hx=>?_⟩
  ·simp only[bN,T.d,SL]at hx
   refine Ts hx (λhx=>?_) (λz=>Ts z (λhx=>?_) (λhx=>?_))
   ·exact m _ x hx
   ·exact b.2 x hx
   ·exact a _ x hx
  ·simp only[dy,T.d,SL,Sx]at hx
   rcases hx with(((rfl|hx)|hx)|rfl)|hx
   ·trivial
   ·exact m _ x hx
   ·exact a _ x hx
   ·trivial
   ·exact b.2 x hx
end
mutual
theorem zk:∀t:T,t.sz<=t.cnt
 | .mk d kk=>by simp only[T.sz,T.cnt];have:=uk kk;exact ah 0xf91921a901a0e10 rfl this
end
theorem FA:∀(l:List (List Nat)),(∀w∈l,w≠[]/\10∉w/\w.length<=31)->∀x∈ee 125 l,x≠[]/\10∉x/\x.length<=32
 | [],_,x,hx=>by simp[ee]at hx
 | [w],h,x,hx=>by
  rw[ee,Sx]at hx
  subst hx
  refine du (h w Sq) λa b c=>?_
  exact⟨by simp,by simp[b],by simp;exact af 0xf100e10 rfl c⟩
 |w::y::r,h,x,hx=>by
  rw[ee]at hx
  rcases SH.mp hx with rfl|hx
  ·refine du (h x Sq) λa b c=>?_
   exact⟨a,b,by exact av 0xf202b00e1f2b0 rfl c⟩
  ·exact FA (y::r) (λv hv=>h v (Su _ hv)) x hx
theorem FC:∀(ps:List Pc) (k:Nat),(∀x∈ps,x.1.length+2<=k)->weight ps<=k*ps.length
 | [],k,_=>by simp[weight]
 |x::ps,k,h=>by
  simp only[weight,Th,V4,SD]at*
  rw[Nat.mul_succ]
  exact aK 0xf9319020e320e10 rfl (FC ps k λy hy=>h y (Su _ hy)) (h x Sq)
theorem QH{a:Atom}(ok:jy a):iR a=(bU a).map wire/\(∀x∈bU a,x.1≠[]/\(x.2=false->10∉x.1))/\weight (bU a)<=200:=by
 cases a with
 |rem t=>
  refine⟨Qt ok,?_⟩
  refine jb ok.words λws hl hb e ew en=>?_
  by_cases dp:125∈t
  ·have e1:bU (.rem t)=[(59::t,true)]:=by show(if _ then _ else _)=_;rw[if_pos dp]
   rw[e1]
   refine⟨λx hx=>?_,by simp[weight];exact av 0xfc52b00e5d2b0 rfl (Nm.len ok)⟩
   rw[Sx.mp hx]
   exact⟨by simp,λz=>by simp at z⟩
  ·have e1:bU (.rem t)=(bH 32 [] (123::(t++[125]))).map (·,false):=by show(if _ then _ else _)=_;rw[if_neg dp]
   have nV:∃l:List (List Nat),bH 32 [] (123::(t++[125]))=l/\l.length<=4/\∀x∈l,x≠[]/\10∉x/\x.length<=32:=by
    cases ws with
    |nil=>
     subst e
     exact⟨[[123,125]],by decide,by decide,by decide⟩
    |cons w ws=>
     have sj:=uu ws w [123] (λv hv c hc=>((jx v (hb v hv)).2.2 c hc).1) (λc hc=>by rw[Sx.mp hc];decide)
     refine⟨ee 125 (([123]++w)::ws),by rw[e];exact sj,by rw[xR];simp at hl ⊢;exact av 0xf3a00e2a0 rfl hl,FA _ λv hv=>?_⟩
     have bl:∀v∈w::ws,v≠[]/\10∉v/\v.length<=30:=λv hv=>⟨(jx v (hb v hv)).1,λz=>((jx v (hb v hv)).2.2 10 z).2.1 rfl,yr v (hb v hv)⟩
     rcases SH.mp hv with rfl|hv
     ·refine du (bl w Sq) λa b c=>?_
      exact⟨by simp,by simp[b],by simp;exact af 0xf100e10 rfl c⟩
     ·refine du (bl v (Su _ hv)) λa b c=>?_
      exact⟨a,b,by exact av 0xf1f2b00e1e2b0 rfl c⟩
   refine aN nV λl el fA zl=>?_;clear nV
   rw[e1,el]
   refine⟨λx hx=>?_,?_⟩
   ·refine am (TY.mp hx) λy hy ae=>?_;subst ae
    exact⟨(zl y hy).1,λ_=>(zl y hy).2.1⟩
   ·have:=FC (l.map (·,false)) 34 λx hx=>by
     refine am (TY.mp hx) λy hy ae=>?_;subst ae
     simp;exact af 0xf100e10 rfl ((zl y hy).2.2)
    rw[Sn]at this
    have:34*l.length<=34*4:=T3 _ fA
    lia
 |num p=>
  have hp:p<1500:=ok
  refine kf (jR (n:=p/2+1) (by lia)) λd1 d2 d3 d4=>?_
  have dl:(dots p).length<=3:=by unfold dots;split<;>simp
  refine⟨by simp[iR,bU,wire],λx hx=>?_,?_⟩
  ·rw[show bU (.num p)=[(jS p,false)]from rfl,Sx]at hx
   subst hx
   refine⟨by unfold jS;simp[d4],λ_ z=>?_⟩
   unfold jS at z
   refine Ts (SL.mp z) (λz=>?_) (λz=>?_)
   ·have:=Tl.mp d2 10 z;revert this;decide
   ·unfold dots at z;split at z<;>simp at z
  ·simp[bU,weight,jS];exact af 0xfc62b9100e3a10e3a0 rfl d3 dl
 |word w=>
  refine rz (Fl w ok) λw1 w2 w3 w4 w5 w6=>?_
  refine⟨by simp[iR,bU,wire],λx hx=>?_,by simp[bU,weight];exact av 0xfc62b00eaa0 rfl w5⟩
  rw[show bU (.word w)=[(w,false)]from rfl,Sx]at hx
  subst hx
  exact⟨Pp w ok,λ_ z=>w6 10 z rfl⟩
 |cv n=>
  refine kf (jR (n:=n) (by exact av 0x1f3e83b00eff2b0 rfl (ok:n<=255))) λd1 d2 d3 d4=>?_
  refine⟨by simp[iR,bU,wire],λx hx=>?_,by simp[bU,weight];exact av 0xfc52b00e3a0 rfl d3⟩
  rw[show bU (.cv n)=[(36::cG n,false)]from rfl,Sx]at hx
  subst hx
  refine⟨by simp,λ_ z=>?_⟩
  refine Ts (SH.mp z) (λz=>?_) (λz=>?_)
  ·rcases z with⟨⟩
  ·have:=Tl.mp d2 10 z;revert this;decide
 |op=>exact⟨rfl,by simp[bU],by decide⟩
 |cl=>exact⟨rfl,by simp[bU],by decide⟩
theorem FD:∀(A:List Atom),(∀a∈A,jy a)->aX A=(lp A).map wire/\(∀x∈lp A,x.1≠[]/\(x.2=false->10∉x.1))/\weight (lp A)<=200*A.length
 | [],_=>by simp[aX,lp,weight]
 |a::A,ok=>by
  refine du (FD A λb hb=>ok b (Su _ hb)) λi1 i2 i3=>?_
  refine du (QH (ok a Sq)) λj1 j2 j3=>?_
  have e1:lp (a::A)=bU a++lp A:=TU
  have e2:aX (a::A)=iR a++aX A:=TU
  rw[e1,e2,i1,j1,SN,nY,SD]
  refine⟨rfl,λx hx=>?_,by rw[Nat.mul_succ];exact aK 0xf9319020e320e10 rfl i3 j3⟩
  refine Ts (SL.mp hx) (λhx=>?_) (λhx=>?_)
  ·exact j2 x hx
  ·exact i2 x hx
theorem QI{raw rest:List Nat}{k:Int}{v:V}(L:cU raw rest k v):k=6->∀w,v= .str w->raw=w:=by
 refine cU.casesOn (motive:=λraw _ k v _=>k=6->∀w,v= .str w->raw=w) L (λ{c k _} h hk=>?_) (λhk=>nomatch hk) (λ_ _ hk=>nomatch hk) (λ_ hk=>nomatch hk) (λ_ _ hk=>nomatch hk) (λ_ _ _ _ _ hk=>nomatch hk) (λ{c w' _} h1 hw hr h9 qw hk w hv=>?_)
 ·subst hk
  exact absurd h (C4 (P:=λc=>gu.lookup c≠some 6) h (by decide) (by decide) (by decide) (by decide) (by decide))
 ·unfold iQ at hk hv
  split at hk
  ·rcases hk with⟨⟩
  ·split at hk
   ·rcases hk with⟨⟩
   ·rename_i a b
    rw[if_neg a,if_neg b]at hv
    injection hv
theorem FE:∀{items:List Item},cK items->∀pre:List Nat,jw (pre++flat items) (gS pre.length items)
 | [],_,pre=>λi pl w e=>by simp[gS]at e
 |it::r,.cons hl hg hr,pre=>λi pl w e=>by
  cases i with
  |zero=>
   simp only[gS,List.getElem?_cons_zero,Wr,U5]at e
   rw[←e.2.2,←(QI hl e.1 w e.2.1)]
   simp only[flat]
   refine⟨by simp,?_⟩
   rw[Vk,UM]
  |succ i=>
   simp only[gS,U1]at e
   simpa[flat]using(FE hr (pre++(it.raw++it.gap)) i pl w (by simpa using e))
theorem zm:∀(items:List Item) (p:Nat),(gS p items).map kv=items.map eY
 | [],p=>rfl
 |i::r,p=>by simp only[gS,Th,zm r];rfl
theorem QJ(items:List Item)(p:Nat):(gS p items).length=items.length:=by
 simpa using(congrArg List.length (zm items p))
structure eZ(tags:List Tag)(t:T)(aq:Nat)(res:List Nat):Prop where
 jz:ua tags res
 few:tags.length<=6
 nd:(tags.map (·.1)).Nodup
 root:ju t.d
 kids:T.cx bW t.kids
 cnt:t.cnt<=30
 aq:aq<300
 res:res∈iz
mutual
theorem QK:∀(t:T),T.All bW t->t.cnt<5000->t.ok
 | .mk d kk,⟨kd,al⟩,h=>by
  simp only[T.cnt]at h
  have nl:∀r,Nm r->r.length+10<lim:=λr hr=>by have:=hr.len;have:=hlim;lia
  have hd:d.aQ.length+d.rem.length+d.aA.length<5000:=by unfold Nd.cnt at h;exact ah 0x1f201e291901a rfl h
  exact⟨⟨kd.aQ,λr hr=>nl r (kd.rem r hr),λr hr=>nl r (kd.aA r hr),⟨λr hr=>(kd.rem r hr).txt,λr hr=>(kd.aA r hr).txt⟩,⟨by exact ah 0x1f27104b01e13884b92910 rfl hd,by exact ah 0x1f27104b11e13884b92910 rfl hd,by exact af 0x1f27104b11e13884b910 rfl hd⟩⟩,zn kk al (by exact ah 0x1f211e2910 rfl h)⟩
theorem zn:∀(ks:List T),T.cx bW ks->T.bJ ks<5000->T.fj ks
 | [],_,_=>trivial
 |k::ks,⟨a,b⟩,h=>by
  simp only[T.bJ]at h
  exact⟨QK k a (by exact ah 0x1f201e2910 rfl h),zn ks b (by exact ah 0x1f211e2910 rfl h)⟩
end
theorem eZ.ok{tags:List Tag}{t:T}{aq:Nat}{res:List Nat}(g:eZ tags t aq res):t.ok:=by
 obtain⟨_,_,_,rt,al,hc,_,_⟩:=g
 cases t with
 |mk d kids=>
 simp only[T.d,T.kids,T.cnt]at rt al hc
 have nl:∀r,Nm r->r.length+10<lim:=λr hr=>by have:=hr.len;have:=hlim;lia
 have hd:d.aQ.length+d.rem.length+d.aA.length<5000:=by unfold Nd.cnt at hc;exact af 0x1f13884b00e1e2b91901a rfl hc
 refine⟨⟨?_,λr hr=>nl r (rt.rem r hr),?_,⟨λr hr=>(rt.rem r hr).txt,?_⟩,⟨by exact ah 0x1f27104b01e13884b92910 rfl hd,by exact ah 0x1f27104b11e13884b92910 rfl hd,by exact af 0x1f27104b11e13884b910 rfl hd⟩⟩,zn kids al (by exact af 0x1f13884b10e1e2b910 rfl hc)⟩
 ·rw[rt.aQ];intro x hx;exact nm hx
 ·rw[rt.aA];intro x hx;exact nm hx
 ·rw[rt.aA];intro x hx;exact nm hx
noncomputable def piecesOf(t:T)(aq:Nat)(res:List Nat):List Pc:=lp (f6 aq t)++[(res,false)]
noncomputable def textOf(tags:List Tag)(t:T)(aq:Nat)(res:List Nat)(w:Nat):List Nat:=fE tags w (piecesOf t aq res)
theorem eZ.atoms{tags:List Tag}{t:T}{aq:Nat}{res:List Nat}(g:eZ tags t aq res):(∀a∈f6 aq t,jy a)/\(f6 aq t).length<=200:=by
 have h1:=zk t
 have h2:=g.cnt
 have h3:=g.aq
 have hl:=Fu t aq true
 have hc:t.cnt=1+t.d.cnt+T.bJ t.kids:=by rcases t with⟨⟩;rfl
 have hr:t.d.rem.length<=t.d.cnt:=by unfold Nd.cnt;exact ah 0xf929010 rfl
 refine⟨λa ha=>?_,?_⟩
 ·unfold f6 at ha
  refine Ts (SL.mp ha) (λha=>?_) (λha=>?_)
  ·refine am (TY.mp ha) λr hr ae=>?_;subst ae
   exact g.root.rem r hr
  ·exact Fy t aq true g.kids (by exact ah 0xf5dd3b9021e12c3b20e1e2b10e10 rfl h1 h2 h3) a ha
 ·unfold f6
  simp only[So,Sn]
  lia
theorem eZ.pieces{tags:List Tag}{t:T}{aq:Nat}{res:List Nat}(g:eZ tags t aq res):aX (f6 aq t)++[res]=(piecesOf t aq res).map wire/\(∀x∈piecesOf t aq res,x.1≠[]/\(x.2=false->x.1.getLast?≠some 10))/\weight (piecesOf t aq res)<=50000:=by
 refine xA g.atoms λa1 a2=>?_
 refine du (FD _ a1) λb1 b2 b3=>?_
 have hr:=t9 res g.res
 unfold piecesOf
 refine⟨by rw[b1];simp[wire],λx hx=>?_,?_⟩
 ·refine Ts (SL.mp hx) (λhx=>?_) (λhx=>?_)
  ·exact⟨(b2 x hx).1,λz y=>(b2 x hx).2 z (List.mem_of_getLast? y)⟩
  ·rw[Sx.mp hx]
   refine⟨hr.2.2.2.2,λ_=>?_⟩
   exact(by decide:∀r∈iz,r.getLast?≠some 10) res g.res
 ·rw[nY]
  have:weight [(res,false)]<=300:=by simp[weight];exact av 0xf12a3b00eff2b0 rfl hr.1
  have:200*(f6 aq t).length<=200*200:=T3 _ a2
  lia
theorem eZ.text_len{tags:List Tag}{t:T}{aq:Nat}{res:List Nat}(g:eZ tags t aq res)(w:Nat):(textOf tags t aq res w).length<=60000:=by
 unfold textOf fE
 rw[jW,So]
 have a:=Dv w (piecesOf t aq res)
 have b:=g.pieces.2.2
 have c:=tP tags λx hx=>(g.jz.ok x hx).1
 have d:=g.few
 have e:(lines (rowsOf tags)).length<=772*tags.length+1:=by
  unfold rowsOf
  split
  ·simp[lines]
  ·rw[jW,So];simp[lines]at c ⊢;exact af 0xf100e10 rfl c
 lia
theorem eZ.items{tags:List Tag}{t:T}{aq:Nat}{res:List Nat}(g:eZ tags t aq res){w:Nat}{e:List Nat}{items2:List Item}(he:∀c∈e,isBlank c=true)(I:cK items2):
  ∃items,cK items/\flat items=textOf tags t aq res w++(e++flat items2)/\items.map eY=(tags.flatMap dC++cf (f6 aq t))++((11,V.str res)::items2.map eY):=by
 refine aN (QD (tags:=tags) (A:=f6 aq t) (res:=res) (e:=e) (w:=w) (λx hx=>⟨(g.jz.ok x hx).1,(g.jz.ok x hx).2.2.2⟩) g.atoms.1 g.res (λx hx=>(g.pieces.2.1 x hx).1) he I) λitems a b c=>?_
 exact⟨items,a,b,by rw[c,Sw]⟩
theorem bT.ux{S:Nat->Prop}{h h':H}{m:Nat}{tags:List Tag}(x:bT h m tags)(k:ac S h h')(hm:¬S m)(hl:∀i,S i->i<h.length->∃xs,h[i]? =some (.list xs)):bT h' m tags:=
 am x λas e g=>⟨as,k.some e hm,g.imp λa _ y=>k.some y λz=>xE (hl a z (aC y)) λ_ e2=>O.noConfusion (Sv (y.symm.trans e2))⟩
mutual
theorem aR.lists{h:H}:∀{m:M},aR h m->∀x∈m.addrs,∃xs,h[x]? =some (.list xs)
 | .mk a n r b k d kids,⟨x,y⟩,z,hz=>by
  simp only[M.addrs,SH]at hz
  rcases hz with zq|zq|zq|zq|zq|hz<;>try obtain rfl:=zq.symm
  ·exact⟨_,x.o⟩
  ·exact⟨_,x.n⟩
  ·exact⟨_,x.r⟩
  ·exact⟨_,x.b⟩
  ·exact⟨_,x.k⟩
  ·exact bD.lists y z hz
theorem bD.lists{h:H}:∀{ms:List M},bD h ms->∀x∈M.aS ms,∃xs,h[x]? =some (.list xs)
 | [],_,z,hz=>by simp[M.aS]at hz
 |m::ms,⟨x,y⟩,z,hz=>by
  simp only[M.aS,SL]at hz
  refine Ts hz (λhz=>?_) (λhz=>?_)
  ·exact aR.lists x z hz
  ·exact bD.lists y z hz
end
theorem FF{T:Top}{Γ:ay}{n:Nat}{ρ:Loc}{h:H}{a b:E}{v:V}{Q:Post}(pe:ai T ρ a h=some (v,h))(q:truthy v=some false)(k:aj T Γ n b ρ h Q):aj T Γ n (.or a b) ρ h Q:=aM a pe (wR q k)
theorem QL{T:Top}{Γ:ay}{n f:Nat}{ρ:Loc}{h h1:H}{es:Es}{xs:List V}{Q:Post}(pa:ch T ρ es h=some (xs,h1))(k:Γ n f xs h1 (λv h=>match truthy v with|some t=>Q (.bool !t) h|Option.none=>False) bot):aj T Γ (n+1) (.not (.call f es)) ρ h Q:=cJ es pa k
theorem QM{T:Top}{Γ:ay}{n:Nat}{ρ:Loc}{h:H}{P:PS}{zs x y:Ss}{a b:E}{v:V}(pe:ai T ρ a h=some (v,h))(q:truthy v=some false)(k:aj T Γ n b ρ h λv h=>match truthy v with|some true=>ag T Γ n x ρ h ⟨λρ h=>ag T Γ n zs ρ h P,P.R,P.X⟩|some false=>ag T Γ n y ρ h ⟨λρ h=>ag T Γ n zs ρ h P,P.R,P.X⟩|Option.none=>False):ag T Γ n (.cons (.ite (.or a b) x y) zs) ρ h P:=fO (FF pe q k)
theorem QN{T:Top}{Γ:ay}{n f:Nat}{ρ:Loc}{h h1:H}{P:PS}{zs a b:Ss}{e:E}{es:Es}{x:V}{xs:List V}{op:eA}(pe:ai T ρ e h=some (x,h))(pa:ch T ρ es h=some (xs,h1))(k:Γ n f xs h1 (λy h=>match bX h op x y with|some t=>(match truthy (.bool t)with|some true=>ag T Γ (n+1) a ρ h ⟨λρ h=>ag T Γ (n+1) zs ρ h P,P.R,P.X⟩|some false=>ag T Γ (n+1) b ρ h ⟨λρ h=>ag T Γ (n+1) zs ρ h P,P.R,P.X⟩|Option.none=>False)|Option.none=>False) bot):ag T Γ (n+1) (.cons (.ite (.cmp op e (.call f es)) a b) zs) ρ h P:=
 fO (show aj T Γ (n+1) e ρ h _ from aM e pe (cJ es pa k))
noncomputable def FG:Ss:=(.cons (.assign 10 (.call 2 .nil))
 (.cons (.expr (.call 47 (.cons (.loc 7) (.cons (.loc 10) .nil))))
 (.cons (.expr (.append (.loc 5) (.call 44 (.cons (.loc 6) (.cons (.loc 10) (.cons (.loc 8) (.cons (.loc 9) (.cons (.loc 2) .nil))))))))
 (.cons (.ite (.cmp .ne (.idx (.loc 5) (.neg 1)) (.call 51 (.cons (.loc 6) (.cons (.loc 7) (.cons (.loc 8) (.cons (.loc 9) (.cons (.loc 2) .nil))))))) (.cons (.ret (.lit (.bool false)))
 .nil) .nil)
 (.cons (.expr (.call 52 (.cons (.loc 7) (.cons (.lit (.bool false)) .nil))))
 .nil)))))
section
variable{Γ:ay}(G:Prog Γ)
include G
theorem FH{n w tx tg aq:Nat}{m:M}{tags:List Tag}{res:List Nat}{vs:List (List Nat)}{h:H}{P:PS}{o0 o1 o3 o4 eh jZ iW FI j9 i5 i7 i8:Option V}
  (g:eZ tags m.toT aq res) (ex:h[tx]? =some (.list (vs.map V.str))) (hv:vs.length<10) (nx:tx∉m.addrs) (fX:bT h tg tags) (FJ:tg≠tx) (QO:tg∉m.addrs) (hm:aR h m) (nd:m.addrs.Nodup)
  (q:∀h' m' fW,ac (λi=>i=tx\/i∈m.addrs) h h'->h'[tx]? =some (.list ((vs++[textOf tags m.toT aq res w]).map V.str))->aR h' m'->m'.toT=cm false false m.toT->m'.a=m.a->(∀x∈m'.addrs,x∈m.addrs\/h.length<=x)->bT h' tg tags->
   P.N [o0,o1,some (.int w),o3,o4,some (.ref tx),some (.ref tg),some (.ref m.a),some (.int aq),some (.str res),fW,jZ,iW,FI,j9,i5,i7,i8] h'):
  ag aw Γ (n+100) FG [o0,o1,some (.int w),o3,o4,some (.ref tx),some (.ref tg),some (.ref m.a),some (.int aq),some (.str res),eh,jZ,iW,FI,j9,i5,i7,i8] h P:=by
 have hlim:=hlim
 have hsz:m.sz<=30:=SQ (zk m.toT) g.cnt
 have gV:=g.aq
 have htx:=aC ex
 refine d9 rfl (DT G λh1 k1 f1 l1=>?_)
 have QP:m.d.word=[]:=by have:=g.root.word;rw[n8]at this;exact this
 have QQ:tT h1 h.length (.int 0) .none m.d.word (-1):=by rw[QP];exact f1
 refine cT rfl (Ob G 30 (n:=n+67) hsz (hm.grow k1) g.ok (by exact af 0x1f095a10e1e2b13ef42405b0 rfl hlim hsz) (aR.lt hm) QQ λh2 k2 th=>⟨rfl,?_⟩)
 have jA:ac ax h h2:=k1.after k2 λi hi z=>by lia
 have pc:=g.pieces
 have tok:∀x∈tags,gW x:=λx hx=>(g.jz.ok x hx).1
 have hr:=t9 res g.res
 refine ta rfl (jA.some ex id) rfl (Dx G (n:=n+93) (bT.keep (S:=ax) jA fX:bT h2 tg tags) tok g.few (bS.mono (λi a b=>⟨a,b⟩) th:bS (λi=>h.length<=i/\i<h2.length) h2 h.length m.toT) (λi hi=>hi.2) hr.2.2.2.1 (by exact af 0xf5dc3b9011e12c3b10e1e2b0 rfl (hsz:m.toT.sz<=30) gV) pc.1 (λx hx=>(pc.2.1 x hx).2) (by have:=pc.2.2;exact af 0x1f0927104b10ec3504b13ef42405b0 rfl hlim pc.2.2) λh3 k3=>?_)
 have mL:=jA.trans k3
 have FK:=mL.some ex id
 refine nD FK ⟨by rw[Sn];exact af 0x1f103ef42405b11eaa0 rfl hv hlim,rfl,?_⟩
 have e4:(h3.set tx (.list (vs.map V.str++[.str (fE tags w (piecesOf m.toT aq res))])))[tx]? =some (.list ((vs++[textOf tags m.toT aq res w]).map V.str)):=(bq FK).trans (by rw[SN];rfl)
 have mI:ac (· =tx) h3 (h3.set tx (.list (vs.map V.str++[.str (fE tags w (piecesOf m.toT aq res))]))):=ac.set rfl
 generalize h3.set tx (.list (vs.map V.str++[.str (fE tags w (piecesOf m.toT aq res))]))=h4 at e4 mI ⊢
 have zo:ac (· =tx) h h4:=(mL.mono λ_ _ z=>z.elim).trans mI
 have m4:aR h4 m:=hm.keep zo λx hx z=>nx (z▸hx)
 have uy:lp (m.toT.d.rem.map Atom.rem++aY aq true m.toT)++[(res,false)]=piecesOf m.toT aq res:=rfl
 rw[n8]at uy
 have hne:∀x∈lp (m.d.rem.map Atom.rem++aY aq true m.toT)++[(res,false)],x.1≠[]:=by rw[uy];exactλx hx=>(pc.2.1 x hx).1
 have il:cq aw h4 (.ref tx) (.int (-1))=some (.str (textOf tags m.toT aq res w)):=by rw[yA e4 (by simp)];simp
 refine QN (aB rfl rfl il) rfl (N5 G (n:=n+66) (N:=30) (p:=aq) (fX.ux zo FJ λi z _=>⟨_,z▸ex⟩:bT h4 tg tags) tok g.few m4 g.ok hsz (by have:=hsz;exact af 0xf5dc3b9011e12c3b10e1e2b0 rfl hsz gV) hr.2.2.2.2 hne (by rw[uy];have:=pc.2.2;exact af 0x1f0927104b10ec3504b13ef42405b0 rfl hlim pc.2.2) λh5 k5=>?_)
 rw[uy]
 rw[(ne_self rfl:bX h5 .ne (.str (textOf tags m.toT aq res w)) (.str (fE tags w (piecesOf m.toT aq res)))=some false)]
 refine k_end (cT rfl (On G 30 (n:=n+68) hsz (by exact av 0x1f3e83b1e2b1eaa0 rfl hv) (m4.grow k5) g.ok nd λh6 m6 QR et ea k6 sub Si=>⟨rfl,bp ?_⟩))
 have FL:ac (· =tx) h h5:=zo.trans (k5.mono λ_ _ z=>z.elim)
 have K:ac (λi=>i=tx\/i∈m.addrs) h h6:=(FL.mono λ_ _ z=> .inl z).trans (k6.mono λ_ _ z=> .inr z)
 exact q h6 m6 _ K (k6.some (k5.some e4 id) nx) QR et ea (λx hx=>(sub x hx).imp id λz=>by exact ah 0xf200e210e10 rfl FL.len z) (fX.ux K (λz=>z.elim FJ QO) λi z _=>z.elim (λz=>⟨_,z▸ex⟩) ((aR.lists hm) i))
end
end Mine
namespace Mine
theorem QS{h:H}{v:V}{r:List V}{d:D}{ds:List D}(e:eF h v=some d)(e2:fg h r=some ds):fg h (v::r)=some (d::ds):=by
 show(match eF h v,fg h r with|some d,some ds=>some (d::ds)|_,_=>none)=_
 rw[e,e2]
theorem QT{h:H}{xs ys:List V}{d:List D}(l:xs.length=ys.length)(e1:fg h xs=some d)(e2:fg h ys=some d):f9 h xs ys=some true:=by
 unfold f9
 rw[if_neg λz=>z l]
 by_cases c:xs.length=0
 ·exact if_pos c
 ·rw[if_neg c,e1,e2];exact congrArg some (decide_eq_true rfl)
inductive Kept(tags:List Tag)(h2:H)(j:Nat):List V->H->Prop
 |mk {h':H} (bs:List Nat) (k:ac ax h2 h') (g:A2 (λb u=>h'[b]? =some (.tup [.str u.1,.str u.2])) bs (tags.take j)):Kept tags h2 j (bs.map V.ref) h'
theorem bT.data{h:H}{m:Nat}{tags:List Tag}(x:bT h m tags)(ok:∀t∈tags,cE t.1=true/\cE t.2=true):∃vs,listAt h (.ref m)=some vs/\vs.length=tags.length/\fg h vs=some (tags.map λt=>D.tup [.str t.1,.str t.2]):=
 am x λas e g=>⟨as.map V.ref,ie e,(Sn _).trans g.length,A2.rec (motive:=λas tags _=>(∀t∈tags,cE t.1=true/\cE t.2=true)->fg h (as.map V.ref)=some (tags.map λt=>D.tup [.str t.1,.str t.2])) (λ_=>rfl)
  (λ{a t as ts} y _ ih ok=>by
   have o:=ok t Sq
   have d1:eF h (.ref a)=some (D.tup [.str t.1,.str t.2]):=by simp only[eF,y,mQ,jC,o.1,o.2,if_true,Uk]
   exact QS d1 (ih λu hu=>ok u (Su _ hu))) g ok⟩
theorem QU{h:H}{a b:Nat}{tags:List Tag}(x:bT h a tags)(y:bT h b tags)(ok:∀t∈tags,cE t.1=true/\cE t.2=true):bX h .ne (.ref a) (.ref b)=some false:=
 aN (x.data ok) λvs e1 l1 d1=>aN (y.data ok) λws e2 l2 d2=>(wO e1 e2).trans (congrArg (Option.map (!·)) (QT (l1.trans l2.symm) d1 d2))
theorem bT.old{h h':H}{m:Nat}{tags:List Tag}(k:ac ax h h')(x:bT h m tags):bT h' m tags:=bT.keep (S:=ax) k x
noncomputable def FM:Ss:=(.cons (.unpack [17,13] (.call 38 (.cons (.loc 12) (.cons (.loc 13) .nil))))
 (.cons (.assign 15 (.comp (.tup (.cons (.loc 0) (.cons (.loc 1) .nil))) 3 (.attr (.loc 17) 10)))
 (.cons (.ite (.or (.cmp .ne (.loc 15) (.loc 6)) (.or (.cmp .ne (.attr (.loc 17) 8) (.loc 9)) (.not (.call 53 (.cons (.loc 7) (.cons (.attr (.loc 17) 9) (.cons (.loc 11) .nil))))))) (.cons (.ret (.lit (.bool false)))
 .nil) .nil)
 (.cons (.ite (.cmp .ne (.call 44 (.cons (.loc 15) (.cons (.attr (.loc 17) 9) (.cons (.loc 8) (.cons (.attr (.loc 17) 8) (.cons (.loc 2) .nil)))))) (.idx (.loc 5) (.loc 14))) (.cons (.ret (.lit (.bool false)))
 .nil) .nil)
 .nil))))
noncomputable def gk(tags:List Tag)(t:T)(aq:Nat):List KV:=tags.flatMap dC++cf (f6 aq t)
section
variable{Γ:ay}(G:Prog Γ)
include G
theorem FN{n w tx tg aq tv i k cZ:Nat}{m:M}{t:T}{tags:List Tag}{res whole:List Nat}{vs:List (List Nat)}{toks:List Tok}{h:H}{P:PS}{o0 o1 o3 o4 eh i5 i7 i8:Option V}
  (g:eZ tags t aq res) (po:jw whole toks) (x0:TL h tv toks) (s:Tks toks i (gk tags t aq)) (hE:cZ=i+(gk tags t aq).length) (eE:∃pl,toks[cZ]? =some (11,.str res,pl)) (ex:h[tx]? =some (.list (vs.map V.str))) (hk:vs[k]? =some (textOf tags t aq res w)) (hvs:vs.length<=10) (fX:bT h tg tags) (hm:aR h m) (et:m.toT=cm false false t) (hw:whole.length<lim)
  (q:∀h' zp qd,ac ax h h'->P.N [o0,o1,some (.int w),o3,o4,some (.ref tx),some (.ref tg),some (.ref m.a),some (.int aq),some (.str res),eh,some (.str whole),some (.ref tv),some (.int ((cZ+1:Nat):Int)),some (.int k),zp,i7,qd] h'):
  ag aw Γ (n+100) FM [o0,o1,some (.int w),o3,o4,some (.ref tx),some (.ref tg),some (.ref m.a),some (.int aq),some (.str res),eh,some (.str whole),some (.ref tv),some (.int i),some (.int k),i5,i7,i8] h P:=by
 have hlim:=hlim
 have gV:=g.aq
 have FO:∀x∈tags,gW x:=λx hx=>(g.jz.ok x hx).1
 have hr:=t9 res g.res
 have pc:=g.pieces
 have zr:=g.cnt
 have FP:=zk t
 have my:=g.few
 refine nK rfl (E6 G (n:=n+93) po x0 (λu hu=>(FO u hu).name) g.nd g.few g.root g.kids (by exact av 0x1f7d03b00e1e2b0 rfl zr) g.jz.res s hE (.inl ⟨eE,λh1 rec root ro as p1 k1 er t3 ra hp1=>?_⟩))
 refine ft mD ⟨rfl,?_⟩
 have jA:ac ax h1 (h1++[O.tup [V.ref rec,V.int ((cZ+1:Nat):Int)]]):=ac.push
 generalize h1++[O.tup [V.ref rec,V.int ((cZ+1:Nat):Int)]]=h2 at jA ⊢
 have t2:=t3.grow jA
 have FQ:∀h',ac ax h2 h'->b6 h' (.ref rec)=some (rec,1,mH ro root res):=λh' kk=>gU (kk.some (jA.some er id) id) (by decide) (show(3:Nat)<=20 by decide)
 have uO:bj (mH ro root res) 10=some (.ref ro):=rfl
 have r9:bj (mH ro root res) 9=some (.ref root):=rfl
 have r8:bj (mH ro root res) 8=some (.str res):=rfl
 refine lV (xt G.mono (Kept tags h2) (bc rfl (FQ h2 ac.refl) uO) (λj acc h' ii=>ii.casesOn λ_ k _=>k.some t2.l id) (λj v acc h' hv ii=>?_) (λacc h' ii=>?_) ⟨[],ac.refl,.nil⟩)
 ·refine ii.casesOn λ{h'} bs kk gb=>?_;clear ii
  refine am (fQ hv) λa ea zz=>?_;subst zz
  refine am (t2.g.at ea) λu et z=>xE z λsp e0=>?_
  have gG:=gb.length
  rw[TK]at gG
  have e1:ai aw ([.str u.1,.str u.2,.int sp].map some) (.tup (.cons (.loc 0) (.cons (.loc 1) .nil))) h'=some (.ref h'.length,h'++[.tup [.str u.1,.str u.2]]):=rfl
  refine⟨_,ya (by decide) (kk.some e0 id) rfl,aM _ e1 ⟨by rw[Sn];exact Tq (gG▸SQ (TD _ _) my) (by decide),?_⟩⟩
  have:=Kept.mk (tags:=tags) (j:=j+1) (bs++[h'.length]) (kk.trans (ac.push (g:=[.tup [.str u.1,.str u.2]]))) (by rw[Tg,et];exact(gb.imp λ_ _ z=>(ac.push (S:=ax)).some z id).app (.cons aE .nil))
  rw[SN]at this;exact this
 ·refine ii.casesOn λ{h'} bs kk gb=>?_;clear ii
  rw[Sn,t2.n,Tc]at gb
  have kp:ac ax h' (h'++[O.list (bs.map V.ref)]):=ac.push
  have kept:bT (h'++[O.list (bs.map V.ref)]) h'.length tags:=⟨bs,aE,gb.imp λ_ _ z=>kp.some z id⟩
  generalize h'++[O.list (bs.map V.ref)]=h3 at kp kept ⊢
  have js:=kk.trans kp
  have k3:=(k1.trans jA).trans js
  have uz:=FQ h3 js
  have FR:=(ra.keep jA λ_ _=>id).keep js λ_ _=>id
  have QV:=(jA.trans js).len
  have hms:m.sz<=30:=by unfold M.sz;rw[et,zj];exact ah 0xf120e020e10 rfl zr FP
  refine QM (aH (op:= .ne) rfl rfl (QU kept (fX.old k3) λx hx=>⟨(g.jz.ok x hx).2.1,(g.jz.ok x hx).2.2.1⟩)) rfl (FF (aH (op:= .ne) (bc rfl uz r8) rfl (ne_self rfl)) rfl (QL (aO rfl (aO (bc rfl uz r9) rfl)) (OE G 30 (n:=n+68) hms (by decide) hw (hm.grow k3) (et▸FR:dB p1 h3 whole root m.toT) (k_end ?_))))
  have QW:(cm false false t).d.rem.map Atom.rem++aY aq true (cm false false t)=f6 aq t:=QG aq t
  refine qn (aO rfl (aO (bc rfl uz r9) (aO rfl (aO (bc rfl uz r8) rfl)))) (Dx G (n:=n+93) (p:=p1) (ps:=piecesOf t aq res) kept FO g.few FR.OB (λy hy=>SV (hp1 y hy) QV) hr.2.2.2.1 (by rw[zj];exact ah 0xf5dc3b9200e120e1e2b11e12c3b0 rfl gV zr FP) (by rw[QW];exact pc.1) (λx hx=>(pc.2.1 x hx).2) (by have:=pc.2.2;exact af 0x1f0927104b10ec3504b13ef42405b0 rfl hlim pc.2.2) λh4 k4=>?_)
  have ix:cq aw h4 (.ref tx) (.int (k:Int))=some (.str (textOf tags t aq res w)):=by
   rw[mj (j:=k) ((k3.trans k4).some ex id) (by rw[Sn];exact sO hk) (by rw[Sn];exact af 0xf103ef42405b10eaa0 rfl hvs hlim)]
   simp[((Sr.mp hk).2)]
  exact jP (aB rfl rfl ix) (ne_self rfl) (k_end (q h4 _ _ (k3.trans k4)))
end
theorem QX{T:Top}{Γ:ay}{n f:Nat}{es:Es}{ρ:Loc}{h h1:H}{P:PS}{zs:Ss}{xs:List V}(pa:ch T ρ es h=some (xs,h1))(k:Γ n f xs h1 (λ_ h=>P.R (.bool false) h) (λv h=>v= .int (-1)/\ag T Γ (n+1) zs ρ h P)):ag T Γ (n+1) (.cons (.ff f es) zs) ρ h P:=cJ es pa k
structure SG(h:H)(ga tg:Nat)(m:M)(t:T)(tags:List Tag)(aq:Nat)(res:List Nat):Prop where
 tup:h[ga]? =some (.tup [.ref tg,.ref m.a,.int (Int.ofNat aq),.str res])
 fX:bT h tg tags
 mine:aR h m
 et:m.toT=cm false false t
 pure:eZ tags t aq res
theorem SG.grow{h h':H}{ga tg:Nat}{m:M}{t:T}{tags:List Tag}{aq:Nat}{res:List Nat}(x:SG h ga tg m t tags aq res)(k:ac ax h h'):SG h' ga tg m t tags aq res:=⟨k.some x.tup id,x.fX.old k,x.mine.grow k,x.et,x.pure⟩
theorem TL.but{h:H}{tv:Nat}{toks:List Tok}(x:TL h tv toks):∃vs,h[tv]? =some (.list vs)/\vs.length<=lim/\TL (h++[.list vs.dropLast]) h.length toks.dropLast:=by
 refine aN x λvs e t l=>?_;clear x
 have hl:=t.length
 refine⟨vs,e,hl▸SZ l,vs.dropLast,aE,?_,Tq (by rw[V3];exact Vc _ _) l⟩
 rw[Ui,Ui,←hl]
 exact(t.take (vs.length-1)).imp λv tt a=>a.mono (S6 _ _)
theorem jw.but{whole:List Nat}{toks:List Tok}(p:jw whole toks):jw whole toks.dropLast:=by
 intro i pl w e
 refine p i pl w ?_
 rw[Ui,List.getElem?_take]at e
 split at e
 ·exact e
 ·exact nn e
inductive FS(h:H)(o0 o1 o3 eh i7:Option V)(w gm tx tv:Nat)(whole:List Nat)(pl:Nat):Loc->H->Prop
 |mk {h':H} (k:ac ax h h') (o6 o7 o8 o9 j9 i5 i8:Option V):FS h o0 o1 o3 eh i7 w gm tx tv whole pl [o0,o1,some (.int w),o3,some (.ref gm),some (.ref tx),o6,o7,o8,o9,eh,some (.str whole),some (.ref tv),some (.int pl),j9,i5,i7,i8] h'
noncomputable def readBody:Ss:=(.cons (.unpack [6,7,8,9] (.idx (.loc 4) (.loc 14)))
 (.cons (.ite (.cmp .eq (.loc 14) (.lit (.int 1))) (.cons (.ff 38 (.cons (.g9 (.loc 12) (.neg 1)) (.cons (.loc 13) .nil)))
 .nil) .nil)
 FM))
section
variable{Γ:ay}(G:Prog Γ)
include G
theorem QY{n w tx gm i9 fN dR dS tv cN cQ:Nat}{m1 m2:M}{t1 t2:T}{c6 dt:List Tag}{c7 da whole:List Nat}{toks:List Tok}{h:H}{P:PS}{o0 o1 o3 o6 o7 o8 o9 eh j9 i5 i7 i8:Option V}
  (s1:SG h i9 dR m1 t1 c6 cN c7) (s2:SG h fN dS m2 t2 dt cQ da) (eg:h[gm]? =some (.list [.ref i9,.ref fN])) (ex:h[tx]? =some (.list ([textOf c6 t1 cN c7 w,textOf dt t2 cQ da w].map V.str))) (x0:TL h tv toks) (po:jw whole toks) (hw:whole.length<lim)
  (zt:toks.map kv=gk c6 t1 cN++((11,V.str c7)::(gk dt t2 cQ++[(11,V.str da)]))) (q:∀h',P.R (.bool true) h'):
  ag aw Γ (n+100) (.cons (.dX 14 (.lit (.int 2)) readBody) (.cons (.ret (.cmp .eq (.loc 13) (.len (.loc 12)))) .nil)) [o0,o1,some (.int w),o3,some (.ref gm),some (.ref tx),o6,o7,o8,o9,eh,some (.str whole),some (.ref tv),some (.int 0),j9,i5,i7,i8] h P:=by
 have s0:Tks toks 0 (gk c6 t1 cN++((11,V.str c7)::(gk dt t2 cQ++[(11,V.str da)]))):=⟨[],(SM _).symm▸zt⟩
 have my:toks.length=0+(gk c6 t1 cN).length+1+(gk dt t2 cQ).length+1:=(Sn kv).symm.trans ((congrArg List.length zt).trans (by simp only[So,SD,SU];exact SK (af 0xf91a9191a900a991a991a0a10 rfl) (af 0xf991a991a0a1091a9191a900a rfl)))
 refine mh G.mono (k:=2) (by decide) (λi=>FS h o0 o1 o3 eh i7 w gm tx tv whole (Nat.casesOn i 0 λi=>Nat.casesOn i (0+(gk c6 t1 cN).length+1) λ_=>toks.length)) (aM _ rfl ⟨rfl,⟨ac.refl,_,_,_,_,_,_,_⟩⟩) (λnP i=>Nat.casesOn i ?_ ?_) (λρ h' ii=>?_)
 ·refine ii.casesOn λ{h'} k o6 o7 o8 o9 j9 i5 i8=>?_;clear ii
  refine xA (x0.keep k).len λl1 l2=>?_
  exact bi (aH (op:= .eq) rfl (be rfl l1 (SR.mpr (SZ l2))) (congrArg some (decide_eq_true rfl))) (q h')
 ·intro ρ h' kP hi ii
  refine ii.casesOn λ{h'} k o6 o7 o8 o9 j9 i5 i8=>?_;clear ii
  have g1:=s1.grow k
  exact jp (aB rfl rfl (bG (k.some eg id) rfl rfl)) (fy g1.tup) rfl (cz rfl rfl (FN G (k:=0) s1.pure po (x0.keep k) s0.left rfl s0.right.head (k.some ex id) rfl (show(2:Nat)<=10 by decide) g1.fX g1.mine g1.et hw λh2 zp qd k2=>kP _ _ ⟨k.trans k2,_,_,_,_,_,_,_⟩))
 ·refineλi=>Nat.casesOn i (λρ h' kP hi ii=>?_) λi ρ h' kP hi ii=>absurd hi (Ug (UV 2 i))
  refine ii.casesOn λ{h'} k o6 o7 o8 o9 j9 i5 i8=>?_;clear ii
  have g2:=s2.grow k
  have p2:=s2.pure
  have st:=s0.right.tail
  refine jp (aB rfl rfl (bG (k.some eg id) rfl rfl)) (fy g2.tup) rfl (aN (x0.keep k).but λvs ev lv zu=>eO rfl rfl (QX (aO ((xe rfl rfl (nG ev lv)).trans (by rw[CS])) rfl) ?_))
  have s3:Tks toks.dropLast 0 (gk c6 t1 cN++((11,V.str c7)::gk dt t2 cQ)):=⟨[],by rw[VY,List.map_dropLast,zt,SM,←Te,←Sw,TI]⟩
  refine E6 G (n:=n+93) (t:=t2) (p:=cQ) (res:=da) po.but zu (λu hu=>(p2.jz.ok u hu).1.name) p2.nd p2.few p2.root p2.kids (by exact av 0x1f7d03b00e1e2b0 rfl p2.cnt) p2.jz.res s3.right.tail rfl (.inr ⟨by rw[V3,my];rfl,λh3 k3=>⟨rfl,k_end ?_⟩⟩)
  have mL:=(ac.push:ac ax h' (h'++[O.list vs.dropLast])).trans k3
  have g3:=g2.grow mL
  exact FN G (k:=1) p2 po ((x0.keep k).keep mL) st.left rfl st.right.head (mL.some (k.some ex id) id) rfl (show(2:Nat)<=10 by decide) g3.fX g3.mine g3.et hw λh4 zp qd k4=>kP _ _ (my▸⟨k.trans (mL.trans k4),_,_,_,_,_,_,_⟩)
end
theorem Drawn.pure{h:H}{m:M}{bs:List Nat}{c:Nat}(D:Drawn h m bs c)(hc:c<=30){tags:List Tag}{aq:Nat}{res:List Nat}(t1:tags.length<=6)(t2:(tags.map (·.1)).Nodup)(t3:ua tags res)(t4:aq<300)(t5:res∈iz):eZ tags m.toT aq res:=by
 refine⟨t3,t1,t2,by rw[n8];exact D.root,?_,by exact ah 0xf120e020e10 rfl hc D.cnt,t4,t5⟩
 have:=D.kids
 rcases m with⟨⟩;exact this
structure uA(gm i9 fN dR dS:Nat)(m1 m2:M)(c6 dt:List Tag)(cN cQ:Nat)(c7 da:List Nat)(h:H):Prop where
 u1:h[i9]? =some (.tup [.ref dR,.ref m1.a,.int (Int.ofNat cN),.str c7])
 u2:h[fN]? =some (.tup [.ref dS,.ref m2.a,.int (Int.ofNat cQ),.str da])
 eg:h[gm]? =some (.list [.ref i9,.ref fN])
 a1:bT h dR c6
 a2:bT h dS dt
theorem FT{S:Nat->Prop}{h h':H}{a:Nat}{x:List V}(k:ac S h h')(hs:∀j,S j->j<h.length->∃xs,h[j]? =some (.list xs))(e:h[a]? =some (.tup x)):h'[a]? =some (.tup x):=k.some e λz=>xE (hs a z (aC e)) λ_ e2=>O.noConfusion (Sv (e.symm.trans e2))
theorem uA.keep{gm i9 fN dR dS:Nat}{m1 m2:M}{c6 dt:List Tag}{cN cQ:Nat}{c7 da:List Nat}{h h':H}{S:Nat->Prop}(x:uA gm i9 fN dR dS m1 m2 c6 dt cN cQ c7 da h)(k:ac S h h')(hs:∀j,S j->j<h.length->∃xs,h[j]? =some (.list xs))(n1:¬S gm)(n2:¬S dR)(n3:¬S dS):uA gm i9 fN dR dS m1 m2 c6 dt cN cQ c7 da h':=
 ⟨FT k hs x.u1,FT k hs x.u2,k.some x.eg n1,x.a1.ux k n2 hs,x.a2.ux k n3 hs⟩
theorem QZ{T:Top}{Γ:ay}{n m:Nat}{is:List Nat}{src:E}{b zs:Ss}{ρ:Loc}{h:H}{P:PS}{x y:V}(M:di Γ)(hs:ai T ρ src h=some (.ref m,h))(h0:h[m]? =some (.list [x,y]))(k:eM T Γ n is b P.R x ρ h λρ h=>h[m]? =some (.list [x,y])/\eM T Γ n is b P.R y ρ h λρ h=>h[m]? =some (.list [x,y])/\ag T Γ n zs ρ h P):ag T Γ n (.cons (.for is src b) zs) ρ h P:=
 gP M (m:=m) (xs:=[x,y]) (λi ρ h=>h[m]? =some (.list [x,y])/\Nat.casesOn i (eM T Γ n is b P.R x ρ h λρ h=>h[m]? =some (.list [x,y])/\eM T Γ n is b P.R y ρ h λρ h=>h[m]? =some (.list [x,y])/\ag T Γ n zs ρ h P) λi=>Nat.casesOn i (eM T Γ n is b P.R y ρ h λρ h=>h[m]? =some (.list [x,y])/\ag T Γ n zs ρ h P) λ_=>ag T Γ n zs ρ h P) (aM _ hs ⟨rfl,h0,k⟩) (λ_ _ _ ii=>ii.1)
  (λnP i=>Nat.casesOn i (λv ρ h kP hv ii=>sS M _ _ _ _ _ kP (Sv hv▸ii.2)) λi=>Nat.casesOn i (λv ρ h kP hv ii=>sS M _ _ _ _ _ kP (Sv hv▸ii.2)) λi v ρ h kP hv=>nn hv) λρ h ii=>ii.2
section
variable{Γ:ay}(G:Prog Γ)
include G
theorem Q0{n w gm i9 fN dR dS cN cQ L1:Nat}{m1 m2:M}{c6 dt:List Tag}{c7 da:List Nat}{h:H}{P:PS}{o0 o1 o3:Option V}
  (gs:uA gm i9 fN dR dS m1 m2 c6 dt cN cQ c7 da h) (b1:aR h m1) (b2:aR h m2) (cL:m1.addrs.Nodup) (qR:m2.addrs.Nodup)
  (g1:eZ c6 m1.toT cN c7) (g2:eZ dt m2.toT cQ da) (lo1:∀y∈m1.addrs,y<L1/\dR<y) (lo2:∀y∈m2.addrs,L1<=y/\dS<y/\y<gm) (lg:dR<L1/\L1<=dS/\L1<=gm) (hg:dS<gm) (q:∀h',P.R (.bool true) h'):
  ag aw Γ (n+100) (.cons (.assign 5 (.lst .nil)) (.cons (.for [6,7,8,9] (.loc 4) FG)
   (.cons (.assign 11 (.join [10] (.loc 5)))
   (.cons (.assign 12 (.call 21 (.cons (.loc 11) .nil)))
   (.cons (.assign 13 (.lit (.int 0)))
   (.cons (.dX 14 (.lit (.int 2)) readBody) (.cons (.ret (.cmp .eq (.loc 13) (.len (.loc 12)))) .nil))))))) [o0,o1,some (.int w),o3,some (.ref gm),none,none,none,none,none,none,none,none,none,none,none,none,none] h P:=by
 refine bd rfl ?_
 have k0:ac ax h (h++[O.list []]):=ac.push
 have rp:(h++[O.list []])[h.length]? =some (.list (([]:List (List Nat)).map V.str)):=aE
 have ke:=aC gs.eg
 have zv:=aR.lt b1
 have zw:=aR.lt b2
 have rq:=gs.keep k0 (λ_ z=>z.elim) id id id
 have zx:=b1.grow k0
 have zA:=b2.grow k0
 generalize h.length=tx at ke zv zw rp ⊢
 generalize h++[O.list []]=h0 at rq zx zA rp ⊢
 have zB:dR<gm:=SV lg.1 lg.2.2
 refine QZ G.mono rfl rq.eg (tQ rq.u1 (by decide) rfl (FH G (P:=⟨_,_,_⟩) g1 rp (by decide) (λz=>Tv _ (zv _ z)) rq.a1 (SX (Ud zB ke)) (λz=>Tv _ (lo1 _ z).2) zx cL λh1 FU fW k1 e1 c1 c2 c3 c4 _=>?_))
 have uB:=rq.keep k1 (λj z _=>z.elim (λz=>⟨_,z▸rp⟩) (aR.lists zx j)) (λz=>z.elim (SX ke) λz=>Ug lg.2.2 (lo1 _ z).1) (λz=>z.elim (SX (Ud zB ke)) λz=>Tv _ (lo1 _ z).2) (λz=>z.elim (SX (Ud hg ke)) λz=>Ug lg.2.1 (lo1 _ z).1)
 have FV:=zA.keep k1 λx hx z=>z.elim (λz=>SX (zw x hx) z) λz=>Ug (lo2 x hx).1 (lo1 x z).1
 have Q1:∀x∈FU.addrs,¬(x=tx\/x∈m2.addrs):=λx hx=>(c4 x hx).elim (λy z=>z.elim (SX (zv x y)) λz=>Ug (lo2 x z).1 (lo1 x y).1) λy z=>Ug y (z.elim (λz=>z▸aC rp) (aR.lt zA x))
 refine⟨uB.eg,tQ uB.u2 (by decide) rfl (FH G (P:=⟨_,_,_⟩) g2 e1 (show(1:Nat)<10 by decide) (λz=>Tv _ (zw _ z)) uB.a2 (SX (Ud hg ke)) (λz=>Tv _ (lo2 _ z).2.1) FV qR λh2 Q2 fW k2 e2 d1 d2 d3 d4 _=>?_)⟩
 have oV:=uB.keep k2 (λj z _=>z.elim (λz=>⟨_,z▸e1⟩) (aR.lists FV j)) (λz=>z.elim (SX ke) λz=>Tv _ (lo2 _ z).2.2) (λz=>z.elim (SX (Ud zB ke)) λz=>Ug (lo2 _ z).1 lg.1) (λz=>z.elim (SX (Ud hg ke)) λz=>Tv _ (lo2 _ z).2.1)
 have s1:SG h2 i9 dR FU m1.toT c6 cN c7:=⟨c3▸oV.u1,oV.a1,c1.keep k2 Q1,c2,g1⟩
 have s2:SG h2 fN dS Q2 m2.toT dt cQ da:=⟨d3▸oV.u2,oV.a2,d1,d2,g2⟩
 refine⟨oV.eg,?_⟩
 have hl:=hlim
 have Q3:=g1.text_len w
 have zu:=g2.text_len w
 refine aN (g2.items (w:=w) (e:=[]) (λc hc=>(nomatch hc)) cK.nil) λi2 I2 f2 v2=>?_
 refine aN (g1.items (w:=w) (e:=[10]) (by decide) I2) λi1 I1 f1 v1=>?_
 have ew:aG [10] [textOf c6 m1.toT cN c7 w,textOf dt m2.toT cQ da w]=[]++flat i1:=by rw[TB,f1,f2,TB,flat,SM];exact Sw _ _ _
 have uC:([]++flat i1).length<lim:=by rw[←ew];show(_++[10]++_).length<lim;simp;exact ah 0x1f0991a210eea604b20eea604b13ef42405b0 rfl hl Q3 zu
 refine bd (qk (ss:=[textOf c6 m1.toT cN c7 w,textOf dt m2.toT cQ da w]) rfl ((congrArg (·.bind dE) (ie e2)).trans (strs_map _)) (show(2:Nat)<=lim by decide) (ew▸SZ uC)) ?_
 rw[ew]
 refine d9 rfl (M5 G (n:=n+94) (gap:=[]) (λc hc=>(nomatch hc)) I1 uC λvs g tk=>bd rfl ?_)
 have k2:ac ax h2 (h2++O.list vs::g):=ac.push
 exact QY G (t1:=m1.toT) (t2:=m2.toT) (c6:=c6) (dt:=dt) (cN:=cN) (cQ:=cQ) (c7:=c7) (da:=da) (s1.grow k2) (s2.grow k2) (k2.some oV.eg id) (k2.some e2 id) ⟨vs,mr,tk,by rw[QJ];exact Tq (C6 I1) uC⟩ (FE I1 []) uC ((zm i1 _).trans (v1.trans (congrArg (gk c6 m1.toT cN++ ·) (congrArg ((11,V.str c7):: ·) v2)))) q
end
section
variable{Γ:ay}(G:Prog Γ)
include G
theorem Q4{n nu:Nat}{ys:List Int}{h2:H}{o0:Option V}(tk:ys.length<=20)(e2:h2[nu]? =some (.list (ys.map V.int))){Q X:Post}(q:∀h',Q (.bool true) h'):
  ag aw Γ (n+100) rG [o0,some (.ref nu),none,none,none,none,none,none,none,none,none,none,none,none,none,none,none,none] h2 ⟨λ_ h=>Q .none h,Q,X⟩:=by
 have hlim:=hlim
 refine k_while G.mono (λk ρ h'=>∃zs:List Int,ρ=[o0,some (.ref nu),none,none,none,none,none,none,none,none,none,none,none,none,none,none,none,none]/\h'[nu]? =some (.list (zs.map V.int))/\zs.length<=20/\k=6-zs.length) (λnP k ρ h' kP ii=>?_) (k:=6-ys.length) ⟨ys,rfl,e2,tk,rfl⟩
 refine ry ii λzs ae e hl hk=>?_;clear ii;subst ae
 have lz:kr aw h' (.ref nu)=some (zs.length:Int):=(dn e).trans (by rw[Sn])
 have lR:(zs.length:Int)<=lim:=SR.mpr (by exact af 0xf010e142b13ef42405b0 rfl hlim hl)
 have FW:(zs.map V.int).length<=lim:=by rw[Sn];exact af 0xf010e142b13ef42405b0 rfl hlim hl
 by_cases h6:zs.length<6
 ·refine qo (p:=(zs.length:Int)<6) (aH (op:= .lt) (be rfl lz lR) rfl ti) (Tf.mpr h6) (bP rfl e (aV (aV (be rfl lz lR) rfl (mul_int ⟨by lia,by decide⟩)) rfl add_int) e (by rw[Sn];exact af 0x1f010e142b13ef42405b0 rfl hlim hl) (bp (kP _ _ ⟨6-(zs.length+1),by exact aK 0x1f023e6a9312e6a991a323e10 rfl hk (SJ (av 0xf6a91a01e6a0 rfl h6)) (SJ (av 0xf6a01e6a0 rfl h6)),zs++[(zs.length:Int)*1234567+89],rfl,(bq e).trans (by rw[SN];rfl),by simp;exact av 0xf132b01e6a0 rfl h6,by simp⟩)))
 refine xo (p:=(zs.length:Int)<6) (aH (op:= .lt) (be rfl lz lR) rfl ti) (λz=>h6 (Tf.mp z)) ?_
 have pos:0<(zs.map V.int).length:=by rw[Sn];exact av 0x1f00a0e06a rfl (S7 h6)
 have il:cq aw h' (.ref nu) (.int (-1))=some (.int (zs[(zs.map V.int).length-1]'(by rw[Sn]at pos ⊢;exact WF pos Nat.one_pos))):=(yA e pos).trans (congrArg some (Ww _))
 generalize zs[(zs.map V.int).length-1]'(by rw[Sn]at pos ⊢;exact WF pos Nat.one_pos)=z1 at il
 refine xE (show∃w:Nat,(20:Int)+z1%61=(w:Int)from⟨((20:Int)+z1%61).toNat,by lia⟩) λw hw=>?_
 refine bd (v:= .int (w:Int)) ((aV rfl (aV (aB rfl rfl il) rfl (mod_int (by decide))) add_int).trans (by rw[hw])) ?_
 have FX:3<=zs.length/2/\zs.length/2<=10/\3<=zs.length-zs.length/2/\zs.length-zs.length/2<=17:=by lia
 refine bd (v:= .int ((zs.length/2:Nat):Int)) (aV (be rfl lz lR) rfl (xF (by decide))) ?_
 generalize zs.length/2=half at FX ⊢
 have es1:bh none (some (half:Int)) (zs.map V.int)=(zs.take half).map V.int:=tm.trans WP.symm
 have Q5:bh (some (half:Int)) none (zs.map V.int)=(zs.drop half).map V.int:=(tj (by rw[Sn];lia)).trans V5.symm
 refine lV (show cH aw Γ (n+99+1) _ _ _ _ from xp (aO (xe rfl rfl (nG e FW)) rfl) ?_)
 rw[es1]
 have k3:ac ax h' (h'++[O.list ((zs.take half).map V.int)]):=ac.push
 have e3:(h'++[O.list ((zs.take half).map V.int)])[h'.length]? =some (.list ((zs.take half).map V.int)):=aE
 generalize h'++[O.list ((zs.take half).map V.int)]=h3 at k3 e3 ⊢
 refine En G (n:=n+98) e3 (by simp;lia) (by simp;exact af 0xf642b10e010e142b0 rfl hl (TD _ _)) λh4 dR m1 Sj c6 cN c7 mI zC Q6 Q7 Q8 D1 p1 r1 lo1 Sk Q9=>?_
 generalize zD:h4++[O.tup [.ref dR,.ref m1.a,.int (Int.ofNat cN),.str c7]]=h5
 have FY:ac ax h4 h5:=zD▸ac.push
 have u1:h5[h4.length]? =some (.tup [.ref dR,.ref m1.a,.int (Int.ofNat cN),.str c7]):=by rw[←zD];exact aE
 have l5:h5.length=h4.length+1:=by rw[←zD];simp
 refine xp (aO (qj rfl rfl (nG ((k3.trans (mI.trans FY)).some e id) FW)) rfl) ?_
 rw[Q5]
 have f5:ac ax h5 (h5++[O.list ((zs.drop half).map V.int)]):=ac.push
 have e6:(h5++[O.list ((zs.drop half).map V.int)])[h5.length]? =some (.list ((zs.drop half).map V.int)):=aE
 generalize h5++[O.list ((zs.drop half).map V.int)]=h6 at f5 e6 ⊢
 refine En G (n:=n+98) e6 (by simp;exact av 0xf01a0e03a rfl FX.2.2.1) (by simp;exact af 0xf91642b00e142b0 rfl hl) λh7 dS m2 Sl dt cQ da lw zE Ra Rb Rf D2 p2 r2 lo2 Rg Rh=>?_
 generalize zF:h7++[O.tup [.ref dS,.ref m2.a,.int (Int.ofNat cQ),.str da]]=h8
 have zG:ac ax h7 h8:=zF▸ac.push
 have u2:h8[h7.length]? =some (.tup [.ref dS,.ref m2.a,.int (Int.ofNat cQ),.str da]):=by rw[←zF];exact aE
 have l8:h8.length=h7.length+1:=by rw[←zF];simp
 have uD:ac ax h8 (h8++[O.list [.ref h4.length,.ref h7.length]]):=ac.push
 have eg:(h8++[O.list [.ref h4.length,.ref h7.length]])[h8.length]? =some (.list [.ref h4.length,.ref h7.length]):=aE
 have rj:=f5.len
 have FZ:ac ax h4 (h8++[O.list [.ref h4.length,.ref h7.length]]):=FY.trans (f5.trans (lw.trans (zG.trans uD)))
 have F0:ac ax h7 (h8++[O.list [.ref h4.length,.ref h7.length]]):=zG.trans uD
 have Ri:dR<h4.length:=by refine am zC λas z _=>?_;clear zC;exact aC z
 have Rj:dS<h7.length:=by refine am zE λas z _=>?_;clear zE;exact aC z
 refine Q0 G (L1:=h5.length) ⟨uD.some (zG.some (lw.some (f5.some u1 id) id) id) id,uD.some u2 id,eg,zC.old FZ,zE.old F0⟩ (D1.mine.grow FZ) (D2.mine.grow F0) D1.nd D2.nd (D1.pure (by simp;exact af 0xf1e2b10e010e142b0 rfl hl (TD _ _)) Q6 Q7 Q8 p1 r1) (D2.pure (by simp;exact af 0xf911e2b00e142b0 rfl hl) Ra Rb Rf p2 r2)
  (λy hy=>⟨by exact ah 0x1f021e123e91a10 rfl l5 ((aR.lt D1.mine) y hy),Q9 y hy⟩) (λy hy=>⟨by exact ah 0xf200e210e10 rfl rj (Rg y hy),Rh y hy,by exact ah 0x1f021e123e91a10 rfl l8 ((aR.lt D2.mine) y hy)⟩) ⟨by exact ah 0x1f021e123e91a10 rfl l5 Ri,by exact ah 0xf120e020e10 rfl lo2 rj,by exact aK 0xf020e130e323e91a10 rfl l8 rj lw.len⟩ (by exact ah 0x1f021e123e91a10 rfl l8 Rj) q
end
end Mine
namespace Mine
open PySem PySem.W PySem.Calls PyProof.Rows PySem.Spec
noncomputable def f7(w:World)(mg mb:PySem.Str->Option Value)(h:Heap):Cx where
 prog:=PySem.Challenge.pw_nt0448_01
 w:=w
 R:=aP
 T:=aw
 fns:=λf=>if f=54 then none else fns f
 jg:=λf=>(jK h (aP.b7 f)).getD default
 bad:=51
 gn:=25
 K:=pQ h
 mg:=mg
 mb:=mb
 Z:=Zx aP 51
theorem Rk{h:Heap}{a:Addr}{m m':PySem.Str->Option Value}(x:h.Ns a m)(y:h.Ns a m'):∀n,m n=m' n:=by
 refine lC x λo es ep e d _ f=>?_;clear x
 refine lC y λo' es' Sm e' d' _ f'=>?_;clear y
 rw[e]at e';obtain rfl:=Sv e'
 rw[d]at d';rcases d' with⟨⟩
 intro n
 rw[←f n,f' n]
theorem F1{f:Nat}{fn:Fn}(e:fns f=some fn):f<55:=am (Option.join_eq_some_iff.mp e |> λz=>(⟨_,z,rfl⟩:∃x,zZ[f]? =some x/\x=x)) λx a _=>(Sr.mp a).1
section
variable{w:World}{mg mb:PySem.Str->Option Value}{h h1:Heap}{loose:List PySem.Str}{mean:ExcName->Option Value}
theorem F3{f:Nat}{fn:Fn}(hf:(if f=54 then none else fns f)=some fn):f≠54/\fns f=some fn:=
 if c:f=54 then nn ((if_pos c).symm.trans hf)else ⟨c,(if_neg c).symm.trans hf⟩
theorem F5(e:nA h=true)(sg:h.get? 89=some (qb w))(k:∀b o,h.get? b=some o->h1.get? b=some o)(Tp:PyProof.Rows.Top vq loose mean mg mb h1):Bs (f7 w mg mb h) h1/\gH (f7 w mg mb h)/\
  ∃fd,jK h 484=some fd/\pR true ph (eI 54) fd=true/\codeB h fd=true/\wF fd=true:=by
 have e3:=an (an e).1
 have e4:=an e3.1
 have el:=(an e).2
 refine zJ e4.1 λa1 a2 a3 a4 a5 a6 a7 a8 a9 F6=>?_
 have lx:∀x,mg x=h.nsMap mainGlobals x:=Rk Tp.g ((Heap.Ns.of_isNs a1).keeps k)
 have ec:=b8 e3.2
 have at_:∀{n:Nat} {p:Nat->Bool},(List.range n).all p=true->∀i,i<n->p i=true:=λa i hi=>Tl.mp a i (Vj.mpr hi)
 refine⟨{g:=Tp.g,b:=Tp.b,nolimit:=Tp.nolimit,nodigits:=Tp.nodigits,blt:=λx hx=>?_,glob:=λi hi=>?_,gt:=λi=>?_,single:=(KB sg).keep k,pI:=(lx _).trans (of_decide_eq_true F6),x:=(Kk h).keeps k,k:=Ky a7,fn:=λf hf=>?_,code:=λf fn hf=>?_,cls:=λc hc=>(lx _).trans (of_decide_eq_true (at_ a8 c hc)),seer:=Tp.seer (by decide+kernel),tree:=rfl},
  LD (C:=f7 w mg mb h) e4.2 rfl ((lx _).trans (of_decide_eq_true ec.1.1)) ((lx _).trans (of_decide_eq_true ec.1.2)) ((lx _).trans (of_decide_eq_true ec.2)) ((Tp.builtins _ (by decide)).trans (by decide+kernel)),am (pD el) λfd a b=>⟨fd,a,(b8 b).1.1,(b8 b).1.2,(b8 b).2⟩⟩
 ·have hb:∀x∈rN,(bootBuiltins x).isSome=true/\x≠"__name__":=by decide+kernel
  exact xE (UZ.mp (hb x hx).1) λv hv=>⟨(lx x).trans (Vz.mp (Tl.mp a9 x hx)),v,hv,(Tp.builtins x (hb x hx).2).trans hv⟩
 ·exact am (Kv (at_ a4 i hi)) λv a b=>⟨v,(lx _).trans a,b⟩
 ·by_cases hi:i<7
  ·exact bK (BV (at_ a6 i hi)) λvs n g v=>⟨vs,n,k _ _ g,v⟩
  ·refine bK (BV a5) λvs n g v=>?_
   have e1:aP.mS i=11:=by show ga.getD i 11=11;rw[List.getD_eq_getElem?_getD,U9 (show ga.length<=i from S7 hi)];rfl
   have e2:aw.gt i=[]:=by show((u4[i]?).map (·.2)).getD []=[];rw[U9 (show u4.length<=i from S7 hi)];rfl
   exact⟨vs,n,e1.symm▸k _ _ g,e2.symm▸v⟩
 ·have hf:aP.named f=true:=hf
  have hl:f<55:=of_decide_eq_true (an (an (an hf).1).1).1
  have:=an ((congrArg (λb=> !b||_) hf).symm.trans (at_ a3 f hl))
  exact xE (UZ.mp this.2) λfd hfd=>am (wi hfd) λo ho hd=>⟨(lx _).trans (of_decide_eq_true this.1),o,fd,k _ _ ho,hd⟩
 ·have hf:=(F3 hf).2
  refine aN (BQ (at_ a2 f (F1 hf)) hf) λfd hfd _ c=>am (wi hfd) λo ho hd=>?_
  have e1:(f7 w mg mb h).jg f=fd:=by show(jK h (aP.b7 f)).getD default=fd;rw[hfd];rfl
  exact e1.symm▸⟨o,k _ _ ho,hd,(BP c).keeps k⟩
theorem Rl(e:nA h=true):∀f fn,(f7 w mg mb h).fns f=some fn->∃ns body,pN (f7 w mg mb h) false ((f7 w mg mb h).jg f) fn ns body:=λf fn hf=>by
 have hf:=F3 hf
 have a2:=zJ (an (an (an e).1).1).1 λa1 a2 a3 a4 a5 a6 a7 a8 a9 F6=>a2
 refine aN (BQ (Tl.mp a2 f (Vj.mpr (F1 hf.2))) hf.2) λfd hfd b _=>?_
 have e1:(f7 w mg mb h).jg f=fd:=by show(jK h (aP.b7 f)).getD default=fd;rw[hfd];rfl
 have f0:(f==54)=false:=decide_eq_false hf.1
 rw[f0]at b
 rw[e1]
 exact xE (BO (C:=f7 w mg mb h) rfl rfl b) λbody kk=>⟨_,body,kk⟩
theorem uE:∀c,c<3->aP.b7 (aw.init c)=aP.init c:=by decide+kernel
theorem Rm(e:nA h=true)(X:gH (f7 w mg mb h)):Prog (Sp (f7 w mg mb h)):=by
 have Z:=Cb X rfl uE
 have K:=closed (C:=f7 w mg mb h) uE Z (Rl e)
 exact⟨λhf ne q=>K.intro (by show(if _=54 then none else fns _)=_;rw[if_neg ne];exact hf) q,⟨λhq hx q=>K.mono hq hx q⟩⟩
end
theorem Rn{R:RT}{φ:Pl}{ys:List Int}{vs:List Value}(h:IntsAre vs ys):aD R φ (ys.map V.int) vs:=by
 induction h with
 |nil=>exact .nil
 |cons _ _ _ ih=>exact .cons ⟨_,rfl⟩ ih
section
variable{w:World}{mg mb:PySem.Str->Option Value}{s₁:Shared}{h:Heap}{mean:ExcName->Option Value}{loose:List PySem.Str}
theorem Ro{prog:Program}{w:World}{A:Around}{s:Shared}{fd:FuncData}{body:List Stmt}{f:Addr}{fo:Obj}{args:Args}{binds:List (PySem.Str×Value)}{R:Result->Shared->Prop}(kb:fd.body= .stmts body)(kg:fd.globals=mainGlobals)(kc:fd.closure=[])(pO:fd.builtins=builtinsNs)
  (hroom:A.depth<recursionLimit) (ho:s.heap.get? f=some fo) (hd:fo.data= .func fd) (hlim:s.heap.NoLimit) (hcd:s.heap.CodeRec fd.code fd.qualname) (hbind:BindsTo s fd args binds) (hcell:∀x∈fd.scope.names,x.2≠ .cell) (hloc:∀y∈binds,fd.scope.names.lookup y.1=some .local)
  (h:∀h₀,h₀.Ns s.heap.objs.size (λx=>binds.reverse.lookup x)->(∀b o,s.heap.get? b=some o->h₀.get? b=some o)->
   wpAny (model prog w) (A.deeper (envX fd.qualname fd.scope s.heap.objs.size f fd.code [])) (execs body (envX fd.qualname fd.scope s.heap.objs.size f fd.code [])) (λf s'=>R (.ok (.ret (match f with| .ret v=>v|_=> .none))) s')
    (λe s'=>wpAny (model prog w) (A.deeper (envX fd.qualname fd.scope s.heap.objs.size f fd.code [])) (leaving (envX fd.qualname fd.scope s.heap.objs.size f fd.code []) e) (λ_ s''=>R (.error e) s'') (λe' s''=>R (.error e') s'') s')
    {s with heap:=h₀,toks:=s.toks+binds.length})
  (hco:fd.scope.isCoroutine=false) (hgen:fd.scope.isGenerator=false) (hk:fd.scope.kind= .function):codeAny (model prog w) A (.call (.ref f) args) R s:=by
 have e:=Bw kb kg kc pO
 exact codeAny_call_def hroom ho (hd.trans (congrArg Data.func e)) hlim hcd rfl (Eq.mp (congrArg (λd=>BindsTo s d args binds) e) hbind) hcell hloc h hco hgen hk
theorem Rp(e:nA h=true)(sg:h.get? 89=some (qb w))(k:∀b o,h.get? b=some o->s₁.heap.get? b=some o)(Tp:PyProof.Rows.Top vq loose mean mg mb s₁.heap)
  {l:Addr} {items:Array Value} {ys:List Int} (hl:s₁.heap.IsList l items) (hi:IntsAre items.toList ys) (hz:ys.length<=1000):
  wpAny (model PySem.Challenge.pw_nt0448_01 w) callerA (PySem.call (.ref 484) [.ref l]) (λv s'=>v= .bool true/\(∃L m,Fr s₁.heap L s'.heap m)/\Rest s₁ s') (λ_ _=>False) s₁:=by
 refine Gj (F5 e sg k Tp) λB X fd hfd Rq hcb hlb=>?_
 refine am (wi hfd) λo ho hd=>?_
 refine xE (BO (C:=f7 w mg mb h) rfl rfl Rq) λbody K=>?_
 have G:=Rm (w:=w) (mg:=mg) (mb:=mb) e X
 refine zT (LG hlb) λq1 q2 q3 q4 q5 q6 q7 q8 kk sts hb i1 i0 il fj=>?_
 have hcd:=BP hcb
 have hbind:([("script",Value.ref l)]:List (PySem.Str×Value))=((eI 54).take 1).zip [.ref l]:=by rw[show(eI 54).take 1=(["script"]:List PySem.Str)by decide+kernel];rfl
 refine UA (Ro hb K.globals K.closure K.builtins (binds:=[("script",.ref l)]) (by decide) (k _ _ ho) hd B.nolimit (hcd.keeps k) (Vr (by rw[hbind];exact K.binds [.ref l] rfl)) K.cell (λy hy=>?_) (λg hns st=>?_) K.co K.gen K.kind)
 ·rw[Sx.mp hy]
  exact K.loc _ (by rw[show(eI 54).take ph.params=(["script"]:List PySem.Str)by decide+kernel];exact Sx.mpr rfl)
 let e':Env:=envX fd.qualname fd.scope s₁.heap.objs.size 484 fd.code []
 let kK:Fx:={A:=callerA.deeper e',A₀:=callerA,base:=s₁.heap,outer:=[],fe:=e',env:=e',h₀:=s₁.heap,L:=s₁.heap.objs.size,n:=100}
 let C':=f7 w mg mb h
 have O:kK.Ok C':={below:=below_caller _,frames:=rfl,fL:=rfl,gy:=K.kind,ky:=K.gen,kD:=K.co,jG:=rfl,kE:=rfl,handled:=rfl,kind:=K.kind,globals:=rfl,builtins:=rfl,bs:=B,room:=show callerA.depth+1+3*100+102<1000/\callerA.units+3+16*100+128<9900 by decide}
 have W:kK.Own (eI 54):=⟨rfl,K.nd⟩
 have m0:∀y,(λy=>([("script",Value.ref l)]:List (PySem.Str×Value)).reverse.lookup y) y=if y="script" then some (.ref l)else none:=by
  intro y
  show List.lookup y [("script",Value.ref l)]=_
  rw[TO]
  by_cases hy:y="script"
  ·subst hy;rfl
  ·rw[if_neg hy,show(y=="script")=false by simpa using hy];rfl
 have Rr:Re C'.R s₁.heap s₁.heap.objs.size [] [] [] g:=by
  refine⟨rfl,?_,?_,?_,?_⟩
  ·intro i p o a;simp at a
  ·intro p hp;exact nm hp
  ·intro i j p q a;simp at a
  ·intro q hq;exact nm hq
 have Ru:∀m,Lo C'.R [] (eI 54) (List.replicate 18 none) m:=λm=>⟨by rw[K.len];rfl,λi x v a b=>by rw[U0]at b;split at b<;>rcases b with⟨⟩⟩
 have s0:St C' kK (eI 54) (List.replicate 18 none) (λy=>([("script",Value.ref l)]:List (PySem.Str×Value)).reverse.lookup y) (λy=>([("script",Value.ref l)]:List (PySem.Str×Value)).reverse.lookup y) [] [] [] s₁ {s₁ with heap:=g,toks:=s₁.toks+1}:=
  ⟨⟨hns,λb o e=>st b o e,SW _⟩,Rr,Ru _,.inl ⟨rfl,rfl⟩,Rest.refl⟩
 simp only[cF,S8,beq_iff_eq,To]at i1 i0
 refine bK (show∃o n,s₁.heap.get? l=some o/\o.cls= .type "list"/\o.data= .seq items n from by
  obtain⟨o,a,b,n,c⟩:=hl;exact⟨o,n,a,b,c⟩) λL0 n0 sh hl1=>?_
 have hl2:g.IsList l items:=⟨L0,st _ _ sh,hl1.1,n0,hl1.2⟩
 have hsz:items.size<=1000:=by rw[←S5,hi.length];exact hz
 show wpAny _ (callerA.deeper e') (execs _ e') _ _ _
 refine T7 (Wo (Call_ (kG O s0 (by decide) VO il (rU rfl (wpAny_Subscript_list_slice (Wy (UN K.kind (show e'.kindOf "script"=some .local from i0.1.2) s0.fr.ns (m0 _) (wpAny_evalPart_none (wpAny_evalPart_some (T6 ?_)))) i0.2))))) ?_)
 ·refine⟨l,items,none,some 20,rfl,hl2,SQ hsz (by decide),.none,.int 20 _,?_⟩
  have vr:aD aP [] (bh none (some 20) (ys.map V.int)) (slicePick items none (some 20) none).toList:=by
   rw[Ao]
   exact(Rn hi).sl _ _
  have hlen:(bh none (some 20) (ys.map V.int)).length<=1000:=SQ (Au _ _ _) (by rw[Sn];exact hz)
  generalize hO:({cls:= .type "slice",data:= .fields #[.none,.int 20 (s₁.toks+1),.none]}:Obj)=ru
  generalize slicePick items none (some 20) none=its at vr
  have kp:∀b o,g.get? b=some o->((g.push ru).push {cls:= .type "list",data:= .seq its}).get? b=some o:=λb o e=>SO _ (SO _ e)
  have gl:((g.push ru).push {cls:= .type "list",data:= .seq its}).get? (g.objs.size+1)=some {cls:= .type "list",data:= .seq its}:=by
   rw[←VT g ru]
   exact TF _ rfl
  have s1:=s0.keep (tk:=s₁.toks+1+1) kp
  refine call_list_seq _ (.inl rfl) gl rfl rfl (λh' c' k' gg=>?_) (by rw[←S5,vr.length];exact SQ hlen (by decide))
  have s2:=s1.newObj (tk:=s₁.toks+1+1) (p:=(((g.push ru).push {cls:= .type "list",data:= .seq its}).objs.size,((g.push ru).push {cls:= .type "list",data:= .seq its}).objs.size)) (o:= .list (bh none (some 20) (ys.map V.int))) k' (SW _) (SW _) ⟨_,c',gg,vr.mono (S6 _ _),rfl⟩
  refine TG (show e'.kindOf "nums"=some .local from i1.1.2) s2.fr.ns (λh₂ hn₂ hs₂=>?_) O.store
  have s3:=s2.names (tk:=s₁.toks+1+1+1) rfl hn₂ hs₂.extBut (lM K.nd s2.lo i1.1.1 (iL s1.len))
  have q:=Q4 G (n:=0) (nu:=0) (ys:=bh none (some 20) ys) (h2:=[]++[.list (bh none (some 20) (ys.map V.int))]) (o0:=none) (by rw[show(some (20:Int))=some ((20:Nat):Int)from rfl,tm,TK];exact(Uy _ _)) (by rw[show(some (20:Int))=some ((20:Nat):Int)from rfl,tm,tm,WP];rfl) (Q:=λv _=>v= .bool true) (X:=λ_ _=>False) (λ_=>rfl)
  refine Ti ((Bt uE (Cb X rfl uE) O W rfl (top:=true) (λ_=>rfl) rG sts fj _ _ _ _ _ _ q) s₁ _ (λ_ _=>False) s3 (by show 1<=_+1;exact av 0xf91a01a rfl) WD λ_ _ _ _ _ _ z _=>z) (λfl s' hh=>?_) λ_ _ z=>z.elim
  cases fl with
  |next=>
   refine fH hh λφ' h' ρ' m' p s' qx=>?_;clear hh
   (rcases qx with⟨⟩)
  |ret v=>
   refine pd hh λφ' h' ρ' m' x p s' vx qx=>?_;clear hh
   obtain rfl:x= .bool true:=qx
   exact⟨vx,⟨_,_,s'.fr⟩,s'.rest⟩
  |_=>exact hh.elim
 ·exact m7 rfl
end
theorem band{a b:Bool}(h:a=true)(k:b=true):(a&&b)=true:=by rw[h,k];rfl
set_option maxHeartbeats 8000000 in
theorem Rv:PySem.Challenge.rw_nt0448_01.wellSaid=true:=by
 delta OpenLaw.wellSaid OpenRow.wellSaid OpenRow.partSaid looksOpen
 repeat' (with_reducible refine band ?_ ?_)
 all_goals decide+kernel
theorem walk{d:DefRec}{kwd:List (PySem.Str×PySem.Expr)}(hname:d.name="law"):WalkX vq lq (λ_ _=>True) sM sN PySem.Challenge.rw_nt0448_01.row.toRowW d kwd λf vs=>PySem.call f vs:=by
 intro w s₀ s₁ mg mb G y fa o pm cd doc dV kV ho hd hcd hD hmg hg args vals as L hpre hlay hrd hwl hlo
 have e:nA s₀.heap=true:=congrArg Prod.fst y
 have sg:s₀.heap.get? 89=some (qb w):=congrArg Prod.snd y
 refine Ground.open G ?_
 intro T B D TE TW
 have F7:Value.ref fa= .ref 484:=by
  have z:mg (aP.fname 54)=some (.ref 484):=((F5 e sg L.keeps T).1.fn 54 rfl).1
  rw[show aP.fname 54=("law":PySem.Str)by decide+kernel,←hname]at z
  exact Sv (hmg.symm.trans z)
 rw[F7]
 clear ho hd hcd hD B D TE TW hmg F7 hname
 have keeps:=L.keeps
 wrow_args hpre hlay hrd hwl hlo
 rename ¬_<_=>hc
 rename IntsAre _ _=>hI
 rename Heap.IsList _ _ _=>hL
 refine Ti (Rp e sg keeps T hL (by exact hI) (by lia)) (λv s' hh=>?_) λ_ _ z=>z.elim
 obtain⟨rfl,⟨L',m,F⟩,r⟩:=hh
 exact GoodW.toG (goodW_bool F (r.1.trans hg) (raisesW_false (by wrow_none_raised)) (by wrow_post) r.2.2)
end Mine
open PySem PySem.W PySem.Calls PyProof.Rows PySem.Spec Mine in
set_option maxHeartbeats 8000000 in
theorem PySem.Challenge.cw_nt0448_01_holds : PySem.Challenge.rw_nt0448_01.Holds := by
 refine holds_law Rv λsaid=>?_
 refine holds_openX (q:=vq) (loose:=lq) (Xt:=λ_=>true) (XP:=λ_ _=>True) (Yf:=sM) (Ya:=sN) (N:=6574) LO (λ_ _=>trivial) (λ_ _ _ _ _=>trivial) (by rfl) (by rfl) (by rfl) (λs e=>?_) rfl (by assumption) (by decide+kernel) ⟨rfl,rfl,rfl,rfl,rfl,by decide+kernel⟩ ?_ (walk rfl)
 ·exact recFacts_nil rfl
 ·w_witness2
