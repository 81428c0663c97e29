/- Part of the proof: QZH. Conditions: as each statement tells. -/
import Derived.Test.YtkikcohfbelmeaaGreatDoorRows
import Derived.ProofKit
import Derived.LaidMore
import Derived.LaidLaws
import Derived.LaidHandle
import Derived.LaidByTextLater
import Derived.Handed
import Derived.Test.YtkikcohfbelmeaaGreatDoorME
noncomputable section
set_option linter.unusedSimpArgs false
set_option linter.unusedVariables false
open BitVec renaming ofInt->A6,toNat_ofInt->E5,toNat_and->J0,eq_of_getLsbD_eq->J3,getLsbD->K3,ofInt_natCast->K6,toNat_ofNat->L4,toNat_or->N5
open Bool renaming true->ka,false->kb,and_self->B6,not_false->C3,eq_false_iff->E9,or_eq_false_iff->K5,true_and->L0,not_eq_true'->L9,eq_iff_iff->N6
open Decidable renaming decide->A3
open Int renaming eq_ofNat_of_zero_le->A4,natCast_nonneg->C2,toNat->D0,tdiv->D1,tmod->D9,natCast_mul->F2,toNat_of_nonneg->H1,cast_ofNat_Int->H7,fdiv_eq_ediv_of_nonneg->I4,emod_emod_of_dvd->K7
open List renaming replicate->A8,getElem_mem->A9,length_nil->B3,append_eq->B4,length_singleton->B8,range->C0,nil_append->C4,all_cons->C5,length_map->C6,flatMap_cons->D3,take_succ_eq_append_getElem->D5,not_mem_nil->D6,range_succ->D7,append_nil->D8,length->E2,take_length->E3,map_congr_left->E4,map_cons->E6,eq_nil_or_concat->E7,mem_map->F0,range_add->F4,foldl_append->F5,getD->F6,drop_eq_nil_of_le->F7,eq_replicate_iff->F8,mem_flatMap->F9,ext_getElem->G3,mem_of_mem_drop->G5,foldl_cons->G7,map_map->G8,flatMap_append->H2,filter_append->I0,mem_or_eq_of_mem_set->I6,drop_eq_getElem_cons->I7,cons_append->I9,length_eq_zero_iff->J2,take_of_length_le->J5,all_append->J6,set->J7,length_set->J8,concat_eq_append->K0,drop_zero->K1,mem_range->K4,mem_of_mem_take->K8,getD_cons_succ->L1,replicate_succ->L3,getElem?_drop->L5,take->L8,ext_getElem?->M7,getElem?_map->M9,flatMap_map->N1,drop_length->N2,append->N4,take_zero->N7,drop->N8
open Nat renaming lt_trans->B7,mul_le_mul->B9,mod_lt->C1,mul_le_mul_right->C8,pow_le_pow_right->D2,mod_eq_of_lt->E1,le_refl->E8,two_pow_pos->F1,mul_comm->F3,and_two_pow_sub_one_eq_mod->G4,div_lt_of_lt_mul->G6,le_of_lt->G9,zero_add->H0,two_pow_add_eq_or_of_lt->H3,mul_div_cancel->I3,mul_mod->I5,add_assoc->I8,add_zero->J1,le_mul_of_pos_right->J4,le_sub_one_of_lt->K9,pos_of_ne_zero->L6,eq_zero_or_pos->L7,or_lt_two_pow->M6,lt_succ_of_lt->M8,pow_mul->N3
open Option renaming some->kc,none->kd,bind_eq_some_iff->A7,map_eq_some_iff->D4,none->J9
open Sum renaming inl->C7,inr->C9
namespace Go.Ab
open IntKind renaming wrap->zB
def AP(k:Int)(s:BN):BN:=(k,(0:Int),(if k=2 then s.2.2.1 else 0),(if k=3\/k=4 then s.2.2.2.1 else 0),(if k=4 then s.2.2.2.2.1 else 0),(if k=3\/k=4 then s.2.2.2.2.2.1 else[]),((if k=4 then s.2.2.2.2.2.2.1 else A8 3 (0:Int)),(if k=5 then s.2.2.2.2.2.2.2.1 else[]),([]:List Int),((0:Int),([]:List Int),()),([]:List Int),()))
def z0:Xq:=((0:Int),([]:List Int),())
def Dw(s:BN)(w:Nat)(wm:List Int)(p:Xq)(r:List Int):BN:=(s.1,(w:Int),s.2.2.1,s.2.2.2.1,s.2.2.2.2.1,s.2.2.2.2.2.1,s.2.2.2.2.2.2.1,s.2.2.2.2.2.2.2.1,wm,p,r,())
theorem b5C{s:BN}(h:sO s)(k:Int):Kt (k,s)=kc (AP k s):=by
 have f:short s.2.2.2.2.2.1:=by have:=h.uV;unfold short;omega
 have g:short s.2.2.2.2.2.2.2.1:=by have:=h.stages;unfold short;omega
 grind[Kt,AP,bD,lJ]
theorem fG{s:BN}(h:sO s)(k:Int):sO (AP k s):=by have g:=h.uV;have f:=h.taps;have a:=h.stages;refine⟨?_,?_,?_,by simp[AP],by simp[AP],by simp[AP]⟩<;>simp only[AP]<;>split<;>first|omega|simp
theorem bQ{s:BN}{k n:Int}:LG (AP k s).1 (AP k s) n↔LG k s n:=by unfold LG AP;grind
open Classical in
def Hr (l:List Int):Nat:=if h:∃w,Pi l w then h.choose else 0
theorem b3J{l:LI}{w:Nat}(h:Pi l w):Hr l=w:=by unfold Hr;rw[dif_pos ⟨w,h⟩];exact(Classical.choose_spec (⟨w,h⟩:∃w,Pi l w)).unique h
def Bm(l:List Int):List Int:=l.map λx=>Au .i64 x (Hr l:Int)
theorem ML{l:LI}(h:short l)(g:l.all Ae=ka):Ft l=kc (Hr l:Int)/\Hr l<=30/\Pi l (Hr l):=by grind[jA,b3J]
theorem jD{l:LI}(h:short l)(g:l.all Ae=ka):JP l=kc (Hr l:Int):=by grind[a3h,b3J]
theorem Ie{l:LI}(a:l.length<=4096)(f:l.all Ae=ka):Xx (Hr l:Int) l=kc (Bm l)/\(Bm l).all Ae=ka/\(Bm l).length=l.length/\a8P (Hr l:Int) (Bm l)=kc l:=by obtain⟨-,g,k⟩:=ML (show short l by unfold short;omega) f;have h:=c1f g f k;exact⟨h,c1c g h⟩
theorem lZ{l:LI}(q:l.length<=4096)(g:l.all Ae=ka):Ua (l,((Hr l:Nat):Int))=kc (Bm l,0):=by
 have h:short l:=by unfold short;omega
 have n:=jD h g;obtain⟨-,p,-⟩:=ML h g;have k:A3 (((Hr l:Nat):Int)<0)=kb:=by simp
 have j:A3 (((Hr l:Nat):Int) > 30)=kb:=by grind
 have m:A3 (((Hr l:Nat):Int)<((Hr l:Nat):Int))=kb:=by simp
 have d:zB .u64 ((Hr l:Nat):Int)=((Hr l:Nat):Int):=Av (by omega)
 have:=AD (f:=QX) (λi:Nat=>(l,((Hr l:Nat):Int),(i:Int),(Bm l).take i,())) l.length (b:=(Bm l,()))
  (λi a=>by
   have c:(Bm l).length=l.length:=by simp[Bm]
   have o:AZ (((Bm l).take i).length+1)=ka:=Aw (by grind);have e:(Bm l).take i++[Au .i64 l[i] ((Hr l:Nat):Int)]=(Bm l).take (i+1):=by
    grind[RC,Bm]
   simp only[QX,Bp a,cT,Ac a,oB,d,k,cF,o,B4,e,Aa (show i<1000000 by omega)])
  (by simp_all[QX,J5,Bm])
 simp at this;unfold Ua;simp only[k,j,cF,oB,AC h,g,bT,n,m,this]
theorem a3l{l d:LI}{o k:Int}(n:short d):Ah Fb (l,o,d,k,(1:Int),([]:List Int),())=kc (l,o,k,a9g d,()):=by
 have p:d.length<1000000:=n
 have:=AD (f:=Fb) (λi:Nat=>(l,o,d,k,((i+1:Nat):Int),(a9g d).take i,())) (d.length-1) (b:=(l,o,k,a9g d,()))
  (λi r=>by
   have h:i+1<d.length:=by omega
   have g:i<d.length:=by omega
   have j:AZ (((a9g d).take i).length+1)=ka:=Aw (by grind);have c:zB .i64 (((i+1:Nat):Int)-1)=(i:Int):=by grind[Al]
   have q:=pI d i _ _ (lG g) (lG h);have m:i<(a9g d).length:=by grind
   have e:(a9g d).take i++[zB .i64 (d[i+1]-d[i])]=(a9g d).take (i+1):=by
    grind[RC]
   simp only[Fb,Bp h,cT,Ac h,c,Ac g,oB,j,B4,e,Aa (show i+1<1000000 by omega)])
  (by
   have a:A3 (((d.length-1+1:Nat):Int)<((d.length:Nat):Int))=kb:=dF (by omega);simp only[Fb,a,cF];simp_all[J5,Mv])
 simp_all
theorem Ut{l:LI}{o:Nat}(r:o<=4)(q:o<=l.length)(g:short l)(n:l.all Ae=ka):
  Df (l,(o:Int))=kc (bif (Hq o l).all Ae then(Hq o l,0)else([],6)):=by
 have m:l.length<1000000:=g;have h:=AD (f:=HS) (λk:Nat=>(l,(o:Int),Hq k l,(k:Int),())) o (b:=(l,Hq o l,()))
  (λk p=>by
   have a:A3 ((k:Int)<(o:Int))=ka:=by simp_all
   simp only[HS,a,cT,a3l (Sn g k),oB,Aa (show k<1000000 by omega),Hq])
  (by
   have a:A3 ((o:Int)<(o:Int))=kb:=by simp
   simp_all[HS])
 have c:A3 ((o:Int)<0)=kb:=by simp
 have d:A3 ((o:Int) > 4)=kb:=by grind
 have e:A3 (((l.length:Nat):Int)<(o:Int))=kb:=by simp_all
 have i:AZ (0+l.length)=ka:=AN (by omega);simp at h;have j:Hq 0 l=l:=rfl;rw[j]at h;unfold Df;simp only[c,d,e,i,cF,cT,oB,B4,C4,h,AC g,n,bT,AC (Sn g o)];grind
def JA(k:Int)(s:BN)(d:List Int):Option (List Int×List Int):=
 if k=2 then(bif (Hq s.2.2.1.toNat d).all Ae then Option.some (d.take s.2.2.1.toNat,Hq s.2.2.1.toNat d)else J9)
 else if k=3 then(Zr d s.2.2.2.2.2.1 s.2.2.2.1).map λr=>(d.take s.2.2.2.2.2.1.length,r)
 else if k=4 then(VA d s.2.2.2.2.1 s.2.2.2.2.2.2.1).bind λx=>(Zr x s.2.2.2.2.2.1 s.2.2.2.1).map λr=>(x.take s.2.2.2.2.2.1.length,r)
 else(Ri d s.2.2.2.2.2.2.2.1).map λr=>([],r)
theorem a1b{k:Int}{s:BN}{d f r:LI}(l:k=2\/k=3\/k=4\/k=5)(j:LG k s (d.length:Int))(o:d.all Ae=ka)(h:JA k s d=kc (f,r)):f.length<=d.length/\r.length=d.length-f.length/\r.all Ae=ka/\f.all Ae=ka:=by
 have a:=j;simp only[LG]at a;rcases l with rfl|rfl|rfl|rfl;have:0<=s.2.2.1/\s.2.2.1<=(d.length:Int):=by omega
 simp[JA]at h;cases hq:(Hq s.2.2.1.toNat d).all Ae with|false=>simp_all|true=>simp[hq]at h;obtain⟨rfl,rfl⟩:=h;simp_all[Ka,Uq]
 have:(s.2.2.2.2.2.1.length:Int)<=(d.length:Int):=by omega
 simp only[JA,show ¬ (3:Int)=2 by simp,if_false,if_true,D4,pJ]at h;obtain⟨e,g,rfl,rfl⟩:=h;obtain⟨-,b,c⟩:=fC g;grind;have:(s.2.2.2.2.2.1.length:Int)<=(d.length:Int):=by omega
 simp only[JA,show ¬ (4:Int)=2 by simp,show ¬ (4:Int)=3 by simp,if_false,if_true,A7,D4,pJ]at h;obtain⟨x,i,e,g,rfl,rfl⟩:=h;obtain⟨-,m,n⟩:=Yv i;obtain⟨-,b,c⟩:=fC g;grind;simp only[JA,show ¬ (5:Int)=2 by simp,show ¬ (5:Int)=3 by simp,show ¬ (5:Int)=4 by simp,if_false,D4,pJ]at h;obtain⟨e,g,rfl,rfl⟩:=h;obtain⟨-,b,c⟩:=a0S g;simp_all
theorem b8F{k:Int}{s:BN}{d:LI}(A:k=2\/k=3\/k=4\/k=5)(h:sO s)(z:LG k s (d.length:Int))(G:d.length<=4096)(B:d.all Ae=ka)(w:Nat):SH (Dw (AP k s) w [] z0 [],d)=kc (match JA k s d with|none=>(6,Dw (AP k s) w [] z0 [])|some (wm,r)=>(0,Dw (AP k s) w wm z0 r)):=by
 have q:=h.taps;have g:=h.stages;have j:short d:=by unfold short;omega
 obtain⟨H,K,o,l,f,c,t,m,C,p,I,u⟩:=s;simp only[LG]at z q g;unfold SH;rcases A with rfl|rfl|rfl|rfl;obtain⟨y,F,i⟩:0<=o/\o<=4/\o<=(d.length:Int):=by omega
 obtain⟨O,rfl⟩:=A4 y;have g:short (d.take O):=by unfold short;grind
 have n:A3 ((O:Int)<=(d.length:Int))=ka:=by simp_all
 simp only[Dw,AP,JA,if_true,show((2:Int)==2)=ka from rfl,zQ,Zo (show O<=4 by omega) (show O<=d.length by omega) j B,tN];grind[Ys,BO,PG];obtain⟨a,i⟩:Sc c l=ka/\(c.length:Int)<=(d.length:Int):=by simp_all
 have g:short (d.take c.length):=by unfold short;grind
 have v:A3 ((0:Int)<=(c.length:Int))=ka:=by simp
 have n:A3 ((c.length:Int)<=(d.length:Int))=ka:=by simp_all
 simp only[Dw,AP,JA,show((3:Int)==2)=kb from rfl,show((3:Int)==3)=ka from rfl,show ¬ (3:Int)=2 by simp,show ¬ (3:Int)=4 by simp,show ¬ (3:Int)=5 by simp,true_or,if_true,if_false,zQ,XE a (show c.length<=d.length by omega) (show d.length<100000 by omega)];cases Zr d c l with|none=>rfl|some r=>simp_all[JW,Ys,BO,PG]
 obtain⟨a,i,b⟩:Sc c l=ka/\(c.length:Int)<=(d.length:Int)/\Qw f t=ka:=by simp_all
 simp[Dw,AP,JA,a6y b q (show d.length<100000 by omega)];cases hx:VA d f t with|none=>rfl|some x=>(obtain⟨-,D,E⟩:=Yv hx;have g:short (x.take c.length):=by unfold short;grind);(have v:A3 ((0:Int)<=(c.length:Int))=ka:=by simp);(have n:A3 ((c.length:Int)<=(x.length:Int))=ka:=by simp_all);simp[JW,XE a (show c.length<=x.length by omega) (show x.length<100000 by omega)];grind[Ys,BO,PG]
 obtain⟨i,e⟩:0<m.length/\KY m=ka:=by simp_all
 have g:short (d.take 0):=by simp[short]
 simp only[Dw,AP,JA,show((5:Int)==2)=kb from rfl,show((5:Int)==3)=kb from rfl,show((5:Int)==4)=kb from rfl,show((5:Int)==5)=ka from rfl,show ¬ (5:Int)=2 by simp,show ¬ (5:Int)=3 by simp,show ¬ (5:Int)=4 by simp,or_self,if_true,if_false,zQ,a3g e (show d.length<100000 by omega)];cases Ri d m with|none=>rfl|some r=>rfl
theorem c1h{k:Int}{s:BN}{d:LI}(D:k=2\/k=3\/k=4\/k=5)(h:sO s)(C:LG k s (d.length:Int))(K:d.length<=4096)(E:d.all Ae=ka)(w:Nat):(JA k s d=kd->∃a b,RZ (Dw (AP k s) w [] z0 [],d)=kc (a,b,6))/\(∀i r,JA k s d=kc (i,r)->RZ (Dw (AP k s) w [] z0 [],d)=kc (i,r,0)):=by
 have A:=h.taps;have v:=h.stages;have q:short d:=by unfold short;omega
 obtain⟨L,N,o,y,e,c,t,z,F,p,M,u⟩:=s;simp only[LG]at C A v;unfold RZ;rcases D with rfl|rfl|rfl|rfl;obtain⟨B,I,n⟩:0<=o/\o<=4/\o<=(d.length:Int):=by omega
 obtain⟨O,rfl⟩:=A4 B;have g:A3 ((0:Int)<=(O:Int))=ka:=by simp
 have f:A3 ((O:Int)<=((d.length:Nat):Int))=ka:=by simp_all
 simp only[Dw,AP,JA,if_true,show((2:Int)==2)=ka from rfl,cT,Ut (show O<=4 by omega) (show O<=d.length by omega) q E,oB,tN,g,f,B6];cases (Hq O d).all Ae with|false=>simp|true=>simp
 obtain⟨j,n⟩:Sc c y=ka/\(c.length:Int)<=(d.length:Int):=by simp_all
 have g:A3 ((0:Int)<=((c.length:Nat):Int))=ka:=by simp
 have f:A3 (((c.length:Nat):Int)<=((d.length:Nat):Int))=ka:=by simp_all
 simp only[Dw,AP,JA,show((3:Int)==2)=kb from rfl,show((3:Int)==3)=ka from rfl,show((3:Int)==4)=kb from rfl,show ¬ (3:Int)=2 by simp,show ¬ (3:Int)=4 by simp,show ¬ (3:Int)=5 by simp,true_or,if_true,if_false,cT,cF,oB,Th j (show c.length<=d.length by omega) (show d.length<100000 by omega),g,f,B6,tN];cases Zr d c y with|none=>exact⟨λ_=>⟨_,_,rfl⟩,λ_ _ h=>by grind⟩|some r=>exact⟨λh=>(by grind),λi r h=>by cases h;rfl⟩
 obtain⟨j,n,l⟩:Sc c y=ka/\(c.length:Int)<=(d.length:Int)/\Qw e t=ka:=by simp_all
 simp only[Dw,AP,JA,show((4:Int)==2)=kb from rfl,show((4:Int)==3)=kb from rfl,show((4:Int)==4)=ka from rfl,show ¬ (4:Int)=2 by simp,show ¬ (4:Int)=3 by simp,show ¬ (4:Int)=5 by simp,or_true,if_true,if_false,cT,cF,oB,oO l A (show d.length<100000 by omega)];cases hx:VA d e t with|none=>exact⟨λ_=>⟨_,_,rfl⟩,λ_ _ h=>by grind⟩|some x=>(obtain⟨-,G,H⟩:=Yv hx;have g:A3 ((0:Int)<=((c.length:Nat):Int))=ka:=by simp);(have f:A3 (((c.length:Nat):Int)<=((x.length:Nat):Int))=ka:=by simp_all);simp only[JW,show((0:Int) != 0)=kb from rfl,cF,oB,Th j (show c.length<=x.length by omega) (show x.length<100000 by omega),g,f,B6,cT,tN];simp_all
 obtain⟨n,m⟩:0<z.length/\KY z=ka:=by simp_all
 simp only[Dw,AP,JA,show((5:Int)==2)=kb from rfl,show((5:Int)==3)=kb from rfl,show((5:Int)==4)=kb from rfl,show((5:Int)==5)=ka from rfl,show ¬ (5:Int)=2 by simp,show ¬ (5:Int)=3 by simp,show ¬ (5:Int)=4 by simp,or_self,if_true,if_false,cT,cF,oB,iZ m (show d.length<100000 by omega)];cases Ri d z with|none=>exact⟨λ_=>⟨_,_,rfl⟩,λ_ _ h=>by grind⟩|some r=>exact⟨λh=>(by grind),λi r h=>by cases h;rfl⟩
open Classical in

def Cu (k:Int) (l:List Int) (s:BN):BN×Int:=
 if ¬ (1<=l.length/\l.length<=4096/\LG k s (l.length:Int))then(BP 0,1)
 else if l.all Ae=kb then(BP 0,6)
 else if k=0 then(bif l.all (λx=>x==l.headD 0)then(Dw (AP 0 s) 0 [l.headD 0] z0 [],0)else(BP 0,7))
 else if k=1 then(Dw (AP 1 s) (Hr l) (Bm l) z0 [],0)
 else match JA k s (Bm l)with
  |none=>(BP 0,6)
  |some (wm,r)=>(Dw (AP k s) (Hr l) wm (lY (l.length:Int) (wm.length:Int) r) r,0)
theorem a9u{l:LI}(h:1<=l.length):Aq l 0=kc (l.headD 0):=by cases l with|nil=>grind|cons a l=>rfl
theorem a6D{l:LI}(k:1<=l.length)(d:short l)(a b:BN):
  Ah IR (l,l,(l.length:Int),(0:Int),a,b,())=kc (bif l.all (λx=>x==l.headD 0)then .inl (l,a,b,())else .inr ((7:Int),BP 0,())):=by
 have:=AY (f:=IR) l (λi=>(l,l,(l.length:Int),(i:Int),a,b,())) (λx=>x==l.headD 0) (bt:=C7 (l,a,b,())) (bf:=C9 ((7:Int),BP 0,()))
  (λi h c=>by
   have g:(l[i] != l.headD 0)=kb:=by simp_all
   simp only[IR,Bp h,cT,Ac h,oB,a9u k,g,cF,Aa (B7 h d)])
  (λi h c=>by
   have g:(l[i] != l.headD 0)=ka:=by simp_all
   simp only[IR,Bp h,cT,Ac h,oB,a9u k,g];rfl)
  (by simp[IR])
 omega
theorem a6E{l:LI}(k:1<=l.length)(d:short l):SX l=kc (l.all (λx=>x==l.headD 0)):=by
 have b:∀i (h:i<l.length),(l[i]==l.headD 0)=ka->Hl (l,(i:Int),())=kc (.inl (l,((i+1:Nat):Int),())):=λi h c=>by
  have g:(l[i] != l.headD 0)=kb:=by simp_all
  simp only[Hl,Bp h,cT,Ac h,oB,a9u k,g,cF,Aa (B7 h d)]
 have:=AY (f:=Hl) l (λi=>(l,(i:Int),())) (λx=>x==l.headD 0) (bt:=C7 ()) (bf:=C9 (kb,())) b
  (λi h c=>by
   have g:(l[i] != l.headD 0)=ka:=by simp_all
   simp only[Hl,Bp h,cT,Ac h,oB,a9u k,g])
  (by simp[Hl])
 rw[Ag (b 0 k (by cases l with|nil=>grind|cons a l=>simp))]at this;unfold SX;grind
theorem XG{k n:Int}{s:BN}(h:LG k s n)(g:k≠0)(f:k≠1):k=2\/k=3\/k=4\/k=5:=by rcases h with h|h|⟨h,-⟩|⟨h,-⟩|⟨h,-⟩|⟨h,-⟩;omega;omega;all_goals omega
theorem c1i{s:BN}(h:sO s)(k:Int){l:LI}(D:l.length<=100000):Vd (k,l,s)=kc (Cu k l s):=by
 have j:short l:=by unfold short;omega
 unfold Vd Cu;by_cases h1:1<=l.length;rotate_left;have e:A3 (((l.length:Nat):Int)<1)=ka:=dE (by omega);rw[if_pos (λg=>h1 g.1)];simp only[e,cT,oB];rfl;have a:A3 (((l.length:Nat):Int)<1)=kb:=dF (by omega);by_cases h2:l.length<=4096;rotate_left;have e:A3 (((l.length:Nat):Int) > 4096)=ka:=dE (by omega);rw[if_pos (λg=>h2 g.2.1)];simp only[a,e,cT,cF,oB];rfl;have o:A3 (((l.length:Nat):Int) > 4096)=kb:=dF (by omega);by_cases h3:LG k s (l.length:Int);rotate_left;have b:a2Y k s (l.length:Int)=kb:=by simp[a2Y,h3]
 rw[if_pos (λg=>h3 g.2.2)];simp only[a,o,a0y h,b,cF,C3,cT,oB];rfl;have b:a2Y k s (l.length:Int)=ka:=by simp[a2Y,h3]
 rw[if_neg (λg=>g ⟨h1,h2,h3⟩)];simp only[a,o,a0y h,b,cF,bT,oB,Fi j];cases hw:l.all Ae with
 |false=>rfl
 |true=>
  simp only[bT,cF,b5C h,oB];rw[if_neg (by simp)];by_cases h0:k=0
  ·subst h0;have w:=a6D h1 j (BP 0) (AP 0 s);have v:BP 0=((0:Int),(0:Int),(0:Int),(0:Int),(0:Int),([]:(List Int)),A8 3 (0:Int),([]:(List (Int×Int×Unit))),([]:(List Int)),((0:Int),([]:(List Int)),()),([]:(List Int)),()):=rfl;rw[<-v,if_pos rfl];simp only[show((0:Int)==0)=ka from rfl,cT,w,oB];cases l.all (λx=>x==l.headD 0)with
   |false=>rfl
   |true=>simp only[cT,a9u h1,oB];rfl
  ·obtain⟨z,A,-⟩:=ML j hw;obtain⟨t,n,C,-⟩:=Ie h2 hw;have c:(k==0)=kb:=by grind
   rw[if_neg h0];simp only[c,cF,z,oB,Xy A (show l.length<100000 by omega),t,JW,show((0:Int) != 0)=kb from rfl];by_cases hk1:k=1;subst hk1;rfl
   ·have i:(k==1)=kb:=by simp_all
    have p:=XG h3 h0 hk1;rw[if_neg hk1];have m:=b8F p h (d:=Bm l) (by simp_all) (by omega) n (Hr l);have u:((AP k s).1,((Hr l:Nat):Int),(AP k s).2.2)=Dw (AP k s) (Hr l) [] z0 []:=rfl;simp only[i,cF,u,m,oB];cases hr:JA k s (Bm l)with
    |none=>rfl
    |some q=>
     obtain⟨B,r⟩:=q;obtain⟨E,F,y,-⟩:=a1b p (by simp_all) n hr;have f:MM (l.length:Int) (B.length:Int)=ka:=by simp_all[MM]
     have hb:=a3k f (l:=r) (by omega) y (by omega);simp only[show((0:Int) != 0)=kb from rfl,cF,Dw,hb,oB]
theorem a9v{s:BN}(h:sO s)(k:Int){l:LI}(E:l.length<=100000):OW (k,l,s)=kc (Cu k l s):=by
 have i:short l:=by unfold short;omega
 have y:BP 0=((0:Int),(0:Int),(0:Int),(0:Int),(0:Int),([]:(List Int)),A8 3 (0:Int),([]:(List (Int×Int×Unit))),([]:(List Int)),((0:Int),([]:(List Int)),()),([]:(List Int)),()):=rfl;have g:(show Option (Int×(List Int×(Int×BN×BN×Unit)))from
   bif k==(2:Int)then kc (k,l,((l.length:Nat):Int),BP 0,(k,(0:Int),s.2.2.1,(0:Int),(0:Int),([]:(List Int)),A8 3 (0:Int),([]:List Si),([]:(List Int)),((0:Int),([]:(List Int)),()),([]:(List Int)),()),())
   else(bif k==(3:Int)then kc (k,l,((l.length:Nat):Int),BP 0,(k,(0:Int),(0:Int),s.2.2.2.1,(0:Int),s.2.2.2.2.2.1,A8 3 (0:Int),([]:List Si),([]:(List Int)),((0:Int),([]:(List Int)),()),([]:(List Int)),()),())
   else(bif k==(4:Int)then kc (k,l,((l.length:Nat):Int),BP 0,(k,(0:Int),(0:Int),s.2.2.2.1,s.2.2.2.2.1,s.2.2.2.2.2.1,s.2.2.2.2.2.2.1,([]:List Si),([]:(List Int)),((0:Int),([]:(List Int)),()),([]:(List Int)),()),())
   else(bif k==(5:Int)then kc (k,l,((l.length:Nat):Int),BP 0,(k,(0:Int),(0:Int),(0:Int),(0:Int),([]:(List Int)),A8 3 (0:Int),s.2.2.2.2.2.2.2.1,([]:(List Int)),((0:Int),([]:(List Int)),()),([]:(List Int)),()),())
   else kc (k,l,((l.length:Nat):Int),BP 0,(k,(0:Int),(0:Int),(0:Int),(0:Int),([]:(List Int)),A8 3 (0:Int),([]:List Si),([]:(List Int)),((0:Int),([]:(List Int)),()),([]:(List Int)),()),())))))=kc (k,l,((l.length:Nat):Int),BP 0,AP k s,()):=by
  grind[AP]
 unfold OW Cu;simp only[<-y];simp only[]at g;rw[g];simp only[oB];by_cases h1:1<=l.length;rotate_left;simp_all;have p:A3 (((l.length:Nat):Int)<1)=kb:=dF (by omega);by_cases h2:l.length<=4096;rotate_left;grind;have t:A3 (((l.length:Nat):Int) > 4096)=kb:=dF (by omega);have c:=fG h k;by_cases h3:LG k s (l.length:Int);rotate_left;have m:A3 (TD (AP k s) (l.length:Int)<0)=ka:=by simp_all[TD,bQ]
 simp_all[a0A];have m:A3 (TD (AP k s) (l.length:Int)<0)=kb:=by
  simp_all[Xs,bQ,TD]
 rw[if_neg (λv=>v ⟨h1,h2,h3⟩)];simp only[p,t,a0A c,m,cF,oB,AC i];cases hw:l.all Ae with
 |false=>rfl
 |true=>
  simp only[bT,cF,oB];rw[if_neg (by simp)];by_cases h0:k=0
  ·subst h0;rw[if_pos rfl];simp only[show((0:Int)==0)=ka from rfl,cT,a6E h1 i,oB];cases l.all (λx=>x==l.headD 0)with
   |false=>rfl
   |true=>
    have b:A3 ((1:Int)<=((l.length:Nat):Int))=ka:=dE (by omega);have u:L8 1 l=[l.headD 0]:=by cases l with|nil=>simp_all|cons a l=>rfl
    simp only[bT,cF,b,cT,u];rfl
  ·have B:=jD i hw;obtain⟨C,j,D,-⟩:=Ie h2 hw;have e:(k==0)=kb:=by grind
   rw[if_neg h0];have b:((AP k s).1,((Hr l:Nat):Int),(AP k s).2.2)=Dw (AP k s) (Hr l) [] z0 []:=rfl;simp[e,B,lZ h2 hw,b];by_cases hk1:k=1;subst hk1;rfl
   ·have n:=XG h3 h0 hk1;rw[if_neg hk1];obtain⟨F,z⟩:=c1h n h (d:=Bm l) (by simp_all) (by omega) j (Hr l);cases hr:JA k s (Bm l)with
    |none=>
     grind
    |some q=>
     obtain⟨o,r⟩:=q;obtain⟨G,H,A,-⟩:=a1b n (by simp_all) j hr;have f:MM (l.length:Int) (o.length:Int)=ka:=by simp_all[MM]
     have hb:=jC f (l:=r) (by omega) A (by omega);have w:Gl k=kc ka:=by rw[JY];congr 1;grind
     simp only[z o r hr,oB,show((0:Int) != 0)=kb from rfl,cF,w,cT,hb];rfl
theorem b5D{p:Xq}{n sH:Int}(h:Hp p n sH=ka):p.2.1.length<=256:=by simp only[Hp,bA,L9,beq_eq_false_iff_ne,ne_eq,beq_iff_eq]at h;grind[Xt,Be]
theorem bR{s:BN}(h:sO s){w:Nat}{g r:LI}{p:Xq}(f:g.length<=5000)(k:r.length<=5000)(a:p.2.1.length<=300):sO (Dw s w g p r):=⟨h.uV,h.taps,h.stages,f,k,a⟩
theorem b2o{k:Int}{l:LI}{s:BN}(f:(Cu k l s).2=0):1<=l.length/\l.length<=4096/\LG k s (l.length:Int)/\l.all Ae=ka/\((k=0/\l.all (λx=>x==l.headD 0)=ka/\(Cu k l s).1=Dw (AP 0 s) 0 [l.headD 0] z0 [])\/(k=1/\(Cu k l s).1=Dw (AP 1 s) (Hr l) (Bm l) z0 [])\/((k=2\/k=3\/k=4\/k=5)/\∃b r,JA k s (Bm l)=kc (b,r)/\(Cu k l s).1=Dw (AP k s) (Hr l) b (lY (l.length:Int) (b.length:Int) r) r)):=by(unfold Cu at f|-;split at f;omega;rename_i g;have g:1<=l.length/\l.length<=4096/\LG k s (l.length:Int):=Classical.byContradiction g;refine⟨g.1,g.2.1,g.2.2,?_⟩;rw[if_neg (λh=>h g)];split at f;omega;rename_i e;have a:l.all Ae=ka:=by simp_all);refine⟨a,?_⟩;rw[if_neg e];split at f;grind;rename_i c;rw[if_neg c];split at f;simp_all;rename_i d;rw[if_neg d];refine .inr (.inr ⟨XG g.2.2 c d,?_⟩);grind
theorem VD{s:BN}{k:Int}{w:Nat}{h r:LI}{p:Xq}:Xr (Dw (AP k s) w h p r):=by unfold Xr Dw AP;simp_all
theorem a1c{s:BN}{k n:Int}{w:Nat}{g r:LI}{p:Xq}(h:LG k s n):LG (Dw (AP k s) w g p r).1 (Dw (AP k s) w g p r) n:=bQ.2 h
theorem b8G{l:LI}(h:l.all (λx=>x==l.headD 0)=ka):A8 l.length (l.headD 0)=l:=by refine(F8.2 ⟨rfl,λx g=>?_⟩).symm;grind
theorem pL{k:Int}{l:LI}{s:BN}(K:sO s)(H:(Cu k l s).2=0):sO (Cu k l s).1/\(Cu k l s).1.1=k/\BW (Cu k l s).1 (l.length:Int)/\EF (Cu k l s).1 (l.length:Int)=kc l:=by
 obtain⟨T,I,u,B,L⟩:=b2o H;have N:short l:=by unfold short;omega
 obtain⟨-,w3,-⟩:=ML N B;obtain⟨P,v,Q,E⟩:=Ie I B;have d:∀m:BN,BW m (l.length:Int)->a8W m (l.length:Int)=kc l->EF m (l.length:Int)=kc l:=λm j n=>by simp_all[EF]
 have b:=fG K k;rcases L with⟨rfl,z,e⟩|⟨rfl,e⟩|⟨A,i,r,f,e⟩;rw[e];have g:BW (Dw (AP 0 s) 0 [l.headD 0] z0 []) (l.length:Int):=by(have U:Ae (l.headD 0)=ka:=by cases l with|nil=>rfl|cons a l=>simp_all);exact⟨by omega,by omega,a1c u,VD,Int.le_refl _,(by simp:(0:Int)<=30),λ_=>rfl,rfl,by simp_all[Dw],rfl,λ_=>⟨rfl,rfl,rfl⟩,λh=>absurd rfl h.1⟩
 refine⟨bR b (by simp) (by simp) (by simp[z0]),rfl,g,d _ g ?_⟩;show kc (A8 (l.length:Int).toNat (l.headD 0))=kc l;grind[b8G]
 rw[e];have g:BW (Dw (AP 1 s) (Hr l) (Bm l) z0 []) (l.length:Int):=⟨by omega,by omega,a1c u,VD,C2 _,(by show(Hr l:Int)<=30;omega),λh=>absurd h (by simp:¬ (1:Int)=0),by show((Bm l).length:Int)=(l.length:Int);omega,v,rfl,λ_=>⟨rfl,rfl,rfl⟩,λh=>absurd rfl h.2⟩;refine⟨bR b (by omega) (by simp) (by simp[z0]),rfl,g,d _ g ?_⟩;show a8P (Hr l:Int) (Bm l)=kc l;omega
 rw[e];obtain⟨Y,Z,D,O⟩:=a1b A (by simp_all) v f;have q:MM (l.length:Int) (i.length:Int)=ka:=by simp only[MM,bA,dT];omega
 have w:=b8E q (l:=r) (by omega) D (by omega);generalize lY (l.length:Int) (i.length:Int) r=p at w;have M:=b5D w;have t:BO (Dw (AP k s) (Hr l) i p r) (l.length:Int)=(i.length:Int)/\uH (Dw (AP k s) (Hr l) i p r)=kc (Bm l):=by simp only[LG]at u;rcases A with rfl|rfl|rfl|rfl;(obtain⟨V,X,C⟩:0<=s.2.2.1/\s.2.2.1<=4/\s.2.2.1<=(l.length:Int):=by omega);(simp[JA]at f;cases hq:(Hq s.2.2.1.toNat (Bm l)).all Ae with|false=>simp_all|true=>simp[hq]at f;obtain⟨rfl,rfl⟩:=f;refine⟨?_,?_⟩;show s.2.2.1=_;grind;show a8V ((Bm l).take s.2.2.1.toNat) (Hq s.2.2.1.toNat (Bm l)) s.2.2.1=kc (Bm l);have hb:=a9h v (o:=s.2.2.1.toNat) (by omega) ((Bm l).length-s.2.2.1.toNat) 0 (by omega);rw[K1,J1]at hb;grind[a8V]);(have C:(s.2.2.2.2.2.1.length:Int)<=(l.length:Int):=by omega);(simp only[JA,show ¬ (3:Int)=2 by simp,if_false,if_true,D4,pJ]at f;obtain⟨y,j,rfl,rfl⟩:=f;obtain⟨n,-,-⟩:=fC j;refine⟨?_,?_⟩;show(s.2.2.2.2.2.1.length:Int)=_;simp_all;exact n;have C:(s.2.2.2.2.2.1.length:Int)<=(l.length:Int):=by omega);simp only[JA,show ¬ (4:Int)=2 by simp,show ¬ (4:Int)=3 by simp,if_false,if_true,A7,D4,pJ]at f;obtain⟨x,G,y,j,rfl,rfl⟩:=f;obtain⟨R,-,S⟩:=Yv G;obtain⟨n,-,-⟩:=fC j;refine⟨?_,?_⟩;show(s.2.2.2.2.2.1.length:Int)=_;simp_all;show(eH (x.take s.2.2.2.2.2.1.length) y s.2.2.2.2.2.1 s.2.2.2.1).bind (λl=>Zf l s.2.2.2.2.1 s.2.2.2.2.2.2.1)=_;simp_all;simp only[JA,show ¬ (5:Int)=2 by simp,show ¬ (5:Int)=3 by simp,show ¬ (5:Int)=4 by simp,if_false,D4,pJ]at f;obtain⟨y,j,rfl,rfl⟩:=f;obtain⟨n,-,-⟩:=a0S j;exact⟨rfl,n⟩
 have c:¬ (k=0\/k=1):=by omega
 have g:BW (Dw (AP k s) (Hr l) i p r) (l.length:Int):=by unfold BW;rw[t.1];exact⟨by omega,by omega,a1c u,VD,C2 _,(by show(Hr l:Int)<=30;omega),λh=>absurd (.inl h) c,rfl,O,D,λh=>absurd h c,λ_=>⟨(by show(r.length:Int)=_;omega),w⟩⟩
 refine⟨bR b (by omega) (by omega) (by omega),rfl,g,d _ g ?_⟩;have F:¬ (Dw (AP k s) (Hr l) i p r).1=0:=λh=>c (.inl h);unfold a8W;rw[if_neg F,t.2];exact E
theorem b2p:sO (BP 0):=a9t 0
def b8H(x:Int):Int:=DH x (zB .i64 (0-x))
def Wl(l:List Int):Int:=l.foldl (λa x=>zB .i64 (a+b8H x)) 0
theorem jE(l:LI)(x:Int):Wl (l++[x])=zB .i64 (Wl l+b8H x):=by simp[Wl]
theorem b5E{x:Int}(h:Ae x=ka):0<=b8H x/\b8H x<=1073741824:=by grind[Cp,b8H,Al,DH]
theorem Zu:∀(n:Nat)(l:LI),l.length=n->n<=1000000->l.all Ae=ka->0<=Wl l/\Wl l<=1073741824*(n:Int)|0,l,h,_,_=>by simp_all[Wl]|n+1,l,h,a,g=>by(obtain⟨L,b,rfl⟩:∃L b,l=L++[b]:=by rcases E7 l with rfl|⟨L,b,e⟩;all_goals grind);rw[J6,bA]at g;obtain⟨f,k⟩:=Zu n L (by grind) (by omega) g.1;have hb:=b5E (x:=b) (by grind);grind[jE,Al]
theorem a9w{l:LI}(h:l.length<=1000000)(g:l.all Ae=ka):0<=Wl l:=(Zu _ l rfl h g).1
theorem XH{r:LI}{i m:Nat}(hi:i<r.length)(h:m<=i):(r.take (i+1)).drop m=(r.take i).drop m++[r[i]]:=by grind[D5]
theorem b8I{r:LI}{o:Nat}(k:o<=4)(a:r.length<100000):OO (r,(o:Int))=kc (Wl (r.drop (4-o))):=by
 have:=AD (f:=GQ) (λi:Nat=>((o:Int),Wl ((r.take i).drop (4-o)),r,(r.length:Int),(i:Int),())) r.length (b:=(Wl (r.drop (4-o)),()))
  (λi h=>by
   have g:zB .i64 ((i:Int)+(o:Int))=(i:Int)+(o:Int):=Al (by omega);by_cases hm:4-o<=i;have d:A3 ((i:Int)+(o:Int)>=4)=ka:=by grind
   simp only[GQ,Bp h,zQ,Ac h,g,d,Aa (show i<1000000 by omega)];rw[XH h hm,jE];rfl;have d:A3 ((i:Int)+(o:Int)>=4)=kb:=by grind
   simp only[GQ,Bp h,zQ,Ac h,g,d,Aa (show i<1000000 by omega)];grind[F7])
  (by
   grind[GQ])
 simp at this;unfold OO;rw[show Wl []=0 from rfl]at this;grind
theorem b8J{r:LI}{m:Nat}(c:m<=4)(e:r.length<100000):SU (r,(m:Int))=kc (Wl (r.drop m)):=by
 have g:DH (m:Int) 0=(m:Int):=by
  rfl
 unfold SU;by_cases hl:m<=r.length
 have:=AD (f:=JQ) (λj:Nat=>(r,Wl ((r.take (m+j)).drop m),((m+j:Nat):Int),())) (r.length-m) (b:=(Wl (r.drop m),()))
  (λj a=>by
   have h:m+j<r.length:=by omega
   simp only[JQ,Bp h,zQ,Ac h,Rz,Aa (show m+j<1000000 by omega)];rw[show m+(j+1)=(m+j)+1 from rfl,XH h (by omega),jE];rfl)
  (by
   grind[JQ])
 have k:(r.take m).drop m=[]:=F7 (by grind);simp at this;rw[show Wl []=0 from rfl]at this;grind;have d:A3 ((m:Int)<(r.length:Int))=kb:=by grind
 rw[g,Ad (b:=((0:Int),())) (by simp only[JQ,d,cF])];rw[F7 (by omega)];rfl
def LH(l:List Int)(o:Nat):List Int×Int:=if o<=l.length then(bif (Hq o l).all Ae then(Hq o l,0)else([],6))else([],1)
theorem b5F{l:LI}{o:Nat}(h:o<=4)(f:l.length<100000)(g:l.all Ae=ka):HI (l,(o:Int))=kc (LH l o):=by unfold LH;by_cases hn:o<=l.length;rw[if_pos hn,Zo h hn (by unfold short;omega) g];rw[if_neg hn];grind[HI]
theorem a9x{l:LI}{o:Nat}(h:o<=4)(f:l.length<100000)(g:l.all Ae=ka):Df (l,(o:Int))=kc (LH l o):=by unfold LH;by_cases hn:o<=l.length;rw[if_pos hn,Ut h hn (by unfold short;omega) g];rw[if_neg hn];grind[Df]
theorem a9y{l:LI}{o:Nat}(h:(LH l o).2=0):(LH l o).1.all Ae=ka/\(LH l o).1.length<=l.length:=by unfold LH at h|-;by_cases hn:o<=l.length;rw[if_pos hn]at h|-;grind[Ka];grind
theorem b2q{l:LI}{o:Nat}(g:o<=4)(f:l.length<100000)(k:l.all Ae=ka):Jn (l,(o:Int))=kc (bif (LH l o).2 != 0 then 0 else Wl ((LH l o).1.drop (4-o))):=by unfold Jn;simp only[a9x g f k,oB];cases hb:((LH l o).2 != 0)with|true=>rfl|false=>(have h:(LH l o).2=0:=by grind);(have e:zB .i64 ((4:Int)-(o:Int))=((4-o:Nat):Int):=by grind[Al]);have:=(a9y h).2;simp only[cF,e,b8J (show 4-o<=4 by omega) (show(LH l o).1.length<100000 by omega),oB]
def c8K(a b:Int×Int):Prop:=(a=(0,-1)/\b=(-1,0))\/(a=b/\(0<=a.1/\a.1<=4)/\0<=a.2)
def c3l(y x:Int):Prop:=DH y 0=x/\0<=x/\x<=4
theorem Uu{l:LI}(e:l.length<100000)(m:l.all Ae=ka):∀(j i:Nat)(a b:Int×Int),i+j=5->c8K a b->∃x y:Int,Ah Fu (l,a.1,a.2,(i:Int),())=kc (x,())/\Ah Dq (l,b.1,b.2,(i:Int),())=kc (y,())/\c3l y x|0,i,a,b,G,t=>(by(obtain rfl:i=5:=by omega);refine⟨a.1,b.1,Ad (by rfl),Ad (by rfl),?_⟩;rcases t with⟨rfl,rfl⟩|⟨rfl,A,-⟩;exact⟨rfl,by simp⟩;have d:A3 ((0:Int) > a.1)=kb:=dF (by omega);simp only[c3l,DH,d,cF];exact⟨trivial,A⟩)|j+1,i,a,b,G,t=>by(have u:i<=4:=by omega);(have B:A3 ((i:Int)<=4)=ka:=by grind);(have C:A3 ((i:Int)<5)=ka:=by grind);have o:=b5F u e m;have p:=a9x u e m;have f:=b2q u e m;have k:zB .i64 ((i:Int)+1)=((i+1:Nat):Int):=Aa (by omega);by_cases h0:(LH l i).2=0;(obtain⟨I,K⟩:=a9y h0;have g:((LH l i).2 != 0)=kb:=by grind);(have c:((LH l i).2==0)=ka:=by grind);have q:=b8I (r:=(LH l i).1) u (by omega);have h:0<=Wl ((LH l i).1.drop (4-i)):=a9w (by grind) (lA.2 λx H=>lA.1 I x (G5 H));rw[g,cF]at f;generalize hv:Wl ((LH l i).1.drop (4-i))=v at f q h;rcases t with⟨rfl,rfl⟩|⟨rfl,A,F⟩;obtain⟨x,y,w,z,n⟩:=Uu e m j (i+1) ((i:Int),v) ((i:Int),v) (by omega) (.inr ⟨rfl,by omega,h⟩);have D:A3 ((-1:Int)<0)=ka:=rfl;simp_all[Ag,Fu,Dq];(have D:A3 (a.2<0)=kb:=by grind);(have E:A3 (a.1<0)=kb:=by grind);(cases hlt:A3 (v<a.2)with|true=>(obtain⟨x,y,w,z,n⟩:=Uu e m j (i+1) ((i:Int),v) ((i:Int),v) (by omega) (.inr ⟨rfl,by omega,h⟩);grind[Ag,Fu,Dq])|false=>obtain⟨x,y,w,z,n⟩:=Uu e m j (i+1) a a (by omega) (.inr ⟨rfl,A,F⟩);refine⟨x,y,?_,?_,n⟩;rw[Ag (s':=(l,a.1,a.2,((i+1:Nat):Int),())) (by simp only[Fu,B,cT,o,oB,g,cF,q,D,hlt,k])];omega;rw[Ag (s':=(l,a.1,a.2,((i+1:Nat):Int),())) (by simp only[Dq,C,cT,p,oB,c,f,E,cF,hlt,k])];omega);(have g:((LH l i).2 != 0)=ka:=by grind);(have c:((LH l i).2==0)=kb:=by grind);obtain⟨x,y,w,z,n⟩:=Uu e m j (i+1) a b (by omega) t;refine⟨x,y,?_,?_,n⟩;rw[Ag (s':=(l,a.1,a.2,((i+1:Nat):Int),())) (by simp only[Fu,B,cT,o,oB,g,k])];omega;rw[Ag (s':=(l,b.1,b.2,((i+1:Nat):Int),())) (by simp only[Dq,C,cT,p,oB,c,f,cF,k])];omega
theorem We{l:LI}(g:l.length<100000)(f:l.all Ae=ka):∃o:Nat,Kp l=kc (o:Int)/\Iv l=kc (o:Int)/\o<=4:=by obtain⟨x,y,k,a,b,h,c⟩:=Uu g f 5 0 (0,-1) (-1,0) rfl (.inl ⟨rfl,rfl⟩);obtain⟨o,rfl⟩:=A4 h;refine⟨o,?_,?_,by omega⟩<;>simp_all[Kp,Iv]
def cS(k o sh:Int)(c:List Int)(st:List Si):BN:=(k,(0:Int),o,sh,(0:Int),c,A8 3 (0:Int),st,([]:List Int),((0:Int),([]:List Int),()),([]:List Int),())
theorem Uv{k o f:Int}{c:LI}{st:List Si}(h:c.length<=40)(g:st.length<=6):sO (cS k o f c st):=⟨h,rfl,g,by simp[cS],by simp[cS],by simp[cS]⟩
def Sq(d:List Int)(o w:Int):List Int×(Int×Int):=(Gf (d,o,w)).getD ([],0,1)
def YM(d:List Int)(o w:Int):List BN:=bif (Sq d o w).2.2==0 then[cS 3 0 (Sq d o w).2.1 (Sq d o w).1 []]else[]
def a9z(d:List Int):Int:=(Kp d).getD 0
def jF(d:List Int):BN×Bool:=(FJ d).getD (BP 0,kb)
def oS(d:List Int):List BN:=bif (jF d).2 then[(jF d).1]else[]
def Rk(i:Nat):List BN:=(C0 i).map λ(j:Nat)=>cS 2 (j:Int) 0 [] []
def Ce(d:List Int):List BN:=[cS 0 0 0 [] [],cS 1 0 0 [] [],cS 2 (a9z d) 0 [] []]
def Dx(d:List Int)(k:Int):List BN:=if 1<=k then YM d 4 12++YM d 8 12 else[]
def Oj(d:List Int)(k:Int):List BN:=if 2<=k then[cS 5 0 0 [] [((16:Int),(4:Int),())],cS 5 0 0 [] [((32:Int),(3:Int),()),((16:Int),(5:Int),())]]++oS d else[]
def a4r(d:List Int)(k:Int):List BN:=if 3<=k then Rk 5++(YM d 1 12++(YM d 2 12++(YM d 12 14++YM d 16 14)))else[]
def IH(d:List Int)(k:Int):List BN:=Ce d++(Dx d k++(Oj d k++a4r d k))
def a4s(d:List Int):Prop:=FJ d=kc (jF d)/\((jF d).2=ka->sO (jF d).1)
theorem a9A{d:LI}(a:d.all Ae=ka)(k:d.length<=4096){o w:Nat}(h:1<=o)(g:o<=32)(f:2<=w/\w<=16):Gf (d,(o:Int),(w:Int))=kc (Sq d o w)/\((Sq d o w).2.2=0->(Sq d o w).1.length=o):=by obtain⟨c,j,e,b,-,i⟩:=a4m a k h g f;unfold Sq;simp_all
theorem II(d:LI)(o w:Int):(YM d o w).length<=1:=by grind[YM]
theorem Uw{d:LI}(c:d.all Ae=ka)(b:d.length<=4096){o w:Nat}(f:1<=o)(k:o<=32)(a:2<=w/\w<=16){L:List BN}(e:L.length<1000):AB ((o:Int),(w:Int),d,L)=kc (d,L++YM d o w):=by obtain⟨g,-⟩:=a9A c b f k a;have h:AZ (L.length+1)=ka:=Aw (by omega);unfold AB YM;simp only[g,oB];cases (Sq d o w).2.2==0 with|true=>simp only[cT,h];rfl|false=>simp
theorem b2r{d:LI}{L:List BN}(k:L.length<1000):Ah CZ ((0:Int),L,d,())=kc (L++Rk 5,d,()):=by
 have:=AD (f:=CZ) (λi:Nat=>((i:Int),L++Rk i,d,())) 5 (b:=(L++Rk 5,d,()))
  (λi a=>by
   have g:A3 ((i:Int)<5)=ka:=dE (by omega);have h:AZ ((L++Rk i).length+1)=ka:=Aw (by simp[Rk];omega);have e:(L++Rk i)++[cS 2 (i:Int) 0 [] []]=L++Rk (i+1):=by simp[Rk,D7]
   rw[<-e];simp only[CZ,g,cT,h,Aa (show i<1000000 by omega)];rfl)
  (by
   rfl)
 simp at this;rw[show Rk 0=[]from rfl,D8]at this;omega
theorem c1j{d:LI}(b:d.all Ae=ka)(i:d.length<=4096)(m:a4s d)(k:Int):Ks (d,k)=kc (IH d k):=by
 obtain⟨o,G,-,H⟩:=We (show d.length<100000 by omega) b;have hb:a9z d=(o:Int):=by simp_all[a9z]
 have F:(oS d).length<=1:=by grind[oS]
 have R:=II d 4 12;have S:=II d 8 12;have P:=II d 1 12;have Q:=II d 2 12;have I:=II d 12 14;have A:=λL (f:L.length<1000)=>Uw (L:=L) b i (o:=4) (w:=12) (by omega) (by omega) (by omega) f;have B:=λL (f:L.length<1000)=>Uw (L:=L) b i (o:=8) (w:=12) (by omega) (by omega) (by omega) f;have y:=λL (f:L.length<1000)=>Uw (L:=L) b i (o:=1) (w:=12) (by omega) (by omega) (by omega) f;have z:=λL (f:L.length<1000)=>Uw (L:=L) b i (o:=2) (w:=12) (by omega) (by omega) (by omega) f;have j:=λL (f:L.length<1000)=>Uw (L:=L) b i (o:=12) (w:=14) (by omega) (by omega) (by omega) f;have l:=λL (f:L.length<1000)=>Uw (L:=L) b i (o:=16) (w:=14) (by omega) (by omega) (by omega) f;simp at A B y z j l;have T:(Ce d).length=3:=rfl;have U:(Dx d k).length<=2:=by unfold Dx;split<;>simp<;>omega
 have V:(Oj d k).length<=3:=by unfold Oj;split<;>simp<;>omega
 have X:(Rk 5).length=5:=rfl;have O:(bif A3 (k>=1)then((AB ((4:Int),(12:Int),d,Ce d)).bind λp=>(AB ((8:Int),(12:Int),p.1,p.2)).bind λq=>kc (k,q.1,q.2,()))else kc (k,d,Ce d,()))=kc (k,d,Ce d++Dx d k,()):=by unfold Dx;by_cases h:1<=k;have e:A3 (k>=1)=ka:=dE h;simp only[e,cT,A (Ce d) (by omega),oB,B (Ce d++YM d 4 12) (by grind),if_pos h,aA];grind
 have E:Ks (d,k)=(Kp d).bind λC=>(show Option (Int×((List Int)×((List BN)×Unit)))from bif A3 (k>=1)then((AB ((4:Int),(12:Int),d,[cS 0 0 0 [] [],cS 1 0 0 [] [],cS 2 C 0 [] []])).bind λp=>(AB ((8:Int),(12:Int),p.1,p.2)).bind λq=>kc (k,q.1,q.2,()))else kc (k,d,[cS 0 0 0 [] [],cS 1 0 0 [] [],cS 2 C 0 [] []],())).bind λg=>(show Option (Int×((List BN)×((List Int)×Unit)))from bif A3 (g.1>=2)then(bif AZ (g.2.2.1.length+1)then(bif AZ ((g.2.2.1++[cS 5 0 0 [] [((16:Int),(4:Int),())]]).length+1)then((FJ g.2.1).bind λr=>bif r.2 then(bif AZ ((g.2.2.1++[cS 5 0 0 [] [((16:Int),(4:Int),())]]++[cS 5 0 0 [] [((32:Int),(3:Int),()),((16:Int),(5:Int),())]]).length+1)then kc (g.1,g.2.2.1++[cS 5 0 0 [] [((16:Int),(4:Int),())]]++[cS 5 0 0 [] [((32:Int),(3:Int),()),((16:Int),(5:Int),())]]++[r.1],g.2.1,())else kd) else kc (g.1,g.2.2.1++[cS 5 0 0 [] [((16:Int),(4:Int),())]]++[cS 5 0 0 [] [((32:Int),(3:Int),()),((16:Int),(5:Int),())]],g.2.1,()))else kd)else kd)else kc (g.1,g.2.2.1,g.2.1,())).bind λv=>(show Option ((List BN)×Unit)from bif A3 (v.1>=3)then((Ah CZ ((0:Int),v.2.1,v.2.2.1,())).bind λn=>(AB ((1:Int),(12:Int),n.2.1,n.1)).bind λt=>(AB ((2:Int),(12:Int),t.1,t.2)).bind λu=>(AB ((12:Int),(14:Int),u.1,u.2)).bind λa=>(AB ((16:Int),(14:Int),a.1,a.2)).bind λc=>kc (c.2,()))else kc (v.2.1,())).bind λx=>kc x.1:=rfl
 have D:[cS 0 0 0 [] [],cS 1 0 0 [] [],cS 2 (o:Int) 0 [] []]=Ce d:=by unfold Ce;grind
 have Y:(bif A3 (k>=2)then(bif AZ ((Ce d++Dx d k).length+1)then(bif AZ ((Ce d++Dx d k++[cS 5 0 0 [] [((16:Int),(4:Int),())]]).length+1)then((FJ d).bind λr=>bif r.2 then(bif AZ ((Ce d++Dx d k++[cS 5 0 0 [] [((16:Int),(4:Int),())]]++[cS 5 0 0 [] [((32:Int),(3:Int),()),((16:Int),(5:Int),())]]).length+1)then kc (k,Ce d++Dx d k++[cS 5 0 0 [] [((16:Int),(4:Int),())]]++[cS 5 0 0 [] [((32:Int),(3:Int),()),((16:Int),(5:Int),())]]++[r.1],d,())else kd) else kc (k,Ce d++Dx d k++[cS 5 0 0 [] [((16:Int),(4:Int),())]]++[cS 5 0 0 [] [((32:Int),(3:Int),()),((16:Int),(5:Int),())]],d,()))else kd)else kd)else kc (k,Ce d++Dx d k,d,()):Option (Int×((List BN)×((List Int)×Unit))))=kc (k,Ce d++(Dx d k++Oj d k),d,()):=by unfold Oj;by_cases h:2<=k;have e:A3 (k>=2)=ka:=dE h;have K:AZ ((Ce d++Dx d k).length+1)=ka:=Aw (by grind);have M:AZ ((Ce d++Dx d k++[cS 5 0 0 [] [((16:Int),(4:Int),())]]).length+1)=ka:=Aw (by simp;omega);have N:AZ ((Ce d++Dx d k++[cS 5 0 0 [] [((16:Int),(4:Int),())]]++[cS 5 0 0 [] [((32:Int),(3:Int),()),((16:Int),(5:Int),())]]).length+1)=ka:=Aw (by simp;omega);simp only[e,K,M,N,cT,m.1,oB,if_pos h,oS];cases (jF d).2<;>simp;grind
 have Z:(bif A3 (k>=3)then((Ah CZ ((0:Int),Ce d++(Dx d k++Oj d k),d,())).bind λn=>(AB ((1:Int),(12:Int),n.2.1,n.1)).bind λt=>(AB ((2:Int),(12:Int),t.1,t.2)).bind λu=>(AB ((12:Int),(14:Int),u.1,u.2)).bind λa=>(AB ((16:Int),(14:Int),a.1,a.2)).bind λc=>kc (c.2,()))else kc (Ce d++(Dx d k++Oj d k),()):Option ((List BN)×Unit))=kc (IH d k,()):=by unfold IH a4r;by_cases h:3<=k;have e:A3 (k>=3)=ka:=dE h;simp only[e,cT,b2r (L:=Ce d++(Dx d k++Oj d k)) (by simp;omega),oB,if_pos h];rw[y _ (by simp;omega)];simp only[oB];rw[z _ (by simp;omega)];simp only[oB];rw[j _ (by simp;omega)];simp only[oB];rw[l _ (by simp;omega)];simp;grind
 rw[E,G,oB,D];simp only[];rw[O];simp only[oB];simp_all
theorem bS{d:LI}(l:d.all Ae=ka)(i:d.length<=4096)(f:a4s d)(k:Int):∀c∈IH d k,sO c:=by(have g:∀(o w:Nat),1<=o->o<=32->2<=w/\w<=16->∀c∈YM d o w,sO c:=λo w a b e c h=>by obtain⟨-,m⟩:=a9A l i a b e;unfold YM at h;cases he:(Sq d o w).2.2==0 with|false=>simp_all|true=>rw[he]at h;simp at h;grind[Uv]);intro c h;simp[IH]at h;rcases h with h|h|h|h;simp[Ce]at h;rcases h with rfl|rfl|rfl<;>exact Uv (by simp) (by simp);unfold Dx at h;split at h;simp at h;rcases h with h|h;exact g 4 12 (by omega) (by omega) (by omega) c h;exact g 8 12 (by omega) (by omega) (by omega) c h;simp_all;unfold Oj at h;split at h;simp only[mA,mC,D6,or_false]at h;rcases h with(rfl|rfl)|h;simp_all[Uv];simp_all[Uv];(unfold oS at h;cases hg:(jF d).2 with|false=>simp_all|true=>rw[hg]at h;simp at h;subst h;exact f.2 hg);simp_all;unfold a4r at h;split at h;simp only[mA,Rk,F0]at h;rcases h with⟨j,-,rfl⟩|h|h|h|h;simp_all[Uv];exact g 1 12 (by omega) (by omega) (by omega) c h;exact g 2 12 (by omega) (by omega) (by omega) c h;exact g 12 14 (by omega) (by omega) (by omega) c h;exact g 16 14 (by omega) (by omega) (by omega) c h;simp_all
theorem a9B{d:LI}(g:d.length<=256):FJ d=kc (BP 0,kb):=by(have h:SG (d,(16:Int),(256:Int))=kc (0,7):=by unfold SG;grind);unfold FJ;simp only[h,zQ,show((7:Int) != 0)=ka from rfl];rfl
theorem b8K{d:LI}(g:d.length<=256):a4s d:=by have h:=a9B g;(have:jF d=(BP 0,kb):=by unfold jF;simp_all);exact⟨by simp_all,λf=>by simp_all⟩
def Rl(l:List Int)(a:Int×(Bool×BN))(c:BN):Int×(Bool×BN):=bif (Cu c.1 l c).2 != 0 then a else bif !a.2.1 || A3 (KS (Cu c.1 l c).1 (l.length:Int)<a.1)then(KS (Cu c.1 l c).1 (l.length:Int),ka,(Cu c.1 l c).1)else a
def fH(l:List Int)(cs:List BN):Int×(Bool×BN):=cs.foldl (Rl l) (0,kb,BP 0)
theorem Sr{α A β:Type}(g:A->α->A)(h:A->β):∀(l:List α)(a:A),Sz h (Gq (λa x=>.inl (g a x)) l a)=h (l.foldl g a)|[],_=>rfl|x::l,a=>Sr g h l (g a x)
theorem mB{k:Int}{l:LI}{s:BN}(h:sO s):sO (Cu k l s).1:=by by_cases h0:(Cu k l s).2=0;exact(pL h h0).1;(have:(Cu k l s).1=BP 0:=by unfold Cu at h0|-;grind);simp_all[b2p]
theorem b5G{l:LI}{cs:List BN}(j:∀c∈cs,sO c)(p:l.length<=4096)(o:cs.length<1000):
  Ah Lx (l,(0:Int),kb,cs,((cs.length:Nat):Int),(0:Int),BP 0,BP 0,())=kc (BP 0,(fH l cs).2.2,()):=by
 have:=Bi (f:=Lx) cs (λi a=>(l,a.1,a.2.1,cs,((cs.length:Nat):Int),(i:Int),BP 0,a.2.2,())) (λa x=>.inl (Rl l a x)) (λ_ _=>True) (λa=>(BP 0,a.2.2,()))
  (λi g a _=>by
   refine⟨λn h=>?_,λb hb=>by grind⟩;simp at h;subst h;refine⟨?_,trivial⟩;have d:=j _ (A9 g);have e:=b3E (mB (k:=cs[i].1) (l:=l) d) (l.length:Int);unfold Rl;simp only[Lx,Bp g,cT,Ac g,oB,c1i d cs[i].1 (show l.length<=100000 by omega),e,Aa (show i<1000000 by omega)];cases (Cu cs[i].1 l cs[i]).2 != 0 with
   |true=>rfl
   |false=>
    have m:=Aa (show i<1000000 by omega);grind)
  (λa _=>by simp_all[Lx]) (a:=((0:Int),kb,BP 0)) trivial
 simp at this;rw[this,Sr];rfl
theorem c1k{l:LI}(x:1<=l.length)(c:l.length<=4096)(a:l.all Ae=ka)(h:a4s (Bm l)){k:Int}(v:0<=k)(y:k<=3):Cv (l,k)=kc ((fH l (IH (Bm l) k)).2.2,0):=by(have d:short l:=by unfold short;omega);(obtain⟨r,t,-⟩:=ML d a;obtain⟨e,b,u,-⟩:=Ie c a;have i:A3 (((l.length:Nat):Int)<1)=kb:=dF (by omega);have j:A3 (((l.length:Nat):Int) > 4096)=kb:=dF (by omega);have m:A3 (k<0)=kb:=dF (by omega);have n:A3 (k > 3)=kb:=dF (by omega);have f:(IH (Bm l) k).length<1000:=by(have g:=λo w=>II (Bm l) o w;have z:=g 4 12;have A:=g 8 12;have B:=g 1 12;have C:=g 2 12;have D:=g 12 14;have E:=g 16 14;have p:(oS (Bm l)).length<=1:=by grind[oS]);simp only[IH,Ce,Dx,Oj,a4r,lN];grind[Rk]);have hb:=b5G (l:=l) (bS b (by omega) h k) c f;have q:BP 0=((0:Int),(0:Int),(0:Int),(0:Int),(0:Int),([]:(List Int)),A8 3 (0:Int),([]:(List (Int×Int×Unit))),([]:(List Int)),((0:Int),([]:(List Int)),()),([]:(List Int)),()):=rfl;unfold Cv;simp only[<-q,i,j,m,n,cF,oB,Fi d,a,bT,r,Xy t (show l.length<100000 by omega),e,JW,show((0:Int) != 0)=kb from rfl,c1j b (show(Bm l).length<=4096 by omega) h,hb]
theorem Ux(v:Int)(n:Nat)(L:LI):(AJ v n L).length=L.length+(AJ v n []).length:=by grind[AJ]
theorem Yy(n:Nat):∀(l L:LI),(Dg n l L).length=L.length+(Dg n l []).length|[],L=>by rfl|x::l,L=>by show(Dg n l (AJ (Ga x n) n L)).length=L.length+(Dg n l (AJ (Ga x n) n [])).length;rw[Yy n l,Yy n l (AJ (Ga x n) n []),Ux];omega
theorem XI:∀(st:List Si)(L:LI),(Fm st L).length=L.length+(Fm st []).length|[],L=>by rfl|s::st,L=>by show(Fm st (Mu s L)).length=L.length+(Fm st (Mu s [])).length;rw[XI st,XI st (Mu s [])];unfold Mu;rw[Ux,Ux _ 5 L,Ux _ 4 (AJ _ 5 [])];omega
theorem b2t(s:BN)(L:LI):(JZ s L).length=L.length+(JZ s []).length:=by grind[JZ,Yy,Ux]
theorem a4t(s:BN)(L:LI):(CH s L).length=L.length+(CH s []).length:=by grind[CH,Ux,b2t,Yy,XI]
theorem b8L{s:BN}(g:0<=s.1/\s.1<=5)(f:0<=s.2.1/\s.2.1<=30)(h:s.2.2.2.2.2.2.2.2.1.all Ae=ka)(L:LI):(Tg s L).length=L.length+13:=by grind[A4,HC,Tg,IY,Ur]
def b8M(s:BN)(zn:List Nat):Nat:=13+(CH s []).length+Ax s.2.2.2.2.2.2.2.2.1*s.2.2.2.2.2.2.2.2.1.length+if s.1=0\/s.1=1 then 0 else 4+Fj zn s.2.2.2.2.2.2.2.2.2.1.2.1 s.2.2.2.2.2.2.2.2.2.2.1
theorem a1d{k n:Int}{s:BN}(h:LG k s n):0<=k/\k<=5:=by rcases h with h|h|⟨h,-⟩|⟨h,-⟩|⟨h,-⟩|⟨h,-⟩<;>omega
theorem XJ{s:BN}{n:Int}(h:(EF s n).isSome=ka):BW s n:=by grind[EF]
theorem c1l{s:BN}{n:Int}(h:(EF s n).isSome=ka){g:List Nat}(e:s.1≠0/\s.1≠1->sW s.2.2.2.2.2.2.2.2.2.1 n (s.2.2.2.2.2.2.2.2.1.length:Int) s.2.2.2.2.2.2.2.2.2.2.1 g)(L:LI):(EG s g L).length=L.length+b8M s g:=by obtain⟨i,j,c,-,a,b,-,-,k,-⟩:=XJ h;have d:=HC k;have f:=b8L (a1d c) ⟨a,b⟩ k L;unfold EG b8M;by_cases hk:s.1=0\/s.1=1;rw[if_pos hk,if_pos hk,Yx (by omega),a4t,f];omega;rw[if_neg hk,if_neg hk,a3j (e (not_or.1 hk)),Yx (by omega),a4t,f];omega
theorem a9C{s:BN}(h:sO s){n:Int}(f:(EF s n).isSome=ka):∃g,KS s n=(b8M s g:Int)/\(s.1≠0/\s.1≠1->sW s.2.2.2.2.2.2.2.2.2.1 n (s.2.2.2.2.2.2.2.2.1.length:Int) s.2.2.2.2.2.2.2.2.2.2.1 g):=by obtain⟨e,b,-,-,-,a,-⟩:=bH h (n:=n) (L:=[]) (by simp);obtain⟨-,g,-,k⟩:=a f;refine⟨g,?_,k⟩;unfold KS;rw[if_pos f,<-pH k,c1l f k];simp
theorem b5H{s:BN}(h:sO s){n:Int}(g:(EF s n).isSome=ka):13<=KS s n:=by grind[a9C,b8M]
structure yR (l m:List Int) (n:Nat):Prop where
 len:m.length=l.length
 wl:l.all Ae=ka
 wm:m.all Ae=ka
 down:Bm m=Bm l
 waste:Hr m=Hr l+n
 fl:l.all (λx=>x==l.headD 0)=kb
 fm:m.all (λx=>x==m.headD 0)=kb
structure wY (l:List Int) (cs:List BN) (a:Int×(Bool×BN)):Prop where
 one:a.2.1=ka->∃c∈cs,(Cu c.1 l c).2=0/\a.2.2=(Cu c.1 l c).1/\a.1=KS a.2.2 (l.length:Int)
 least:∀c∈cs,(Cu c.1 l c).2=0->a.2.1=ka/\a.1<=KS (Cu c.1 l c).1 (l.length:Int)
theorem fI{l:LI}:∀(cs b:List BN)(a:Int×(Bool×BN)),wY l b a->wY l (b++cs) (cs.foldl (Rl l) a)|[],b,a,h=>by simp_all|c::cs,b,a,h=>by rw[G7,show b++c::cs=(b++[c])++cs by simp];refine fI cs (b++[c]) _ ?_;unfold Rl;by_cases h0:(Cu c.1 l c).2=0;(have i:((Cu c.1 l c).2 != 0)=kb:=by simp_all);(rw[i,cF];cases hq:(!a.2.1 || A3 (KS (Cu c.1 l c).1 (l.length:Int)<a.1))with|true=>(refine⟨λ_=>⟨c,by simp,h0,rfl,rfl⟩,λd f k=>⟨rfl,?_⟩⟩;rcases mA.1 f with f|f;obtain⟨j,m⟩:=h.least d f k;grind;simp_all)|false=>simp only[K5,Bool.not_eq_false',decide_eq_false_iff_not]at hq;refine⟨λe=>?_,λd f k=>?_⟩;obtain⟨d,f,g⟩:=h.one e;grind;rcases mA.1 f with f|f;exact h.least d f k;simp_all);(have i:((Cu c.1 l c).2 != 0)=ka:=by simp_all);rw[i,cT];refine⟨λe=>?_,λd f k=>?_⟩;obtain⟨d,f,g⟩:=h.one e;grind;rcases mA.1 f with f|f;exact h.least d f k;simp_all
theorem a6F(l:LI)(cs:List BN):wY l cs (fH l cs):=fI cs [] _ ⟨λh=>(by grind),λ_ h=>(by grind)⟩
theorem bU{l:LI}(h:1<=l.length)(g:l.length<=4096)(f:l.all Ae=ka):Cu 1 l (cS 1 0 0 [] [])=(Dw (AP 1 (cS 1 0 0 [] [])) (Hr l) (Bm l) z0 [],0):=by unfold Cu;rw[if_neg (λq=>q ⟨h,g,.inr (.inl rfl)⟩),if_neg (by simp_all),if_neg (by simp),if_pos rfl]
theorem b2u{l:LI}(h:1<=l.length)(g:l.length<=4096)(f:l.all Ae=ka)(d:LI)(k:Int):(fH l (IH d k)).2.1=ka:=((a6F l (IH d k)).least (cS 1 0 0 [] []) (by simp[IH,Ce]) (by rw[show(cS 1 0 0 [] []).1=1 from rfl,bU h g f])).1
def b0v(x:Int)(v:Nat):Bool:=A3 (x=0) || Bq x (v:Int)
theorem b8N{x:Int}{v:Nat}:Bq x (v:Int)=ka↔1<=v/\v<=31/\-((2^(v-1):Nat):Int)<=x/\x<=((2^(v-1):Nat):Int)-1:=by(by_cases hv:1<=v/\v<=31;have e:((v:Int)-1)=((v-1:Nat):Int):=by omega);(have b:2^(v-1)<=2^30:=D2 (by omega) (by omega);have a:=F1 (v-1);have g:AO .i64 1 ((v-1:Nat):Int)=((2^(v-1):Nat):Int):=b8u (by omega);have f:AO .i64 (-1) ((v-1:Nat):Int)=-((2^(v-1):Nat):Int):=by grind[IntKind.bits,AO,Al]);have k:zB .i64 (((2^(v-1):Nat):Int)-1)=((2^(v-1):Nat):Int)-1:=Al (by omega);simp only[Bq,e,g,f,k,bA,dT];omega;constructor;intro h;simp[Bq]at h;omega;omega
theorem a6G{x:Int}{v:Nat}:b0v x v=ka↔x=0\/(1<=v/\v<=31/\-((2^(v-1):Nat):Int)<=x/\x<=((2^(v-1):Nat):Int)-1):=by simp_all[b0v,b8N]
theorem b8O{x:Int}{v w:Nat}(h:v<=w)(c:w<=31)(g:b0v x v=ka):b0v x w=ka:=by rw[a6G]at g|-;rcases g with g|⟨f,k,a,b⟩;omega;have:2^(v-1)<=2^(w-1):=D2 (by omega) (by omega);omega
theorem b8P{x:Int}(h:Ae x=ka):b0v x 31=ka:=by have:=Cp.1 h;rw[a6G];omega
theorem a4u{x:Int}(j:Ae x=ka):∀(k w:Nat),w+k=32->w<=31->w<=Ee x k w/\Ee x k w<=31/\b0v x (Ee x k w)=ka/\∀v,w<=v->b0v x v=ka->v<=31->Ee x k w<=v|0,w,h,g=>absurd g (by omega)|k+1,w,h,g=>by by_cases hin:b0v x w=ka;(have:Ee x (k+1) w=w:=by unfold Ee;cases a:(x != 0)&&!Bq x (w:Int)with|false=>rfl|true=>simp at a;simp_all[b0v]);simp_all;(have a:((x != 0)&&!Bq x (w:Int))=ka:=by simp_all[b0v]);(have i:w≠31:=λe=>hin (by simp_all[b8P]);have e:Ee x (k+1) w=Ee x k (w+1):=by show(bif (x != 0)&&!Bq x (w:Int)then Ee x k (w+1)else w)=_;grind);obtain⟨l,b,c,d⟩:=a4u j k (w+1) (by omega) (by omega);rw[e];refine⟨by omega,b,c,λv m f g=>d v ?_ f g⟩;rcases Nat.lt_or_ge w v with q|q;exact q;(have:v=w:=by omega);exact absurd (this▸f) hin
theorem Qi:∀(l:LI)(w:Nat),l.all Ae=ka->w<=31->
  w<=l.foldl (λw x=>Ee x (32-w) w) w/\l.foldl (λw x=>Ee x (32-w) w) w<=31/\(∀x∈l,b0v x (l.foldl (λw x=>Ee x (32-w) w) w)=ka)/\∀v,w<=v->v<=31->(∀x∈l,b0v x v=ka)->l.foldl (λw x=>Ee x (32-w) w) w<=v
 | [],w,_,h31=>⟨E8 _,h31,by simp,λv f _ _=>f⟩
 |x::l,w,h,h31=>by
  rw[C5,bA]at h;obtain⟨j,c,m,n⟩:=a4u h.1 (32-w) w (by omega) h31;obtain⟨d,b,e,i⟩:=Qi l (Ee x (32-w) w) h.2 c;simp only[G7];refine⟨by omega,b,λy a=>?_,λv f k g=>?_⟩
  ·rcases mC.1 a with rfl|a;all_goals grind[b8O]
  simp_all
theorem b8Q{l:LI}(h:l.all Ae=ka):∀x∈l,b0v x (Ax l)=ka:=(Qi l 0 h (by omega)).2.2.1
theorem a9D{l:LI}(h:l.all Ae=ka){v:Nat}(hv:v<=31)(g:∀x∈l,b0v x v=ka):Ax l<=v:=(Qi l 0 h (by omega)).2.2.2 v (by omega) hv g
theorem b8R{x:Int}{w v:Nat}(i:w<=30)(k:((2^w:Nat):Int) ∣ x)(h:b0v x v=ka):b0v (Au .i64 x (w:Int)) v=ka:=by(obtain⟨c,rfl⟩:=k;rw[a9r (by omega)];rw[a6G]at h|-;have b:(1:Int)<=((2^w:Nat):Int):=by have:=F1 w;omega);generalize ((2^w:Nat):Int)=p at h b;rcases h with h|⟨g,f,d,e⟩;grind[Int.mul_eq_zero];refine .inr ⟨g,f,?_,?_⟩;by_cases hc:0<=c;omega;have a:=Int.mul_nonneg (show 0<=p-1 by omega) (show 0<=-c by omega);grind;by_cases hc:0<=c;have a:=Int.mul_nonneg (show 0<=p-1 by omega) hc;grind;omega
theorem b2v{l:LI}(k:l.length<=4096)(h:l.all Ae=ka):Ax (Bm l)<=Ax l:=by(obtain⟨-,e,c⟩:=ML (show short l by unfold short;omega) h;obtain⟨-,f,-,-⟩:=Ie k h;have a:∀x∈l,((2^Hr l:Nat):Int) ∣ x:=by rcases c with⟨g,-⟩|⟨-,-,g,-⟩;all_goals grind[Int.dvd_zero]);(refine a9D f (HC h) λy b=>?_);obtain⟨x,d,rfl⟩:=F0.1 b;grind[b8R,b8Q]
theorem b2w{l:LI}(a:1<=l.length)(h:l.length<=4096)(g:l.all Ae=ka):KS (Cu 1 l (cS 1 0 0 [] [])).1 (l.length:Int)=((13+Ax (Bm l)*l.length:Nat):Int):=by have b:sO (cS 1 0 0 [] []):=Uv (by simp) (by simp);have d:=bU a h g;obtain⟨a1,-,-,f⟩:=pL b (k:=1) (l:=l) (by grind);obtain⟨i,c,-⟩:=a9C a1 (by rw[f];rfl);obtain⟨-,-,j,-⟩:=Ie h g;rw[c,d];have e:b8M (Dw (AP 1 (cS 1 0 0 [] [])) (Hr l) (Bm l) z0 []) i=13+0+Ax (Bm l)*(Bm l).length+0:=rfl;simp_all
theorem a1e{l:LI}(b:1<=l.length)(f:l.length<=4096)(a:l.all Ae=ka)(g:a4s (Bm l)){k:Int}(d:0<=k)(t:k<=3):∃s,Cv (l,k)=kc (s,0)/\sO s/\EF s (l.length:Int)=kc l/\s=(fH l (IH (Bm l) k)).2.2/\KS s (l.length:Int)=(fH l (IH (Bm l) k)).1/\KS s (l.length:Int)<=((13+Ax l*l.length:Nat):Int)/\(∀c∈IH (Bm l) k,(Cu c.1 l c).2=0->KS s (l.length:Int)<=KS (Cu c.1 l c).1 (l.length:Int)):=by(obtain⟨-,p,v,-⟩:=Ie f a;have hb:=c1k b f a g d t;have j:=b2u b f a (Bm l) k;obtain⟨c,i,q,r,o⟩:=(a6F l (IH (Bm l) k)).one j;have e:=bS p (by omega) g k c i;obtain⟨m,-,-,n⟩:=pL e q;rw[<-r]at m n;have h:∀c∈IH (Bm l) k,(Cu c.1 l c).2=0->KS (fH l (IH (Bm l) k)).2.2 (l.length:Int)<=KS (Cu c.1 l c).1 (l.length:Int):=λc i d=>by rw[<-o];exact((a6F l (IH (Bm l) k)).least c i d).2);refine⟨_,hb,m,n,rfl,o.symm,?_,h⟩;have u:=h (cS 1 0 0 [] []) (by simp[IH,Ce]) (by rw[show(cS 1 0 0 [] []).1=1 from rfl,bU b f a]);rw[show(cS 1 0 0 [] []).1=1 from rfl,b2w b f a]at u;have:=C8 l.length (b2v f a);omega
def EH(L:List Int):Prop:=∀b∈L,b=0\/b=1
def fJ(bs:List Int)(i:Nat):Bool:=(bs.getD (i / 8) 0).toNat.testBit (7-i%8)
theorem d4B{x y:Nat}(h:x<256)(g:y<256):bits .u8 .or (x:Int) (y:Int)=((x ||| y:Nat):Int):=by(show zB .u8 (((A6 8 (x:Int)) ||| (A6 8 (y:Int))).toNat:Int)=_;rw[K6,K6,N5,L4,L4,E1 h,E1 g,IZ]);have:x ||| y<2^8:=M6 h g;omega
theorem d3Y{b:Int}(hb:b=0\/b=1){r:Nat}(g:r<8):AO .u8 b (7-(r:Int))=((b.toNat*2^(7-r):Nat):Int):=by(have h:∀r:Fin 8,AO .u8 0 (7-(r.1:Int))=((0*2^(7-r.1):Nat):Int)/\AO .u8 1 (7-(r.1:Int))=((1*2^(7-r.1):Nat):Int):=by decide +kernel);rcases hb with rfl|rfl;exact(h ⟨r,g⟩).1;exact(h ⟨r,g⟩).2
theorem b5I(L:LI)(b:Int)(i:Nat):(L++[b]).getD i 0=if i=L.length then b else L.getD i 0:=by grind
theorem a9E(h:LI)(k:Nat)(y:Int)(g:k<h.length)(j:Nat):(h.set k y).getD j 0=if j=k then y else h.getD j 0:=by grind
theorem a4v:∀(n:Nat)(L:LI),L.length=n->EH L->(∀j,0<=(wL L).1.getD j 0/\(wL L).1.getD j 0<256)/\∀i,fJ (wL L).1 i=A3 (L.getD i 0=1)
 |0,L,h,_=>by
  simp_all[wL,fJ]
 |n+1,L,h,t=>by
  obtain⟨g,b,rfl⟩:∃g b,L=g++[b]:=by
   rcases E7 L with rfl|⟨g,b,e⟩;all_goals simp_all
  have hb:b=0\/b=1:=t b (by simp);obtain⟨y,z⟩:=a4v n g (by simp_all) λc F=>t c (by grind);obtain⟨o,p⟩:=NT g;rw[eU];generalize wL g=wr at o p y z|-;obtain⟨d,m,u⟩:=wr;have o:m=(g.length:Int):=o;have p:d.length=(g.length+7) / 8:=p;subst o;have e8:((g.length:Int) / 8).toNat=g.length / 8:=by rfl
  have r:(g.length:Int)%8=((g.length%8:Nat):Int):=by rfl
  obtain⟨f,a,A,B⟩:∃f:List Int,(if(g.length:Int)%8=0 then d++[0]else d)=f/\g.length / 8<f.length/\∀j,f.getD j 0=d.getD j 0:=by
   grind
  rw[r]at a;have E:g.length%8<8:=C1 _ (by simp);obtain⟨x,v⟩:∃x:Nat,d.getD (g.length / 8) 0=(x:Int):=A4 (y _).1;have k:x<256:=by
   grind
  have w:b.toNat*2^(7-g.length%8)<256:=by
   have G:2^(7-g.length%8)<=2^7:=D2 (by simp) (by omega);grind
  have D:x ||| b.toNat*2^(7-g.length%8)<2^8:=M6 k w;have l:(a8Z (d,(g.length:Int),u) b).1=f.set (g.length / 8) ((x ||| b.toNat*2^(7-g.length%8):Nat):Int):=by
   unfold a8Z;simp only[a,e8,r];rw[B,v,d3Y hb E,d4B k w]
  rw[l];refine⟨λj=>?_,λi=>?_⟩;grind[a9E]
  ·unfold fJ;rw[a9E _ _ _ A,b5I];have q:=z i;unfold fJ at q;by_cases hk:i / 8=g.length / 8
   ·rw[if_pos hk,tN,Nat.testBit_or];rw[hk,v,tN]at q;rw[q];have C:(b.toNat*2^(7-g.length%8)).testBit (7-i%8)=(A3 (b=1)&&A3 (i=g.length)):=by
     rcases hb with rfl|rfl;all_goals grind
    grind
   grind
theorem c1m{L:LI}(h:EH L):(∀j,0<=(wL L).1.getD j 0/\(wL L).1.getD j 0<256)/\∀i,fJ (wL L).1 i=A3 (L.getD i 0=1):=a4v _ L rfl h
theorem EH.app{A B:LI}(h:EH A)(g:EH B):EH (A++B):=λb hb=>(mA.1 hb).elim (h b) (g b)
theorem b5J{n:Nat}(f:n<=62)(x:Int):∃v:Nat,Ga x n=(v:Int)/\v<2^n/\(v:Int)=x%((2^n:Nat):Int):=by(have k:zB .u64 x=x%18446744073709551616:=by rfl);(obtain⟨y,h⟩:∃y:Nat,x%18446744073709551616=(y:Int):=A4 (Int.emod_nonneg _ (by simp));have g:y<18446744073709551616:=by omega);refine⟨y%2^n,?_,C1 _ (F1 n),?_⟩;simp_all[Ga,Ul];rw[Int.natCast_emod,<-h];refine K7 x ?_;have:(2:Nat)^n ∣ 2^64:=Nat.pow_dvd_pow 2 (by omega);exact Int.natCast_dvd_natCast.2 this
def c9H(P R:List Int):Prop:=EH (P++R)/\(P++R).length<200000000
theorem c9H.shift{P A R:LI}(h:c9H P (A++R)):c9H (P++A) R:=by unfold c9H at h|-;simp_all
def c8L(n:Nat):List Int:=A8 n 0++[1]
theorem Kb{v n:Nat}(h:n<=63)(hv:v<2^n)(L:LI):AJ (v:Int) n L=L++pb (v:Int) n:=by grind[AJ,Ef,Nat.div_eq_of_lt]
def a9F(k:Nat)(x:Int):List Int:=if AU x / 2^k<32 then c8L (AU x / 2^k)++pb ((AU x%2^k:Nat):Int) k else c8L 32++pb ((AU x:Nat):Int) 32
theorem b5K{k:Nat}(f:k<=25){x:Int}(g:Ae x=ka)(L:LI):Oi k x L=L++a9F k x:=by have h:=PH g;unfold Oi a9F;split;rw[Kb (by omega) (C1 _ (F1 k))];simp[a2b,c8L];grind[Kb,a2b,c8L]
def a6H(k:Nat)(l:List Int):List Int:=l.flatMap (a9F k)
theorem a1f{k:Nat}(g:k<=25):∀(l L:LI),l.all Ae=ka->Jb k l L=L++a6H k l|[],L,_=>by simp[Jb,a6H]|x::l,L,h=>by simp only[C5,bA]at h;show Jb k l (Oi k x L)=_;rw[a1f g l _ h.2,b5K g h.1];simp[a6H]
def sB(n:Nat)(l:List Int):List Int:=l.flatMap λx=>pb (Ga x n) n
theorem RD{n:Nat}(g:n<=62):∀(l L:LI),Dg n l L=L++sB n l|[],L=>by simp[Dg,sB]|x::l,L=>by show Dg n l (AJ (Ga x n) n L)=_;obtain⟨v,f,h,-⟩:=b5J g x;rw[RD g l,f,Kb (by omega) h,<-f];simp[sB]
def a9G(k:Int)(part:List Int):List Int:=if k=31 then pb 31 5++(pb ((Ax part:Nat):Int) 5++sB (Ax part) part)else pb k 5++a6H k.toNat part
theorem b5L{k:Int}(h:kB k=ka){part:LI}(g:part.all Ae=ka)(L:LI):Sk k part L=L++a9G k part:=by have f:=HC g;simp[kB]at h;obtain⟨K,rfl⟩:=A4 (show 0<=k by omega);grind[Sk,a9G,IY,Kb,RD,a1f]
def Pj:List Nat->List Int->List Int->List Int|z::zs,k::ks,l=>a9G k (l.take z)++Pj zs ks (l.drop z)|_,_,_=>[]
theorem b5M{l:LI}(h:l.all Ae=ka)(z:Nat):(l.take z).all Ae=ka:=lA.2 λx g=>lA.1 h x (K8 g)
theorem b5N{l:LI}(h:l.all Ae=ka)(z:Nat):(l.drop z).all Ae=ka:=lA.2 λx g=>lA.1 h x (G5 g)
theorem a1g:∀(h:List Nat)(ks l L:LI),ks.all kB=ka->l.all Ae=ka->Jc h ks l L=L++Pj h ks l|z::h,k::ks,l,L,g,f=>by simp only[C5,bA]at g;simp only[Jc,Pj];rw[a1g h ks _ _ g.2 (b5N f z),b5L g.1 (b5M f z)];simp|[],_,_,L,_,_=>by simp[Jc,Pj]|_::_,[],_,L,_,_=>by simp[Jc,Pj]
def jG(p:Xq)(zn:List Nat)(l:List Int):List Int:=pb p.1 4++Pj zn p.2.1 l
theorem a3m{p:Xq}{n sH:Int}{l:LI}{g:List Nat}(h:sW p n sH l g)(L:LI):Dt p g l L=L++jG p g l:=by obtain⟨o,k,u⟩:=p;have f:=h.order;simp only at f;obtain⟨O,rfl⟩:=A4 f.1;unfold Dt jG;simp only;rw[IY (by omega),Kb (n:=4) (by omega) (by omega),a1g _ _ _ _ h.all h.wide];simp
def a1h(s:BN):List Int:=pb ((s.2.2.2.2.2.1.length-1:Nat):Int) 5++(pb s.2.2.2.1 4++(pb ((Ax s.2.2.2.2.2.1:Nat):Int) 5++sB (Ax s.2.2.2.2.2.1) s.2.2.2.2.2.1))
theorem b5O{c:LI}{t:Int}(h:Sc c t=ka):1<=c.length/\c.length<=32/\0<=t/\t<=15/\c.all Ae=ka:=by simp only[Sc,bA,dT]at h;obtain⟨g,f,k,a,b⟩:=h;refine⟨g,f,k,a,lA.2 λx d=>?_⟩;have:=lA.1 b x d;simp[lB]at this;rw[Cp];omega
theorem a1i{s:BN}(h:Sc s.2.2.2.2.2.1 s.2.2.2.1=ka)(L:LI):JZ s L=L++a1h s:=by obtain⟨a,b,g,d,f⟩:=b5O h;have k:=HC f;unfold JZ a1h;generalize s.2.2.2.2.2.1=c at *;generalize s.2.2.2.1=t at *;obtain⟨T,rfl⟩:=A4 g;grind[Al,Av,RD,Kb]
def c1n(st:List Si):List Int:=st.flatMap λg=>pb (g.1-1) 5++pb g.2.1 4
theorem a9H{g:Si}(h:Ab.tK g=ka):1<=g.1/\g.1<=32/\0<=g.2.1/\g.2.1<=8:=by simp_all[Ab.tK]
theorem mD:∀(st:List Si)(L:LI),st.all Ab.tK=ka->Fm st L=L++c1n st|[],L,_=>by simp[Fm,c1n]|g::st,L,h=>by simp only[C5,bA]at h;obtain⟨k,c,f,d⟩:=a9H h.1;show Fm st (Mu g L)=_;rw[mD st _ h.2];obtain⟨a,b,u⟩:=g;simp only at k c f d;obtain⟨B,rfl⟩:=A4 f;obtain⟨A,e⟩:=A4 (show 0<=a-1 by omega);grind[Mu,PI,IY,Kb,c1n]
def a9I(s:BN):List Int:=
 if s.1=2 then pb s.2.2.1 3
 else if s.1=3 then a1h s
 else if s.1=4 then pb (s.2.2.2.2.1-1) 10++(sB 8 s.2.2.2.2.2.2.1++a1h s)
 else if s.1=5 then pb ((s.2.2.2.2.2.2.2.1.length:Nat):Int) 2++c1n s.2.2.2.2.2.2.2.1
 else[]
theorem a4w{s:BN}{n:Int}(h:LG s.1 s n)(L:LI):CH s L=L++a9I s:=by unfold CH a9I;rcases h with k|k|⟨k,g,f,-⟩|⟨k,g,-⟩|⟨k,g,-,a⟩|⟨k,g,f⟩;grind;grind;rw[if_pos k,if_pos k];grind[A4,IY,Kb];simp_all[a1i];rw[if_neg (by omega),if_neg (by omega),if_pos k,if_neg (by omega),if_neg (by omega),if_pos k,a1i g,RD (by omega)];simp only[Qw,bA,dT]at a;obtain⟨A,b⟩:=A4 (show 0<=s.2.2.2.2.1-1 by omega);grind[PI,IY,Kb];rw[if_neg (by omega),if_neg (by omega),if_neg (by omega),if_pos k,if_neg (by omega),if_neg (by omega),if_neg (by omega),if_pos k];simp only[KY,bA,dT]at f;grind[mD,IY,Kb]
def b8S(s:BN):List Int:=pb s.1 3++(pb s.2.1 5++pb ((Ax s.2.2.2.2.2.2.2.2.1:Nat):Int) 5)
theorem b5P{s:BN}(g:0<=s.1/\s.1<=5)(f:0<=s.2.1/\s.2.1<=30)(h:s.2.2.2.2.2.2.2.2.1.all Ae=ka)(L:LI):Tg s L=L++b8S s:=by grind[A4,HC,Tg,b8S,IY,Kb]
def jH(s:BN)(zn:List Nat):List Int:=(b8S s++a9I s)++(sB (Ax s.2.2.2.2.2.2.2.2.1) s.2.2.2.2.2.2.2.2.1++if s.1=0\/s.1=1 then[]else jG s.2.2.2.2.2.2.2.2.2.1 zn s.2.2.2.2.2.2.2.2.2.2.1)
theorem XK{s:BN}{n:Int}(c:BW s n){g:List Nat}(e:s.1≠0/\s.1≠1->sW s.2.2.2.2.2.2.2.2.2.1 n (s.2.2.2.2.2.2.2.2.1.length:Int) s.2.2.2.2.2.2.2.2.2.2.1 g)(L:LI):EG s g L=L++jH s g:=by obtain⟨-,-,h,-,a,b,-,-,k,-⟩:=c;have d:=HC k;have f:=b5P (a1d h) ⟨a,b⟩ k L;unfold EG jH;by_cases hk:s.1=0\/s.1=1;rw[if_pos hk,if_pos hk,RD (by omega),a4w h,f];simp;rw[if_neg hk,if_neg hk,a3m (e (not_or.1 hk)),RD (by omega),a4w h,f];simp
theorem c8M(y:Int):bits .u64 .and y 1=y%2:=by(have h:((A6 64 y) &&& (A6 64 1)).toNat=(y%18446744073709551616).toNat%2:=by simp);show zB .u64 (((A6 64 y) &&& (A6 64 1)).toNat:Int)=_;grind[Av]
theorem EI(v:Int):∀n,EH (pb v n)|0=>(λb hb=>by cases hb)|n+1=>λb hb=>by rcases mC.1 hb with rfl|hb;grind[lL,c8M,IZ];exact EI v n b hb
theorem b3K(n:Nat):EH (c8L n):=λb hb=>by rcases mA.1 hb with hb|hb;all_goals simp_all
theorem Yz{α:Type}{f:α->List Int}{l:List α}(h:∀x,EH (f x)):EH (l.flatMap f):=λb hb=>by obtain⟨x,-,g⟩:=F9.1 hb;exact h x b g
theorem b5Q(k:Nat)(x:Int):EH (a9F k x):=by unfold a9F;split;exact(b3K _).app (EI _ _);exact(b3K _).app (EI _ _)
theorem pM(n:Nat)(l:LI):EH (sB n l):=Yz λ_=>EI _ _
theorem b5R(k:Int)(l:LI):EH (a9G k l):=by unfold a9G;split;exact(EI _ _).app ((EI _ _).app (pM _ _));exact(EI _ _).app (Yz λ_=>b5Q _ _)
theorem fK:EH []:=λb hb=>by grind
theorem a1j:∀(h:List Nat)(ks l:LI),EH (Pj h ks l)|z::h,k::ks,l=>by simp only[Pj];exact(b5R _ _).app (a1j h ks _)|[],_,_=>by simp_all[Pj,fK]|_::_,[],_=>by simp_all[Pj,fK]
theorem a1k(s:BN):EH (a1h s):=(EI _ _).app ((EI _ _).app ((EI _ _).app (pM _ _)))
theorem b5S(s:BN):EH (a9I s):=by unfold a9I;split;exact EI _ _;split;exact a1k s;split;exact(EI _ _).app ((pM _ _).app (a1k s));split;exact(EI _ _).app (Yz λ_=>(EI _ _).app (EI _ _));exact fK
theorem b8T(s:BN)(h:List Nat):EH (jH s h):=by refine(((EI _ _).app ((EI _ _).app (EI _ _))).app (b5S s)).app ((pM _ _).app ?_);split;exact fK;exact(EI _ _).app (a1j _ _ _)
theorem b8U{s:BN}(h:sO s){n:Int}(k:(EF s n).isSome=ka){L:LI}(j:L.length<50000000):∃g,Ry (wL L,s,n)=kc (0,wL (L++jH s g))/\JK (s,n)=kc ((jH s g).length:Int)/\(jH s g).length<=700000/\(s.1≠0/\s.1≠1->sW s.2.2.2.2.2.2.2.2.2.1 n (s.2.2.2.2.2.2.2.2.1.length:Int) s.2.2.2.2.2.2.2.2.2.2.1 g):=by obtain⟨e,i,a,-,c,d,-⟩:=bH h (n:=n) (L:=L) (by omega);obtain⟨rfl,g,rfl,f⟩:=d k;have b:=XJ k;rw[XK b f]at a c;refine⟨g,a,?_,by simp_all,f⟩;rw[b3E h];unfold KS;rw[if_pos k,<-pH f,XK b f];simp
theorem b8V{L:LI}(h:L.length<1000000000):Gy (wL L)=kc ((wL L).1,wL L):=by grind[NT,Gy,AN]
def Fk(n:Nat):List Int:=if h:n<128 then[(n:Int)]else((n%128+128:Nat):Int)::Fk (n / 128)
termination_by n
decreasing_by omega
theorem YA{n:Nat}(h:n<128):Fk n=[(n:Int)]:=by rw[Fk,dif_pos h]
theorem pN{n:Nat}(h:¬ n<128):Fk n=((n%128+128:Nat):Int)::Fk (n / 128):=by rw[Fk,dif_neg h]
theorem fL:∀(k n:Nat),n<128^(k+1)->1<=(Fk n).length/\(Fk n).length<=k+1|0,n,h=>by simp_all[YA]|k+1,n,h=>by by_cases hn:n<128;rw[YA hn];simp;rw[pN hn];have:=fL k (n / 128) (by omega);simp_all
theorem a1l:∀(k n:Nat),n<128^(k+1)->∀b∈Fk n,0<=b/\b<256|0,n,h,b,hb=>by grind[YA]|k+1,n,h,b,hb=>by by_cases hn:n<128;grind[YA];rw[pN hn]at hb;rcases mC.1 hb with rfl|hb;omega;exact a1l k (n / 128) (by omega) b hb
theorem b3L:∀(k n:Nat)(a:LI)(b c:Int)(out:LI),n<128^(k+1)->k<=8->out.length+k<1000000->∃r g,Ah Nn ((n:Int),a,b,c,out,())=kc (((r:Nat):Int),a,b,c,out++g,())/\Fk n=g++[(r:Int)]/\r<128|k,n,a,b,c,out,h,p,q=>by by_cases hn:n<128;refine⟨n,[],?_,by rw[YA hn];rfl,hn⟩;rw[Ad (b:=((n:Int),a,b,c,out,())) (by(have d:A3 ((n:Int)>=128)=kb:=by grind);simp only[Nn,d,cF])];simp;cases k with|zero=>omega|succ k=>(have m:n / 128<128^(k+1):=by omega);(have f:n<18446744073709551616:=by have:128^(k+1+1)<=128^9:=D2 (by omega) (by omega);omega);(obtain⟨r,g,o,j,l⟩:=b3L k (n / 128) a b c (out++[((n%128+128:Nat):Int)]) m (by omega) (by grind);refine⟨r,((n%128+128:Nat):Int)::g,?_,by rw[pN hn,j];rfl,l⟩;have d:A3 ((n:Int)>=128)=ka:=by grind);(have e:zB .u64 (D1 (n:Int) 128)=((n / 128:Nat):Int):=by rw[show D1 (n:Int) 128=((n / 128:Nat):Int)from rfl];exact Av (by omega));(have i:zB .u8 (zB .u8 (D9 (n:Int) 128)+128)=((n%128+128:Nat):Int):=by rw[show D9 (n:Int) 128=((n%128:Nat):Int)from rfl,IZ,IZ];omega);rw[Ag (s':=(((n / 128:Nat):Int),a,b,c,out++[((n%128+128:Nat):Int)],())) (by simp only[Nn,d,cT,AN (show out.length+1<2147483648 by omega),e,i,B4])];simp_all
theorem Oa{α β γ:Type}(f:α->List γ):∀(l:List α)(a:List γ),Gq (β:=β) (λa x=>.inl (a++f x)) l a=.inl (a++l.flatMap f)|[],a=>by simp[Gq]|x::l,a=>by simp only[Gq];rw[Oa f l];simp
def Tk(ns:List Nat):List Int:=ns.map λn:Nat=>(n:Int)
theorem fM{ns:List Nat}(h:∀n∈ns,n<9223372036854775808)(w:ns.length<=1000):PB (Tk ns)=kc (ns.flatMap Fk):=by
 have m:(Tk ns).length=ns.length:=by simp[Tk]
 have:=Bi (f:=Np) (Tk ns) (λi (a:LI)=>(Tk ns,((Tk ns).length:Int),(i:Int),a,())) (λa x=>.inl (a++Fk x.toNat)) (λi a=>a.length<=10*i) (λa=>(a,()))
  (λi l a t=>⟨λu g=>by
   have c:i<ns.length:=by omega
   have p:(Tk ns)[i]=((ns[i]:Nat):Int):=by simp[Tk]
   have hb:=h ns[i] (A9 c);have k:ns[i]<128^(8+1):=by omega
   obtain⟨r,d,q,j,v⟩:=b3L 8 ns[i] (Tk ns) ((Tk ns).length:Int) (i:Int) a k (E8 _) (by omega);have o:=fL 8 ns[i] k;rw[j]at o;simp only[lN,lC,B3]at o;simp[p,j]at g;subst g;have e:zB .u8 (r:Int)=(r:Int):=by rw[IZ];omega
   refine⟨?_,by grind⟩;simp only[Np,Bp l,cT,Ac l,p,oB,q,AN (show(a++d).length+1<2147483648 by grind),Aa (show i<1000000 by omega),e,B4,aA],λb hb=>by grind⟩)
  (λa t=>by simp_all[Np]) (a:=[]) (by simp)
 simp_all[PB,Oa,Sz,Tk,N1]
theorem d6Q{a b k:Nat}(f:a<2^k)(c:b*2^k+a<18446744073709551616):bits .u64 .or (a:Int) ((b*2^k:Nat):Int)=((a+b*2^k:Nat):Int):=by
 show zB .u64 ((A6 64 (a:Int) ||| A6 64 ((b*2^k:Nat):Int)).toNat:Int)=_;have g:(A6 64 (a:Int)).toNat=a:=by grind
 have h:(A6 64 ((b*2^k:Nat):Int)).toNat=b*2^k:=by grind[E5]
 grind[H3,F3,Av]
def a3n(g:Int):Nat:=if 0<=g then(2*g).toNat else(-2*g-1).toNat
theorem c4l{g:Int}(h:-100000<=g/\g<=100000):SO g=kc (a3n g:Int):=by
 unfold SO a3n;by_cases hg:0<=g;have d:A3 (g>=0)=ka:=by simp_all
 rw[d,cT,if_pos hg,Av (n:=g) (by omega),Av (by omega),H1 (by omega)];have d:A3 (g>=0)=kb:=by simp_all
 rw[d,cF,if_neg hg,Al (n:=g+1) (by omega),Al (by omega),Av (n:=0-(g+1)) (by omega),Av (n:=2*(0-(g+1))) (by omega),Av (by omega),H1 (by omega)];grind
theorem b3M{g:Int}{m:Nat}(h:-(m:Int)<=g/\g<=(m:Int)):a3n g<=2*m:=by grind[a3n]
def e8(s:Int):Int:=bif (Au .u8 s 7)==(1:Int)then bits .u8 .xor (AO .u8 s 1) 7 else AO .u8 s 1
def b6p(s:Int):Int:=bif (Au .u16 s 15)==(1:Int)then bits .u16 .xor (AO .u16 s 1) 32773 else AO .u16 s 1
def a3o{α:Type}(f:α->α):Nat->α->α|0,s=>s|n+1,s=>a3o f n (f s)
def g8(s c:Int):Int:=a3o e8 8 (bits .u8 .xor s c)
def c8N(s c:Int):Int:=a3o b6p 8 (bits .u16 .xor s (AO .u16 (zB .u16 c) 8))
theorem a1m(l:LI)(n i:Int):∀(j k:Nat)(s:Int),k+j=8->Ah PU (s,l,n,i,(k:Int),())=kc (a3o e8 j s,l,n,i,())|0,k,s,h=>by(obtain rfl:k=8:=by omega);rfl|j+1,k,s,h=>by(have d:A3 ((k:Int)<8)=ka:=by grind);rw[Ag (s':=(e8 s,l,n,i,((k+1:Nat):Int),())) (by simp only[PU,d,cT,Aa (show k<1000000 by omega),e8];grind)];exact a1m l n i j (k+1) (e8 s) (by omega)
theorem fN(l:LI)(n i:Int):∀(j k:Nat)(s:Int),k+j=8->Ah Nq (s,l,n,i,(k:Int),())=kc (a3o b6p j s,l,n,i,())|0,k,s,h=>by(obtain rfl:k=8:=by omega);rfl|j+1,k,s,h=>by(have d:A3 ((k:Int)<8)=ka:=by grind);rw[Ag (s':=(b6p s,l,n,i,((k+1:Nat):Int),())) (by simp only[Nq,d,cT,Aa (show k<1000000 by omega),b6p];grind)];exact fN l n i j (k+1) (b6p s) (by omega)
def c1o(l:List Int):Int:=l.foldl g8 0
def mE(l:List Int):Int:=l.foldl c8N 0
theorem b8W{l:LI}(h:short l):QS l=kc (c1o l):=by
 have:=Bi (f:=LR) (β:=Int×Unit) l (λi (a:Int)=>(a,l,(l.length:Int),(i:Int),())) (λa x=>.inl (g8 a x)) (λ_ _=>True) (λa=>(a,()))
  (λi k a _=>⟨λc g=>by
   simp at g;subst g
   have:=a1m l (l.length:Int) (i:Int) 8 0 (bits .u8 .xor a l[i]) rfl
   simp at this;refine⟨?_,trivial⟩;simp only[LR,Bp k,cT,Ac k,oB,this,Aa (B7 k h),g8],λb hb=>by grind⟩)
  (λa d=>by simp_all[LR]) (a:=0) trivial
 unfold QS;simp at this;rw[this,Sr];rfl
theorem b2x{l:LI}(h:short l):Nr l=kc (mE l):=by
 have:=Bi (f:=Jj) (β:=Int×Unit) l (λi (a:Int)=>(a,l,(l.length:Int),(i:Int),())) (λa x=>.inl (c8N a x)) (λ_ _=>True) (λa=>(a,()))
  (λi k a _=>⟨λc g=>by
   simp at g;subst g
   have:=fN l (l.length:Int) (i:Int) 8 0 (bits .u16 .xor a (AO .u16 (zB .u16 l[i]) 8)) rfl
   simp at this;refine⟨?_,trivial⟩;simp only[Jj,Bp k,cT,Ac k,oB,this,Aa (B7 k h),c8N],λb hb=>by grind⟩)
  (λa d=>by simp_all[Jj]) (a:=0) trivial
 unfold Nr;simp at this;rw[this,Sr];rfl
theorem a6I(n:Int):zB .u16 n=n%65536:=by rfl
theorem b8X(s:Int):0<=e8 s/\e8 s<256:=by unfold e8;cases (Au .u8 s 7==1:Bool);simp only[cF,AO,IZ];omega;simp only[cT,bits,IZ];omega
theorem a4x(s:Int):0<=b6p s/\b6p s<65536:=by unfold b6p;cases (Au .u16 s 15==1:Bool);simp only[cF,AO,a6I];omega;simp only[cT,bits,a6I];omega
theorem mF(l:LI):0<=mE l/\mE l<65536:=by unfold mE;rcases E7 l with rfl|⟨L,b,rfl⟩;simp;rw[K0,F5];exact a4x _
theorem d3Z{v:Int}(h:0<=v/\v<65536):HA (v,2)=kc [v / 256,v%256]:=by
 have g:zB .u64 (D1 v 256)=v / 256:=by grind[Av]
 have f:zB .u8 (D9 v 256)=v%256:=by simp_all[Int.tmod_eq_emod_of_nonneg,IZ]
 have k:zB .u8 (D9 (v / 256) 256)=v / 256:=by grind[IZ]
 have a:Cz (v,(2:Int),(0:Int),([]:List Int),())=kc (.inl (v / 256,(2:Int),(1:Int),[v%256],())):=by simp only[Cz,show A3 ((0:Int)<2)=ka from rfl,cT,AN (show([]:List Int).length+1<2147483648 by simp),g,f];rfl
 have c:Cz (v / 256,(2:Int),(1:Int),[v%256],())=kc (.inl (zB .u64 (D1 (v / 256) 256),(2:Int),(2:Int),[v%256,v / 256],())):=by simp only[Cz,show A3 ((1:Int)<2)=ka from rfl,cT,AN (show([v%256]:List Int).length+1<2147483648 by simp),k];rfl
 have d:IS (v,2)=kc [v%256,v / 256]:=by unfold IS Ly;simp;rw[show En (DH (2:Int) 0) 8=2 from rfl,Ag a,Ag c,Ad (b:=([v%256,v / 256],())) rfl];rfl
 simp_all[HA,Cn]
abbrev AA:Type:=Int×(Int×(Int×Unit))
abbrev Bo:Type:=Int×(Int×(AA×(List AA×(List BN×Unit))))
abbrev Bn:Type:=Int×(List (List Int)×Unit)
def Dy(n:Int)(s:AA):Bool:=!(A3 (s.1<0) || A3 (s.1>=n) || A3 (s.2.1<0) || A3 (s.2.1>=n) || s.1==s.2.1)&&!(A3 (s.2.2.1 < -1024) || A3 (s.2.2.1 > 1024))
theorem Db{n:Int}{s:AA}:Dy n s=ka↔0<=s.1/\s.1<n/\0<=s.2.1/\s.2.1<n/\s.1≠s.2.1/\-1024<=s.2.2.1/\s.2.2.1<=1024:=by simp only[Dy,bA,L9,K5,decide_eq_false_iff_not,beq_eq_false_iff_ne];omega
def Kc(l:List AA)(n:Int):Prop:=1<=n/\n<=8/\l.length<=16/\l.all (Dy n)=ka
instance (l:List AA) (n:Int):Decidable (Kc l n):=by unfold Kc;infer_instance
theorem XL(l:List AA)(n:Int):Ox (l,n)=kc (A3 (Kc l n)):=by
 unfold Ox Kc;by_cases h1:n<1;grind;by_cases h2:n > 8;grind;by_cases h3:((l.length:Nat):Int) > 16;grind;have g:=AY (f:=Ll) (β:=Unit ⊕ (Bool×Unit)) l (λi=>(n,l,(l.length:Int),(i:Int),())) (Dy n) (bt:=C7 ()) (bf:=C9 (kb,()))
  (λi h k=>by
   obtain⟨a1,o,p,q,r,t,u⟩:=Db.1 k;have a:A3 (l[i].1<0)=kb:=by simp_all
   have b:A3 (l[i].1>=n)=kb:=by simp_all
   have c:A3 (l[i].2.1<0)=kb:=by simp_all
   have d:A3 (l[i].2.1>=n)=kb:=by simp_all
   have e:(l[i].1==l[i].2.1)=kb:=by simp_all
   have j:A3 (l[i].2.2.1 < -1024)=kb:=by simp_all
   have m:A3 (l[i].2.2.1 > 1024)=kb:=by simp_all
   simp only[Ll,Bp h,cT,Ac h,oB,a,b,c,d,e,j,m,cF,Aa (show i<1000000 by omega)])
  (λi h k=>by
   simp only[Ll,Bp h,cT,Ac h,oB];grind[Dy])
  (by simp[Ll])
 grind
def Qj(f:AA):Prop:=1<=f.1/\f.1<=1048576/\1<=f.2.1/\f.2.1<=8/\4<=f.2.2.1/\f.2.2.1<=24
instance (f:AA):Decidable (Qj f):=by unfold Qj;infer_instance
theorem Kd(f:AA):DB f=kc (A3 (Qj f)):=by unfold DB Lj Qj;grind
def a4y(f:Bo):Prop:=Qj f.2.2.1/\1<=f.2.1/\f.2.1<=4096/\0<=f.1/\f.1<=4194304-f.2.1/\Kc f.2.2.2.1 f.2.2.1.2.1
instance (f:Bo):Decidable (a4y f):=by unfold a4y;infer_instance
theorem a1n(f:Bo):OR f=kc (A3 (a4y f)):=by unfold OR a4y;rw[Kd,XL];by_cases h1:Qj f.2.2.1<;>by_cases h2:1<=f.2.1<;>by_cases h3:f.2.1<=4096<;>by_cases h4:0<=f.1<;>simp[h1,h2,h3,h4];have h:zB .i64 ((4194304:Int)-f.2.1)=4194304-f.2.1:=Al (by omega);rw[h];grind
def KZ(s:AA):List Nat:=[s.1.toNat,s.2.1.toNat,a3n s.2.2.1]
def Zv(s:AA):List Int:=Fk s.1.toNat++(Fk s.2.1.toNat++Fk (a3n s.2.2.1))
def hb(f:Bo)(body:Nat):List Int:=[245,75]++(Fk f.1.toNat++(Fk f.2.1.toNat++(Fk f.2.2.1.1.toNat++(Fk f.2.2.1.2.1.toNat++(Fk f.2.2.1.2.2.1.toNat++(Fk f.2.2.2.1.length++(f.2.2.2.1.flatMap Zv++Fk body)))))))
def a1o(f:Bo)(body:Nat):List Int:=hb f body++[c1o (hb f body)]
theorem Pk{n:Nat}(h:n<9223372036854775808):1<=(Fk n).length/\(Fk n).length<=9:=fL 8 n (by omega)
theorem a4z{n:Int}(g:n<=8){s:AA}(h:Dy n s=ka):(Zv s).length<=27:=by grind[Db,Pk,a3n,Zv]
theorem jI{n:Int}(g:n<=8):∀(l:List AA),l.all (Dy n)=ka->(l.flatMap Zv).length<=27*l.length|[],_=>by simp|s::l,h=>by simp only[C5,bA]at h;have:=a4z g h.1;have:=jI g l h.2;simp only[D3,lN,lC];omega
theorem a6J{f:Bo}(g:a4y f){body:Nat}(h:body<=1048576):2<=(hb f body).length/\(hb f body).length<=600:=by obtain⟨⟨q,r,k,a,b,c⟩,l1,l2,s1,s2,m1,m2,m3,m4⟩:=g;have d:=Pk (n:=f.1.toNat) (by omega);have e:=Pk (n:=f.2.1.toNat) (by omega);have i:=Pk (n:=f.2.2.1.1.toNat) (by omega);have j:=Pk (n:=f.2.2.1.2.1.toNat) (by omega);have l:=Pk (n:=f.2.2.1.2.2.1.toNat) (by omega);have m:=Pk (n:=f.2.2.2.1.length) (by omega);have o:=Pk (n:=body) (by omega);have p:=jI m2 _ m4;simp only[hb,lN,lC,B3];omega
theorem b3N:∀l:List AA,(l.flatMap KZ).length=3*l.length|[]=>rfl|s::l=>by simp only[D3,lN,lC,b3N l];simp only[KZ,lC,B3];omega
theorem b2y{f:Bo}(A:a4y f){body:Nat}(q:body<=1048576):LS (f,(body:Int))=kc (a1o f body):=by
 have t:=A;obtain⟨⟨O,P,K,L,M,N⟩,l1,l2,s1,s2,m1,m2,m3,m4⟩:=t;have k:∀s∈f.2.2.2.1,Dy f.2.2.1.2.1 s=ka:=λs w=>lA.1 m4 s w;have h:=Bi (f:=HP) (β:=Int×(List Int×Unit)) f.2.2.2.1 (λi (a:LI)=>((body:Int),f.2.2.2.1,((f.2.2.2.1.length:Nat):Int),(i:Int),a,())) (λa x=>.inl (a++Tk (KZ x))) (λi a=>a.length=6+3*i) (λa=>((body:Int),a,()))
  (λi u a G=>⟨λI j=>by
   simp at j;subst j;obtain⟨a1,C,D,E,F,y,z⟩:=Db.1 (k _ (A9 u));refine⟨?_,by grind[Tk,KZ]⟩;simp only[HP,Bp u,cT,Ac u,oB,c4l (g:=f.2.2.2.1[i].2.2.1) (by omega),AN (show a.length+3<2147483648 by omega),Aa (show i<1000000 by omega),B4];grind[Av,Tk,KZ],λb hb=>by grind⟩)
  (λa G=>by simp_all[HP]) (a:=Tk [f.1.toNat,f.2.1.toNat,f.2.2.1.1.toNat,f.2.2.1.2.1.toNat,f.2.2.1.2.2.1.toNat,f.2.2.2.1.length]) (by rfl)
 rw[Oa]at h;simp[Sz]at h;have d:([zB .u64 f.1,zB .u64 f.2.1,zB .u64 f.2.2.1.1,zB .u64 f.2.2.1.2.1,zB .u64 f.2.2.1.2.2.1,zB .u64 ((f.2.2.2.1.length:Nat):Int)]:List Int)=Tk [f.1.toNat,f.2.1.toNat,f.2.2.1.1.toNat,f.2.2.1.2.1.toNat,f.2.2.1.2.2.1.toNat,f.2.2.2.1.length]:=by
  grind[Av,Tk]
 have o:Tk [f.1.toNat,f.2.1.toNat,f.2.2.1.1.toNat,f.2.2.1.2.1.toNat,f.2.2.1.2.2.1.toNat,f.2.2.2.1.length]++f.2.2.2.1.flatMap (λx=>Tk (KZ x))++[((body:Nat):Int)]=Tk ([f.1.toNat,f.2.1.toNat,f.2.2.1.1.toNat,f.2.2.1.2.1.toNat,f.2.2.1.2.2.1.toNat,f.2.2.2.1.length]++f.2.2.2.1.flatMap KZ++[body]):=by
  simp_all[Tk,List.map_flatMap]
 have v:∀n∈[f.1.toNat,f.2.1.toNat,f.2.2.1.1.toNat,f.2.2.1.2.1.toNat,f.2.2.1.2.2.1.toNat,f.2.2.2.1.length]++f.2.2.2.1.flatMap KZ++[body],n<9223372036854775808:=λn e=>by
  simp only[mA,mC,D6,or_false,F9]at e;rcases e with(e|⟨s,w,e⟩)|e;omega;obtain⟨a1,C,D,E,F,y,z⟩:=Db.1 (k _ w)
  have:=b3M (m:=1024) ⟨y,z⟩
  simp[KZ]at e;omega;omega
 have B:=b3N f.2.2.2.1;have p:=fM v (by grind);have c:(([f.1.toNat,f.2.1.toNat,f.2.2.1.1.toNat,f.2.2.1.2.1.toNat,f.2.2.1.2.2.1.toNat,f.2.2.2.1.length]++f.2.2.2.1.flatMap KZ++[body]).flatMap Fk)=(hb f body).drop 2:=by
  simp only[hb,H2,D3,List.flatMap_nil,D8,aA,List.flatMap_assoc,I9,C4,List.drop_succ_cons,K1];congr 7;exact cG (λg=>List.flatMap g f.2.2.2.1) (funext λs=>by simp[Zv,KZ])
 have r:[245,75]++(hb f body).drop 2=hb f body:=by rfl
 have H:=a6J A q;unfold LS;simp only[d];rw[h];simp only[oB,B4];have l:=cG E2 o;rw[show(Tk ([f.1.toNat,f.2.1.toNat,f.2.2.1.1.toNat,f.2.2.1.2.1.toNat,f.2.2.1.2.2.1.toNat,f.2.2.2.1.length]++f.2.2.2.1.flatMap KZ++[body])).length=7+3*f.2.2.2.1.length from by grind[Tk,lC]]at l;rw[lN,B8]at l;rw[Av (n:=(body:Int)) (by omega),AN (by omega),cT,o,p];simp only[oB,c,B4,r];rw[AN (by grind),cT,b8W (show short (hb f body)by unfold short;omega)]
 simp
 rw[AN (by omega),cT];rfl
abbrev PZ:Type:=BN×List Nat
def c1p(n:Int)(p:PZ):Prop:=sO p.1/\(EF p.1 n).isSome=ka/\(p.1.1≠0/\p.1.1≠1->sW p.1.2.2.2.2.2.2.2.2.2.1 n ((p.1.2.2.2.2.2.2.2.2.1.length:Nat):Int) p.1.2.2.2.2.2.2.2.2.2.2.1 p.2)
def BH(l:List PZ):List Int:=l.flatMap λp=>jH p.1 p.2
theorem b5T(l:List PZ):EH (BH l):=Yz λ_=>b8T _ _
theorem a4A(x:Bo)(all:List BN)(o:all.length<=8):∀(zC g:List BN)(L:LI),g++zC=all->(∀s∈zC,sO s/\(EF s x.2.1).isSome=ka)->L.length+700000*zC.length<40000000->∃f:List PZ,f.map (·.1)=zC/\(∀p∈f,c1p x.2.1 p)/\(BH f).length<=700000*zC.length/\((∀s∈zC,∃c,JK (s,x.2.1)=kc (c:Int))/\kc (((BH f).length:Nat):Int)=zC.foldr (λs a=>a.bind λa=>(JK (s,x.2.1)).bind λc=>kc (c+a)) (kc 0))/\Ah Ns (all,(all.length:Int),(g.length:Int),wL L,x,())=kc (.inl (wL (L++BH f),x,()))|[],g,L,r,_,_=>by(have e:g=all:=by simp_all);subst e;refine⟨[],rfl,by simp,by simp[BH],⟨by simp,by rfl⟩,?_⟩;simp_all[Ad,Ns,BH]|s::zC,g,L,r,h,q=>by(obtain⟨j,d⟩:=h s (by simp);rw[lC]at q;obtain⟨b,l,m,y,n⟩:=b8U j d (L:=L) (by omega);obtain⟨f,k1,k2,k3,⟨z,w⟩,k6⟩:=a4A x all o zC (g++[s]) (L++jH s b) (by simp_all) (λt v=>h t (by grind)) (by grind);have k:g.length<all.length:=by grind);(have u:Aq all (g.length:Int)=kc s:=by grind[Ac]);refine⟨(s,b)::f,by grind,λp i=>?_,?_,⟨λt v=>?_,?_⟩,?_⟩;rcases mC.1 i with rfl|i;exact⟨j,d,n⟩;simp_all;grind[BH];grind;simp only[List.foldr_cons,<-w,oB,m];simp[BH];have z0:((0:Int) != 0)=kb:=rfl;rw[Ag (s':=(all,(all.length:Int),(((g++[s]).length:Nat):Int),wL (L++jH s b),x,())) (by simp only[Ns,Bp k,cT,u,oB,l,z0,cF,Aa (show g.length<1000000 by omega)];simp)];simp_all[BH]
def a6K(k:Nat):Nat:=(8-k%8)%8
def jJ(L:List Int):List Int:=L++A8 (a6K L.length) 0
theorem a1p:∀(k:Nat)(L:LI),a6K L.length=k->L.length+k<900000000->Ah EC (wL L,())=kc (wL (L++A8 k 0),())|k,L,h,a=>by(have f:=(NT L).1;have g:D9 (wL L).2.1 8=((L.length%8:Nat):Int):=by grind);unfold a6K at h;cases k with|zero=>grind[Ad,EC]|succ k=>(have hb:(((L.length%8:Nat):Int) != 0)=ka:=by grind);rw[Ag (s':=(wL (L++[0]),())) (by simp only[EC,g,hb,cT,a6s (show L.length<1000000000 by omega),oB])];rw[a1p k (L++[0]) (by grind[a6K]) (by grind)];grind
theorem b8Y{L:LI}(h:L.length<800000000):Gx (wL L)=kc (wL (jJ L)):=by unfold Gx;rw[a1p _ L rfl (by unfold a6K;omega)];rfl
def Ob(L:List Int):List Int:=(wL (jJ L)).1
theorem a4B(L:LI):(Ob L).length=(L.length+7) / 8/\8*(Ob L).length=(jJ L).length:=by grind[NT,jJ,Ob,a6K]
def jK(f:Bo)(L:List Int):List Int:=a1o f (Ob L).length++Ob L
def a6L(f:Bo)(L:List Int):List Int:=jK f L++[mE (jK f L) / 256,mE (jK f L)%256]
theorem a1q{f:Bo}(g:a4y f){L:LI}(h:L.length<=5600000):(jK f L).length<=700700/\(Ob L).length<=700000:=by grind[a4B,a6J,jK,a1o]
theorem fO{f:Bo}(l:MG f=kc ka)(e:a4y f)(i:f.2.2.2.2.1.length<=8)(n:∀s∈f.2.2.2.2.1,sO s/\(EF s f.2.1).isSome=ka):∃h:List PZ,h.map (·.1)=f.2.2.2.2.1/\(∀p∈h,c1p f.2.1 p)/\(BH h).length<=5600000/\kc ((BH h).length:Int)=f.2.2.2.2.1.foldr (λs a=>a.bind λa=>(JK (s,f.2.1)).bind λc=>kc (c+a)) (kc 0)/\EL f=kc (a6L f (BH h),0):=by
 obtain⟨h,k1,k2,k3,⟨-,o⟩,k6⟩:=a4A f f.2.2.2.2.1 i f.2.2.2.2.1 [] [] rfl n (by grind);have d:(BH h).length<=5600000:=by omega
 refine⟨h,k1,k2,d,o,?_⟩;rw[C4,B3]at k6;have q:=a1q e d;have b:wL []=(([]:List Int),(0:Int),()):=rfl;rw[b]at k6;have k:(jJ (BH h)).length<1000000000:=by grind[a4B]
 have m:=mF (jK f (BH h));have g:a1o f (Ob (BH h)).length++Ob (BH h)=jK f (BH h):=rfl;have j:(a1o f (Ob (BH h)).length).length+(Ob (BH h)).length=(jK f (BH h)).length:=by grind
 unfold EL;simp only[l,zQ];erw[k6];simp only[oB,b8Y (show(BH h).length<800000000 by omega),b8V k];erw[b2y e (show(Ob (BH h)).length<=1048576 by omega)];simp only[oB,B4];rw[show(wL (jJ (BH h))).1=Ob (BH h)from rfl];rw[g,AN (by omega),cT,b2x (show short (jK f (BH h))by unfold short;omega)];simp;rw[Av (by omega),d3Z m];simp only[oB];rw[AN (by grind),cT];rfl
def Zw(f:Bo)(l:List BN):Bo:=(f.1,f.2.1,f.2.2.1,f.2.2.2.1,l,())
theorem VE(x:Int):Ps x=kc (Ae x):=by grind[Ps,Ae]
def Dh(c:List (List Int)):Prop:=1<=c.length/\c.length<=8/\(c.headD []).length<=4096/\c.all (λr=>A3 (r.length=(c.headD []).length)&&r.all Ae)=ka
instance (c:List (List Int)):Decidable (Dh c):=by unfold Dh;infer_instance
theorem Uy{α:Type}{l:List α}{d:α}(h:0<l.length):l[0]=l.headD d:=by cases l with|nil=>grind|cons a l=>rfl
theorem pO(c:List (List Int)):MA c=kc (A3 (Dh c)):=by
 unfold MA;by_cases h1:((c.length:Nat):Int)<1
 have:¬ Dh c:=λh=>by have:=h.1;omega
 simp_all;by_cases h2:((c.length:Nat):Int) > 8
 have:¬ Dh c:=λh=>by have:=h.2.1;omega
 simp_all;have m:0<c.length:=by omega
 have l:Aq c 0=kc (c.headD []):=by rw[show(0:Int)=((0:Nat):Int)from rfl,Ac m,Uy (d:=[]) m]
 have n:A3 (((c.length:Nat):Int)<1)=kb:=by simp_all
 have o:A3 (((c.length:Nat):Int) > 8)=kb:=by simp_all
 simp only[n,o,cF,l,oB];by_cases h3:(((c.headD []).length:Nat):Int) > 4096;rw[dE h3,dF (show ¬ Dh c from λh=>by have:=h.2.2.1;omega)];rfl;have p:A3 ((((c.headD []).length:Nat):Int) > 4096)=kb:=by simp_all
 simp only[p,cF];have g:∀(i:Nat)(r:LI),short r->Ah GO (c,c,(c.length:Int),(i:Int),r,(r.length:Int),(0:Int),())=kc (bif r.all Ae then C7 (c,c,(c.length:Int),(i:Int),())else C9 (kb,())):=λi r v=>by
  have:=AY (f:=GO) r (λj=>(c,c,(c.length:Int),(i:Int),r,(r.length:Int),(j:Int),())) Ae (bt:=C7 (c,c,(c.length:Int),(i:Int),())) (bf:=C9 (kb,()))
   (λj h a=>by simp only[GO,Bp h,cT,Ac h,oB,VE,a,bT,cF,Aa (B7 h v)])
   (λj h a=>by simp_all[GO,Ac,VE])
   (by simp_all[GO])
  omega
 have k:=AY (f:=GP) c (λi=>(c,c,(c.length:Int),(i:Int),())) (λr=>A3 (r.length=(c.headD []).length)&&r.all Ae) (bt:=C7 ()) (bf:=C9 (kb,()))
  (λi h a=>by
   simp only[bA,dT]at a;have e:((((c[i]).length:Nat):Int) != (((c.headD []).length:Nat):Int))=kb:=by simp_all
   have b:=g i c[i] (by unfold short;omega);rw[a.2,cT]at b;simp only[GP,Bp h,cT,Ac h,oB,l,e,cF,b,Aa (show i<1000000 by omega)])
  (λi h a=>by
   by_cases hl:(c[i]).length=(c.headD []).length;have e:((((c[i]).length:Nat):Int) != (((c.headD []).length:Nat):Int))=kb:=by simp_all
   have b:=g i c[i] (by unfold short;omega);rw[dE hl,L0]at a;rw[a,cF]at b;simp_all[GP,Ac];have e:((((c[i]).length:Nat):Int) != (((c.headD []).length:Nat):Int))=ka:=by grind
   simp only[GP,Bp h,cT,Ac h,oB,l,e])
  (by simp_all[GP])
 simp only[nZ]at k;rw[k];have q:1<=c.length:=by omega
 have t:c.length<=8:=by omega
 have u:(c.headD []).length<=4096:=by omega
 by_cases hA:c.all (λr=>A3 (r.length=(c.headD []).length)&&r.all Ae)=ka;rw[hA,dE (show Dh c from⟨q,t,u,hA⟩)];rfl;rw[E9.2 hA,dF (show ¬ Dh c from λh=>hA h.2.2.2)];rfl
def Eg(c:List (List Int))(n:Nat):Prop:=∀r∈c,r.length=n/\r.all Ae=ka
theorem YB{c:List (List Int)}(h:Dh c):Eg c (c.headD []).length:=λr g=>by have:=lA.1 h.2.2.2 r g;simp_all
theorem Uz{c:List (List Int)}{n:Nat}(h:Eg c n)(g:1<=c.length)(f:c.length<=8)(b:n<=4096):Dh c:=by(have a:(c.headD []).length=n:=by rw[<-Uy (d:=[]) (show 0<c.length by omega)];exact(h _ (A9 _)).1);refine⟨g,f,by omega,lA.2 λr k=>?_⟩;have:=h r k;simp_all
theorem a4C{c:List (List Int)}{n:Nat}(h:Eg c n)(m:n<=5000)(l:c.length<=100):Lm c=kc c:=by
 have:=Bi (f:=Kn) (β:=List (List Int)×Unit) c (λi (a:List (List Int))=>(c,(c.length:Int),(i:Int),a,())) (λa x=>.inl (a++[x])) (λi a=>a.length=i) (λa=>(a,()))
  (λi k a d=>⟨λj g=>by
   simp at g;subst g;have o:=(h _ (A9 k)).1;have e:∀y:List Int,J7 ([([]:List Int)]:List (List Int)) 0 y=[y]:=λ_=>rfl;refine⟨?_,by grind⟩;simp only[Kn,Bp k,cT,Ac k,oB,PG (show short c[i]by unfold short;omega),e];rw[AN (by grind),cT,Aa (show i<1000000 by omega)];rfl,λb hb=>by grind⟩)
  (λa d=>by simp_all[Kn]) (a:=[]) rfl
 simp_all[Oa,Lm,Sz]
def HD(sign g:Int)(x y:Int):Int:=y+sign*(g*x / 256)
def Qk(sign g:Int)(xs ys:List Int):List Int:=List.zipWith (HD sign g) xs ys
theorem b8Z(sign g:Int){f ys:LI}(h:f.length=ys.length):(Qk sign g f ys).length=ys.length:=by simp[Qk,h]
theorem a9J{sign g x y:Int}(b:sign=1\/sign=-1)(c:-1024<=g/\g<=1024)(k:Ae x=ka)(a:Ae y=ka):zB .i64 (y+zB .i64 (sign*Au .i64 (zB .i64 (g*x)) 8))=HD sign g x y:=by(have k:=Cp.1 k;have a:=Cp.1 a;have f:-1099511627776<=g*x/\g*x<=1099511627776:=by(have f:g.natAbs<=1024:=by omega);(have h:x.natAbs<=1073741824:=by omega);have:=B9 f h;rw[<-Int.natAbs_mul]at this;omega);(rw[Al (n:=g*x) (by omega)];have h:Au .i64 (g*x) 8=g*x / 256:=by unfold Au;show(g*x).fdiv (2^8)=_;grind);rw[h];unfold HD;rcases b with rfl|rfl;all_goals grind[Al]
theorem PP{α:Type}(c:List α){a b:Nat}(h:a≠b)(y d:α):(c.set b y).getD a d=c.getD a d:=by grind
theorem Ke{α:Type}(c:List α){b:Nat}(h:b<c.length)(y d:α):(c.set b y).getD b d=y:=by simp_all
theorem a1r{c:List (List Int)}{s:AA}{sign:Int}(d:sign=1\/sign=-1)(n:-1024<=s.2.2.1/\s.2.2.1<=1024)(a0:0<=s.1)(p:0<=s.2.1)(i:s.1.toNat≠s.2.1.toNat)(hb:s.2.1.toNat<c.length)(j:s.2.1<(c.length:Int))
  {k:LI}(m:c.getD s.1.toNat []=k)(F:k.length<=5000):∀(a g b h:LI),b++a=k->b.length=h.length->a.length=g.length->a.all Ae=ka->g.all Ae=ka->
  if(Qk sign s.2.2.1 a g).all Ae=ka then
   Ah Fs (sign,(k.length:Int),(h.length:Int),c.set s.2.1.toNat (h++g),s,(s.1.toNat:Int),())=kc (.inl (c.set s.2.1.toNat (h++Qk sign s.2.2.1 a g),()))
  else ∃q,Ah Fs (sign,(k.length:Int),(h.length:Int),c.set s.2.1.toNat (h++g),s,(s.1.toNat:Int),())=kc (.inr (kb,q,()))
 | [],g,b,h,K,G,l,_,_=>by
  have e:g=[]:=J2.1 l.symm;subst e;have z:h.length=k.length:=by simp_all
  rw[if_pos (by rfl),z];exact Ad (by simp only[Fs,b0u,cF];rfl)
 |x::a,[],b,h,_,_,l,_,_=>by simp_all
 |x::a,y::g,b,h,K,G,l,hwx,hwy=>by
  simp only[C5,bA]at hwx hwy;have E:h.length<k.length:=by grind
  have A:(c.set s.2.1.toNat (h++y::g)).getD (D0 (s.1.toNat:Int)) []=k:=by grind
  have B:(c.set s.2.1.toNat (h++y::g)).getD s.2.1.toNat []=h++y::g:=Ke _ hb _ _;have C:F6 k (D0 (h.length:Int)) 0=x:=by grind
  have D:F6 (h++y::g) (D0 (h.length:Int)) 0=y:=by simp
  have r:A3 ((0:Int)<=(h.length:Int))=ka:=by simp
  have t:A3 ((h.length:Int)<(k.length:Int))=ka:=by simp_all
  have u:A3 ((0:Int)<=s.2.1)=ka:=by simp_all
  have v:A3 (s.2.1<((c.set s.2.1.toNat (h++y::g)).length:Int))=ka:=by simp_all
  have w:A3 ((h.length:Int)<((h++y::g).length:Int))=ka:=by grind
  have H:=a9J d n hwx.1 hwy.1;have I:zB .i64 ((h.length:Int)+1)=((h.length+1:Nat):Int):=Aa (by omega);have L:Qk sign s.2.2.1 (x::a) (y::g)=HD sign s.2.2.1 x y::Qk sign s.2.2.1 a g:=rfl;have o:J7 (c.set s.2.1.toNat (h++y::g)) s.2.1.toNat (J7 (h++y::g) (D0 (h.length:Int)) (HD sign s.2.2.1 x y))=c.set s.2.1.toNat ((h++[HD sign s.2.2.1 x y])++g):=by
   simp
  have f:Fs (sign,(k.length:Int),(h.length:Int),c.set s.2.1.toNat (h++y::g),s,(s.1.toNat:Int),()) =
    bif !(Ae (HD sign s.2.2.1 x y))then kc (.inr (C9 (kb,c.set s.2.1.toNat (h++y::g),())))
    else kc (.inl (sign,(k.length:Int),((h.length+1:Nat):Int),c.set s.2.1.toNat ((h++[HD sign s.2.2.1 x y])++g),s,(s.1.toNat:Int),())):=by
   simp only[Fs,t,zQ,A,B,r,B6,u,v,w,C,D,VE,H,I]
   simp
  cases hwv:Ae (HD sign s.2.2.1 x y)with
  |false=>
   simp_all[Ad]
  |true=>
   rw[hwv]at f;have M:=a1r d n a0 p i hb j m F a g (b++[x]) (h++[HD sign s.2.2.1 x y]) (by simp_all) (by grind) (by simp_all) hwx.2 hwy.2;rw[Ag f,L];simp_all
def HE(sign:Int)(s:AA)(c:List (List Int)):Option (List (List Int)):=
 let r:=Qk sign s.2.2.1 (c.getD s.1.toNat []) (c.getD s.2.1.toNat [])
 if r.all Ae=ka then kc (c.set s.2.1.toNat r)else kd
theorem Hs{c:List (List Int)}{n:Nat}(h:Eg c n){i:Nat}(hi:i<c.length):(c.getD i []).length=n/\(c.getD i []).all Ae=ka:=by rw[lD,lG hi];exact h _ (A9 hi)
theorem a9K{c:List (List Int)}{n:Nat}(a:Eg c n)(w:n<=5000){s:AA}(p:Dy (c.length:Int) s=ka){sign:Int}(k:sign=1\/sign=-1):∃b f,MY (c,s,sign)=kc (b,f)/\match HE sign s c with|some r=>b=ka/\f=r|none=>b=kb:=by
 obtain⟨a1,u,d,e,v,j,l⟩:=Db.1 p;have q:=Hs a (i:=s.1.toNat) (by omega);have t:=Hs a (i:=s.2.1.toNat) (by omega);have hb:s.2.1.toNat<c.length:=by omega
 have g:c.set s.2.1.toNat (c.getD s.2.1.toNat [])=c:=by simp_all
 have:=a1r k ⟨j,l⟩ a1 d (by omega) hb e (rfl:c.getD s.1.toNat []=_) (by omega) (c.getD s.1.toNat []) (c.getD s.2.1.toNat []) [] [] rfl rfl (by omega) q.2 t.2;rw[C4,g]at this;simp only[B3,nZ,C4,H7]at this;have m:A3 ((0:Int)<=s.1)=ka:=by simp_all
 have o:A3 (s.1<(c.length:Int))=ka:=by simp_all
 unfold MY HE;simp only[m,o,B6,cT];by_cases hA:(Qk sign s.2.2.1 (c.getD s.1.toNat []) (c.getD s.2.1.toNat [])).all Ae=ka;simp_all;rw[if_neg hA]at this|-;obtain⟨f,h⟩:=this;simp_all
theorem Kf{c g:List (List Int)}{n:Nat}(f:Eg c n){s:AA}(a:Dy (c.length:Int) s=ka){sign:Int}(h:HE sign s c=kc g):Eg g n/\g.length=c.length:=by obtain⟨a1,b,d,e,j,l,m⟩:=Db.1 a;have p:=Hs f (i:=s.1.toNat) (by omega);have q:=Hs f (i:=s.2.1.toNat) (by omega);unfold HE at h;simp only at h;split at h;rename_i o;cases h;refine⟨λr k=>?_,by simp⟩;rcases I6 k with k|rfl;exact f r k;simp_all[b8Z];simp_all
theorem a9L(g:Int):∀f ys:List Int,f.length=ys.length->Qk (-1) g f (Qk 1 g f ys)=ys|[],[],_=>rfl|x::f,y::ys,h=>by have k:=a9L g f ys (by simpa using h);show HD (-1) g x (HD 1 g x y)::Qk (-1) g f (Qk 1 g f ys)=_;rw[k];unfold HD;congr 1;omega|[],_::_,h=>by grind|_::_,[],h=>by rfl
theorem b5U{c g:List (List Int)}{n:Nat}(f:Eg c n){s:AA}(k:Dy (c.length:Int) s=ka)(h:HE 1 s c=kc g):HE (-1) s g=kc c:=by(obtain⟨a1,b,d,e,j,l,m⟩:=Db.1 k;have o:=Hs f (i:=s.1.toNat) (by omega);have a:=Hs f (i:=s.2.1.toNat) (by omega);have hb:s.2.1.toNat<c.length:=by omega);unfold HE at h;simp only at h;split at h;cases h;unfold HE;simp only;rw[PP _ (show s.1.toNat≠s.2.1.toNat by omega),Ke _ hb,a9L _ _ _ (by omega),if_pos a.2,List.set_set];simp_all;simp_all
def YC:List AA->List (List Int)->Option (List (List Int))|[],c=>kc c|s::l,c=>(HE 1 s c).bind (YC l)
def PQ:List AA->List (List Int)->Option (List (List Int))|[],c=>kc c|s::l,c=>(PQ l c).bind (HE (-1) s)
theorem Ro{n:Nat}{N:Nat}:∀(l:List AA){c g:List (List Int)},Eg c n->c.length=N->l.all (Dy (N:Int))=ka->YC l c=kc g->Eg g n/\g.length=N|[],c,g,f,e,_,h=>(by cases h;simp_all)|s::l,c,g,f,e,k,h=>by simp only[C5,bA]at k;simp[YC,A7]at h;obtain⟨d,a,b⟩:=h;obtain⟨i,j⟩:=Kf f (by simp_all) a;exact Ro l i (by omega) k.2 b
theorem a4D{n:Nat}{N:Nat}:∀(l:List AA){c g:List (List Int)},Eg c n->c.length=N->l.all (Dy (N:Int))=ka->PQ l c=kc g->Eg g n/\g.length=N|[],c,g,f,k,_,h=>(by cases h;simp_all)|s::l,c,g,f,k,a,h=>by simp only[C5,bA]at a;simp[PQ,A7]at h;obtain⟨d,b,e⟩:=h;obtain⟨i,j⟩:=a4D l f k a.2 b;grind[Kf]
theorem b3O{n:Nat}{N:Nat}:∀(l:List AA){c g:List (List Int)},Eg c n->c.length=N->l.all (Dy (N:Int))=ka->YC l c=kc g->PQ l g=kc c|[],c,g,_,_,_,h=>(by cases h;rfl)|s::l,c,g,a,b,f,h=>by simp only[C5,bA]at f;simp only[YC,A7]at h;obtain⟨d,k,e⟩:=h;obtain⟨i,j⟩:=Kf a (by rw[b];exact f.1) k;simp only[PQ];rw[b3O l i (by omega) f.2 e];exact b5U a (by rw[b];exact f.1) k
def oT:Option (List (List Int))->List (List Int)×Int|some r=>(r,0)|none=>([],6)
theorem b3P{n N:Nat}(e:n<=5000){l:List AA}(p:l.length<=16)(o:l.all (Dy (N:Int))=ka):∀(k i:Nat)(c:List (List Int)),i+k=l.length->Eg c n->c.length=N->Ah MZ (l,(l.length:Int),(i:Int),c,())=kc (match YC (l.drop i) c with|some r=>C7 (r,())|none=>C9 ([],6,()))|0,i,c,h,_,_=>by(obtain rfl:i=l.length:=by omega);rw[N2];exact Ad (by simp only[MZ,b0u,cF];rfl)|k+1,i,c,h,d,hcl=>by(have g:i<l.length:=by omega);(rw[I7 g];have j:Dy (c.length:Int) l[i]=ka:=by grind);obtain⟨b,f,m,a⟩:=a9K d e j (sign:=1) (.inl rfl);simp[YC];cases hst:HE 1 l[i] c with|none=>simp_all[Ad,MZ,Ac]|some r=>rw[hst]at a;obtain⟨rfl,rfl⟩:=a;obtain⟨q,t⟩:=Kf d j hst;rw[Ag (s':=(l,(l.length:Int),((i+1:Nat):Int),f,())) (by simp only[MZ,Bp g,cT,Ac g,oB,m,bT,cF,Aa (show i<1000000 by omega)])];rw[b3P e p o k (i+1) f (by omega) q (by omega)];rfl
theorem a9M(c:List (List Int))(l:List AA):Rx (c,l)=kc (if Dh c/\Kc l (c.length:Int)then oT (YC l c)else([],1)):=by unfold Rx;simp only[pO,oB];by_cases hq:Dh c;have h:=YB hq;simp only[hq,decide_true,zQ,XL,true_and];by_cases hm:Kc l (c.length:Int);simp[hm];rw[a4C h (by have:=hq.2.2.1;omega) (by have:=hq.2.1;omega)];have:=b3P (N:=c.length) (by have:=hq.2.2.1;omega:(c.headD []).length<=5000) hm.2.2.1 hm.2.2.2 l.length 0 c (by omega) h rfl;simp at this;simp;erw[this];cases YC l c<;>rfl;simp_all;simp_all
theorem bV(s:AA):∀(l:List AA)(c:List (List Int)),PQ (l++[s]) c=(HE (-1) s c).bind (PQ l)|[],c=>(by show HE (-1) s c=_;cases HE (-1) s c<;>rfl)|t::l,c=>by simp only[I9,PQ,bV s l];cases HE (-1) s c<;>rfl
theorem a4E{n N:Nat}(f:n<=5000){l:List AA}(j:l.all (Dy (N:Int))=ka)(z:List (List Int))(e:Int):∀(k:Nat)(c:List (List Int)),k<=l.length->Eg c n->c.length=N->
  match PQ (l.take k) c with
  |some r=>RT JL l k (l,z,e,c,())=kc (.inl (l,z,e,r,()))
  |none=>∃d,RT JL l k (l,z,e,c,())=kc (.inr (.ret,l,[],6,d,()))
 |0,c,_,_,_=>rfl
 |k+1,c,q,g,hcl=>by
  have m:k<l.length:=by omega
  have a:Dy (c.length:Int) l[k]=ka:=by grind
  obtain⟨b,i,p,h⟩:=a9K g f a (sign:=-1) (.inr rfl);rw[D5 m,bV];cases hst:HE (-1) l[k] c with
  |none=>
   simp_all[RT,JL]
  |some r=>
   rw[hst]at h;obtain⟨rfl,rfl⟩:=h;obtain⟨o,u⟩:=Kf g a hst;have t:=a4E f j z e k i (by omega) o (by omega);simp_all[RT,JL]
theorem c1q(c:List (List Int))(l:List AA):SM (c,l)=kc (if Dh c/\Kc l (c.length:Int)then oT (PQ l c)else([],1)):=by unfold SM;simp only[pO,oB];by_cases hq:Dh c;have h:=YB hq;simp only[hq,decide_true,zQ,XL,true_and];by_cases hm:Kc l (c.length:Int);simp[hm];rw[a4C h (by have:=hq.2.2.1;omega) (by have:=hq.2.1;omega)];have:=a4E (N:=c.length) (by have:=hq.2.2.1;omega:(c.headD []).length<=5000) hm.2.2.2 [] 0 l.length c (E8 _) h rfl;(rw[E3]at this;simp[AN (show l.length<2147483648 by have:=hm.2.2.1;omega)];cases hu:PQ l c with|some r=>rw[hu]at this;simp only at this;erw[this];rfl|none=>rw[hu]at this;obtain⟨d,g⟩:=this;erw[g];rfl);simp_all;simp_all
def BI(b:Bn):Nat:=(b.2.1.headD []).length
theorem KP(b:Bn):Hx b=kc (BI b:Int):=by unfold Hx BI;obtain⟨d,c,u⟩:=b;cases c with|nil=>rfl|cons r c=>rfl
def Hv(b:Bn):Prop:=4<=b.1/\b.1<=24/\1<=b.2.1.length/\b.2.1.length<=8/\1<=BI b/\BI b<=4096/\b.2.1.all (λr=>A3 (r.length=BI b)&&r.all λx=>Bq x b.1)=ka
instance (b:Bn):Decidable (Hv b):=by unfold Hv;infer_instance
theorem UA{x w:Int}(h:4<=w/\w<=24):Cr (x,w)=kc (Bq x w):=by have:=NU (x:=x) (w:=w.toNat) (by omega);grind
theorem KQ(b:Bn):Hy b=kc (A3 (Hv b)):=by
 unfold Hy Lj;by_cases h1:4<=b.1;rotate_left;rw[dF (show ¬ Hv b from λh=>h1 h.1),dF h1];rfl;by_cases h2:b.1<=24;rotate_left;rw[dF (show ¬ Hv b from λh=>h2 h.2.1),dE h1,dF h2];rfl;by_cases h3:((b.2.1.length:Nat):Int)<1;rw[dF (show ¬ Hv b from λh=>by have:=h.2.2.1;omega),dE h1,dE h2,dE h3];rfl;by_cases h4:((b.2.1.length:Nat):Int) > 8;rw[dF (show ¬ Hv b from λh=>by have:=h.2.2.2.1;omega),dE h1,dE h2,dF h3,dE h4];rfl;have d:A3 (((b.2.1.length:Nat):Int)<1)=kb:=by simp_all
 have l:A3 (((b.2.1.length:Nat):Int) > 8)=kb:=by simp_all
 simp only[dE h1,dE h2,d,l,cT,cF,oB,bT,KP];by_cases h5:((BI b:Nat):Int)<1;rw[dF (show ¬ Hv b from λh=>by have:=h.2.2.2.2.1;omega),dE h5];rfl;by_cases h6:((BI b:Nat):Int) > 4096;rw[dF (show ¬ Hv b from λh=>by have:=h.2.2.2.2.2.1;omega),dF h5,dE h6];rfl;have m:A3 (((BI b:Nat):Int)<1)=kb:=by simp_all
 have n:A3 (((BI b:Nat):Int) > 4096)=kb:=by simp_all
 simp[m,n];have g:∀(i:Nat)(r:LI),short r->Ah GM (b.2.1,(b.2.1.length:Int),(i:Int),r,(r.length:Int),(0:Int),b,())=kc (bif r.all (λx=>Bq x b.1)then C7 (b.2.1,(b.2.1.length:Int),(i:Int),b,())else C9 (kb,())):=λi r o=>by
  have:=AY (f:=GM) r (λj=>(b.2.1,(b.2.1.length:Int),(i:Int),r,(r.length:Int),(j:Int),b,())) (λx=>Bq x b.1) (bt:=C7 (b.2.1,(b.2.1.length:Int),(i:Int),b,())) (bf:=C9 (kb,()))
   (λj h a=>by simp only[GM,Bp h,cT,Ac h,oB,UA ⟨h1,h2⟩,a,bT,cF,Aa (B7 h o)])
   (λj h a=>by simp_all[GM,Ac,UA])
   (by simp_all[GM])
  omega
 have k:=AY (f:=GN) b.2.1 (λi=>(b.2.1,(b.2.1.length:Int),(i:Int),b,())) (λr=>A3 (r.length=BI b)&&r.all λx=>Bq x b.1) (bt:=C7 ()) (bf:=C9 (kb,()))
  (λi h a=>by
   simp only[bA,dT]at a;have e:((((b.2.1[i]).length:Nat):Int) != ((BI b:Nat):Int))=kb:=by simp_all
   have c:=g i b.2.1[i] (by unfold short;omega);rw[a.2,cT]at c;simp only[GN,Bp h,cT,Ac h,oB,KP,e,cF,c,Aa (show i<1000000 by omega)])
  (λi h a=>by
   by_cases hl:(b.2.1[i]).length=BI b;have e:((((b.2.1[i]).length:Nat):Int) != ((BI b:Nat):Int))=kb:=by simp_all
   have c:=g i b.2.1[i] (by unfold short;omega);rw[dE hl,L0]at a;rw[a,cF]at c;simp_all[GN,Ac,KP];have e:((((b.2.1[i]).length:Nat):Int) != ((BI b:Nat):Int))=ka:=by grind
   simp only[GN,Bp h,cT,Ac h,oB,KP,e])
  (by simp_all[GN])
 simp at k;rw[k];by_cases hA:b.2.1.all (λr=>A3 (r.length=BI b)&&r.all λx=>Bq x b.1)=ka;rw[hA,dE (show Hv b from⟨h1,h2,by omega,by omega,by omega,by omega,hA⟩)];rfl;rw[E9.2 hA,dF (show ¬ Hv b from λh=>hA h.2.2.2.2.2.2)];rfl
def Of{α β:Type}(g:α->Option β):List α->Option (List β)|[]=>kc []|a::l=>(g a).bind λb=>(Of g l).bind λr=>kc (b::r)
theorem fP{α β:Type}{g:α->Option β}:∀{l:List α}{r:List β},Of g l=kc r->r.length=l.length|[],r,h=>(by cases h;rfl)|a::l,r,h=>by simp only[Of,A7]at h;obtain⟨b,-,c,f,k⟩:=h;cases k;simp[fP f]
theorem a4F{α β:Type}{g:α->Option β}:∀{l:List α}{r:List β},Of g l=kc r->∀a∈l,(g a).isSome=true|[],r,h,a,d=>(by cases d)|a::l,r,h,x,f=>by simp only[Of,A7]at h;obtain⟨b,k,i,c,e⟩:=h;rcases mC.1 f with rfl|f;rw[k];rfl;exact a4F c x f
def Ht(f:Bo):Option Bn:=
 if a4y f/\((f.2.2.2.2.1.length:Nat):Int)=f.2.2.1.2.1 then
  (Of (λs=>EF s f.2.1) f.2.2.2.2.1).bind λrs=>
   if Dh rs/\Kc f.2.2.2.1 (rs.length:Int)then
    (PQ f.2.2.2.1 rs).bind λch=>if Hv (f.2.2.1.2.2.1,ch,())then Option.some (f.2.2.1.2.2.1,ch,())else J9
   else J9
 else J9
def Mw:Bn:=(0,[],())
def d4a:Option Bn->Bn×Int|some b=>(b,0)|none=>(Mw,1)
theorem mG(f:Bo)(all:List BN)(l:all.length<=8):∀(zC k:List BN)(rows:List (List Int)),k++zC=all->rows.length=k.length->(∀s∈zC,sO s)->Ah GZ (all,(all.length:Int),(k.length:Int),rows,Mw,f,())=kc (match Of (λs=>EF s f.2.1) zC with|some rs=>C7 (rows++rs,Mw,f,())|none=>C9 (1,Mw,()))|[],k,rows,c,i,_=>by(have e:k=all:=by simpa using c);subst e;rw[Ad (b:=C7 (rows,Mw,f,())) (by simp only[GZ,b0u,cF])];simp[Of]|s::zC,k,rows,c,i,h=>by(have m:=h s (by simp);have a:k.length<all.length:=by rw[<-c];simp);(have d:Aq all (k.length:Int)=kc s:=by rw[Ac a];subst c;simp);have g:=a0B m f.2.1;simp only[Of];cases ho:EF s f.2.1 with|none=>rw[ho]at g;have b1:((1:Int) != 0)=ka:=rfl;exact Ad (by simp only[GZ,Bp a,cT,d,oB,g,b1];rfl)|some r=>rw[ho]at g;have j:((0:Int) != 0)=kb:=rfl;rw[Ag (s':=(all,(all.length:Int),(((k++[s]).length:Nat):Int),rows++[r],Mw,f,())) (by simp only[GZ,Bp a,cT,d,oB,g,j,cF,AN (show rows.length+1<2147483648 by omega),Aa (show k.length<1000000 by omega)];simp)];rw[mG f all l zC (k++[s]) (rows++[r]) (by simpa using c) (by simp[i]) (λt n=>h t (by simp[n]))];simp only[oB];cases Of (λs=>EF s f.2.1) zC<;>simp
theorem a9N{f:Bo}(d:∀s∈f.2.2.2.2.1,sO s):Gk f=kc (d4a (Ht f)):=by
 unfold Gk Ht;simp only[a1n,oB];by_cases hf:a4y f;rotate_left;simp only[hf,decide_false,C3,cT,oB,false_and,if_false];rfl;by_cases hl:((f.2.2.2.2.1.length:Nat):Int)=f.2.2.1.2.1;rotate_left;have e:(((f.2.2.2.2.1.length:Nat):Int) != f.2.2.1.2.1)=ka:=by simpa using hl
 simp only[hf,decide_true,bT,cF,oB,e,cT,hl,and_false,if_false];rfl;have e:(((f.2.2.2.2.1.length:Nat):Int) != f.2.2.1.2.1)=kb:=by simpa using hl
 have c:f.2.2.2.2.1.length<=8:=by have:=hf.1.2.2.2.1;omega
 have b:A3 ((0:Int)<=((f.2.2.2.2.1.length:Nat):Int))=ka:=by simp
 have h:=mG f f.2.2.2.2.1 c f.2.2.2.2.1 [] [] rfl rfl d;rw[B3]at h;rw[if_pos ⟨hf,hl⟩];simp only[hf,decide_true,bT,cF,oB,e,b,tN,AN (show f.2.2.2.2.1.length<2147483648 by omega),B6,cT];erw[h];cases hm:Of (λs=>EF s f.2.1) f.2.2.2.2.1 with
 |none=>rfl
 |some g=>
  simp only[oB,C4,c1q];by_cases hq:Dh g/\Kc f.2.2.2.1 (g.length:Int)
  ·simp only[if_pos hq];cases hu:PQ f.2.2.2.1 g with
   |none=>rfl
   |some a=>
    have k:((0:Int) != 0)=kb:=rfl;simp only[oT,k,cF,KQ,oB];by_cases hb:Hv (f.2.2.1.2.2.1,a,());simp only[hb,decide_true,bT,cF,if_true];rfl;simp only[hb,decide_false,C3,cT,if_false];rfl
  simp only[if_neg hq];rfl
theorem b9a{f:Bo}(h:∀s∈f.2.2.2.2.1,sO s):MG f=kc (Ht f).isSome:=by unfold MG;rw[a9N h];cases Ht f<;>rfl
theorem Rp{f:Bo}{b:Bn}(h:Ht f=kc b):a4y f/\(f.2.2.2.2.1.length:Int)=f.2.2.1.2.1/\∀s∈f.2.2.2.2.1,(EF s f.2.1).isSome=ka:=by unfold Ht at h;split at h;rename_i g;simp only[A7]at h;obtain⟨a,k,-⟩:=h;exact⟨g.1,g.2,a4F k⟩;cases h
theorem a1s(x:AA):gE (.pair (.int .i64) (.pair (.int .i64) (.pair (.int .i64) .unit))) x x=ka:=by(show((x.1==x.1)&&((x.2.1==x.2.1)&&((x.2.2.1==x.2.2.1)&&ka)))=ka);simp
theorem a1t{x:List AA}(g:x.length<1000000):Mg (x,x)=kc ka:=by unfold Mg;have:=AY (f:=HY) (β:=Unit ⊕ (Bool×Unit)) x (λi=>(x,x,(i:Int),())) (λ_=>ka) (bt:=C7 ()) (bf:=C9 (kb,())) (λi h _=>by simp only[HY,Bp h,cT,Ac h,oB,a1s,bT,cF,Aa (show i<1000000 by omega)]) (λi h k=>by grind) (by simp_all[HY]);grind
theorem a1u{f:Bo}(k:∀s∈f.2.2.2.2.1,sO s)(g:f.2.2.2.1.length<1000000)(a:f.2.2.2.2.1.length<1000000):ID (f,f)=kc ka:=by unfold ID;have:=AY (f:=HZ) (β:=Unit ⊕ (Bool×Unit)) f.2.2.2.2.1 (λi=>((i:Int),f,f,())) (λ_=>ka) (bt:=C7 ()) (bf:=C9 (kb,())) (λi h _=>by simp only[HZ,Bp h,cT,Ac h,oB,a0z (k _ (A9 h)),decide_true,bT,cF,Aa (show i<1000000 by omega)]) (λi h b=>by grind) (by simp_all[HZ]);simp at this;simp[a1s,a1t g];grind
theorem a9O{c:List (List Int)}:PD c=kc (A3 (1<=c.length/\c.length<=8/\c.all (λr=>A3 (r.length=(c.headD []).length))=ka)):=by
 unfold PD;by_cases h1:((c.length:Nat):Int)<1;grind;by_cases h2:((c.length:Nat):Int) > 8;grind;have k:0<c.length:=by omega
 have a:Aq c 0=kc (c.headD []):=by rw[show(0:Int)=((0:Nat):Int)from rfl,Ac k,Uy (d:=[]) k]
 have:=AY (f:=JO) (β:=Unit ⊕ (Bool×Unit)) c (λi=>(c,(i:Int),())) (λr=>A3 (r.length=(c.headD []).length)) (bt:=C7 ()) (bf:=C9 (kb,()))
  (λi h g=>by
   simp only[dT]at g;have e:((((c[i]).length:Nat):Int) != (((c.headD []).length:Nat):Int))=kb:=by simp_all
   simp only[JO,Bp h,cT,Ac h,oB,a,e,cF,Aa (show i<1000000 by omega)])
  (λi h g=>by
   simp only[decide_eq_false_iff_not]at g;have e:((((c[i]).length:Nat):Int) != (((c.headD []).length:Nat):Int))=ka:=by grind
   simp only[JO,Bp h,cT,Ac h,oB,a,e]) (by simp_all[JO])
 grind
theorem KR{x w:Int}(h:4<=w/\w<=24):Hd (x,w)=kc (Bq x w):=by have:=Te (x:=x) (w:=w.toNat) (by omega);grind
theorem Mh(b:Bn):Fa b=kc (A3 (Hv b)):=by
 unfold Fa;by_cases h1:b.1<4;rw[dE h1,dF (λh:Hv b=>by have:=h.1;omega)];rfl;by_cases h2:b.1 > 24;rw[dF h1,dE h2,dF (λh:Hv b=>by have:=h.2.1;omega)];rfl;simp only[dF h1,dF h2,cF,a9O,oB];by_cases h3:1<=b.2.1.length/\b.2.1.length<=8/\b.2.1.all (λr=>A3 (r.length=(b.2.1.headD []).length))=ka;rotate_left;rw[dF h3,dF (λh:Hv b=>h3 ⟨h.2.2.1,h.2.2.2.1,lA.2 λr e=>by
  have:=lA.1 h.2.2.2.2.2.2 r e
  simp only[bA]at this;exact this.1⟩)];rfl
 have l:0<b.2.1.length:=by omega
 have m:Aq b.2.1 0=kc (b.2.1.headD []):=by rw[show(0:Int)=((0:Nat):Int)from rfl,Ac l,Uy (d:=[]) l]
 simp only[dE h3,bT,cF,m,oB];by_cases h4:(((b.2.1.headD []).length:Nat):Int)<1;rw[dE h4,dF (λh:Hv b=>by have:=h.2.2.2.2.1;grind[BI])];rfl;by_cases h5:(((b.2.1.headD []).length:Nat):Int) > 4096;rw[dF h4,dE h5,dF (λh:Hv b=>by have:=h.2.2.2.2.2.1;grind[BI])];rfl;simp only[dF h4,dF h5,cF,oB];have hb:4<=b.1/\b.1<=24:=by omega
 have g:∀(i:Nat)(a:i<b.2.1.length),Ah Ea ((i:Int),(0:Int),b,())=kc (bif (b.2.1[i]).all (λx=>Bq x b.1)then C7 ((i:Int),b,())else C9 (kb,())):=λi a=>by
  have q:(b.2.1[i]).length=(b.2.1.headD []).length:=by simp_all
  have:=AY (f:=Ea) (β:=(Int×Bn×Unit) ⊕ (Bool×Unit)) b.2.1[i] (λj=>((i:Int),(j:Int),b,())) (λx=>Bq x b.1) (bt:=C7 ((i:Int),b,())) (bf:=C9 (kb,()))
   (λj h c=>by simp only[Ea,Ac a,oB,Bp h,cT,Ac h,KR hb,c,bT,cF,Aa (show j<1000000 by omega)])
   (λj h c=>by simp only[Ea,Ac a,oB,Bp h,cT,Ac h,KR hb,c,C3])
   (by simp_all[Ea,Ac])
  omega
 have k:=AY (f:=FM) (β:=Unit ⊕ (Bool×Unit)) b.2.1 (λi=>((i:Int),b,())) (λr=>r.all λx=>Bq x b.1) (bt:=C7 ()) (bf:=C9 (kb,()))
  (λi h c=>by
   have a:=g i h;rw[c,cT]at a;simp only[FM,Bp h,cT];grind[Aa])
  (λi h c=>by
   have a:=g i h;rw[c,cF]at a;simp_all[FM])
  (by simp_all[FM])
 simp at k;rw[k];by_cases hA:b.2.1.all (λr=>r.all λx=>Bq x b.1)=ka;rw[hA,dE (p:=Hv b) (⟨hb.1,hb.2,h3.1,h3.2.1,by unfold BI;omega,by unfold BI;omega,lA.2 λr e=>by
  have n:=lA.1 h3.2.2 r e;have o:=lA.1 hA r e;simp_all[BI]⟩:Hv b)]
 rfl;rw[E9.2 hA,dF (p:=Hv b) (λh=>hA (lA.2 λr e=>by
  have:=lA.1 h.2.2.2.2.2.2 r e
  simp_all))]
 rfl
theorem b3Q{x w:Int}(c:4<=w/\w<=24)(h:Bq x w=ka):-16777216<=x/\x<=16777216:=by(unfold Bq at h;simp at h;obtain⟨-,-,f,g⟩:=h;obtain⟨o,k⟩:∃o:Nat,w-1=(o:Int):=⟨(w-1).toNat,by omega⟩;rw[k]at f g;rw[b8u (by omega)]at g;have b:2^o<=2^24:=D2 (by omega) (by omega);have a:AO .i64 (-1) (o:Int)=zB .i64 (-((2^o:Nat):Int)):=by unfold AO;show zB .i64 (-1*2^(min (o:Int).toNat 64))=_;grind);grind[Al]
theorem b5V{x w:Int}(g:4<=w/\w<=24)(h:Bq x w=ka):Ae x=ka:=Cp.2 (by have:=b3Q g h;omega)
theorem Ss{b:Bn}(h:Hv b):Eg b.2.1 (BI b)/\Dh b.2.1:=by(obtain⟨k,a,c,d,e,i,g⟩:=h;have j:Eg b.2.1 (BI b):=λr f=>by have:=lA.1 g r f;simp only[bA,dT]at this;grind[b5V]);grind[Uz]
theorem b2z{b:Bn}(hb:Hv b){l:List AA}(d:Kc l (b.2.1.length:Int)){rows:List (List Int)}(o:YC l b.2.1=kc rows){g:List BN}(r:Of (λs=>EF s (BI b:Int)) g=kc rows) {start rate:Int}(h:0<=start/\start<=4194304-(BI b:Int))(q:1<=rate/\rate<=1048576):Ht (start,(BI b:Int),(rate,(b.2.1.length:Int),b.1,()),l,g,())=kc b:=by(obtain⟨n,z⟩:=Ss hb;obtain⟨y,A⟩:=Ro l n rfl d.2.2.2 o;have p:=fP r;obtain⟨i,j,t,u,v,m,w⟩:=hb;have c:a4y (start,(BI b:Int),(rate,(b.2.1.length:Int),b.1,()),l,g,()):=⟨⟨q.1,q.2,by grind,by grind,i,j⟩,by grind,by grind,h.1,h.2,d⟩;have a:(g.length:Int)=(b.2.1.length:Int):=by omega);(have f:Dh rows:=Uz y (by omega) (by omega) m;have e:Kc l (rows.length:Int):=by simp_all);have x:=b3O l n rfl d.2.2.2 o;have k:((b.1,b.2.1,()):Bn)=b:=rfl;unfold Ht;rw[if_pos ⟨c,a⟩];simp only[r,oB];rw[if_pos ⟨f,e⟩,x];simp only[oB,k];rw[if_pos ⟨i,j,t,u,v,m,w⟩]
theorem Oc(f:AA):HB f=kc (A3 (Qj f)):=by unfold HB Qj;grind
theorem XM(l:List AA)(n:Int):Lz (l,n)=kc (A3 (Kc l n)):=by
 unfold Lz Kc;by_cases h1:n<1;grind;by_cases h2:n > 8;grind;by_cases h3:((l.length:Nat):Int) > 16;grind;have g:=AY (f:=He) (β:=Unit ⊕ (Bool×Unit)) l (λi=>(l,n,(i:Int),())) (Dy n) (bt:=C7 ()) (bf:=C9 (kb,()))
  (λi h k=>by
   obtain⟨a1,o,p,q,r,t,u⟩:=Db.1 k;have a:A3 (l[i].1<0)=kb:=by simp_all
   have b:A3 (l[i].1>=n)=kb:=by simp_all
   have c:A3 (l[i].2.1<0)=kb:=by simp_all
   have d:A3 (l[i].2.1>=n)=kb:=by simp_all
   have e:(l[i].1==l[i].2.1)=kb:=by simp_all
   have j:A3 (l[i].2.2.1 < -1024)=kb:=by simp_all
   have m:A3 (l[i].2.2.1 > 1024)=kb:=by simp_all
   simp only[He,Bp h,cT,Ac h,oB,a,b,c,d,e,j,m,cF,Aa (show i<1000000 by omega)])
  (λi h k=>by
   simp only[He,Bp h,cT,Ac h,oB];grind[Dy])
  (by simp[He])
 grind
theorem XN(c:List (List Int))(l:List AA):OA (c,l)=kc (A3 (Dh c/\Kc l (c.length:Int))):=by
 unfold OA;simp only[a9O,oB];by_cases hl:1<=c.length/\c.length<=8/\c.all (λr=>A3 (r.length=(c.headD []).length))=ka;rotate_left;rw[dF hl,dF (λh:Dh c/\_=>hl ⟨h.1.1,h.1.2.1,lA.2 λr a=>by
  have:=lA.1 h.1.2.2.2 r a
  simp_all⟩)]
 rfl;have e:Aq c 0=kc (c.headD []):=by rw[show(0:Int)=((0:Nat):Int)from rfl,Ac (show 0<c.length by omega),Uy (d:=[]) (by omega)]
 rw[dE hl];simp only[bT,cF,e,oB];by_cases h3:(((c.headD []).length:Nat):Int) > 4096;rw[dE h3,dF (λh:Dh c/\_=>by have:=h.1.2.2.1;omega)];rfl;rw[dF h3];simp only[cF,XM,oB];by_cases hm:Kc l (c.length:Int);rotate_left;simp_all;rw[dE hm];simp only[bT,cF];have k:∀r∈c,r.length=(c.headD []).length:=λr a=>by simp_all
 have g:=AY (f:=LA) c (λi=>(c,(i:Int),())) (λr=>r.all Ae) (bt:=C7 ()) (bf:=C9 (kb,()))
  (λi h b=>by
   have:=k c[i] (A9 h)
   simp only[LA,Bp h,cT,Ac h,oB,AC (show short c[i]by unfold short;omega),b,bT,cF,Aa (show i<1000000 by omega)])
  (λi h b=>by
   have:=k c[i] (A9 h)
   simp only[LA,Bp h,cT,Ac h,oB,AC (show short c[i]by unfold short;omega),b,C3])
  (by simp_all[LA])
 simp at g;rw[g];by_cases hA:c.all (λr=>r.all Ae)=ka;rw[hA,dE (⟨⟨hl.1,hl.2.1,by omega,lA.2 λr a=>by grind⟩,hm⟩:Dh c/\_)];rfl;rw[E9.2 hA,dF (λh:Dh c/\_=>hA (lA.2 λr a=>by
  have:=lA.1 h.1.2.2.2 r a
  simp_all))];rfl
theorem Zx{c:List (List Int)}{n:Nat}(h:Eg c n)(m:n<=5000)(l:c.length<=100):Nz c=kc c:=by
 have:=Bi (f:=LX) (β:=List (List Int)×Unit) c (λi (a:List (List Int))=>(c,(i:Int),a,())) (λa x=>.inl (a++[x])) (λi a=>a.length=i) (λa=>(a,()))
  (λi k a d=>⟨λj g=>by
   simp at g;subst g;have o:=(h _ (A9 k)).1;have e:∀y:List Int,J7 ([([]:List Int)]:List (List Int)) 0 y=[y]:=λ_=>rfl;refine⟨?_,by grind⟩;simp only[LX,Bp k,cT,Ac k,oB,e,B4,C4,B8];rw[AN (by omega),cT,AN (by omega),cT,Aa (show i<1000000 by omega)],λb hb=>by grind⟩)
  (λa d=>by simp_all[LX]) (a:=[]) rfl
 simp_all[Oa,Nz,Sz]
theorem b9b{c:List (List Int)}{n:Nat}(V:Eg c n)(X:n<=5000){s:AA}{sign:Int}(t:sign=1\/sign=-1)(G:-1024<=s.2.2.1/\s.2.2.1<=1024)(a0:0<=s.1)(a1:s.1<(c.length:Int))(N:0<=s.2.1)(b1:s.2.1<(c.length:Int))(F:s.1.toNat≠s.2.1.toNat)
  {l:LI}(L:c.getD s.1.toNat []=l)(K:l.length=n):∀(k g j h:LI),j++k=l->j.length=h.length->k.length=g.length->k.all Ae=ka->g.all Ae=ka->
  if(Qk sign s.2.2.1 k g).all Ae=ka then
   Ah KC (sign,(h.length:Int),c.set s.2.1.toNat (h++g),s,())=kc (.inl (c.set s.2.1.toNat (h++Qk sign s.2.2.1 k g),()))
  else ∃A,Ah KC (sign,(h.length:Int),c.set s.2.1.toNat (h++g),s,())=kc (.inr (kb,A,())):=by
 have hb:s.2.1.toNat<c.length:=by omega
 have I:∀r,(c.set s.2.1.toNat r).getD s.2.1.toNat []=r:=λr=>Ke _ hb _ _;have H:∀r,(c.set s.2.1.toNat r).getD s.1.toNat []=l:=λr=>by grind
 have d:∀r,r.length=n->((c.set s.2.1.toNat r).getD 0 []).length=n:=λr Y=>by
  by_cases m:s.2.1.toNat=0;grind;rw[PP _ (Ne.symm m)];grind[Hs]
 have B:A3 ((0:Int)<(c.length:Int))=ka:=by grind
 have Q:A3 ((0:Int)<=s.1)=ka:=by simp_all
 have C:A3 (s.1<(c.length:Int))=ka:=by simp_all
 have R:A3 ((0:Int)<=s.2.1)=ka:=by simp_all
 have D:A3 (s.2.1<(c.length:Int))=ka:=by simp_all
 intro k
 induction k with
 |nil=>
  intro g j h w q u _ _;have e:g=[]:=J2.1 u.symm;subst e;have E:h.length=n:=by simp_all
  have m:=d (h++[]) (by simp_all);rw[if_pos (by rfl)];refine Ad ?_
  simp only[KC,J8,B,zQ,m,E,b0u];rfl
 |cons x k z=>
  intro g j h w q u a b;cases g with
  |nil=>simp_all
  |cons y g=>
   simp only[C5,bA]at a b;have i:(h++y::g).length=n:=by grind
   have p:h.length<n:=by grind
   have S:F6 l (D0 (h.length:Int)) 0=x:=by rw[tN,<-q,<-w];simp
   have T:F6 (h++y::g) (D0 (h.length:Int)) 0=y:=by simp
   have O:A3 ((0:Int)<=(h.length:Int))=ka:=by simp
   have P:A3 ((h.length:Int)<(n:Int))=ka:=Bp p;have m:=d _ i;have Z:=a9J t G a.1 b.1;have hw:zB .i64 ((h.length:Int)+1)=((h.length+1:Nat):Int):=Aa (by omega);have M:Qk sign s.2.2.1 (x::k) (y::g)=HD sign s.2.2.1 x y::Qk sign s.2.2.1 k g:=rfl;have v:J7 (c.set s.2.1.toNat (h++y::g)) s.2.1.toNat (J7 (h++y::g) (D0 (h.length:Int)) (HD sign s.2.2.1 x y))=c.set s.2.1.toNat (h++HD sign s.2.2.1 x y::g):=by
    simp
   have o:(h++HD sign s.2.2.1 x y::g).length=n:=by simp_all
   have U:F6 (h++HD sign s.2.2.1 x y::g) (D0 (h.length:Int)) 0=HD sign s.2.2.1 x y:=by simp
   have f:KC (sign,(h.length:Int),c.set s.2.1.toNat (h++y::g),s,()) =
     bif !(Ae (HD sign s.2.2.1 x y))then kc (.inr (C9 (kb,c.set s.2.1.toNat (h++HD sign s.2.2.1 x y::g),())))
     else kc (.inl (sign,((h.length+1:Nat):Int),c.set s.2.1.toNat (h++HD sign s.2.2.1 x y::g),s,())):=by
    simp_all[KC,CE]
   cases hwv:Ae (HD sign s.2.2.1 x y)with
   |false=>
    simp_all[Ad]
   |true=>
    rw[hwv]at f;have z:=z g (j++[x]) (h++[HD sign s.2.2.1 x y]) (by simp_all) (by simp[q]) (by simp_all) a.2 b.2;rw[Ag f,M];simp_all
theorem a1v{c:List (List Int)}{n:Nat}(k:Eg c n)(p:n<=5000){s:AA}(q:Dy (c.length:Int) s=ka){sign:Int}(a:sign=1\/sign=-1):∃b f,TZ (c,s,sign)=kc (b,f)/\match HE sign s c with|some r=>b=ka/\f=r|none=>b=kb:=by(obtain⟨a1,e,j,l,u,m,o⟩:=Db.1 q;have d:=Hs k (i:=s.1.toNat) (by omega);have t:=Hs k (i:=s.2.1.toNat) (by omega);have hb:s.2.1.toNat<c.length:=by omega);(have g:c.set s.2.1.toNat (c.getD s.2.1.toNat [])=c:=by simp_all);have:=b9b k p a ⟨m,o⟩ a1 e j l (by omega) (rfl:c.getD s.1.toNat []=_) d.1 (c.getD s.1.toNat []) (c.getD s.2.1.toNat []) [] [] rfl rfl (by omega) d.2 t.2;rw[C4,g]at this;simp only[B3,nZ,C4,H7]at this;unfold TZ HE;by_cases hA:(Qk sign s.2.2.1 (c.getD s.1.toNat []) (c.getD s.2.1.toNat [])).all Ae=ka;simp_all;rw[if_neg hA]at this|-;obtain⟨f,h⟩:=this;simp_all
theorem fQ{n N:Nat}(a:n<=5000){l:List AA}(m:l.length<=16)(i:l.all (Dy (N:Int))=ka):∀(k:Nat)(c:List (List Int)),k<=l.length->Eg c n->c.length=N->Ah Js (l,(k:Int)-1,c,())=kc (match PQ (l.take k) c with|some r=>C7 (r,())|none=>C9 ([],6,()))|0,c,_,_,_=>Ad rfl|k+1,c,q,f,hcl=>by(have j:k<l.length:=by omega);(have e:Dy (c.length:Int) l[k]=ka:=by grind);(obtain⟨b,h,p,g⟩:=a1v f a e (sign:=-1) (.inr rfl);rw[D5 j,bV];rw[show((k+1:Nat):Int)-1=(k:Int)from by omega];have d:A3 ((k:Int)>=0)=ka:=by simp);have w:zB .i64 ((k:Int)-1)=(k:Int)-1:=Al (by omega);cases hst:HE (-1) l[k] c with|none=>simp_all[Ad,Js,Ac]|some r=>rw[hst]at g;obtain⟨rfl,rfl⟩:=g;obtain⟨o,t⟩:=Kf f e hst;rw[Ag (s':=(l,(k:Int)-1,h,())) (by simp_all[Js,Ac])];rw[fQ a m i k h (by omega) o (by omega)];rfl
theorem oU(c:List (List Int))(l:List AA):NH (c,l)=kc (if Dh c/\Kc l (c.length:Int)then oT (PQ l c)else([],1)):=by unfold NH;simp only[XN,oB];by_cases hq:Dh c/\Kc l (c.length:Int);have g:=YB hq.1;have h:=hq.2;rw[dE hq,if_pos hq];simp;rw[Zx g (by have:=hq.1.2.2.1;omega) (by have:=hq.1.2.1;omega)];have:=fQ (N:=c.length) (by have:=hq.1.2.2.1;omega:(c.headD []).length<=5000) h.2.2.1 h.2.2.2 l.length c (E8 _) g rfl;rw[E3]at this;simp;rw[Al (n:=(l.length:Int)-1) (by have:=h.2.2.1;omega),this];cases PQ l c<;>rfl;grind
theorem a1w(f:Bo):OZ f=kc (A3 (a4y f)):=by
 unfold OZ;simp only[Oc,XM,oB];by_cases h0:Qj f.2.2.1;rotate_left;rw[dF h0,dF (λh:a4y f=>h0 h.1)];rfl;by_cases h1:1<=f.2.1;rotate_left;rw[dE h0,dF (λh:f.2.1>=1=>h1 h),dF (λh:a4y f=>h1 h.2.1)];rfl;by_cases h2:f.2.1<=4096;rotate_left;rw[dE h0,dE (show f.2.1>=1 from h1),dF h2,dF (λh:a4y f=>h2 h.2.2.1)];rfl;by_cases h3:0<=f.1;rotate_left;rw[dE h0,dE (show f.2.1>=1 from h1),dE h2,dF (λh:f.1>=0=>h3 h),dF (λh:a4y f=>h3 h.2.2.2.1)];rfl;rw[Al (n:=4194304-f.2.1) (by omega)];by_cases h4:f.1<=4194304-f.2.1;rotate_left;rw[dE h0,dE (show f.2.1>=1 from h1),dE h2,dE (show f.1>=0 from h3),dF h4,dF (λh:a4y f=>h4 h.2.2.2.2.1)];rfl;rw[dE h0,dE (show f.2.1>=1 from h1),dE h2,dE (show f.1>=0 from h3),dE h4];simp only[cT];congr 1;exact decide_eq_decide.2 ⟨λh=>⟨h0,h1,h2,h3,h4,h⟩,λh=>h.2.2.2.2.2⟩
theorem XO(f:Bo)(c:f.2.2.2.2.1.length<=8):∀(zC k:List BN)(rows:List (List Int)),k++zC=f.2.2.2.2.1->rows.length=k.length->(∀s∈zC,sO s)->Ah Eu ((k.length:Int),rows,Mw,f,())=kc (match Of (λs=>EF s f.2.1) zC with|some rs=>C7 (rows++rs,Mw,f,())|none=>C9 (kb,Mw,()))|[],k,rows,d,e,_=>by simp_all[Ad,Eu,Of]|s::zC,k,rows,d,e,h=>by(have i:=h s (by simp);have a:k.length<f.2.2.2.2.1.length:=by grind);(have b:Aq f.2.2.2.2.1 (k.length:Int)=kc s:=by grind[Ac]);have g:=Zk i f.2.1;simp[Of];cases ho:EF s f.2.1 with|none=>rw[ho]at g;exact Ad (by simp only[Eu,Bp a,cT,b,oB,g,C3];rfl)|some r=>rw[ho]at g;rw[Ag (s':=((((k++[s]).length:Nat):Int),rows++[r],Mw,f,())) (by simp only[Eu,Bp a,cT,b,oB,g,bT,cF,AN (show rows.length+1<2147483648 by omega),Aa (show k.length<1000000 by omega)];simp)];rw[XO f c zC (k++[s]) (rows++[r]) (by simp_all) (by grind) (λt j=>h t (by grind))];grind
def c8O:Option Bn->Bn×Bool|some b=>(b,ka)|none=>(Mw,kb)
theorem fR{f:Bo}(c:∀s∈f.2.2.2.2.1,sO s):Ds f=kc (c8O (Ht f)):=by
 unfold Ds Ht;simp only[a1w,oB];by_cases hf:a4y f;rotate_left;simp only[hf,decide_false,C3,cT,oB,false_and,if_false];rfl;by_cases hl:((f.2.2.2.2.1.length:Nat):Int)=f.2.2.1.2.1;rotate_left;have e:(((f.2.2.2.2.1.length:Nat):Int) != f.2.2.1.2.1)=ka:=by simp_all
 simp only[hf,decide_true,bT,cF,oB,e,cT,hl,and_false,if_false];rfl;have e:(((f.2.2.2.2.1.length:Nat):Int) != f.2.2.1.2.1)=kb:=by simp_all
 have b:f.2.2.2.2.1.length<=8:=by have:=hf.1.2.2.2.1;omega
 have h:=XO f b f.2.2.2.2.1 [] [] rfl rfl c;rw[B3]at h;rw[if_pos ⟨hf,hl⟩];simp[hf,e];erw[h];cases hm:Of (λs=>EF s f.2.1) f.2.2.2.2.1 with
 |none=>rfl
 |some g=>
  simp[oU];by_cases hq:Dh g/\Kc f.2.2.2.1 (g.length:Int)
  ·simp[if_pos hq];cases hu:PQ f.2.2.2.1 g with
   |none=>rfl
   |some a=>
    have k:((0:Int) != 0)=kb:=rfl;simp only[oT,k,cF,Mh,oB];by_cases hb:Hv (f.2.2.1.2.2.1,a,());simp only[hb,decide_true,bT,cF,if_true];rfl;simp only[hb,decide_false,C3,cT,if_false];rfl
  simp only[if_neg hq];rfl
theorem b2A{f:Bo}(h:∀s∈f.2.2.2.2.1,sO s):NI f=kc (Ht f).isSome:=by unfold NI;rw[fR h];cases Ht f<;>rfl
def a2c(s:BitVec 16):BitVec 16:=bif s.msb then(s <<< 1) ^^^ 32773#16 else s <<< 1
theorem b3R(s t:BitVec 16):a2c (s ^^^ t)=a2c s ^^^ a2c t:=by unfold a2c;grind
theorem b9c{s:BitVec 16}(h:a2c s=0):s=0:=by unfold a2c at h;cases hm:s.msb with|true=>rw[hm,cT]at h;have:=cG (λx=>K3 x 0) h;grind|false=>(rw[hm,cF]at h;refine J3 λi g=>?_);by_cases h15:i=15;grind;have:=cG (λx=>K3 x (i+1)) h;grind
theorem c8P:a2c 0=0:=by rfl
theorem a1x{s:BitVec 16}:∀{n:Nat},a3o a2c n s=0->s=0|0,h=>h|n+1,h=>b9c (a1x (n:=n) h)
theorem c3m:∀n:Nat,a3o a2c n 0=0|0=>rfl|n+1=>by show a3o a2c n (a2c 0)=0;rw[c8P,c3m n]
def c1r(b:Bool):BitVec 16:=bif b then 32768#16 else 0#16
def c1s(s:BitVec 16)(b:Bool):BitVec 16:=a2c (s ^^^ c1r b)
def b6q:List Bool->BitVec 16|[]=>0#16|b::w=>c1r b ^^^ (b6q w >>> 1)
theorem c1t(b:Bool)(j:Nat):(c1r b).getLsbD j=(b&&A3 (j=15)):=by cases b with|false=>simp[c1r]|true=>simp[c1r];rw[show(32768#16)=BitVec.ofNat 16 (2^15)from rfl,BitVec.getLsbD_ofNat,Nat.testBit_two_pow];grind
theorem a6M:∀(w:List Bool)(j:Nat),(b6q w).getLsbD j=(A3 (j<16)&&w.getD (15-j) kb)|[],j=>by simp[b6q]|b::w,j=>by rw[b6q,BitVec.getLsbD_xor,c1t,BitVec.getLsbD_ushiftRight,a6M w];by_cases h:j=15;subst h;simp;by_cases h2:j<16;rw[show 15-j=(15-(1+j))+1 from by omega,L1];simp[h,h2,show 1+j<16 from by omega];simp[h,h2,show ¬ (1+j<16)from by omega]
theorem b9d{w:List Bool}(h:w.length<=15):a2c (b6q w >>> 1)=b6q w:=by(have g:(b6q w >>> 1).msb=kb:=by simp);(unfold a2c;rw[g,cF];refine J3 λi f=>?_);grind[a6M]
theorem c8Q:∀(w:List Bool)(s:BitVec 16),w.length<=16->w.foldl c1s s=a3o a2c w.length (s ^^^ b6q w)|[],s,_=>by simp[b6q,a3o]|b::w,s,h=>by rw[lC]at h;rw[G7,c8Q w _ (by omega),b6q,<-BitVec.xor_assoc];show _=a3o a2c w.length (a2c (s ^^^ c1r b ^^^ (b6q w >>> 1)));rw[b3R,b9d (by omega)];rfl
theorem a9P{α:Type}(f g:α->Bool):∀(L:List α)(s t:BitVec 16),(L.map λj=>xor (f j) (g j)).foldl c1s (s ^^^ t)=(L.map f).foldl c1s s ^^^ (L.map g).foldl c1s t|[],_,_=>rfl|a::L,s,t=>by simp;rw[<-a9P f g L];congr 1;unfold c1s;rw[<-b3R];congr 1;(have:c1r (xor (f a) (g a))=c1r (f a) ^^^ c1r (g a):=by cases f a<;>cases g a<;>rfl);grind
theorem bW:∀(n:Nat)(s:BitVec 16),(A8 n kb).foldl c1s s=a3o a2c n s|0,_=>rfl|n+1,s=>by rw[L3,G7,bW n];show a3o a2c n (a2c (s ^^^ 0#16))=a3o a2c n (a2c s);rw[BitVec.xor_zero]
theorem c8R{w:List Bool}(h:w.length<=16)(g:ka∈w)(k m:Nat):(A8 k kb++(w++A8 m kb)).foldl c1s 0≠0:=by(rw[F5,F5,bW,bW,c3m,c8Q w _ h];intro e;have e:=a1x (a1x e);have e:b6q w=0:=by simp_all);obtain⟨i,a,f⟩:=List.mem_iff_getElem.1 g;have:=a6M w (15-i);grind
def d4C(c:Int):List Bool:=[7,6,5,4,3,2,1,0].map λi=>c.toNat.testBit i
theorem a6N(a b:Int):0<=bits .u16 .xor a b/\bits .u16 .xor a b<65536:=by grind[bits,a6I]
def a4G(p:List Int):List Bool:=p.flatMap d4C
def XP:Bo:=(0,0,(0,0,0,()),[],[],())
theorem a1y(c:List (List Int))(n i:Int){r:LI}(a:short r):∀(k j:Nat)(s:Int),2<=j->j+k=r.length\/(k=0/\r.length<=j)->∃s',Ah Dk (s,r,(j:Int),c,n,i,())=kc (s',c,n,i,())|0,j,s,p,h=>⟨s,Ad (by(have d:A3 ((j:Int)<(r.length:Int))=kb:=by grind);simp only[Dk,d,cF])⟩|k+1,j,s,p,h=>by(have f:j<r.length:=by omega);(unfold short at a;have b:zB .i64 ((j:Int)-1)=((j-1:Nat):Int):=by grind[Al]);(have e:zB .i64 ((j:Int)-2)=((j-2:Nat):Int):=by grind[Al]);have m:=Ac (l:=r) (i:=j-1) (by omega);have o:=Ac (l:=r) (i:=j-2) (by omega);obtain⟨s',g⟩:=a1y c n i a k (j+1) (zB .i64 (s+DH (zB .i64 (zB .i64 (r[j]-zB .i64 (2*r[j-1]))+r[j-2])) (zB .i64 (0-zB .i64 (zB .i64 (r[j]-zB .i64 (2*r[j-1]))+r[j-2]))))) (by omega) (by omega);refine⟨s',?_⟩;rw[<-g];exact Ag (by simp only[Dk,Bp f,cT,Ac f,oB,b,e,m,o,Aa (show j<1000000 by omega)])
theorem a4H{c:List (List Int)}{n:Nat}(h:Eg c n)(q:n<=4096)(p:c.length<1000):∃w,Gd c=kc w:=by
 unfold Gd;simp only[pO,oB];by_cases hq:Dh c;rotate_left;simp_all;simp[hq];have f:∀(k i:Nat)(s:Int),i+k=c.length->∃b,Ah Dm (s,c,(c.length:Int),(i:Int),())=kc (b,()):=by
  intro k
  induction k with
  |zero=>
   intro i s e;obtain rfl:i=c.length:=by omega
   simp_all[Ad,Dm]
  |succ k l=>
   intro i s e;have g:i<c.length:=by omega
   have t:=(h _ (A9 g)).1;obtain⟨m,a⟩:=a1y c (c.length:Int) (i:Int) (r:=c[i]) (by unfold short;omega) (c[i].length-2) 2 s (E8 _) (by omega);obtain⟨o,d⟩:=l (i+1) m (by omega);refine⟨o,?_⟩;rw[<-d];rw[show((2:Nat):Int)=2 from rfl]at a;exact Ag (by simp only[Dm,Bp g,cT,Ac g,oB,a,Aa (show i<1000000 by omega)])
 obtain⟨b,j⟩:=f c.length 0 0 (by omega);simp_all
def BV(m:Nat):List AA:=match m with|1=>[(0,1,-256,())]|2=>[(1,0,-256,())]|3=>[(1,0,-256,()),(0,1,128,())]|4=>[(1,0,-106,()),(0,1,181,()),(1,0,-106,())]|_=>[]
theorem UB{m:Nat}(h:m<=4):Na (m:Int)=kc (BV m):=by match m,h with|0,_=>rfl|1,_=>rfl|2,_=>rfl|3,_=>rfl|4,_=>rfl
theorem RE{m:Nat}(h:m<=4):Kc (BV m) 2:=by match m,h with|0,_=>decide|1,_=>decide|2,_=>decide|3,_=>decide|4,_=>decide
theorem YD{p:List (List Int)}{n:Nat}(hp:Eg p n)(e:p.length=2)(hq:Dh p)(c:n<=4096):∀(k m h:Nat)(least:Int),m+k=5->h<=4->(YC (BV h) p).isSome=ka->∃g,Ah DJ (p,(h:Int),least,(m:Int),())=kc (((g:Nat):Int),())/\g<=4/\(YC (BV g) p).isSome=true|0,m,h,least,o,hb,b=>by(obtain rfl:m=5:=by omega);exact⟨h,Ad rfl,hb,b⟩|k+1,m,h,least,o,hb,b=>by(have d:A3 ((m:Int)<5)=ka:=by grind);(have j:zB .i64 ((m:Int)+1)=((m+1:Nat):Int):=Aa (by omega);have a:Kc (BV m) (p.length:Int):=by grind[RE]);cases hdo:YC (BV m) p with|none=>have b1:((6:Int) != 0)=ka:=rfl;rw[Ag (s':=(p,(h:Int),least,((m+1:Nat):Int),())) (by simp only[DJ,d,cT,UB (show m<=4 by omega),oB,a9M,if_pos (show Dh p/\Kc (BV m) (p.length:Int)from⟨hq,a⟩),hdo,oT,b1,j])];exact YD hp e hq c k (m+1) h least (by omega) hb b|some r=>(have l:((0:Int) != 0)=kb:=rfl;obtain⟨q,t⟩:=Ro (BV m) hp rfl a.2.2.2 hdo);(obtain⟨w,i⟩:=a4H q c (by omega);have f:DJ (p,(h:Int),least,(m:Int),())=bif A3 (w<least)then kc (.inl (p,(m:Int),w,((m+1:Nat):Int),()))else kc (.inl (p,(h:Int),least,((m+1:Nat):Int),())):=by simp only[DJ,d,cT,UB (show m<=4 by omega),oB,a9M,if_pos (show Dh p/\Kc (BV m) (p.length:Int)from⟨hq,a⟩),hdo,oT,l,cF,i,j]);cases hlt:A3 (w<least)with|true=>rw[hlt]at f;rw[Ag f];exact YD hp e hq c k (m+1) m w (by omega) (by omega) (by simp_all)|false=>rw[hlt]at f;rw[Ag f];exact YD hp e hq c k (m+1) h least (by omega) hb b
theorem c1u{p:List (List Int)}{n:Nat}(hp:Eg p n)(g:p.length=2)(h:n<=4096):∃m,m<=4/\MB p=kc (BV m)/\(YC (BV m) p).isSome=ka:=by
 have k:=Uz hp (by omega) (by omega) h;obtain⟨w,c⟩:=a4H hp h (by omega);obtain⟨m,a,f,b⟩:=YD hp g k h 4 1 0 w rfl (by omega) rfl;grind[MB,UB]
def St(i:Nat)(s:AA):AA:=(s.1+(i:Int),s.2.1+(i:Int),s.2.2.1,())
theorem b9e{i N:Nat}(h:i+2<=N){s:AA}(k:Dy 2 s=ka):Dy (N:Int) (St i s)=ka:=by obtain⟨a1,a,b,c,d,g,f⟩:=Db.1 k;exact Db.2 ⟨by show 0<=s.1+(i:Int);omega,by show s.1+(i:Int)<(N:Int);omega,by show 0<=s.2.1+(i:Int);omega,by show s.2.1+(i:Int)<(N:Int);omega,by show s.1+(i:Int)≠s.2.1+(i:Int);omega,g,f⟩
def b3S(i:Nat)(c c' p:List (List Int)):Prop:=c'.length=c.length/\p.length=2/\c'.getD i []=p.getD 0 []/\c'.getD (i+1) []=p.getD 1 []/\∀j,j≠i->j≠i+1->c'.getD j []=c.getD j []
theorem b2B{i:Nat}{c0 c p p':List (List Int)}(hi:i+2<=c0.length)(h:b3S i c0 c p){s:AA}(o:Dy 2 s=ka)(g:HE 1 s p=kc p'):∃k,HE 1 (St i s) c=kc k/\b3S i c0 k p':=by
 obtain⟨z,A,B,C,D⟩:=h;obtain⟨a1,a,b,d,t,u,v⟩:=Db.1 o;unfold HE at g|-;simp only at g|-;have f:∀x:Int,0<=x->x<2->c.getD (x+(i:Int)).toNat []=p.getD x.toNat []:=λx F q=>by grind
 have w:=f s.1 a1 a;have y:=f s.2.1 b d;simp only[St];have n:Qk 1 s.2.2.1 (c.getD (s.1+(i:Int)).toNat []) (c.getD (s.2.1+(i:Int)).toNat [])=Qk 1 s.2.2.1 (p.getD s.1.toNat []) (p.getD s.2.1.toNat []):=by simp_all
 simp only[n];split at g;rename_i l;cases g;rw[if_pos l];generalize Qk 1 s.2.2.1 (p.getD s.1.toNat []) (p.getD s.2.1.toNat [])=r at *;refine⟨_,rfl,by grind,by grind,?_,?_,λj E m=>?_⟩;have:s.2.1=0\/s.2.1=1:=by omega
 rcases this with e|e;rw[e,show((0:Int)+(i:Int)).toNat=i from by omega,Ke _ (by omega),show(0:Int).toNat=0 from rfl,Ke _ (by omega)];rw[e,show((1:Int)+(i:Int)).toNat=i+1 from by omega,PP _ (by omega),show(1:Int).toNat=1 from rfl,PP _ (by omega)];omega;have:s.2.1=0\/s.2.1=1:=by omega
 rcases this with e|e;simp_all;rw[e,show((1:Int)+(i:Int)).toNat=i+1 from by omega,Ke _ (by omega),show(1:Int).toNat=1 from rfl,Ke _ (by omega)];rw[PP _ (by omega)];simp_all;simp_all
theorem a9Q{i:Nat}{c0:List (List Int)}(hi:i+2<=c0.length):∀(l:List AA){c p p':List (List Int)},l.all (Dy 2)=ka->b3S i c0 c p->YC l p=kc p'->∃g,YC (l.map (St i)) c=kc g/\b3S i c0 g p'|[],c,p,p',_,h,f=>(by cases f;exact⟨c,rfl,h⟩)|s::l,c,p,p',k,h,f=>by simp only[C5,bA]at k;simp[YC,A7]at f;obtain⟨q,a,b⟩:=f;obtain⟨d,e,j⟩:=b2B hi h k.1 a;obtain⟨g,j1,j2⟩:=a9Q hi l k.2 j b;exact⟨g,by simp only[E6,YC,e,oB];exact j1,j2⟩
theorem b3T:∀(l m:List AA)(c:List (List Int)),YC (l++m) c=(YC l c).bind (YC m)|[],m,c=>rfl|s::l,m,c=>by simp only[I9,YC];cases HE 1 s c with|none=>rfl|some d=>exact b3T l m d
theorem b2C{α β:Type}(f:α->β):∀l:List α,l.flatMap (λx=>[f x])=l.map f|[]=>rfl|x::l=>by simp[b2C f l]
theorem mH(b:Bn)(first:Nat)(u:first<=100){y:List AA}(e:y.all (Dy 2)=ka)(t:y.length<=10)(out:List AA)(v:out.length<=1000):
  Ah JF ((first:Int),(y.length:Int),(0:Int),out,y,b,())=kc ((first:Int),out++y.map (St first),b,()):=by
 have:=Bi (f:=JF) (β:=Int×(List AA×(Bn×Unit))) y (λi (a:List AA)=>((first:Int),(y.length:Int),(i:Int),a,y,b,())) (λa x=>.inl (a++[St first x])) (λi a=>a.length=out.length+i) (λa=>((first:Int),a,b,()))
  (λi g a c=>⟨λj h=>by
   simp at h;subst h;obtain⟨a1,l,m,o,p,q,r⟩:=Db.1 (lA.1 e _ (A9 g));have k:A3 ((0:Int)<=(i:Int))=ka:=by simp
   have d:F6 y (D0 (i:Int)) ((0:Int),(0:Int),(0:Int),())=y[i]:=by simp_all
   refine⟨?_,by grind⟩;simp only[JF,Bp g,cT,k,B6,AN (show a.length+1<2147483648 by omega),d,Aa (show i<1000000 by omega),B4];rw[Al (n:=y[i].1+(first:Int)) (by omega),Al (n:=y[i].2.1+(first:Int)) (by omega)]
   rfl,λb hb=>by grind⟩)
  (λa c=>by simp_all[JF]) (a:=out) (by simp)
 simp_all[Oa,Sz,b2C]
theorem c3n{c:List (List Int)}{i:Nat}(h:i+2<=c.length):N8 i (L8 (i+2) c)=[c.getD i [],c.getD (i+1) []]:=by apply M7;intro j;rw[L5];grind
theorem a1z{b:Bn}{n:Nat}(o:Eg b.2.1 n)(p:n<=4096)(z:b.2.1.length<=8):∀(k j:Nat)(out:List AA)(c:List (List Int)),j+k=5->out.length<=3*j->out.all (Dy (b.2.1.length:Int))=ka->YC out b.2.1=kc c->(∀i,2*j<=i->c.getD i []=b.2.1.getD i [])->3*j<=12\/b.2.1.length<=2*j->
  ∃l f,Ah EU (((2*j:Nat):Int),out,b,())=kc (l,())/\l.length<=16/\l.all (Dy (b.2.1.length:Int))=ka/\YC l b.2.1=kc f
 |k,j,out,c,O,hol,hob,hdo,hag,h12=>by
  have g:zB .i64 (((2*j:Nat):Int)+1)=((2*j+1:Nat):Int):=by grind[Al]
  by_cases hlt:2*j+1<b.2.1.length
  ·cases k with
   |zero=>omega
   |succ k=>
    have e:zB .i64 (((2*j:Nat):Int)+2)=((2*j+2:Nat):Int):=by grind[Al]
    have D:Eg [b.2.1.getD (2*j) [],b.2.1.getD (2*j+1) []] n:=λr q=>by
     simp only[mC,D6,or_false]at q;rcases q with rfl|rfl;all_goals grind[Hs]
    obtain⟨m,u,Q,F⟩:=c1u D rfl p;obtain⟨R,d⟩:=Option.isSome_iff_exists.1 F;have h:=(RE u).2.2.2;have C:(BV m).length<=3:=by
     match m,u with
     |0,_=>decide
     | 1,_=>decide
     | 2,_=>decide
     | 3,_=>decide
     | 4,_=>decide
    have A:c.length=b.2.1.length:=(Ro out o rfl hob hdo).2;obtain⟨f,G,H,I,K,L,M⟩:=a9Q (i:=2*j) (c0:=c) (by omega) (BV m) h ⟨rfl,rfl,hag _ (E8 _),hag _ (by omega),λ_ _ _=>rfl⟩ d;have B:=mH b (2*j) (by omega) h (by omega) out (by omega);have a:A3 (((2*j+1:Nat):Int)<(b.2.1.length:Int))=ka:=by grind
    have v:A3 ((0:Int)<=((2*j+2:Nat):Int))=ka:=by rfl
    have w:A3 (((2*j+2:Nat):Int)<=(b.2.1.length:Int))=ka:=by grind
    have x:A3 ((0:Int)<=((2*j:Nat):Int))=ka:=by rfl
    have y:A3 (((2*j:Nat):Int)<=((2*j+2:Nat):Int))=ka:=by grind
    rw[Ag (s':=(((2*(j+1):Nat):Int),out++(BV m).map (St (2*j)),b,())) (by
     simp only[EU,g,a,cT,e,v,w,B6,tN,x,y];grind[c3n])]
    refine a1z o p z k (j+1) (out++(BV m).map (St (2*j))) f (by omega) (by grind) ?_ (by simp_all[b3T]) (λi N=>by grind) (by omega);rw[J6,hob,L0,lA];intro s E;obtain⟨t,P,rfl⟩:=F0.1 E;grind[b9e]
  refine⟨out,c,Ad ?_,by omega,hob,hdo⟩;have a:A3 (((2*j+1:Nat):Int)<(b.2.1.length:Int))=kb:=by grind
  simp only[EU,g,a,cF]
termination_by k=>k
theorem a6O{b:Bn}(hb:Hv b):∃l h,Hz b=kc l/\Kc l (b.2.1.length:Int)/\YC l b.2.1=kc h:=by obtain⟨c,-⟩:=Ss hb;have a:=hb.2.2.2.1;obtain⟨l,h,d,g,f,k⟩:=a1z c hb.2.2.2.2.2.1 a 5 0 [] b.2.1 rfl (by simp) rfl rfl (λ_ _=>rfl) (by omega);refine⟨l,h,?_,⟨by have:=hb.2.2.1;omega,by omega,g,f⟩,k⟩;unfold Hz;simp[KQ,dE hb];simp_all
theorem b9f{r:LI}{n:Nat}(h:r.length=n/\r.all Ae=ka)(a:1<=n)(b:n<=256){k:Int}(f:0<=k)(c:k<=3):∃s,Cv (r,k)=kc (s,0)/\sO s/\EF s (n:Int)=kc r/\KS s (n:Int)<=((13+Ax r*n:Nat):Int):=by obtain⟨e,g⟩:=h;have d:=Ie (l:=r) (by omega) g;grind[a1e,b8K]
theorem a1A{effort:Int}(b:0<=effort)(j:effort<=3){rows:List (List Int)}{n:Nat}(l:Eg rows n)(c:1<=n)(i:n<=256)(m:rows.length<=8)(f:Bo):∀(zC d:List (List Int)) (g:List BN),d++zC=rows->g.length=d.length->∃h,Ah Ir (effort,rows,(rows.length:Int),(d.length:Int),XP,Zw f g,())=kc (.inl (XP,Zw f (g++h),()))/\Of (λs=>EF s (n:Int)) h=kc zC/\(∀s∈h,sO s)/\Of (λr=>Cv (r,effort)) zC=kc (h.map λs=>(s,0))|[],d,g,o,hdl=>by(have e:d=rows:=by simp_all);subst e;refine⟨[],?_,rfl,by simp,rfl⟩;simp_all[Ad,Ir]|r::zC,d,g,o,hdl=>by(have a:d.length<rows.length:=by grind);(have p:Aq rows (d.length:Int)=kc r:=by grind[Ac]);(obtain⟨s,b1,b2,q,-⟩:=b9f (l r (by grind)) c i b j;have z0:((0:Int) != 0)=kb:=rfl;have k:Ir (effort,rows,(rows.length:Int),(d.length:Int),XP,Zw f g,())=kc (.inl (effort,rows,(rows.length:Int),(((d++[r]).length:Nat):Int),XP,Zw f (g++[s]),())):=by simp only[Ir,Bp a,cT,p,oB,b1,z0,cF];rw[show(Zw f g).2.2.2.2.1=g from rfl,AN (show g.length+1<2147483648 by omega),cT,Aa (show d.length<1000000 by omega)];rw[show(((d++[r]).length:Nat):Int)=((d.length+1:Nat):Int)from by simp];rfl);rw[Ag k];obtain⟨h,v,w,x,y⟩:=a1A b j l c i m f zC (d++[r]) (g++[s]) (by simp_all) (by simp_all);refine⟨s::h,?_,?_,λt u=>?_,?_⟩;simp_all;simp_all[Of];grind;simp_all[Of]
theorem a1B{b:Bn}(hb:Hv b)(k:BI b<=256){rate start effort:Int}(n:1<=rate/\rate<=1048576)(B:0<=start/\start<=4194304-((BI b:Nat):Int))(y:0<=effort)(z:effort<=3):∃l rows g,HO (b,(rate,((b.2.1.length:Nat):Int),b.1,()),start,effort)=kc ((start,((BI b:Nat):Int),(rate,((b.2.1.length:Nat):Int),b.1,()),l,g,()),0)/\Kc l (b.2.1.length:Int)/\YC l b.2.1=kc rows/\Of (λs=>EF s ((BI b:Nat):Int)) g=kc rows/\(∀s∈g,sO s)/\Of (λr=>Cv (r,effort)) rows=kc (g.map λs=>(s,0))/\(effort=0->l=[])/\(0<effort->Hz b=kc l):=by
 obtain⟨A,m⟩:=Ss hb;have i:=hb;obtain⟨w,x,D,E,F,G,-⟩:=i;have j:Qj (rate,((b.2.1.length:Nat):Int),b.1,()):=⟨n.1,n.2,by grind,by grind,w,x⟩;have f:∃l rows,Kc l (b.2.1.length:Int)/\YC l b.2.1=kc rows/\(effort=0->l=[])/\(0<effort->Hz b=kc l):=by by_cases he:effort=0;exact⟨[],b.2.1,⟨by omega,by omega,by simp,rfl⟩,rfl,λ_=>rfl,λh=>by omega⟩;grind[a6O]
 obtain⟨l,rows,e,d,a,c⟩:=f;obtain⟨C,H⟩:=Ro l A rfl e.2.2.2 d;obtain⟨g,j1,j2,j3,j4⟩:=a1A y z C (by omega) k (by omega) (start,((BI b:Nat):Int),(rate,((b.2.1.length:Nat):Int),b.1,()),l,([]:List BN),()) rows [] [] rfl rfl;refine⟨l,rows,g,?_,e,d,j2,j3,j4,a,c⟩;have u:(b.1 != b.1)=kb:=bN _;have v:(((b.2.1.length:Nat):Int) != ((b.2.1.length:Nat):Int))=kb:=bN _;have o:A3 (effort<0)=kb:=by simp_all
 have p:A3 (effort > 3)=kb:=by simp_all
 have q:A3 (start<0)=kb:=by simp_all
 have t:A3 (start > zB .i64 (4194304-((BI b:Nat):Int)))=kb:=by grind[Al]
 have z0:((0:Int) != 0)=kb:=rfl;unfold HO;simp only[KQ,dE hb,oB,bT,cF,Kd,dE j,u,v,o,p,q,KP,t];cases he:A3 (effort > 0)with|true=>have:=c (by simp_all);simp[this,a9M,if_pos (show Dh b.2.1/\Kc l (b.2.1.length:Int)from⟨m,e⟩),d,oT];erw[j1];rfl|false=>have:=a (by grind);subst this;simp only[cF,oB,a9M,if_pos (show Dh b.2.1/\Kc ([]:List AA) (b.2.1.length:Int)from⟨m,e⟩),d,oT,z0];erw[j1];rfl
theorem made{b:Bn}(hb:Hv b)(f:BI b<=256){rate start effort:Int}(i:1<=rate/\rate<=1048576)(c:0<=start/\start<=4194304-(BI b:Int))(m:0<=effort)(o:effort<=3):∃g:Int×(AA×(List AA×(List BN×Unit))),HO (b,(rate,(b.2.1.length:Int),b.1,()),start,effort)=kc ((start,g),0)/\g.1=(BI b:Int)/\g.2.1=(rate,(b.2.1.length:Int),b.1,())/\g.2.2.1.length<=16/\g.2.2.2.1.length<=8/\(∀s∈g.2.2.2.1,sO s)/\∀h,0<=h/\h<=4194304-(BI b:Int)->Ht (h,g)=kc b:=by obtain⟨l,j,k,n,a,d,e,p,-⟩:=a1B hb f i c m o;obtain⟨q,-⟩:=Ss hb;have u:=fP e;have r:=(Ro l q rfl a.2.2.2 d).2;exact⟨_,n,rfl,rfl,a.2.2.1,by have:=hb.2.2.2.1;show k.length<=8;omega,p,λh t=>b2z hb a d e t i⟩
def c4m(c:Int):Prop:=0<=c/\c<256
def Tl(p:List Int)(j:Nat):Bool:=(p.getD (j / 8) 0).toNat.testBit (7-j%8)
theorem a1C:∀p:List Int,a4G p=(C0 (8*p.length)).map (Tl p)|[]=>rfl|c::p=>by(have e:a4G (c::p)=d4C c++a4G p:=rfl;rw[e,a1C p,lC,show 8*(p.length+1)=8+8*p.length from by omega,F4,pA,G8];congr 1;refine E4 λj _=>?_);show Tl p j=Tl (c::p) (8+j);unfold Tl;rw[show(8+j) / 8=j / 8+1 from by omega,L1,show(8+j)%8=j%8 from by omega]
structure yU (b k i:Nat) (p0 p:List Int) (sm:Bool):Prop where
 len:p.length=p0.length
 ok:∀c∈p,c4m c
 bit:∀j,Tl p j=xor (Tl p0 j) (decide (k<=j/\j<k+i)&&b.testBit (j-k))
 smk:sm=ka↔∃t,t<i/\b.testBit t=ka
 pre:p.take (k / 8)=p0.take (k / 8)
 same:sm=kb->p=p0
theorem turned{b k:Nat}{g q:LI}{s:Bool}(y:k<8*g.length)(l:(a4G g).foldl c1s 0=0)(f:yU b k (min 16 (8*g.length-k)) g q s)(v:s=ka):(a4G q).foldl c1s 0≠0:=by
 obtain⟨n,u⟩:∃n,min 16 (8*g.length-k)=n:=⟨_,rfl⟩;rw[u]at f;have e:a4G q=(C0 (8*g.length)).map λj=>xor (Tl g j) (A3 (k<=j/\j<k+n)&&b.testBit (j-k)):=by rw[a1C,f.len];exact E4 λj _=>f.bit j
 have h:=a9P (Tl g) (λj=>A3 (k<=j/\j<k+n)&&b.testBit (j-k)) (C0 (8*g.length)) 0 0;have c:∀x:BitVec 16,(0:BitVec 16) ^^^ x=x:=λ_=>BitVec.zero_xor;rw[c,<-e,<-a1C,l,c]at h;rw[h];obtain⟨m,r⟩:∃m,8*g.length=k+(n+m):=⟨8*g.length-k-n,by omega⟩;rw[r,F4,F4,pA,pA,pA,G8,G8,G8];have d:(C0 k).map (λj=>A3 (k<=j/\j<k+n)&&b.testBit (j-k))=A8 k kb:=by rw[F8];refine⟨by simp,λx a=>?_⟩;obtain⟨j,p,rfl⟩:=F0.1 a;grind
 have i:(C0 m).map (((λj=>A3 (k<=j/\j<k+n)&&b.testBit (j-k))∘(k+·))∘(n+·))=A8 m kb:=by rw[F8];refine⟨by simp,λx a=>?_⟩;obtain⟨j,p,rfl⟩:=F0.1 a;grind
 rw[d,i];refine c8R (by simp;omega) ?_ k m;obtain⟨t,o,w⟩:=f.smk.1 v;refine F0.2 ⟨t,K4.2 o,?_⟩;simp_all
theorem c1v{g:Int}(h:-100000<=g/\g<=100000):Ub g=kc (a3n g:Int):=by
 unfold Ub a3n;by_cases hg:0<=g;have d:A3 (g<0)=kb:=by simp_all
 have e:AO .u64 (zB .u64 g) 1=2*g:=by show zB .u64 (zB .u64 g*2)=_;grind[Av]
 grind;have d:A3 (g<0)=ka:=by simp_all
 have e:AO .u64 (zB .u64 g) 1=((18446744073709551615-(-2*g-1).toNat:Nat):Int):=by show zB .u64 (zB .u64 g*2)=_;grind[zB,IntKind.bits,IntKind.signed]
 rw[d,cT,e,if_neg hg,b3D (by omega)];grind
theorem mI(a:LI)(i:Int):∀(k n:Nat)(out:LI),n<128^(k+1)->k<=8->out.length+k<1000000->∃r g,Ah KK (a,i,(n:Int),out,())=kc (a,i,((r:Nat):Int),out++g,())/\Fk n=g++[(r:Int)]/\r<128|k,n,out,h,q,t=>by by_cases hn:n<128;refine⟨n,[],?_,by rw[YA hn];rfl,hn⟩;rw[Ad (b:=(a,i,(n:Int),out,())) (by(have d:A3 ((n:Int)>=128)=kb:=by grind);simp only[KK,d,cF])];simp;cases k with|zero=>omega|succ k=>(have p:n / 128<128^(k+1):=by omega);(have f:n<18446744073709551616:=by have:128^(k+1+1)<=128^9:=D2 (by omega) (by omega);omega);(obtain⟨r,g,c,l,m⟩:=mI a i k (n / 128) (out++[((n%128+128:Nat):Int)]) p (by omega) (by grind);refine⟨r,((n%128+128:Nat):Int)::g,?_,by rw[pN hn,l];rfl,m⟩;have d:A3 ((n:Int)>=128)=ka:=by grind);(have e:Au .u64 (n:Int) 7=((n / 128:Nat):Int):=Ef (o:=7) (by omega);have j:zB .u8 (bits .u64 .or (bits .u64 .and (n:Int) 127) 128)=((n%128+128:Nat):Int):=by have c:bits .u64 .and (n:Int) 127=((n%2^7:Nat):Int):=Ul (k:=7) f (by omega);rw[c,show((128:Int))=((1*2^7:Nat):Int)from rfl,d6Q (C1 _ (by omega)) (by omega),IZ];omega);rw[Ag (s':=(a,i,((n / 128:Nat):Int),out++[((n%128+128:Nat):Int)],())) (by simp only[KK,d,cT,AN (show out.length+1<2147483648 by omega),e,j,B4])];simp_all
theorem IJ{ns:List Nat}(h:∀n∈ns,n<9223372036854775808)(w:ns.length<=1000):Cs (Tk ns)=kc (ns.flatMap Fk):=by
 have m:(Tk ns).length=ns.length:=by simp[Tk]
 have:=Bi (f:=KL) (Tk ns) (λi (a:LI)=>(Tk ns,(i:Int),a,())) (λa x=>.inl (a++Fk x.toNat)) (λi a=>a.length<=10*i) (λa=>(a,()))
  (λi l a t=>⟨λu g=>by
   have c:i<ns.length:=by omega
   have p:(Tk ns)[i]=((ns[i]:Nat):Int):=by simp[Tk]
   have hb:=h ns[i] (A9 c);have k:ns[i]<128^(8+1):=by omega
   obtain⟨r,d,q,j,v⟩:=mI (Tk ns) (i:Int) 8 ns[i] a k (E8 _) (by omega);have o:=fL 8 ns[i] k;rw[j]at o;simp only[lN,lC,B3]at o;simp[p,j]at g;subst g;have e:zB .u8 (r:Int)=(r:Int):=by rw[IZ];omega
   refine⟨?_,by grind⟩;simp only[KL,Bp l,cT,Ac l,p,oB,q,AN (show(a++d).length+1<2147483648 by grind),Aa (show i<1000000 by omega),e,B4,aA],λb hb=>by grind⟩)
  (λa t=>by simp_all[KL]) (a:=[]) (by simp)
 simp_all[Cs,Oa,Sz,Tk,N1]
theorem a9R{f:Bo}(r:a4y f){body:Nat}(o:body<=1048576):Vn (f,(body:Int))=kc (hb f body):=by
 have p:=r;obtain⟨⟨P,Q,K,L,M,N⟩,l1,l2,s1,s2,m1,m2,m3,m4⟩:=p;have k:∀s∈f.2.2.2.1,Dy f.2.2.1.2.1 s=ka:=λs A=>lA.1 m4 s A;have y:=jI m2 f.2.2.2.1 m4;have w:=a6J r o;have c:Cs [zB .u64 f.1,zB .u64 f.2.1,zB .u64 f.2.2.1.1,zB .u64 f.2.2.1.2.1,zB .u64 f.2.2.1.2.2.1,zB .u64 ((f.2.2.2.1.length:Nat):Int)]=kc ([f.1.toNat,f.2.1.toNat,f.2.2.1.1.toNat,f.2.2.1.2.1.toNat,f.2.2.1.2.2.1.toNat,f.2.2.2.1.length].flatMap Fk):=by
  rw[<-IJ (λn q=>by
   grind) (by simp)]
  grind[Av,Tk]
 have B:([f.1.toNat,f.2.1.toNat,f.2.2.1.1.toNat,f.2.2.1.2.1.toNat,f.2.2.1.2.2.1.toNat,f.2.2.2.1.length].flatMap Fk).length<=600:=by
  have e:(hb f body).length=2+(([f.1.toNat,f.2.1.toNat,f.2.2.1.1.toNat,f.2.2.1.2.1.toNat,f.2.2.1.2.2.1.toNat,f.2.2.2.1.length].flatMap Fk).length+((f.2.2.2.1.flatMap Zv).length+(Fk body).length)):=by
   simp[hb];omega
  omega
 have h:=Bi (f:=Pa) (β:=Int×(List Int×Unit)) f.2.2.2.1 (λi (a:LI)=>((body:Int),(i:Int),a,f,())) (λa x=>.inl (a++Zv x)) (λi a=>a.length<=600+27*i) (λa=>((body:Int),a,()))
  (λi l a v=>⟨λE j=>by
   simp at j;subst j;obtain⟨a1,F,G,H,I,t,u⟩:=Db.1 (k _ (A9 l));have D:=a4z m2 (k _ (A9 l));have O:=b3M (g:=f.2.2.2.1[i].2.2.1) (m:=1024) ⟨t,u⟩;have z:Cs [zB .u64 f.2.2.2.1[i].1,zB .u64 f.2.2.2.1[i].2.1,((a3n f.2.2.2.1[i].2.2.1:Nat):Int)]=kc (Zv f.2.2.2.1[i]):=by
    have e:=IJ (ns:=KZ f.2.2.2.1[i]) (λn q=>by
     simp[KZ]at q;omega) (by simp[KZ])
    grind[Zv,KZ,Av,Tk,H1]
   refine⟨?_,by grind⟩;simp only[Pa,Bp l,cT,Ac l,oB,c1v (g:=f.2.2.2.1[i].2.2.1) (by omega),z,AN (show a.length+(Zv f.2.2.2.1[i]).length<2147483648 by omega),Aa (show i<1000000 by omega),B4],λb hb=>by grind⟩)
  (λa v=>by simp_all[Pa]) (a:=[f.1.toNat,f.2.1.toNat,f.2.2.1.1.toNat,f.2.2.1.2.1.toNat,f.2.2.1.2.2.1.toNat,f.2.2.2.1.length].flatMap Fk) (by omega)
 rw[Oa]at h;simp only[Sz,nZ]at h;have d:Cs [zB .u64 (body:Int)]=kc (Fk body):=by
  have e:=IJ (ns:=[body]) (λn q=>by grind) (by simp);grind[Av,Tk]
 have C:=Pk (n:=body) (by omega);unfold Vn;simp only[c,oB];rw[h];simp only[oB,d,B4];rw[AN (by grind),cT,AN (by grind),cT];simp[hb]
theorem a6P{p:PZ}{n:Int}(hp:c1p n p){L:LI}(o:L.length<50000000):KJ ((L,()),p.1,n)=kc (0,L++jH p.1 p.2,())/\(jH p.1 p.2).length<=700000:=by(obtain⟨c,k,a⟩:=hp;obtain⟨j,i,g,l,f,b,m⟩:=a0H c (n:=n) (L:=L) (by omega);obtain⟨rfl,d,rfl,h⟩:=b k;have e:EG p.1 d L=EG p.1 p.2 L:=by by_cases hk:p.1.1=0\/p.1.1=1;unfold EG;rw[if_pos hk,if_pos hk];rw[b5s (h (not_or.1 hk)) (a (not_or.1 hk))]);rw[e,XK (XJ k) a]at g f;exact⟨g,by rw[lN]at f;omega⟩
theorem XQ(l:LI)(i:Int):∀(j k:Nat)(s:Int),k+j=8->0<=s/\s<256->Ah TA (l,s,i,(k:Int),())=kc (l,a3o e8 j s,i,())|0,k,s,h,_=>by(obtain rfl:k=8:=by omega);rfl|j+1,k,s,h,g=>by(have d:A3 ((k:Int)<8)=ka:=by grind);(have e:A3 (s>=128)=(Au .u8 s 7==(1:Int)):=by(obtain⟨n,rfl⟩:=A4 g.1;have e:Au .u8 (n:Int) 7=((n / 128:Nat):Int):=by show Int.fdiv (n:Int) ((128:Nat):Int)=_;grind);grind);rw[Ag (s':=(l,e8 s,i,((k+1:Nat):Int),())) (by simp only[TA,d,cT,Aa (show k<1000000 by omega),e8,e];grind)];exact XQ l i j (k+1) (e8 s) (by omega) (b8X s)
theorem UC(l:LI)(i:Int):∀(j k:Nat)(s:Int),k+j=8->0<=s/\s<65536->Ah PY (l,s,i,(k:Int),())=kc (l,a3o b6p j s,i,())|0,k,s,h,_=>by(obtain rfl:k=8:=by omega);rfl|j+1,k,s,h,g=>by(have d:A3 ((k:Int)<8)=ka:=by grind);(have e:A3 (s>=32768)=(Au .u16 s 15==(1:Int)):=by(obtain⟨n,rfl⟩:=A4 g.1;have e:Au .u16 (n:Int) 15=((n / 32768:Nat):Int):=by show Int.fdiv (n:Int) ((32768:Nat):Int)=_;grind);grind);rw[Ag (s':=(l,b6p s,i,((k+1:Nat):Int),())) (by simp only[PY,d,cT,Aa (show k<1000000 by omega),b6p,e];grind)];exact UC l i j (k+1) (b6p s) (by omega) (a4x s)
theorem a9S(a b:Int):0<=bits .u8 .xor a b/\bits .u8 .xor a b<256:=by grind[bits,IZ]
theorem a6Q{l:LI}(h:short l):Vo l=kc (c1o l):=by
 have:=Bi (f:=Pb) (β:=Int×Unit) l (λi (a:Int)=>(l,a,(i:Int),())) (λa x=>.inl (g8 a x)) (λ_ _=>True) (λa=>(a,()))
  (λi k a _=>⟨λc g=>by
   simp at g;subst g
   have:=XQ l (i:Int) 8 0 (bits .u8 .xor a l[i]) rfl (a9S _ _)
   simp at this;refine⟨?_,trivial⟩;simp only[Pb,Bp k,cT,Ac k,oB,this,Aa (B7 k h),g8],λb hb=>by grind⟩)
  (λa d=>by grind[Pb]) (a:=0) trivial
 unfold Vo;simp at this;rw[this,Sr];rfl
theorem a1D{l:LI}(h:short l):Ra l=kc (mE l):=by
 have:=Bi (f:=Me) (β:=Int×Unit) l (λi (a:Int)=>(l,a,(i:Int),())) (λa x=>.inl (c8N a x)) (λ_ _=>True) (λa=>(a,()))
  (λi k a _=>⟨λc g=>by
   simp at g;subst g
   have:=UC l (i:Int) 8 0 (bits .u16 .xor a (AO .u16 (zB .u16 l[i]) 8)) rfl (a6N _ _)
   simp at this;refine⟨?_,trivial⟩;simp only[Me,Bp k,cT,Ac k,oB,this,Aa (B7 k h),c8N],λb hb=>by grind⟩)
  (λa d=>by grind[Me]) (a:=0) trivial
 unfold Ra;simp at this;rw[this,Sr];rfl
theorem b9g{v:Int}(h:0<=v/\v<65536):LD (v,2)=kc [v / 256,v%256]:=by
 obtain⟨n,rfl⟩:=A4 h.1;have g:zB .u8 (Au .u64 (n:Int) 8)=(n:Int) / 256:=by grind[Au,Ef,IZ]
 have f:zB .u8 (Au .u64 (n:Int) 0)=(n:Int)%256:=by simp_all[Au,IZ]
 have k:JT ((n:Int),(1:Int),([]:List Int),())=kc (.inl ((n:Int),(0:Int),[(n:Int) / 256],())):=by simp only[JT,show A3 ((1:Int)>=0)=ka from rfl,zQ,show zB .u64 (zB .i64 (8*1))=8 from rfl,show A3 ((8:Int)<0)=kb from rfl,AN (show([]:List Int).length+1<2147483648 by simp),g];rfl
 have a:JT ((n:Int),(0:Int),[(n:Int) / 256],())=kc (.inl ((n:Int),(-1:Int),[(n:Int) / 256,(n:Int)%256],())):=by simp only[JT,show A3 ((0:Int)>=0)=ka from rfl,zQ,show zB .u64 (zB .i64 (8*0))=0 from rfl,show A3 ((0:Int)<0)=kb from rfl,AN (show([(n:Int) / 256]:List Int).length+1<2147483648 by simp),f];rfl
 unfold LD;rw[show zB .i64 (DH (En (2:Int) 8) 0-1)=1 from rfl,Ag k,Ag a,Ad (b:=([(n:Int) / 256,(n:Int)%256],())) rfl];rfl
theorem c1w{L:LI}(h:EH L)(c:L.length%8≠0):(wL (L++[0])).1=(wL L).1:=by(obtain⟨k,b⟩:=NT L;have f:=(c1m h).1 (L.length / 8);rw[eU];unfold a8Z;simp only[];rw[k,if_neg (by omega),show((L.length:Int) / 8).toNat=L.length / 8 from by rfl];have a:AO .u8 0 (7-(L.length:Int)%8)=0:=by unfold AO;rw[Int.zero_mul];rfl);(rw[a];generalize hx:(wL L).1.getD (L.length / 8) 0=x at f|-;have g:bits .u8 .or x 0=x:=by obtain⟨n,rfl⟩:=A4 f.1;grind[d4B]);rw[g,<-hx];apply M7;grind
theorem a9T:∀(k:Nat){L:LI},EH L->a6K L.length=k->(wL (L++A8 k 0)).1=(wL L).1|0,L,_,_=>by simp|k+1,L,h,g=>by(have f:L.length%8≠0:=by intro e;unfold a6K at g;omega);have hb:EH (L++[0]):=h.app λb hb=>.inl (by simpa using hb);have a:=a9T k (L:=L++[0]) hb (by unfold a6K at g|-;rw[lN,B8];omega);rw[L3,show L++(0:Int)::A8 k 0=(L++[0])++A8 k 0 from by simp,a];exact c1w h f
theorem b9h{L:LI}(h:EH L):Ob L=(wL L).1:=a9T _ h rfl
theorem mJ{f:Bo}:∀(zC g:List PZ)(L:LI),(g++zC).map (·.1)=f.2.2.2.2.1->(∀p∈zC,c1p f.2.1 p)->L.length+700000*zC.length<40000000->(g++zC).length<=8->Ah Ju ((g.length:Int),(L,()),f,())=kc ((L++BH zC,()),f,())|[],g,L,e,_,_,_=>by grind[Ad,Ju,BH]|p::zC,g,L,e,h,d,c=>by(rw[lC]at d;simp at c;obtain⟨b,j⟩:=a6P (h p (by simp)) (L:=L) (by omega);have a:g.length<f.2.2.2.2.1.length:=by grind);(have i:Aq f.2.2.2.2.1 (g.length:Int)=kc p.1:=by grind[Ac]);have k:=mJ zC (g++[p]) (L++jH p.1 p.2) (by grind) (λq l=>h q (by grind)) (by grind) (by grind);rw[Ag (s':=((((g++[p]).length:Nat):Int),(L++jH p.1 p.2,()),f,())) (by simp only[Ju,Bp a,cT,i,oB,b,Aa (show g.length<1000000 by omega)];simp)];rw[k];simp[BH]
theorem a3p{f:Bo}(a:∀s∈f.2.2.2.2.1,sO s):∃p e,EL f=kc (p,e)/\DS f=kc (p,e):=by have l:=b9a a;have m:=b2A a;cases hb:Ht f with|none=>simp_all[EL,DS]|some b=>(rw[hb]at l m;obtain⟨k,u,j⟩:=Rp hb;have q:f.2.2.2.2.1.length<=8:=by have:=k.1.2.2.2.1;omega);(obtain⟨g,z,w,x,A,y⟩:=fO l k q (λs o=>⟨a s o,j s o⟩);have v:g.length<=8:=by grind);refine⟨_,_,y,?_⟩;have h:=mJ (f:=f) g [] [] (by grind) w (by grind) (by grind);have r:=a1q k x;have c:=b9h (b5T g);simp at h;have t:=a6J k (body:=(Ob (BH g)).length) (by omega);have i:=mF (jK f (BH g));have d:(Ab.hb f (Ob (BH g)).length++[c1o (Ab.hb f (Ob (BH g)).length)])++Ob (BH g)=jK f (BH g):=rfl;unfold DS;rw[m];simp only[Option.isSome_some,zQ];rw[h];simp only[oB,a6u (show(BH g).length<1000000000 by omega),<-c,a9R k (show(Ob (BH g)).length<=1048576 by omega),a6Q (show short (Ab.hb f (Ob (BH g)).length)by unfold short;omega),B4];rw[AN (by omega),cT,AN (by grind),cT,d,a1D (show short (jK f (BH g))by unfold short;omega)];simp only[oB,Av (n:=mE (jK f (BH g))) (by omega),b9g i];rw[AN (by grind),cT];rfl
theorem b5W(l:LI):Yp (l,l)=kc ka:=by grind[Yp]
theorem c1x(y:Int):bits .i64 .and y 255=y%256:=by(have h:((A6 64 y) &&& (A6 64 255)).toNat=(y%18446744073709551616).toNat%256:=by(rw[J0,E5];have e:(A6 64 255).toNat=2^8-1:=by rfl);rw[e,G4];rfl);show zB .i64 (((A6 64 y) &&& (A6 64 255)).toNat:Int)=_;grind[Al]
theorem d4b(x:Int){j:Nat}(g:j<8):Au .i64 x ((8*j:Nat):Int)=x.fdiv (256^j):=by(have h:min (D0 ((8*j:Nat):Int)) (IntKind.bits .i64)=8*j:=by grind[IntKind.bits]);unfold Au;rw[h,show(256:Int)=2^8 from rfl,<-Int.pow_mul]
def a9U(k:Nat)(x:Int):List Int:=pF k (x%18446744073709551616).toNat
theorem c8S(x:Int):zB .u64 x=((x%18446744073709551616).toNat:Int):=by grind[zB,IntKind.bits,IntKind.signed]
theorem c1y(x:Int)(j:Nat)(g:j<8):((((x%18446744073709551616).toNat) / 256^j%256:Nat):Int)=x.fdiv (256^j)%256:=by(have h:j=0\/j=1\/j=2\/j=3\/j=4\/j=5\/j=6\/j=7:=by omega);rcases h with rfl|rfl|rfl|rfl|rfl|rfl|rfl|rfl<;>rw[I4 _ (by decide)]<;>simp only[Nat.reducePow,Int.reducePow]<;>omega
theorem Su(k:Nat)(x:Int):(a9U k x).length=k:=OD _ _
theorem b9i(k:Nat)(h:k<8)(x:Int):a9U (k+1) x=a9U k x++[x.fdiv (256^k)%256]:=by grind[a9U,Xj,c1y]
theorem jL:∀(k n:Nat),∀b∈pF k n,0<=b/\b<256|0,_=>by simp[pF]|k+1,n=>λb hb=>by rcases mC.1 hb with rfl|hb;omega;exact jL k _ b hb
def Gn(w:Int)(l:List Int):List Int:=l.flatMap (a9U ((w+7) / 8).toNat)
theorem a9V{k:Nat}{g:Int->List Int}(h:∀x,(g x).length=k):∀(l:LI),(l.flatMap g).length=l.length*k|[]=>by simp|x::l=>by rw[D3,lN,h,a9V h l,lC,Nat.add_mul];omega
theorem a1E{w:Int}(h:4<=w/\w<=24)(l:LI):(Gn w l).length<=3*l.length:=by unfold Gn;rw[a9V (Su _)];(have:((w+7) / 8).toNat<=3:=by omega);simp_all[Nat.mul_le_mul_left,F3]
theorem b2D(w:Int)(a b:LI):Gn w (a++b)=Gn w a++Gn w b:=H2
theorem fS(w:Int)(l:LI):∀b∈Gn w l,0<=b/\b<256:=λb hb=>by obtain⟨x,-,h⟩:=F9.1 hb;exact jL _ _ b h
theorem c1z(b x n:Int)(i:Int)(l:LI){k:Nat}(d:k<=8)(out:LI)(e:out.length<100000000):Ah Ha (b,(k:Int),x,l,n,i,(k:Int),(0:Int),out,())=kc (b,(k:Int),l,n,i,out++a9U k x,()):=by have g:=AD (f:=Ha) (λj=>(b,(k:Int),x,l,n,i,(k:Int),(j:Int),out++a9U j x,())) k (b:=(b,(k:Int),l,n,i,out++a9U k x,())) (λj c=>by(have a:zB .i64 ((8:Int)*(j:Int))=((8*j:Nat):Int):=by grind[Al]);(have h:A3 (((8*j:Nat):Int)<0)=kb:=by rfl);simp only[Ha];rw[Bp c,AN (show(out++a9U j x).length+1<2147483648 by grind[Su]),a,h,Aa (show j<1000000 by omega),c1x,d4b x (by omega),IZ,K7 _ (by simp),b9i j (by omega),<-aA];rfl) (by simp_all[Ha]);simp_all[a9U,pF]
theorem b9j{w:Int}(h:4<=w/\w<=24):zB .i64 (D1 (zB .i64 (w+(7:Int))) (8:Int))=(((w+7) / 8).toNat:Int):=by grind[Al]
theorem a4I{w:Int}(b:4<=w/\w<=24)(l:LI)(e:l.length<=1000000){k:Nat}(d:k<=3):∀(zC h out:LI),h++zC=l->zC.all (λx=>Bq x w)=ka->out.length+3*zC.length<100000000->Ah KA (w,(k:Int),l,(l.length:Int),(h.length:Int),out,())=kc (.inl (out++zC.flatMap (a9U k),()))|[],h,out,a,_,_=>by(obtain rfl:h=l:=by simp_all);simp_all[Ad,KA]|x::zC,h,out,a,g,i=>by(have f:h.length<l.length:=by grind);(have c:Aq l (h.length:Int)=kc x:=by grind[Ac]);simp only[C5,bA]at g;simp at i;rw[Ag (s':=(w,(k:Int),l,(l.length:Int),(((h++[x]).length:Nat):Int),out++a9U k x,())) (by simp only[KA,Bp f,cT,c,oB,UA b,g.1,bT,cF,c1z w x _ _ l (show k<=8 by omega) out (by omega),Aa (show h.length<1000000 by omega)];simp)];rw[a4I b l e d zC (h++[x]) (out++a9U k x) (by simpa using a) g.2 (by rw[lN,Su];omega)];simp
theorem a1F{w:Int}(g:4<=w/\w<=24){l:LI}(c:l.length<=1000000)(b:l.all (λx=>Bq x w)=ka):OT (l,w)=kc (Gn w l,0):=by
 have f:A3 (w<(4:Int))=kb:=by simp_all
 have a:A3 (w > (24:Int))=kb:=by simp_all
 have h:=a4I g l c (k:=((w+7) / 8).toNat) (by omega) l [] [] rfl b (by grind);rw[B3]at h;simp only[OT,f,cF,oB,a,b9j g];erw[h];rfl
theorem a6R{n k:Nat}(m:k<=8):Sb ((n:Int),(k:Int))=kc (pF k n):=by simp[Sb];have h:=AD (f:=Pd) (λi=>((n:Int),(k:Int),(i:Int),pF i n,())) k (b:=(pF k n,())) (λi j=>by(have g:A3 ((i:Int)<(8:Int))=ka:=by grind);(have c:zB .u64 (zB .i64 ((8:Int)*(i:Int)))=((8*i:Nat):Int):=by grind[Al,Av]);(have a:A3 (((8*i:Nat):Int)<0)=kb:=by rfl);(have d:zB .u8 (Au .u64 (n:Int) ((8*i:Nat):Int))=((n / 256^i%256:Nat):Int):=by(have e:Au .u64 (n:Int) ((8*i:Nat):Int)=((n / 256^i:Nat):Int):=by(have l:min (D0 ((8*i:Nat):Int)) (IntKind.bits .u64)=8*i:=by grind[IntKind.bits]);unfold Au;rw[l,show(256:Nat)=2^8 from rfl,<-N3];grind);rw[e,IZ];rfl);simp only[Pd];rw[Bp j,g,AN (show(pF i n).length+1<2147483648 by rw[OD];omega),c,a,Aa (show i<1000000 by omega),d,Xj];rfl) (by simp_all[Pd]);simp only[pF]at h;simp_all
theorem a1G{i:Nat}(h:i<1000000000):zB .i64 ((i:Int)+1)=((i+1:Nat):Int):=by grind[Al]
theorem Zy{w:Int}(k:4<=w/\w<=24)(l:LI)(c:l.length<=30000000):∀(zC h out:LI),h++zC=l->zC.all (λx=>Bq x w)=ka->out.length+3*zC.length<100000000->Ah Rb (l,w,(h.length:Int),out,())=kc (.inl (out++Gn w zC,()))|[],h,out,a,_,_=>by(obtain rfl:h=l:=by simp_all);simp_all[Ad,Rb,Gn]|x::zC,h,out,a,g,d=>by(have f:h.length<l.length:=by grind);(have b:Aq l (h.length:Int)=kc x:=by grind[Ac]);(simp only[C5,bA]at g;simp at d;have e:Sb (zB .u64 x,((((w+7) / 8).toNat:Nat):Int))=kc (a9U ((w+7) / 8).toNat x):=by rw[c8S];exact a6R (by omega));rw[Ag (s':=(l,w,(((h++[x]).length:Nat):Int),out++a9U ((w+7) / 8).toNat x,())) (by simp only[Rb,Bp f,cT,b,oB,KR k,g.1,bT,cF,b9j k,e,AN (show out.length+(a9U ((w+7) / 8).toNat x).length<2147483648 by rw[Su];omega),a1G (show h.length<1000000000 by omega)];simp)];rw[Zy k l c zC (h++[x]) (out++a9U ((w+7) / 8).toNat x) (by simp_all) g.2 (by grind[Su])];simp[Gn]
theorem a9W{w:Int}(k:4<=w/\w<=24){l:LI}(f:l.length<=30000000)(g:l.all (λx=>Bq x w)=ka):Yn (l,w)=kc (Gn w l,0):=by(have a:Vp w=kc ka:=by grind[Vp]);have h:=Zy k l f l [] [] rfl g (by grind);simp_all[Yn]
def YN(d:List Int)(ch c:Nat):List Int:=((C0 d.length).filter λi=>i%ch==c).map λi=>d.getD i 0
def Ew(d:List Int)(ch:Nat):List (List Int):=(C0 ch).map (YN d ch)
def wv(n:Nat)(rows:List (List Int)):List Int:=(C0 n).flatMap λi=>rows.map λr=>r.getD i 0
theorem b9k{α:Type}{a b:List α}{i:Nat}{d:α}(h:i<a.length):(a++b).getD i d=a.getD i d:=by grind
theorem b5X(d:LI)(x:Int)(ch c:Nat):YN (d++[x]) ch c=if d.length%ch=c then YN d ch c++[x]else YN d ch c:=by(unfold YN;rw[lN,B8,D7,I0,pA];have h:((C0 d.length).filter λi=>i%ch==c).map (λi=>(d++[x]).getD i 0)=((C0 d.length).filter λi=>i%ch==c).map λi=>d.getD i 0:=E4 λi g=>b9k (K4.1 (List.mem_filter.1 g).1));grind
theorem a9X(c:Nat):∀ch,(C0 ch).filter (·==c)=if c<ch then[c]else[]|0=>rfl|ch+1=>by rw[D7,I0,a9X c ch];grind
theorem a9Y{ch c:Nat}(h:c<ch):∀n,(C0 (n*ch)).filter (λi=>i%ch==c)=(C0 n).map λi=>i*ch+c|0=>by simp|n+1=>by(rw[Nat.succ_mul,F4,I0,a9Y h n,D7,pA,List.filter_map];congr 1;have e:∀i∈C0 ch,((λi=>i%ch==c)∘λx=>n*ch+x) i=(i==c):=λi g=>by simp_all[E1]);simp_all[List.filter_congr,a9X]
theorem a4J{d:LI}{n ch c:Nat}(g:d.length=n*ch)(h:c<ch):YN d ch c=(C0 n).map λi=>d.getD (i*ch+c) 0:=by simp_all[YN,a9Y]
theorem c8T(f:Nat->Int)(ch:Nat):∀n,(C0 n).flatMap (λi=>(C0 ch).map λc=>f (i*ch+c))=(C0 (n*ch)).map f|0=>by simp|n+1=>by rw[D7,H2,c8T f ch n,Nat.succ_mul,F4,pA,G8];simp[Function.comp_def]
theorem b2E(d:LI):(C0 d.length).map (λi=>d.getD i 0)=d:=G3 (by simp) λi h g=>by simp_all
theorem b2F{α β:Type}{l:List α}{f g:α->List β}(h:∀a∈l,f a=g a):l.flatMap f=l.flatMap g:=by grind[E4]
theorem c1A{d:LI}{n ch:Nat}(h:d.length=n*ch):wv n (Ew d ch)=d:=by(have:wv n (Ew d ch)=(C0 n).flatMap λi=>(C0 ch).map λc=>d.getD (i*ch+c) 0:=b2F λi g=>by grind[Ew,E4,a4J]);grind[c8T,b2E]
def Fz:Nat:=2305843009213693951
def a9Z(h:Nat)(l:List Nat):Nat:=l.foldl (λh c=>(h*1000003+(c+1))%Fz) h
theorem c1B(h:Nat):a9Z h []=h:=rfl
theorem b0a(h c:Nat)(l:List Nat):a9Z h (c::l)=a9Z ((h*1000003+(c+1))%Fz) l:=rfl
theorem b2G(h:Nat)(a b:List Nat):a9Z h (a++b)=a9Z (a9Z h a) b:=F5 ..
theorem b2H{h:Nat}(g:h<Fz)(l:List Nat):a9Z h l<Fz:=by induction l generalizing h with|nil=>exact g|cons c l f=>exact f (C1 _ (by decide))
theorem fT(a b c:Nat):(a%Fz*b+c)%Fz=(a*b+c)%Fz:=by simp_all[Nat.add_mod]
theorem XR(a b:Nat):(a+b%Fz)%Fz=(a+b)%Fz:=by simp
theorem b9l(l:List Nat)(h:Nat):a9Z h l%Fz=(h*1000003^l.length+a9Z 0 l)%Fz:=by induction l generalizing h with|nil=>simp[c1B]|cons c l g=>rw[b0a,b0a,g,fT,<-XR (h*_),g ((0*1000003+(c+1))%Fz),fT,XR,lC,Nat.pow_succ];grind
theorem b9m(a b:List Nat):a9Z 0 (a++b)=(a9Z 0 a*(1000003^b.length%Fz)+a9Z 0 b)%Fz:=by rw[b2G,<-E1 (b2H (b2H (by decide) a) b),b9l,F3 (a9Z 0 a) (_%Fz),fT,F3 (a9Z 0 a)]
def c4R:Nat->Nat->Nat->Nat->Nat|0,_,p,_=>p|k+1,n,p,s=>if n=0 then p else c4R k (n / 2) (if n%2=1 then p*s%Fz else p) (s*s%Fz)
theorem b9n(a b:Nat):a%Fz*b%Fz=a*b%Fz:=fT a b 0
theorem b0b(a n:Nat):(a%Fz)^n%Fz=a^n%Fz:=by rw[<-Nat.pow_mod]
theorem c4n(k n p s:Nat)(h:n<2^k)(hp:p<Fz):c4R k n p s=p*s^n%Fz:=by induction k generalizing n p s with|zero=>simp_all[c4R,E1]|succ k a=>(rw[c4R];by_cases h0:n=0;simp_all[E1];rw[if_neg h0];have g:n / 2<2^k:=by omega);(have f:(s*s)^(n / 2)=s^(2*(n / 2)):=by grind[N3]);by_cases h1:n%2=1;rw[if_pos h1,a _ _ _ g (C1 _ (by decide)),I5,b0b,f,<-I5,b9n,Nat.mul_assoc,<-Nat.pow_succ'];grind;rw[if_neg h1,a _ _ _ g hp,I5,b0b,f,<-I5];grind
theorem b9o{u d f g q r:Nat}(k:u=q*f+r)(h:q*g<=4294967296*r+d):q*(f*4294967296+g)<=u*4294967296+d:=by grind
theorem c1C(u d e y:Nat):((u*4294967296+d)%y*4294967296+e)%y=((u*4294967296+d)*4294967296+e)%y:=by simp_all[Nat.add_mod,I5]
theorem b5Y(n k y:Nat)(h:0<k):n*k%(y*k) / k=n%y:=by simp_all[Nat.mul_mod_mul_right]
abbrev Pc:Type:=Bo×(Bn×List Int)
def Gp:Nat->Nat->List Pc->List (Int×Int×Unit)|_,_,[]=>[]|st,off,x::xs=>((st:Int),(off:Int),())::Gp (st+BI x.2.1) (off+x.2.2.length) xs
def JD(xs:List Pc):Nat:=(xs.map λx=>BI x.2.1).sum
def Du(xs:List Pc):List Int:=xs.flatMap λx=>x.2.2
def a1H(b:Bn):List Int:=wv (BI b) b.2.1
def JB(xs:List Pc):List Int:=xs.flatMap λx=>a1H x.2.1
def b9J(l:List Int):Nat:=a9Z 0 (l.map D0)
def Kg(fm:AA)(xs:List Pc):Nat:=b9J (Gn fm.2.2.1 (JB xs))
theorem b2I(l:LI):b9J l<Fz:=b2H (by decide) _
theorem c1D(a b:LI):b9J (a++b)=(b9J a*(1000003^b.length%Fz)+b9J b)%Fz:=by simp_all[b9J,b9m]
theorem UD(h:List Pc)(x:Pc):JD (h++[x])=JD h+BI x.2.1:=by simp[JD]
theorem XS(h:List Pc)(x:Pc):Du (h++[x])=Du h++x.2.2:=by simp[Du]
theorem bX(h:List Pc)(x:Pc):JB (h++[x])=JB h++a1H x.2.1:=by simp[JB]
theorem b2J{rows:List (List Int)}:∀n,(wv n rows).length=n*rows.length:=λn=>by simp_all[wv,List.map_const']
theorem mK:∀(h:List Pc)(st off:Nat)(x:Pc),Gp st off (h++[x])=Gp st off h++[(((st+JD h:Nat):Int),((off+(Du h).length:Nat):Int),())]|[],st,off,x=>by rfl|y::h,st,off,x=>by simp_all[Gp,mK,JD,Du,I8]
theorem Sv:∀(h:List Pc)(st off:Nat),(Gp st off h).length=h.length|[],_,_=>rfl|_::h,_,_=>cG (·+1) (Sv h _ _)
theorem b0c{d:LI}{n ch c:Nat}(g:d.length=n*ch)(h:c<ch):(YN d ch c).length=n:=by rw[a4J g h];simp
theorem b9p{d:LI}{ch c:Nat}{x:Int}(h:x∈YN d ch c):x∈d:=by unfold YN at h;grind
def OI(w:Int)(d:List Int)(ch:Nat):Bn:=(w,Ew d ch,())
theorem a1I{w:Int}{d:LI}{n ch:Nat}(g:d.length=n*ch)(h:0<ch):BI (OI w d ch)=n:=by obtain⟨k,rfl⟩:∃k,ch=k+1:=⟨ch-1,by omega⟩;show((Ew d (k+1)).headD []).length=n;grind[Ew,List.range_succ_eq_map,b0c]
theorem c1E{w:Int}{d:LI}{n ch:Nat}(f:d.length=n*ch)(h:1<=ch/\ch<=8)(j:1<=n/\n<=4096)(k:4<=w/\w<=24)(a:d.all (λx=>Bq x w)=ka):Hv (OI w d ch):=by
 have b:=a1I (w:=w) f (show 0<ch by omega);have g:(Ew d ch).length=ch:=by simp[Ew]
 refine⟨k.1,k.2,by simp_all[OI],by simp_all[OI],by omega,by omega,?_⟩;rw[b];refine lA.2 λr e=>?_
 obtain⟨c,g,rfl⟩:=F0.1 (show r∈(C0 ch).map (YN d ch)from e);rw[bA,dT];exact⟨b0c f (K4.1 g),lA.2 λx i=>lA.1 a x (b9p i)⟩
theorem c1F{w:Int}{d:LI}{n ch:Nat}(g:d.length=n*ch)(h:0<ch):a1H (OI w d ch)=d:=by unfold a1H;rw[a1I g h];exact c1A g
def XT(k n:Nat):List Int:=(pF k n).reverse
theorem XU(k n:Nat):(XT k n).length=k:=by simp[XT,OD]
theorem b2K(k n:Nat):∀b∈XT k n,0<=b/\b<256:=λb hb=>jL k n b (List.mem_reverse.1 hb)
theorem a1J{n k:Nat}(l:n<18446744073709551616)(j:k<=8):IS ((n:Int),(k:Int))=kc (pF k n):=by(have c:Ly (k:Int)=kc (k:Int):=by grind[Ly,Yq,a6m]);simp[IS,c];have h:=AD (f:=Cz) (λi=>(((n / 256^i:Nat):Int),(k:Int),(i:Int),pF i n,())) k (b:=(pF k n,())) (λi d=>by(have g:zB .u64 (D1 ((n / 256^i:Nat):Int) 256)=((n / 256^(i+1):Nat):Int):=by have e:D1 ((n / 256^i:Nat):Int) 256=((n / 256^i / 256:Nat):Int):=rfl;rw[e,Nat.div_div_eq_div_mul,<-Nat.pow_succ];have:=Nat.div_le_self n (256^(i+1));grind[Av]);(have a:zB .u8 (D9 ((n / 256^i:Nat):Int) 256)=((n / 256^i%256:Nat):Int):=by have e:D9 ((n / 256^i:Nat):Int) 256=((n / 256^i%256:Nat):Int):=rfl;rw[e,IZ];omega);simp only[Cz];rw[Bp d,AN (show(pF i n).length+1<2147483648 by rw[OD];omega),g,Aa (show i<1000000 by omega),a,Xj];rfl) (by simp_all[Cz]);simp only[Nat.pow_zero,Nat.div_one,pF]at h;simp_all
theorem fU{n k:Nat}(g:n<18446744073709551616)(h:k<=8):HA ((n:Int),(k:Int))=kc (XT k n):=by unfold HA Cn;simp only[a1J g h,oB];rw[dE (by rw[OD];omega)];rfl
def d4c(s:BitVec 32):BitVec 32:=bif s.getLsbD 0 then(s >>> 1) ^^^ 0xedb88320#32 else s >>> 1
def c4o:Nat->BitVec 32->BitVec 32|0,s=>s|k+1,s=>c4o k (d4c s)
def b9q(s x:BitVec 32):BitVec 32:=c4o 8 (s ^^^ x)
def c4p(s:BitVec 32)(l:List (BitVec 32)):BitVec 32:=l.foldl b9q s
theorem c4q(s:BitVec 32):A6 32 (s.toNat:Int)=s:=by simp
theorem c8U(s:BitVec 32):zB .u32 (s.toNat:Int)=(s.toNat:Int):=by have:=s.isLt;grind[zB,IntKind.bits,IntKind.signed]
theorem b0d(s t:BitVec 32):bits .u32 .xor (s.toNat:Int) (t.toNat:Int)=((s ^^^ t).toNat:Int):=by show zB .u32 ((A6 32 _ ^^^ A6 32 _).toNat:Int)=_;rw[c4q,c4q,c8U]
theorem c8V(s:BitVec 32):(bits .u32 .and (s.toNat:Int) 1==(1:Int))=s.getLsbD 0:=by(have h:bits .u32 .and (s.toNat:Int) 1=((s &&& 1#32).toNat:Int):=by show zB .u32 ((A6 32 _ &&& A6 32 1).toNat:Int)=_;rw[c4q,show A6 32 1=1#32 from rfl,c8U]);rw[h,J0,show(1#32).toNat=1 from rfl,Nat.and_one_is_mod,K3,Nat.testBit_zero];grind
theorem c8W(s:BitVec 32):Au .u32 (s.toNat:Int) 1=((s >>> 1).toNat:Int):=by unfold Au;rw[show min (D0 1) (IntKind.bits .u32)=1 from rfl,I4 _ (by simp),BitVec.toNat_ushiftRight,Nat.shiftRight_eq_div_pow];rfl
def b3U(s:Int):Int:=bif (bits .u32 .and s 1)==(1:Int)then bits .u32 .xor (Au .u32 s 1) 3988292384 else Au .u32 s 1
theorem c4s(s:BitVec 32):b3U (s.toNat:Int)=((d4c s).toNat:Int):=by unfold b3U d4c;rw[c8V,c8W,show(3988292384:Int)=(((0xedb88320#32).toNat:Nat):Int)from rfl,b0d];grind
theorem a1K:∀(k:Nat)(s:BitVec 32),a3o b3U k (s.toNat:Int)=((c4o k s).toNat:Int)|0,_=>rfl|k+1,s=>by rw[show a3o b3U (k+1) (s.toNat:Int)=a3o b3U k (b3U (s.toNat:Int))from rfl,c4s,a1K k];rfl
def c8X(l:List Int):BitVec 32:=c4p 0xffffffff#32 (l.map (A6 32))
def Wg(l:List Int):Nat:=(~~~ c8X l).toNat
theorem a1L(l:LI):Wg l<4294967296:=(~~~ c8X l).isLt
abbrev b5Z:Type:=AA×(Int×(Int×(List (Int×(Int×Unit))×(List Bo×Unit))))
def Wm(fm:AA)(xs:List Pc):b5Z:=(fm,((JD xs:Nat):Int),((Kg fm xs:Nat):Int),Gp 0 0 xs,xs.map (·.1),())
def a7d(xs:List Pc):List Nat:=xs.flatMap λx=>[x.2.2.length,BI x.2.1]
def Sw(fm:AA)(xs:List Pc):List Nat:=[fm.1.toNat,fm.2.1.toNat,fm.2.2.1.toNat,xs.length]++a7d xs
def b6a:List Int:=[75,78,83,68]
def JC(fm:AA)(xs:List Pc):List Int:=b6a++((Sw fm xs).flatMap Fk++XT 8 (Kg fm xs))
def a1M(fm:AA)(xs:List Pc):List Int:=JC fm xs++(XT 4 (Wg (JC fm xs))++Du xs)
def Wh(l:List Int)(ch st en:Nat):List Int:=(l.take (en*ch)).drop (st*ch)
theorem a4K{l:LI}{ch st en:Nat}(h:en*ch<=l.length):(Wh l ch st en).length=(en-st)*ch:=by simp_all[Wh,Nat.sub_mul]
theorem b6b{l:LI}{ch st en:Nat}(h:st<=en):l.take (st*ch)++Wh l ch st en=l.take (en*ch):=by grind[Wh,C8,List.take_append_drop]
theorem a4L{l:LI}{p:Int->Bool}{ch st en:Nat}(h:l.all p=ka):(Wh l ch st en).all p=ka:=lA.2 λx g=>lA.1 h x (K8 (G5 g))
theorem fV(h:List Pc):(a7d h).length=2*h.length:=by induction h with|nil=>rfl|cons x h g=>grind[a7d]
theorem b9r(h:List Pc)(x:Pc):a7d (h++[x])=a7d h++[x.2.2.length,BI x.2.1]:=by simp[a7d]
theorem RF:∀(l:List Nat),(∀n∈l,n<9223372036854775808)->(l.flatMap Fk).length<=9*l.length|[],_=>by simp|n::l,h=>by have:=(Pk (h n (by simp))).2;(have:=RF l λm g=>h m (by simp[g]));simp only[D3,lN,lC];omega
def bY(y0 d q r:Nat):Prop:=4294967296<=q\/4294967296*r+d<q*y0
instance (y0 d q r:Nat):Decidable (bY y0 d q r):=inferInstanceAs (Decidable (_\/_))
def b0e(u d y1 y0:Nat):Nat:=
 if bY y0 d (u / y1) (u%y1)then
  if 4294967296<=u%y1+y1 then u / y1-1
  else if bY y0 d (u / y1-1) (u%y1+y1)then u / y1-2 else u / y1-1
 else u / y1
theorem c1G{u d g f:Nat}(B:2147483648<=g)(x:f<4294967296)(D:u<g*4294967296+f)(C:d<4294967296):b0e u d g f=(u*4294967296+d) / (g*4294967296+f):=by
 have n:0<g:=by omega
 have e:u=u / g*g+u%g:=(Nat.div_add_mod' u g).symm;have y:=C1 u n;have p:u / g<=4294967297:=by have:u / g<4294967298:=(Nat.div_lt_iff_lt_mul n).2 (by omega);omega
 have G:u*4294967296+d<(u / g+1)*(g*4294967296+f):=by grind
 have over:∀{q r:Nat},u=q*g+r->bY f d q r->u*4294967296+d<q*(g*4294967296+f):=by intro q r i j;rcases j with j|j;have:=C8 (g*4294967296+f) j;omega;grind
 have fits:∀{q r:Nat},u=q*g+r->¬ bY f d q r->q*(g*4294967296+f)<=u*4294967296+d:=λi j=>b9o i (Nat.le_of_not_lt λh=>j (.inr h))
 have l:∀{q r:Nat},u=q*g+r->q<=4294967296->4294967296<=r->q*(g*4294967296+f)<=u*4294967296+d:=by intro q r i p y;refine b9o i ?_;have a:=B9 p (G9 x);omega
 unfold b0e;generalize u / g=q at *;generalize u%g=r at *;have t:∀{m:Nat},m*(g*4294967296+f)<=u*4294967296+d->u*4294967296+d<(m+1)*(g*4294967296+f)->m=(u*4294967296+d) / (g*4294967296+f):=λa b=>(Nat.div_eq_of_lt_le a b).symm
 by_cases c:bY f d q r;rw[if_pos c];have o:=over e c;have E:1<=q:=L6 λz=>by grind
 obtain⟨q,rfl⟩:∃k,q=k+1:=⟨q-1,by omega⟩;rw[Nat.add_sub_cancel];have v:u=q*g+(r+g):=by grind
 by_cases c1:4294967296<=r+g;grind;rw[if_neg c1];by_cases c2:bY f d q (r+g);rw[if_pos c2];have A:=over v c2;have F:1<=q:=L6 λz=>by grind
 obtain⟨q,rfl⟩:∃k,q=k+1:=⟨q-1,by omega⟩;have w:u=q*g+(r+g+g):=by grind
 exact t (m:=q) (l w (by omega) (by omega)) A;grind;grind
theorem c4t(hi lo:Nat):(((hi*8+lo / 2305843009213693952)*4294967296+lo*8%18446744073709551616 / 4294967296)%18446744073709551608*4294967296+lo*8%18446744073709551616%4294967296)%18446744073709551608 / 8= (hi*18446744073709551616+lo)%Fz:=by(have e:((hi*8+lo / 2305843009213693952)*4294967296+lo*8%18446744073709551616 / 4294967296)*4294967296+lo*8%18446744073709551616%4294967296=(hi*18446744073709551616+lo)*8:=by omega);rw[c1C,e];exact b5Y _ 8 Fz (by simp)
theorem b9s{hi lo:Nat}(h:hi<Fz)(g:lo<18446744073709551616):hi*8+lo / 2305843009213693952<4294967295*4294967296+4294967288:=by unfold Fz at h;omega
theorem b6c{a b c:Nat}(h:a<Fz)(hb:b<Fz)(g:c<=Fz):(a*b+c) / 18446744073709551616<Fz:=by have:=B9 (K9 h) (K9 hb);unfold Fz at *;omega
theorem c4u{a b h k g f t:Nat}(j:h=a%4294967296)(l:k=a / 4294967296)(n:g=b%4294967296)(o:f=b / 4294967296)(y:t=k*g+h*g / 4294967296) (v:a<18446744073709551616)(hb:b<18446744073709551616):k*f+t / 4294967296+(t%4294967296+h*f) / 4294967296=a*b / 18446744073709551616/\h*g<18446744073709551616/\t<18446744073709551616/\t%4294967296+h*f<18446744073709551616:=by
 have r:a=k*4294967296+h:=by omega
 have u:b=f*4294967296+g:=by omega
 have e:a*b=k*f*18446744073709551616+(k*g+h*f)*4294967296+h*g:=by grind
 have m:∀{p q:Nat},p<4294967296->q<4294967296->p*q<=4294967295*4294967295:=λw x=>B9 (by omega) (by omega);have c:=m (show h<4294967296 by omega) (show g<4294967296 by omega);have i:=m (show k<4294967296 by omega) (show g<4294967296 by omega);have d:=m (show h<4294967296 by omega) (show f<4294967296 by omega);omega
theorem b9t(n:Nat):zB .u64 (n:Int)=((n%18446744073709551616:Nat):Int):=by rfl
theorem b2L{n k:Nat}(h:k<=64):Au .u64 (n:Int) (k:Int)=((n / 2^k:Nat):Int):=by(have g:min (D0 (k:Int)) (IntKind.bits .u64)=k:=by simp_all[IntKind.bits]);unfold Au;grind
theorem b9u(n:Nat):Au .u64 (n:Int) 32=((n / 4294967296:Nat):Int):=b2L (k:=32) (by omega)
theorem c3o(n:Nat):bits .u64 .and (n:Int) 4294967295=((n%4294967296:Nat):Int):=by(show zB .u64 ((A6 64 (n:Int) &&& A6 64 4294967295).toNat:Int)=_;have g:(A6 64 4294967295).toNat=4294967295:=rfl;have h:(A6 64 (n:Int)).toNat=n%18446744073709551616:=by rfl);rw[J0,h,g,show 4294967295=2^32-1 from rfl,G4,b9t];omega
theorem d4d{a b:Nat}(f:a<2305843009213693952)(hb:b<8):bits .u64 .or ((a*8:Nat):Int) (b:Int)=((a*8+b:Nat):Int):=by
 show zB .u64 ((A6 64 ((a*8:Nat):Int) ||| A6 64 (b:Int)).toNat:Int)=_;have h:(A6 64 ((a*8:Nat):Int)).toNat=2^3*a:=by grind[E5]
 have g:(A6 64 (b:Int)).toNat=b:=by grind
 rw[N5,h,g,<-H3 (i:=3) hb a,b9t];omega
theorem b9v{a b:Nat}(f:a<18446744073709551616)(hb:b<18446744073709551616):Jk ((a:Int),(b:Int))=kc (((a*b / 18446744073709551616:Nat):Int),((a*b%18446744073709551616:Nat):Int)):=by obtain⟨k,c,d,e⟩:=c4u (a:=a) (b:=b) rfl rfl rfl rfl rfl f hb;unfold Jk;simp only[b9u,c3o,<-F2,<-Int.natCast_add,b9t,sj,pJ,Int.natCast_inj];refine⟨?_,trivial⟩;revert k c d e;generalize a%4294967296*(b%4294967296)=p00;generalize a / 4294967296*(b%4294967296)=p10;generalize a%4294967296*(b / 4294967296)=p01;have i:a*b / 18446744073709551616<18446744073709551616:=G6 (Nat.lt_of_le_of_lt (B9 (G9 f) (G9 hb)) (by omega:18446744073709551616*18446744073709551616<18446744073709551616*18446744073709551616+1) |> λh=>by rcases Nat.lt_or_ge (a*b) (18446744073709551616*18446744073709551616)with g|g;omega;have:=Nat.mul_lt_mul_of_lt_of_le f (G9 hb) (by omega);omega);omega
theorem mL{α:Type}(p:Prop)[Decidable p](a b:α):(bif decide p then a else b)=if p then a else b:=by simp
theorem c4v:EZ 2305843009213693951=kc 3:=by rfl
theorem c1H{u d q:Nat}(h:q=b0e u d 4294967295 4294967288)(f:u<4294967295*4294967296+4294967288)(g:d<4294967296):q*18446744073709551608<=u*4294967296+d/\u*4294967296+d<q*18446744073709551608+18446744073709551608/\q<4294967296:=by grind[c1G]
theorem mM{u d u0 q r:Nat}{s:Int}(i:d<4294967296)(hq:q<=4294967297)(j:r<4294967296):CA ((18446744073709551608:Int),s,(4294967295:Int),(4294967288:Int),(u:Int),(d:Int),(u0:Int),(q:Int),(r:Int),()) =if bY 4294967288 d q r then(if 4294967296<=r+4294967295 then kc (.inr ((18446744073709551608:Int),s,(4294967295:Int),(4294967288:Int),(u:Int),(d:Int),(u0:Int),((q-1:Nat):Int),()))else kc (.inl ((18446744073709551608:Int),s,(4294967295:Int),(4294967288:Int),(u:Int),(d:Int),(u0:Int),((q-1:Nat):Int),((r+4294967295:Nat):Int),())))else kc (.inr ((18446744073709551608:Int),s,(4294967295:Int),(4294967288:Int),(u:Int),(d:Int),(u0:Int),(q:Int),())):=by
 have c:zB .u64 ((q:Int)-1)=(((q-1:Nat)):Int)\/q=0:=by rcases L7 q with h|h;exact .inr h;left;rw[Av (by omega)];omega
 have a:zB .u64 ((r:Int)+4294967295)=((r+4294967295:Nat):Int):=by rw[Av (by omega)];omega
 have b:A3 (zB .u64 ((r:Int)+4294967295)>=(4294967296:Int))=A3 (4294967296<=r+4294967295):=by rw[a];exact decide_eq_decide.2 (by omega)
 have g:q≠0->(bif A3 (zB .u64 ((r:Int)+4294967295)>=(4294967296:Int))then(kc (.inr ((18446744073709551608:Int),s,(4294967295:Int),(4294967288:Int),(u:Int),(d:Int),(u0:Int),(zB .u64 ((q:Int)-1)),())):Option (_ ⊕ (Int×Int×Int×Int×Int×Int×Int×Int×Unit)))else kc (.inl ((18446744073709551608:Int),s,(4294967295:Int),(4294967288:Int),(u:Int),(d:Int),(u0:Int),(zB .u64 ((q:Int)-1)),(zB .u64 ((r:Int)+4294967295)),()))) =(if 4294967296<=r+4294967295 then kc (.inr ((18446744073709551608:Int),s,(4294967295:Int),(4294967288:Int),(u:Int),(d:Int),(u0:Int),((q-1:Nat):Int),()))else kc (.inl ((18446744073709551608:Int),s,(4294967295:Int),(4294967288:Int),(u:Int),(d:Int),(u0:Int),((q-1:Nat):Int),((r+4294967295:Nat):Int),()))):=λe=>by rw[b,c.resolve_right e,a];exact mL ..
 by_cases h1:4294967296<=q;have f:A3 ((q:Int)>=(4294967296:Int))=ka:=dE (by omega);rw[if_pos (.inl h1),<-g (by omega)];unfold CA;dsimp only;rw[f,cT,oB];have f:A3 ((q:Int)>=(4294967296:Int))=kb:=dF (by omega);have l:zB .u64 ((q:Int)*4294967288)=((q*4294967288:Nat):Int):=by rw[Av (by omega)];omega
 have m:zB .u64 (zB .u64 ((4294967296:Int)*(r:Int))+(d:Int))=((4294967296*r+d:Nat):Int):=by rw[Av (n:=4294967296*(r:Int)) (by omega),Av (by omega)];omega
 by_cases h2:4294967296*r+d<q*4294967288;have k:A3 (zB .u64 ((q:Int)*4294967288) > zB .u64 (zB .u64 ((4294967296:Int)*(r:Int))+(d:Int)))=ka:=dE (by omega);rw[if_pos (.inr h2),<-g (by omega)];unfold CA;dsimp only;rw[f,cF,k,cT,oB];have k:A3 (zB .u64 ((q:Int)*4294967288) > zB .u64 (zB .u64 ((4294967296:Int)*(r:Int))+(d:Int)))=kb:=dF (by omega);rw[if_neg (by unfold bY;omega)];unfold CA;dsimp only;rw[f,cF,k,cF,oB]
theorem c4w{u d u0:Nat}{s:Int}(a:u<4294967295*4294967296+4294967288)(k:d<4294967296):
  Ah CA ((18446744073709551608:Int),s,(4294967295:Int),(4294967288:Int),(u:Int),(d:Int),(u0:Int),((u / 4294967295:Nat):Int),((u%4294967295:Nat):Int),())=kc ((18446744073709551608:Int),s,(4294967295:Int),(4294967288:Int),(u:Int),(d:Int),(u0:Int),(b0e u d 4294967295 4294967288:Int),()):=by
 have h:u / 4294967295<=4294967297:=by omega
 have g:u%4294967295<4294967295:=C1 _ (by omega);unfold b0e;revert h g;generalize u / 4294967295=q;generalize u%4294967295=r;intro h g;have f:=mM (u0:=u0) (s:=s) (u:=u) k h (M8 g);by_cases c1:bY 4294967288 d q r
 ·rw[if_pos c1]at f|-;by_cases c2:4294967296<=r+4294967295;simp_all[Ad]
  ·rw[if_neg c2]at f|-;rw[Ag f];have b:=mM (u0:=u0) (s:=s) (u:=u) (q:=q-1) (r:=r+4294967295) k (by omega) (by omega);by_cases c3:bY 4294967288 d (q-1) (r+4294967295);all_goals simp_all[Nat.sub_sub,Ad]
 simp_all[Ad]
theorem mN{u d q r:Nat}{s q1:Int}(i:d<4294967296)(hq:q<=4294967297)(j:r<4294967296):CB ((18446744073709551608:Int),s,(4294967295:Int),(4294967288:Int),(d:Int),q1,(r:Int),(u:Int),(q:Int),()) =if bY 4294967288 d q r then(if 4294967296<=r+4294967295 then kc (.inr ((18446744073709551608:Int),s,(d:Int),q1,(u:Int),((q-1:Nat):Int),()))else kc (.inl ((18446744073709551608:Int),s,(4294967295:Int),(4294967288:Int),(d:Int),q1,((r+4294967295:Nat):Int),(u:Int),((q-1:Nat):Int),())))else kc (.inr ((18446744073709551608:Int),s,(d:Int),q1,(u:Int),(q:Int),())):=by
 have c:zB .u64 ((q:Int)-1)=(((q-1:Nat)):Int)\/q=0:=by rcases L7 q with h|h;exact .inr h;left;rw[Av (by omega)];omega
 have a:zB .u64 ((r:Int)+4294967295)=((r+4294967295:Nat):Int):=by rw[Av (by omega)];omega
 have b:A3 (zB .u64 ((r:Int)+4294967295)>=(4294967296:Int))=A3 (4294967296<=r+4294967295):=by rw[a];exact decide_eq_decide.2 (by omega)
 have g:q≠0->(bif A3 (zB .u64 ((r:Int)+4294967295)>=(4294967296:Int))then(kc (.inr ((18446744073709551608:Int),s,(d:Int),q1,(u:Int),(zB .u64 ((q:Int)-1)),())):Option (_ ⊕ (Int×Int×Int×Int×Int×Int×Unit)))else kc (.inl ((18446744073709551608:Int),s,(4294967295:Int),(4294967288:Int),(d:Int),q1,(zB .u64 ((r:Int)+4294967295)),(u:Int),(zB .u64 ((q:Int)-1)),()))) =(if 4294967296<=r+4294967295 then kc (.inr ((18446744073709551608:Int),s,(d:Int),q1,(u:Int),((q-1:Nat):Int),()))else kc (.inl ((18446744073709551608:Int),s,(4294967295:Int),(4294967288:Int),(d:Int),q1,((r+4294967295:Nat):Int),(u:Int),((q-1:Nat):Int),()))):=λe=>by rw[b,c.resolve_right e,a];exact mL ..
 by_cases h1:4294967296<=q;have f:A3 ((q:Int)>=(4294967296:Int))=ka:=dE (by omega);rw[if_pos (.inl h1),<-g (by omega)];unfold CB;dsimp only;rw[f,cT,oB];have f:A3 ((q:Int)>=(4294967296:Int))=kb:=dF (by omega);have l:zB .u64 ((q:Int)*4294967288)=((q*4294967288:Nat):Int):=by rw[Av (by omega)];omega
 have m:zB .u64 (zB .u64 ((4294967296:Int)*(r:Int))+(d:Int))=((4294967296*r+d:Nat):Int):=by rw[Av (n:=4294967296*(r:Int)) (by omega),Av (by omega)];omega
 by_cases h2:4294967296*r+d<q*4294967288;have k:A3 (zB .u64 ((q:Int)*4294967288) > zB .u64 (zB .u64 ((4294967296:Int)*(r:Int))+(d:Int)))=ka:=dE (by omega);rw[if_pos (.inr h2),<-g (by omega)];unfold CB;dsimp only;rw[f,cF,k,cT,oB];have k:A3 (zB .u64 ((q:Int)*4294967288) > zB .u64 (zB .u64 ((4294967296:Int)*(r:Int))+(d:Int)))=kb:=dF (by omega);rw[if_neg (by unfold bY;omega)];unfold CB;dsimp only;rw[f,cF,k,cF,oB]
theorem c4x{u d:Nat}{s q1:Int}(a:u<4294967295*4294967296+4294967288)(k:d<4294967296):
  Ah CB ((18446744073709551608:Int),s,(4294967295:Int),(4294967288:Int),(d:Int),q1,((u%4294967295:Nat):Int),(u:Int),((u / 4294967295:Nat):Int),())=kc ((18446744073709551608:Int),s,(d:Int),q1,(u:Int),(b0e u d 4294967295 4294967288:Int),()):=by
 have h:u / 4294967295<=4294967297:=by omega
 have g:u%4294967295<4294967295:=C1 _ (by omega);unfold b0e;revert h g;generalize u / 4294967295=q;generalize u%4294967295=r;intro h g;have f:=mN (s:=s) (q1:=q1) (u:=u) k h (M8 g);by_cases c1:bY 4294967288 d q r
 ·rw[if_pos c1]at f|-;by_cases c2:4294967296<=r+4294967295;simp_all[Ad]
  ·rw[if_neg c2]at f|-;rw[Ag f];have b:=mN (s:=s) (q1:=q1) (u:=u) (q:=q-1) (r:=r+4294967295) k (by omega) (by omega);by_cases c3:bY 4294967288 d (q-1) (r+4294967295);all_goals simp_all[Nat.sub_sub,Ad]
 simp_all[Ad]
theorem c8Y(n:Int):zB .u64 n=n%18446744073709551616:=by rfl
theorem c1I{u d Q:Nat}(h:Q*18446744073709551608<=u*4294967296+d)(g:u*4294967296+d<Q*18446744073709551608+18446744073709551608):zB .u64 (zB .u64 (zB .u64 ((u:Int)*4294967296)+(d:Int))-zB .u64 ((Q:Int)*18446744073709551608))=(((u*4294967296+d)%18446744073709551608:Nat):Int):=by grind[c8Y]
theorem b3V{u:Nat}(h:u<18446744073709551616):zB .u64 ((u:Int)-zB .u64 (((u / 4294967295:Nat):Int)*4294967295))=((u%4294967295:Nat):Int):=by grind[Av]
theorem d4D(n:Nat):AO .u64 (n:Int) 3=((n*8%18446744073709551616:Nat):Int):=by rfl
theorem b9w(lo:Nat):DY (0,(lo:Int),(2305843009213693951:Int))=kc (zB .u64 (D1 (lo:Int) 2305843009213693951),((lo%2305843009213693951:Nat):Int)):=by rfl
theorem c8Z:zB .u64 3=3:=by rfl
theorem c4y:zB .u64 (64-3)=((61:Nat):Int):=by rfl
theorem c9a:AO .u64 2305843009213693951 3=18446744073709551608:=by rfl
theorem c9b:Au .u64 18446744073709551608 32=4294967295:=by rfl
theorem c9c:bits .u64 .and 18446744073709551608 4294967295=4294967288:=by rfl
theorem c9d:((2305843009213693951:Int)==0)=kb:=by rfl
theorem c9e:A3 ((3:Int)<0)=kb:=by rfl
theorem c9f:A3 (((61:Nat):Int)<0)=kb:=by rfl
theorem c9g:((4294967295:Int)==0)=kb:=by rfl
theorem b9x{u d Q v:Nat}(hv:(u*4294967296+d)%18446744073709551608=v)(h:Q*18446744073709551608<=u*4294967296+d)(g:u*4294967296+d<Q*18446744073709551608+18446744073709551608):zB .u64 (zB .u64 (zB .u64 ((u:Int)*4294967296)+(d:Int))-zB .u64 ((Q:Int)*18446744073709551608))=(v:Int):=by simp_all[c1I]
theorem c3p{u:Nat}(h:u<18446744073709551616):zB .u64 ((u / 4294967295:Nat):Int)=((u / 4294967295:Nat):Int):=Av (by omega)
theorem c1J{hi lo u d e v r:Nat}(hv:(u*4294967296+d)%18446744073709551608=v)(o:(v*4294967296+e)%18446744073709551608=r)(z:hi≠0)(A:hi<2305843009213693951)(p:hi*8+lo / 2305843009213693952=u)(j:lo*8%18446744073709551616 / 4294967296=d)(l:lo*8%18446744073709551616%4294967296=e)(B:lo<18446744073709551616) (h:u<4294967295*4294967296+4294967288)(f:d<4294967296)(a:e<4294967296):∃q:Int,DY ((hi:Int),(lo:Int),(2305843009213693951:Int))=kc (q,((r / 8:Nat):Int)):=by
 have b:((hi:Int)==0)=kb:=by grind
 have c:A3 ((2305843009213693951:Int)<=(hi:Int))=kb:=dF (by omega);have i:hi*8%18446744073709551616=hi*8:=by omega
 have m:bits .u64 .or ((hi*8:Nat):Int) (Au .u64 (lo:Int) ((61:Nat):Int))=(u:Int):=by rw[b2L (k:=61) (by omega),show 2^61=2305843009213693952 from rfl,d4d (by omega) (by omega),p]
 have t:=c4w (u0:=e) (s:=3) h f;have D:=b9x hv (c1H rfl h f).1 (c1H rfl h f).2.1;have g:v<4294967295*4294967296+4294967288:=by grind
 have C:=c4x (s:=3) (q1:=(b0e u d 4294967295 4294967288:Int)) g a;have E:=b9x o (c1H rfl g a).1 (c1H rfl g a).2.1;have w:=b3V (u:=u) (B7 h (by simp));have G:=b3V (u:=v) (B7 g (by simp));have x:zB .u64 ((u / 4294967295:Nat):Int)=((u / 4294967295:Nat):Int):=c3p (B7 h (by simp));have y:zB .u64 ((v / 4294967295:Nat):Int)=((v / 4294967295:Nat):Int):=c3p (B7 g (by simp));have q1:D1 (u:Int) 4294967295=((u / 4294967295:Nat):Int):=rfl;have F:D1 (v:Int) 4294967295=((v / 4294967295:Nat):Int):=rfl;have g8:∀n:Nat,Au .u64 (n:Int) 3=((n / 8:Nat):Int):=λn=>b2L (k:=3) (by omega);unfold DY;dsimp only;rw[c9d,cF,c,cF,b,cF,c4v,oB,c8Z,c9e,cF,cF,c4y,c9f,cF,cF,c9a,c9b,c9g,cF,c9c,d4D hi,i,m,d4D lo,b9u,j,c3o,l,q1,x,w,t,oB];simp_all
theorem c1K{hi lo:Nat}(h:hi<Fz)(g:lo<18446744073709551616):∃q:Int,DY ((hi:Int),(lo:Int),(2305843009213693951:Int))=kc (q,(((hi*18446744073709551616+lo)%Fz:Nat):Int)):=by by_cases h0:hi=0;subst h0;rw[Nat.zero_mul,H0];exact⟨_,b9w lo⟩;rw[<-c4t hi lo];exact c1J rfl rfl h0 h rfl rfl rfl g (b9s h g) (G6 (Nat.lt_of_lt_of_le (C1 _ (by omega)) (by omega))) (C1 _ (by omega))
theorem pP{a b c:Nat}(g:a<Fz)(hb:b<Fz)(f:c<=Fz):JM ((a:Int),(b:Int),(c:Int))=kc (((a*b+c)%Fz:Nat):Int):=by
 have k:=b6c g hb f;unfold Fz at g hb f k;have l:=b9v (a:=a) (b:=b) (by omega) (by omega);have j:Nt (((a*b%18446744073709551616:Nat):Int),(c:Int),(0:Int))=kc ((((a*b%18446744073709551616+c)%18446744073709551616:Nat):Int),(((a*b%18446744073709551616+c) / 18446744073709551616:Nat):Int)):=rfl;obtain⟨hi,h⟩:∃hi,(a*b+c) / 18446744073709551616=hi:=⟨_,rfl⟩;rw[h]at k;have i:zB .u64 (((a*b / 18446744073709551616:Nat):Int)+((a*b%18446744073709551616+c) / 18446744073709551616:Nat))=(hi:Int):=by grind[Av]
 obtain⟨q,d⟩:=c1K (hi:=hi) (lo:=(a*b%18446744073709551616+c)%18446744073709551616) (by unfold Fz;omega) (by omega);have e:hi*18446744073709551616+(a*b%18446744073709551616+c)%18446744073709551616=a*b+c:=by omega
 rw[e]at d;have t:D9 (hi:Int) 2305843009213693951=(hi:Int):=by grind
 simp_all[JM,Nu]
theorem mO(l:LI)(n i:Int):∀(j k:Nat)(s:Int),k+j=8->Ah KW (s,l,n,i,(k:Int),())=kc (a3o b3U j s,l,n,i,())|0,k,s,h=>by(obtain rfl:k=8:=by omega);rfl|j+1,k,s,h=>by(have d:A3 ((k:Int)<8)=ka:=by grind);rw[Ag (s':=(b3U s,l,n,i,((k+1:Nat):Int),())) (by simp only[KW,d,cT,Aa (show k<1000000 by omega),b3U];grind)];exact mO l n i j (k+1) (b3U s) (by omega)
theorem a1N{l:LI}(a:short l):∀(zC g:LI)(s:BitVec 32),g++zC=l->(∀b∈zC,0<=b/\b<256)->Ah Gz (((s.toNat:Nat):Int),l,(l.length:Int),(g.length:Int),())=kc ((((c4p s (zC.map (A6 32))).toNat:Nat):Int),())|[],g,s,c,_=>by(obtain rfl:g=l:=by simp_all);exact Ad (by simp only[Gz,b0u,cF];rfl)|x::zC,g,s,c,hb=>by(have f:g.length<l.length:=by grind);(have d:Aq l (g.length:Int)=kc x:=by grind[Ac]);(have i:=hb x (by simp);have e:bits .u32 .xor ((s.toNat:Nat):Int) (zB .u32 x)=(((s ^^^ A6 32 x).toNat:Nat):Int):=by rw[<-b0d];grind[E5,zB,IntKind.bits]);have k:=mO l (l.length:Int) (g.length:Int) 8 0 (bits .u32 .xor ((s.toNat:Nat):Int) (zB .u32 x)) rfl;rw[e,a1K]at k;rw[Ag (s':=((((b9q s (A6 32 x)).toNat:Nat):Int),l,(l.length:Int),(((g++[x]).length:Nat):Int),())) (by simp only[Gz,Bp f,cT,d,oB,e];erw[k];simp only[oB,Aa (B7 f a)];simp[b9q])];exact a1N a zC (g++[x]) _ (by simp_all) (λb h=>hb b (by grind))
theorem a6S{l:LI}(g:short l)(hb:∀b∈l,0<=b/\b<256):KB l=kc (Wg l:Int):=by have h:=a1N g l [] 0xffffffff#32 rfl hb;rw[B3]at h;unfold KB;erw[h];simp only[oB];rw[show IntKind.max .u32=(((0xffffffff#32).toNat:Nat):Int)from rfl,b0d];rfl
theorem a1O{l:LI}(d:short l):∀(zC g:LI)(h:Nat),g++zC=l->h<Fz->(∀b∈zC,0<=b/\b<256)->Ah LU ((h:Int),l,(l.length:Int),(g.length:Int),())=kc (((a9Z h (zC.map D0):Nat):Int),())|[],g,h,i,_,_=>by(obtain rfl:g=l:=by simp_all);exact Ad (by simp only[LU,b0u,cF];rfl)|x::zC,g,h,i,m,hb=>by(have f:g.length<l.length:=by grind);(have j:Aq l (g.length:Int)=kc x:=by grind[Ac]);(have n:=hb x (by simp);have e:zB .u64 ((zB .u64 x)+(1:Int))=((x.toNat+1:Nat):Int):=by grind[Av]);have k:=pP (a:=h) (b:=1000003) (c:=x.toNat+1) m (by decide) (by unfold Fz;omega);rw[Ag (s':=((((h*1000003+(x.toNat+1))%Fz:Nat):Int),l,(l.length:Int),(((g++[x]).length:Nat):Int),())) (by simp only[LU,Bp f,cT,j,oB,e];erw[k];simp[Aa (B7 f d)])];exact a1O d zC (g++[x]) _ (by simp_all) (C1 _ (by decide)) (λb h=>hb b (by grind))
theorem b9y{l:LI}(g:short l)(hb:∀b∈l,0<=b/\b<256):Kx l=kc (b9J l:Int):=by have h:=a1O g l [] 0 rfl (by decide) hb;unfold Kx;erw[h];rfl
theorem bZ:∀(k n p s:Nat),n<2^k->n<4611686018427387904->p<Fz->s<Fz->Ah LV ((n:Int),(p:Int),(s:Int),())=kc ((c4R k n p s:Int),())|0,n,p,s,j,_,_,_=>by(obtain rfl:n=0:=by omega);rfl|k+1,n,p,s,j,hn2,e,g=>by(by_cases h0:n=0;subst h0;rfl;have d:A3 ((n:Int) > 0)=ka:=by grind);(have a:D9 (n:Int) 2=((n%2:Nat):Int):=rfl;have l:zB .i64 (D1 (n:Int) 2)=((n / 2:Nat):Int):=by rw[show D1 (n:Int) 2=((n / 2:Nat):Int)from rfl,Al (by omega)]);(have f:=pP (c:=0) g g (by simp);have h:=pP (c:=0) e g (by simp);have b:n / 2<2^k:=by omega);simp only[J1,nZ]at f h;have m:=C1 (s*s) (show 0<Fz by decide);rw[c4R,if_neg h0];by_cases h1:n%2=1;rw[if_pos h1,Ag (s':=(((n / 2:Nat):Int),((p*s%Fz:Nat):Int),((s*s%Fz:Nat):Int),())) (by simp only[LV,d,cT,a,h1,show(((1:Nat):Int)==1)=ka from rfl];simp_all)];(exact bZ k _ _ _ b (by omega) (C1 _ (by decide)) m;have i:n%2=0:=by omega);rw[if_neg h1,Ag (s':=(((n / 2:Nat):Int),(p:Int),((s*s%Fz:Nat):Int),())) (by simp only[LV,d,zQ,a,i,show(((0:Nat):Int)==1)=kb from rfl];simp_all)];exact bZ k _ _ _ b (by omega) e m
theorem c1L{a b n:Nat}(f:a<Fz)(hb:b<Fz)(h:n<4611686018427387904):SQ ((a:Int),(b:Int),(n:Int))=kc ((((a*(1000003^n%Fz)+b)%Fz:Nat):Int),ka):=by
 have i:=bZ 62 n 1 1000003 h h (by decide) (by decide);rw[c4n 62 n 1 1000003 h (by decide),Nat.one_mul]at i;have l:=pP (c:=b) f (C1 (1000003^n) (show 0<Fz by decide)) (G9 hb);unfold Fz at f hb;have k:A3 ((a:Int)>=(2305843009213693951:Int))=kb:=by grind
 have d:A3 ((b:Int)>=(2305843009213693951:Int))=kb:=by grind
 have e:A3 ((n:Int)<(0:Int))=kb:=by simp
 have j:DH (n:Int) 0=(n:Int):=by rfl
 have g:QW (n:Int)=kc ((1000003^n%Fz:Nat):Int):=by simp_all[QW]
 simp only[SQ,k,d,e,zQ,g];simp_all
theorem b0f(b:Bn)(N:Int){i:Nat}:∀(zC h:List (List Int)) (out:LI),h++zC=b.2.1->b.2.1.length<=8->(∀r∈zC,i<r.length)->out.length+zC.length<1000000->Ah Ky ((i:Int),N,(i:Int),b.2.1,(b.2.1.length:Int),(h.length:Int),out,b,())=kc (N,(i:Int),out++zC.map (λr=>r.getD i 0),b,())|[],h,out,c,_,_,_=>by simp_all[Ad,Ky]|r::zC,h,out,c,a,k,j=>by(have f:h.length<b.2.1.length:=by grind);(have d:Aq b.2.1 (h.length:Int)=kc r:=by grind[Ac]);(have e:=k r (by simp);have g:Aq r (i:Int)=kc (r.getD i 0):=by simp_all[Ac]);simp at j;rw[Ag (s':=((i:Int),N,(i:Int),b.2.1,(b.2.1.length:Int),(((h++[r]).length:Nat):Int),out++[r.getD i 0],b,())) (by simp only[Ky,Bp f,cT,d,g,oB,AN (show out.length+1<2147483648 by omega),Aa (show h.length<1000000 by omega)];simp)];rw[b0f b N zC (h++[r]) _ (by simp_all) a (λq l=>k q (by grind)) (by grind)];simp
theorem b9z{b:Bn}(hb:Hv b):OS b=kc (a1H b):=by
 obtain⟨g1,g2,g3,g4,g5,g6,g7⟩:=id hb;have hlen:∀r∈b.2.1,r.length=BI b:=λr hr=>by
  simp_all
 have hw:∀i,i<=4096->(wv i b.2.1).length<=32768:=λi hi=>by
  rw[b2J]
  calc i*b.2.1.length<=4096*8:=B9 hi g4
   _=32768:=rfl
 have h:=AD (f:=Kz) (λi=>((BI b:Int),(i:Int),wv i b.2.1,b,())) (BI b) (b:=(wv (BI b) b.2.1,())) (λi hi=>by
  have h0:=b0f b (BI b:Int) (i:=i) b.2.1 [] (wv i b.2.1) rfl g4 (λr hr=>by simp_all) (by grind);rw[B3]at h0;simp only[Kz,Bp hi,cT];grind[Aa,wv,D7]) (by simp_all[Kz])
 unfold OS;simp[KQ,hb,KP];erw[h];rfl
theorem pQ{b:Bn}:(a1H b).length=BI b*b.2.1.length:=b2J _
theorem b3W{b:Bn}(hb:Hv b):(a1H b).all (λx=>Bq x b.1)=ka:=by(obtain⟨g,f,k,a,c,d,e⟩:=hb;refine lA.2 λx h=>?_);unfold a1H wv at h;grind
theorem c1M{b:Bn}(hb:Hv b):QT b=kc (Gn b.1 (a1H b),0):=by
 have hl:(a1H b).length<=1000000:=by
  rw[pQ]
  calc BI b*b.2.1.length<=4096*8:=B9 hb.2.2.2.2.2.1 hb.2.2.2.1
   _<=1000000:=by simp
 unfold QT;simp only[KQ,hb,decide_true,oB,bT,cF,b9z hb,a1F ⟨hb.1,hb.2.1⟩ hl (b3W hb)]
theorem a4M{b:Bn}(hb:Hv b){w:Int}(h:b.1=w)(d:LI):JN (((b9J (Gn w d):Nat):Int),b)=kc (((b9J (Gn w (d++a1H b)):Nat):Int),ka):=by(subst h;have g:=a1E ⟨hb.1,hb.2.1⟩ (a1H b);have f:(a1H b).length<=4096*8:=by rw[pQ];exact B9 hb.2.2.2.2.2.1 hb.2.2.2.1);have k:=c1L (b2I (Gn b.1 d)) (b2I (Gn b.1 (a1H b))) (n:=(Gn b.1 (a1H b)).length) (by omega);unfold JN;simp only[c1M hb,oB,show((0:Int) != 0)=kb from rfl,cF,b9y (show short (Gn b.1 (a1H b))by unfold short;omega) (fS _ _),b2D,c1D];simp_all
theorem b0g(d:LI)(x:Int){ch:Nat}(h:0<ch):(Ew d ch).set (d.length%ch) ((Ew d ch).getD (d.length%ch) []++[x])=Ew (d++[x]) ch:=by(have k:=C1 d.length h;refine G3 (by simp[Ew]) λi g f=>?_);simp[Ew]at g;rw[List.getElem_set];simp_all[Ew,b5X]
theorem c1N{fm:AA}(e:Qj fm){ch:Nat}(k:fm.2.1=(ch:Int)){l:LI}{n:Nat}(r:1<=n/\n<=4096)(m:l.length=n*ch)(a:l.all (λx=>Bq x fm.2.2.1)=ka):QE (l,fm)=kc (OI fm.2.2.1 l ch,0):=by
 have g:1<=ch/\ch<=8:=by have:=e.2.2.1;have:=e.2.2.2.1;omega
 have L:l.length<=4096*8:=by rw[m];exact B9 r.2 g.2
 have u:1<=l.length:=by rw[m];exact Nat.mul_pos r.1 g.1
 have A:4<=fm.2.2.1/\fm.2.2.1<=24:=e.2.2.2.2;have q:((ch:Int)==0)=kb:=by grind
 have h:=AD (f:=LM) (λi=>(l,(l.length:Int),(i:Int),Mw,(fm.2.2.1,Ew (l.take i) ch,()),fm,())) l.length (b:=C7 (Mw,OI fm.2.2.1 l ch,())) (λi j=>by
  have t:D9 (i:Int) (ch:Int)=((i%ch:Nat):Int):=rfl;have z:=C1 i g.1;have o:∀d,(Ew d ch).length=ch:=λd=>by simp[Ew]
  have v:A3 ((0:Int)<=((i%ch:Nat):Int))=ka:=dE (C2 _);have B:Bq l[i] fm.2.2.1=ka:=lA.1 a _ (A9 j);have p:(l.take i).length=i:=by grind
  have y:((Ew (l.take i) ch).getD (i%ch) []).length<=32768:=by grind[Ew,YN]
  have c:=b0g (l.take i) l[i] g.1;rw[p]at c;simp only[LM,Bp j,zQ,Ac j,UA A,B,k,q,t,v,J8,o,Bp z,B6,tN,AN (show((Ew (l.take i) ch).getD (i%ch) []).length+1<2147483648 by omega),beq_self_eq_true,Bool.and_true,Aa (show i<1000000 by omega)];simp_all) (by
  simp only[LM,b0u,cF,E3];rfl)
 have w:Ew ([]:List Int) ch=A8 ch []:=by(refine G3 (by simp[Ew]) λi I K=>?_);simp[Ew,YN]
 have C:((l.length:Int)==0)=kb:=by grind
 have D:D9 (l.length:Int) (ch:Int)=0:=by simp_all
 have E:zB .i64 (D1 (l.length:Int) (ch:Int))=(n:Int):=by rw[show D1 (l.length:Int) (ch:Int)=((l.length / ch:Nat):Int)from rfl,m,I3 _ g.1,Al (by omega)]
 have F:A3 ((n:Int) > 4096)=kb:=by grind
 have G:A3 ((0:Int)<=(ch:Int))=ka:=by simp
 have H:A3 ((ch:Int)<=(ch:Int))=ka:=by simp
 unfold QE;simp only[Kd,e,decide_true,zQ,C,k,q,D,show((0:Int) != 0)=kb from rfl,E,F,G,H,tN,AN (show ch<2147483648 by omega),B6];simp only[N7,w]at h;erw[h];rfl
theorem b0h(a b:Nat):(a%Fz+b)%Fz=(a+b)%Fz:=by simp
theorem c4z(n:Nat):(n%2305843009213693952+n / 2305843009213693952)%Fz=n%Fz:=by grind[Fz]
theorem c1O(a:Nat):(a%1099511627776*1000003%Fz+(a / 1099511627776*1000003*1099511627776%2305843009213693952+a / 1099511627776*1000003 / 2097152)%Fz)%Fz=a*1000003%Fz:=by(rw[b0h,XR];have h:a / 1099511627776*1000003 / 2097152=a / 1099511627776*1000003*1099511627776 / 2305843009213693952:=by omega);rw[h,<-XR,c4z,XR,show a%1099511627776*1000003+a / 1099511627776*1000003*1099511627776=a*1000003 by omega]
theorem b0i{α β:Type}{g:α->Option β}:∀{l:List α}{r:List β},Of g l=kc r->∀b∈r,∃a∈l,g a=kc b|[],r,h,b,hb=>(by cases h;grind)|a::l,r,h,b,hb=>by simp only[Of,A7]at h;obtain⟨c,k,e,d,f⟩:=h;cases f;rcases mC.1 hb with rfl|hb;all_goals simp_all[b0i]
theorem b2M:∀(k:Int)(l:LI){r},a8P k l=kc r->r.length=l.length:=λk l r h=>by grind[a8P]
theorem b0j{s:BN}(v:sO s){n:Int}{r:LI}(h:EF s n=kc r):(r.length:Int)=n:=by unfold EF at h;split at h;rename_i d;obtain⟨w,x,y,z,A,B,C,p,D,i,j,f⟩:=d;unfold a8W at h;split at h;grind;rename_i a;obtain⟨l,g,e⟩:=A7.1 h;rw[b2M _ _ e];unfold uH at g;unfold BO at p f;split at g;simp_all;rename_i b;obtain⟨o,-⟩:=f ⟨a,b⟩;split at g;grind[lK];rename_i q;split at g;grind[MK];rename_i t;split at g;rename_i k;obtain⟨m,c,g⟩:=A7.1 g;rw[eR g,MK c];omega;rename_i u;rw[Zj g];omega;simp_all
theorem b2N{f:Bo}(v:∀s∈f.2.2.2.2.1,sO s){b:Bn}(h:Ht f=kc b):Hv b/\b.1=f.2.2.1.2.2.1/\f.2.1=(BI b:Int):=by
 obtain⟨n,m,-⟩:=Rp h;unfold Ht at h;split at h;obtain⟨k,o,h⟩:=A7.1 h;split at h;rename_i d;obtain⟨g,p,h⟩:=A7.1 h;split at h;rename_i hb;cases h;refine⟨hb,rfl,?_⟩;have i:=YB d.1;have e:∀r∈k,(r.length:Int)=f.2.1:=λr e=>by obtain⟨s,t,u⟩:=b0i o r e;grind[b0j]
 have w:k.headD []∈k:=by have:=d.1.1;cases k with|nil=>simp_all|cons a l=>simp
 obtain⟨q,x⟩:=a4D f.2.2.2.1 i rfl d.2.2.2.2 p;have j:1<=g.length:=hb.2.2.1;have c:g.headD []∈g:=by cases g with|nil=>grind|cons a l=>simp
 have:=(q _ c).1;show f.2.1=((g.headD []).length:Int);simp_all
 simp_all;simp_all;simp_all
theorem mP{a b:Nat}(h:a+b<18446744073709551616):Ud ((a:Int),(b:Int))=kc (((a+b)%Fz:Nat):Int):=by unfold Ud;simp only[];rw[show((a:Int)+(b:Int))=((a+b:Nat):Int)from rfl,Av (by omega)];rfl
theorem b9A(a:Nat):D9 (a:Int) (2305843009213693951:Int)=((a%Fz:Nat):Int):=by rfl
theorem c4A(M:Nat):AO .u64 (M:Int) (40:Int)=((M*1099511627776%18446744073709551616:Nat):Int):=by rfl
theorem b0k{a:Nat}(h:a<Fz):Yo (a:Int)=kc ((a*1000003%Fz:Nat):Int):=by
 have m:a<2305843009213693951:=h;have f:bits .u64 .and (a:Int) (1099511627775:Int)=((a%1099511627776:Nat):Int):=by have:=Ul (y:=a) (k:=40) (by omega) (by omega);rw[show zB .u64 (AO .u64 1 ((40:Nat):Int)-1)=(1099511627775:Int)from by rfl]at this;omega
 have c:Au .u64 (a:Int) (40:Int)=((a / 1099511627776:Nat):Int):=Ef (o:=40) (by omega);have d:zB .u64 (((a%1099511627776:Nat):Int)*(1000003:Int))=((a%1099511627776*1000003:Nat):Int):=by grind[Av]
 have g:zB .u64 (((a / 1099511627776:Nat):Int)*(1000003:Int))=((a / 1099511627776*1000003:Nat):Int):=by grind[Av]
 obtain⟨M,l⟩:∃M:Nat,M=a / 1099511627776*1000003:=⟨_,rfl⟩;have p:M<2097158291456:=by omega
 have g:zB .u64 (((a / 1099511627776:Nat):Int)*(1000003:Int))=(M:Int):=by omega
 have e:AO .u64 (M:Int) (40:Int)=((M*1099511627776%18446744073709551616:Nat):Int):=c4A M;have i:bits .u64 .and ((M*1099511627776%18446744073709551616:Nat):Int) (2305843009213693951:Int)=((M*1099511627776%2305843009213693952:Nat):Int):=by have:=Ul (y:=M*1099511627776%18446744073709551616) (k:=61) (by omega) (by omega);rw[show zB .u64 (AO .u64 1 ((61:Nat):Int)-1)=(2305843009213693951:Int)from by rfl]at this;omega
 have j:Au .u64 (M:Int) (21:Int)=((M / 2097152:Nat):Int):=Ef (o:=21) (by omega);have e8:zB .u64 (((M*1099511627776%2305843009213693952:Nat):Int)+((M / 2097152:Nat):Int))=((M*1099511627776%2305843009213693952+M / 2097152:Nat):Int):=by grind[Av]
 have r:a%1099511627776*1000003%Fz<Fz:=C1 _ (by decide);have t:(M*1099511627776%2305843009213693952+M / 2097152)%Fz<Fz:=C1 _ (by decide);have q:Fz=2305843009213693951:=rfl;have k:=mP (a:=a%1099511627776*1000003%Fz) (b:=(M*1099511627776%2305843009213693952+M / 2097152)%Fz) (by omega);unfold Yo;simp only[f,c,d,g,e,i,j,e8,b9A,k,oB];subst l;exact cG (λn:Nat=>kc (n:Int)) (c1O a)
theorem XV{l:LI}(c:l.length<1000000000):∀(zC g:LI)(h:Nat),g++zC=l->h<Fz->(∀b∈zC,0<=b/\b<256)->Ah Pe (l,(h:Int),(g.length:Int),())=kc (((a9Z h (zC.map D0):Nat):Int),())|[],g,h,d,_,_=>by(obtain rfl:g=l:=by simp_all);exact Ad (by simp only[Pe,b0u,cF];rfl)|x::zC,g,h,d,j,hb=>by(have f:g.length<l.length:=by grind);(have i:Aq l (g.length:Int)=kc x:=by grind[Ac]);(have o:=hb x (by simp);have e:zB .u64 ((zB .u64 x)+(1:Int))=((x.toNat+1:Nat):Int):=by grind[Av]);have m:h*1000003%Fz<Fz:=C1 _ (by decide);have n:Fz=2305843009213693951:=rfl;have k:=mP (a:=h*1000003%Fz) (b:=x.toNat+1) (by omega);rw[b0h]at k;rw[Ag (s':=(l,(((h*1000003+(x.toNat+1))%Fz:Nat):Int),(((g++[x]).length:Nat):Int),())) (by simp only[Pe,Bp f,cT,i,oB,e,b0k j];rw[k];simp[a1G (B7 f c)])];exact XV c zC (g++[x]) _ (by simp_all) (C1 _ (by decide)) (λb h=>hb b (by grind))
theorem a6T{l:LI}(g:l.length<1000000000)(hb:∀b∈l,0<=b/\b<256):Vq l=kc (b9J l:Int):=by have h:=XV g l [] 0 rfl (by decide) hb;unfold Vq;erw[h];rfl
theorem Wi(l:LI)(i:Int):∀(j k:Nat)(s:Int),k+j=8->Ah NO (l,s,i,(k:Int),())=kc (l,a3o b3U j s,i,())|0,k,s,h=>by(obtain rfl:k=8:=by omega);rfl|j+1,k,s,h=>by(have d:A3 ((k:Int)<8)=ka:=by grind);rw[Ag (s':=(l,b3U s,i,((k+1:Nat):Int),())) (by simp only[NO,d,cT,Aa (show k<1000000 by omega),b3U];grind)];exact Wi l i j (k+1) (b3U s) (by omega)
theorem XW{l:LI}(a:short l):∀(zC g:LI)(s:BitVec 32),g++zC=l->(∀b∈zC,0<=b/\b<256)->Ah Jv (l,((s.toNat:Nat):Int),(g.length:Int),())=kc ((((c4p s (zC.map (A6 32))).toNat:Nat):Int),())|[],g,s,c,_=>by(obtain rfl:g=l:=by simp_all);exact Ad (by simp only[Jv,b0u,cF];rfl)|x::zC,g,s,c,hb=>by(have f:g.length<l.length:=by grind);(have d:Aq l (g.length:Int)=kc x:=by grind[Ac]);(have i:=hb x (by simp);have e:bits .u32 .xor ((s.toNat:Nat):Int) (zB .u32 x)=(((s ^^^ A6 32 x).toNat:Nat):Int):=by rw[<-b0d];grind[E5,zB,IntKind.bits]);have k:=Wi l (g.length:Int) 8 0 (bits .u32 .xor ((s.toNat:Nat):Int) (zB .u32 x)) rfl;rw[e,a1K]at k;rw[Ag (s':=(l,(((b9q s (A6 32 x)).toNat:Nat):Int),(((g++[x]).length:Nat):Int),())) (by simp only[Jv,Bp f,cT,d,oB,e];erw[k];simp only[oB,Aa (B7 f a)];simp[b9q])];exact XW a zC (g++[x]) _ (by simp_all) (λb h=>hb b (by grind))
theorem jM{l:LI}(g:short l)(hb:∀b∈l,0<=b/\b<256):NP l=kc (Wg l:Int):=by have h:=XW g l [] 0xffffffff#32 rfl hb;rw[B3]at h;unfold NP;erw[h];simp only[oB];rw[show IntKind.max .u32=(((0xffffffff#32).toNat:Nat):Int)from rfl,b0d];rfl
theorem fW(n:Nat):∀(j:Nat)(out:LI),j<=8->out.length+j<=8->Ah JT ((n:Int),(j:Int)-1,out,())=kc (out++XT j n,())|0,out,_,_=>by rw[Ad (b:=(out,())) rfl];simp[XT,pF]|j+1,out,h,a=>by(have f:zB .u64 (zB .i64 ((8:Int)*(j:Int)))=((8*j:Nat):Int):=by grind[Al,Av]);(have g:A3 (((8*j:Nat):Int)<0)=kb:=by rfl);(have d:A3 ((j:Int)>=0)=ka:=by simp);(have k:zB .u8 (Au .u64 (n:Int) ((8*j:Nat):Int))=((n / 256^j%256:Nat):Int):=by rw[Ef (by omega),IZ,show(256:Nat)=2^8 from rfl,<-N3];rfl);rw[show((j+1:Nat):Int)-1=(j:Int)by omega,Ag (s':=((n:Int),(j:Int)-1,out++[((n / 256^j%256:Nat):Int)],())) (by simp only[JT,d,cT,f,g,cF,AN (show out.length+1<2147483648 by omega),k,Al (n:=(j:Int)-1) (by omega),B4])];rw[fW n j _ (by omega) (by rw[lN,B8];omega)];unfold XT;rw[Xj];simp
theorem a1P{n k:Nat}(g:k=8\/k=4):LD ((n:Int),(k:Int))=kc (XT k n):=by have h:=fW n k [] (by omega) (by grind);unfold LD;rw[show zB .i64 (DH (En (k:Int) 8) 0-1)=(k:Int)-1 from by rcases g with rfl|rfl<;>rfl,h];rfl
theorem mQ(b:Bn):DL b=kc (BI b:Int):=by unfold DL BI;cases hc:b.2.1 with|nil=>rfl|cons r c=>rfl
theorem fX(b:Bn){i:Nat}:∀(zC h:List (List Int)) (out:LI),h++zC=b.2.1->b.2.1.length<=8->(∀r∈zC,i<r.length)->out.length+zC.length<1000000->Ah NJ ((i:Int),(h.length:Int),out,b,())=kc ((i:Int),out++zC.map (λr=>r.getD i 0),b,())|[],h,out,k,_,_,_=>by simp_all[Ad,NJ]|r::zC,h,out,k,c,a,j=>by(have f:h.length<b.2.1.length:=by grind);(have d:Aq b.2.1 (h.length:Int)=kc r:=by grind[Ac]);(have e:=a r (by simp);have g:Aq r (i:Int)=kc (r.getD i 0):=by simp_all[Ac]);simp at j;rw[Ag (s':=((i:Int),(((h++[r]).length:Nat):Int),out++[r.getD i 0],b,())) (by simp only[NJ,Bp f,cT,d,g,oB,AN (show out.length+1<2147483648 by omega),Aa (show h.length<1000000 by omega)];simp)];rw[fX b zC (h++[r]) _ (by simpa using k) c (λq l=>a q (by simp[l])) (by simp only[lN,B8];omega)];simp
theorem a6U{b:Bn}(hb:Hv b):SZ b=kc (a1H b):=by
 obtain⟨g1,g2,g3,g4,g5,g6,g7⟩:=id hb;have hlen:∀r∈b.2.1,r.length=BI b:=λr hr=>by
  simp_all
 have hw:∀i,i<=4096->(wv i b.2.1).length<=32768:=λi hi=>by
  rw[b2J]
  calc i*b.2.1.length<=4096*8:=B9 hi g4
   _=32768:=rfl
 have h:=AD (f:=NK) (λi=>((i:Int),wv i b.2.1,b,())) (BI b) (b:=(wv (BI b) b.2.1,())) (λi hi=>by
  have h0:=fX b (i:=i) b.2.1 [] (wv i b.2.1) rfl g4 (λr hr=>by simp_all) (by grind);rw[B3]at h0;simp only[NK,mQ,zQ,Bp hi];grind[Aa,wv,D7]) (by simp_all[NK,mQ])
 unfold SZ;simp[Mh,hb];erw[h];rfl
theorem VF{α:Type}(a:List α)(x:α)(b:List α):Aq (a++x::b) (a.length:Int)=kc x:=by simp_all[Ac]
theorem a1Q:∀(a b:List Pc)(st off:Nat),Gp st off (a++b)=Gp st off a++Gp (st+JD a) (off+(Du a).length) b|[],b,st,off=>by rfl|y::a,b,st,off=>by simp_all[Gp,a1Q,JD,Du,I8]
theorem a4N{α:Type}(a:List α)(x d:α)(b:List α):(a++x::b).getD a.length d=x:=by rw[lD];simp
theorem a4O{all:List (List Int)}(k:all.length<=256)(g:∀p∈all,p.length<=700800):∀(zC h:List (List Int)) (out:LI),h++zC=all->out.length+700800*zC.length<=190000000->Ah Nx ((all.length:Int),(h.length:Int),out,all,())=kc (out++zC.flatten,())|[],h,out,f,_=>by(obtain rfl:h=all:=by simpa using f);rw[Ad (b:=(out,())) (by simp only[Nx,b0u,cF])];simp|p::zC,h,out,f,d=>by(have a:h.length<all.length:=by rw[<-f];simp);(have e:all.getD h.length []=p:=by rw[<-f];exact a4N h p [] zC);have i:=g p (by rw[<-f];simp);have c:A3 ((0:Int)<=(h.length:Int))=ka:=dE (C2 _);simp only[lC]at d;rw[Ag (s':=((all.length:Int),((h++[p]).length:Int),out++p,all,())) (by simp only[Nx,Bp a,c,B6,cT,tN,e,AN (show out.length+p.length<2147483648 by omega),Aa (show h.length<1000000 by omega)];simp)];rw[a4O k g zC (h++[p]) (out++p) (by simpa using f) (by simp only[lN];omega)];simp
theorem b0l:∀(l:List Nat),(∀n∈l,n<9223372036854775808)->∀b∈l.flatMap Fk,0<=b/\b<256:=λl h b hb=>by obtain⟨n,g,hb⟩:=F9.1 hb;exact a1l 8 n (by rw[show(128:Nat)^(8+1)=9223372036854775808 from by decide];exact h n g) b hb
def a1R(f:Bo):List Int:=((EL f).getD ([],0)).1
def d4E(fm:AA)(st:Nat)(x:Pc):Prop:=x.1.1=(st:Int)/\x.1.2.1=((BI x.2.1:Nat):Int)/\x.1.2.2.1=fm/\Gk x.1=kc (x.2.1,0)/\EL x.1=kc (x.2.2,0)/\(Ds x.1=kc (x.2.1,ka)/\DS x.1=kc (x.2.2,0))/\Hv x.2.1/\x.2.1.1=fm.2.2.1/\BI x.2.1<=4096/\1<=x.2.2.length/\x.2.2.length<=700800
def Ql(fm:AA):Nat->List Pc->Prop|_,[]=>True|st,x::xs=>d4E fm st x/\Ql fm (st+BI x.2.1) xs
theorem XX{fm:AA}:∀{g:List Pc}{st:Nat},Ql fm st g->(Du g).length<=700800*g.length|[],_,_=>by simp[Du]|x::g,st,h=>by have:=XX h.2;have:=h.1.2.2.2.2.2.2.2.2.2.2;simp only[Du,D3,lN,lC]at *;omega
theorem cB{fm:AA}:∀{f:List Pc}{st:Nat},Ql fm st f->∀n∈a7d f,n<1048704|[],_,_,n,g=>by simp[a7d]at g|x::f,st,h,n,g=>by have k:=h.1.2.2.2.2.2.2.2.2;simp only[a7d,D3,mA,mC,D6,or_false]at g;rcases g with(rfl|rfl)|g;omega;omega;exact cB h.2 n g
theorem a1S{fm:AA}:∀{g:List Pc}{st:Nat},Ql fm st g->g.length<=JD g/\JD g<=4096*g.length|[],_,_=>by simp[JD]|x::g,st,h=>by have f:=h.1.2.2.2.2.2.2.1.2.2.2.2.1;have k:=h.1.2.2.2.2.2.2.2.2.1;have:=a1S h.2;simp only[JD,E6,List.sum_cons,lC]at *;omega
theorem Od{fm:AA}(k:Qj fm){f:List Pc}(h:Ql fm 0 f)(j:f.length<=256):∀n∈Sw fm f,n<1048704:=λn g=>by simp only[Sw,mA,mC,D6,or_false]at g;obtain⟨a,b,c,d,e,i⟩:=k;rcases g with(rfl|rfl|rfl|rfl)|g;omega;omega;omega;omega;exact cB h n g
theorem a1T{fm:AA}(f:Qj fm){g:List Pc}(h:Ql fm 0 g)(a:g.length<=256):(JC fm g).length<=6000:=by(have b:=RF (Sw fm g) λn k=>B7 (Od f h a n k) (by decide);have c:(Sw fm g).length=4+2*g.length:=by simp[Sw,fV];omega);simp only[JC,b6a,lN,lC,B3,XU];omega
theorem a4P{fm:AA}{all:List Pc}(f:all.length<=256){t:b5Z}(d:t.1=fm)(c:t.2.2.2.1=Gp 0 0 all):∀(zC h:List Pc),h++zC=all->Ql fm (JD h) zC->(Du h).length<=700800*h.length->JD h<=4096*h.length->Ah Nv (((JD h:Nat):Int),(((Du h).length:Nat):Int),((Kg fm h:Nat):Int),all.map (·.1),((all.map (·.1)).length:Int),(h.length:Int),h.map (·.2.2),h.map (·.2.1),t,()) =kc (.inl (((JD all:Nat):Int),((Kg fm all:Nat):Int),all.map (·.2.2),all.map (·.2.1),t,()))|[],h,g,_,_,_=>by(obtain rfl:h=all:=by simpa using g);exact Ad (by simp only[Nv,C6,b0u,cF])|x::zC,h,g,y,hb,H=>by(obtain⟨⟨e,m,n,o,p,F,q,r,G,j,l⟩,hr2⟩:=y;have a:h.length<(all.map (·.1)).length:=by rw[<-g];simp);(have b:all.length=h.length+(zC.length+1):=by rw[<-g];simp);(have v:Aq (all.map (·.1)) (h.length:Int)=kc x.1:=by have:=VF (h.map (·.1)) x.1 (zC.map (·.1));rw[C6]at this;rw[<-g,pA,E6];exact this);(have k:Aq t.2.2.2.1 (h.length:Int)=kc (((JD h:Nat):Int),(((Du h).length:Nat):Int),()):=by have:=VF (Gp 0 0 h) (((JD h:Nat):Int),(((Du h).length:Nat):Int),()) (Gp (JD h+BI x.2.1) ((Du h).length+x.2.2.length) zC);rw[Sv]at this;rw[c,<-g,a1Q];simp only[Gp,H0];exact this);(have u:gE (.pair (.int .i64) (.pair (.int .i64) (.pair (.int .i64) .unit))) x.1.2.2.1 t.1=ka:=by rw[n,d];exact a1s fm);(have z:=a4M q (w:=fm.2.2.1) r (JB h);have B:(x.1.1 != ((JD h:Nat):Int))=kb:=by rw[e];simp);(have C:∀i:Int,(i != i)=kb:=λi=>by simp);(have A:((0:Int) != 0)=kb:=rfl;have D:zB .i64 (((JD h:Nat):Int)+((BI x.2.1:Nat):Int))=((JD (h++[x]):Nat):Int):=by rw[UD,Al (by omega)];omega);(have E:zB .i64 ((((Du h).length:Nat):Int)+((x.2.2.length:Nat):Int))=(((Du (h++[x])).length:Nat):Int):=by rw[XS,lN,Al (by omega)];omega);rw[Ag (s':=(((JD (h++[x]):Nat):Int),(((Du (h++[x])).length:Nat):Int),((Kg fm (h++[x]):Nat):Int),all.map (·.1),((all.map (·.1)).length:Int),(((h++[x]).length:Nat):Int),(h++[x]).map (·.2.2),(h++[x]).map (·.2.1),t,())) (by simp only[Nv,Bp a,cT,v,oB];rw[u];simp only[bT,cF,oB,B,k,C,o,A,p];erw[z];simp only[oB,bT,cF,C6,AN (show h.length+1<2147483648 by omega),cT,m,D,E,Aa (show h.length<1000000 by omega)];simp[Kg,bX])];exact a4P f d c zC (h++[x]) (by simpa using g) (by rw[UD];exact hr2) (by rw[XS];simp only[lN,B8];omega) (by rw[UD];simp only[lN,B8];omega)
theorem c1P{fm:AA}(c:Qj fm){g:List Pc}(d:Ql fm 0 g)(f:g.length<=256):SR (Wm fm g)=kc (g.map (·.2.2),g.map (·.2.1),ka):=by
 have h:=a4P f (t:=Wm fm g) rfl rfl g [] rfl d (by simp[Du]) (by simp[JD]);have b:DB (Wm fm g).1=kc ka:=by rw[Kd,dE (show Qj (Wm fm g).1 from c)]
 have k:A3 (((E2 (Wm fm g).2.2.2.2.1:Nat):Int) > (4096:Int))=kb:=by simp[Wm];omega
 have a:(((E2 (Wm fm g).2.2.2.1:Nat):Int) != ((E2 (Wm fm g).2.2.2.2.1:Nat):Int))=kb:=by simp[Wm,Sv]
 unfold SR;simp only[b,oB,bT,cF,k,a];erw[h];simp only[oB,Wm,bN,cF]
theorem a1U{fm:AA}{all:List Pc}(f:all.length<=256)(t:b5Z)(A:List Nat)(j:A.length=4):∀(zC h:List Pc)(st:Nat),h++zC=all->Ql fm st zC->Ah Nw (all.map (·.1),((all.map (·.1)).length:Int),(h.length:Int),all.map (·.2.2),Tk (A++a7d h),t,())=kc (all.map (·.2.2),Tk (A++a7d all),t,())|[],h,st,g,_=>by(obtain rfl:h=all:=by simpa using g);exact Ad (by simp only[Nw,C6,b0u,cF])|x::zC,h,st,g,o=>by(obtain⟨⟨r,i,u,v,w,y,z,B,C,d,e⟩,hr2⟩:=o;have b:h.length<(all.map (·.1)).length:=by rw[<-g];simp);(have k:h.length<(all.map (·.2.2)).length:=by rw[<-g];simp);(have m:Aq (all.map (·.1)) (h.length:Int)=kc x.1:=by have:=VF (h.map (·.1)) x.1 (zC.map (·.1));rw[C6]at this;rw[<-g,pA,E6];exact this);(have n:(all.map (·.2.2)).getD h.length []=x.2.2:=by have:=a4N (h.map (·.2.2)) x.2.2 [] (zC.map (·.2.2));rw[C6]at this;rw[<-g,pA,E6];exact this);(have c:A3 ((0:Int)<=(h.length:Int))=ka:=dE (C2 _);have l:h.length<all.length:=by rw[<-g];simp);(have a:(Tk (A++a7d h)).length+2<2147483648:=by simp only[Tk,C6,lN,fV];omega);have p:zB .u64 ((x.2.2.length:Nat):Int)=((x.2.2.length:Nat):Int):=Av (by omega);have q:zB .u64 ((BI x.2.1:Nat):Int)=((BI x.2.1:Nat):Int):=Av (by omega);rw[Ag (s':=(all.map (·.1),((all.map (·.1)).length:Int),(((h++[x]).length:Nat):Int),all.map (·.2.2),Tk (A++a7d (h++[x])),t,())) (by simp only[Nw,Bp b,Bp k,c,B6,cT,m,oB,AN a,tN,n,p,i,q,Aa (show h.length<1000000 by omega)];simp[b9r,Tk])];exact a1U f t A j zC (h++[x]) _ (by simpa using g) hr2
theorem mR{fm:AA}:∀{f:List Pc}{st:Nat},Ql fm st f->∀p∈f.map (·.2.2),p.length<=700800|[],_,_,p,g=>by simp at g|x::f,st,h,p,g=>by rcases mC.1 g with rfl|g;exact h.1.2.2.2.2.2.2.2.2.2.2;exact mR h.2 p g
theorem fY{fm:AA}(f:Qj fm){g:List Pc}(h:Ql fm 0 g)(a:g.length<=256):∀b∈JC fm g,0<=b/\b<256:=λb hb=>by unfold JC at hb;rcases mA.1 hb with hb|hb;simp only[b6a,mC,D6,or_false]at hb;omega;rcases mA.1 hb with hb|hb;exact b0l _ (λn k=>B7 (Od f h a n k) (by decide)) b hb;exact b2K _ _ b hb
theorem b2O{fm:AA}(a:Qj fm){h:List Pc}(f:Ql fm 0 h)(g:h.length<=256):SS (Wm fm h)=kc (a1M fm h,0):=by
 obtain⟨w,x,y,z,A,B⟩:=id a;have d:=a1U g (Wm fm h) [fm.1.toNat,fm.2.1.toNat,fm.2.2.1.toNat,h.length] rfl h [] 0 rfl f;have o:=fM (ns:=Sw fm h) (λn m=>B7 (Od a f g n m) (by decide)) (by simp only[Sw,lN,fV,lC,B3];omega);have E:=RF (Sw fm h) λn j=>B7 (Od a f g n j) (by decide);have D:(Sw fm h).length<=516:=by simp only[Sw,lN,fV,lC,B3];omega
 have C:=a1T a f g;have i:=fU (n:=Kg fm h) (k:=8) (by have:=b2I (Gn fm.2.2.1 (JB h));unfold Fz at this;unfold Kg;omega) (by omega);have e:=fU (n:=Wg (JC fm h)) (k:=4) (by have:=a1L (JC fm h);omega) (by omega);have p:=a6S (l:=JC fm h) (by unfold short;omega) (fY a f g);have hb:=a4O (all:=h.map (·.2.2)) (by simpa using g) (mR f) (h.map (·.2.2)) [] (JC fm h++XT 4 (Wg (JC fm h))) rfl (by simp only[lN,C6,XU];omega);have q:zB .u64 fm.1=((fm.1.toNat:Nat):Int):=by rw[Av (by omega)];omega
 have r:zB .u64 fm.2.1=((fm.2.1.toNat:Nat):Int):=by rw[Av (by omega)];omega
 have t:zB .u64 fm.2.2.1=((fm.2.2.1.toNat:Nat):Int):=by rw[Av (by omega)];omega
 have u:zB .u64 ((E2 (h.map (·.1)):Nat):Int)=((h.length:Nat):Int):=by rw[C6,Av (by omega)]
 have v:zB .u64 ((Wg (JC fm h):Nat):Int)=((Wg (JC fm h):Nat):Int):=Av (by have:=a1L (JC fm h);omega);unfold SS;rw[c1P a f g];simp only[oB,bT,cF,Wm,q,r,t,u];erw[d];simp only[oB];erw[o];simp only[oB,AN (show 4+((Sw fm h).flatMap Fk).length<2147483648 by omega),cT];erw[i];have c:N4 (N4 ([(75:Int),(78:Int),(83:Int),(68:Int)]:List Int) ((Sw fm h).flatMap Fk)) (XT 8 (Kg fm h))=JC fm h:=aA ..;have b:(N4 ([(75:Int),(78:Int),(83:Int),(68:Int)]:List Int) ((Sw fm h).flatMap Fk)).length+(XT 8 (Kg fm h)).length<2147483648:=by have:=cG E2 c;simp only[B4,lN]at this|-;omega
 simp only[oB,AN b,cT,c,p,v];erw[e];simp only[oB,AN (show(JC fm h).length+(XT 4 (Wg (JC fm h))).length<2147483648 by rw[XU];omega),cT];erw[hb];simp only[oB,a1M,Du,List.flatMap_def,aA]
theorem mS{f:Bo}(g:∀s∈f.2.2.2.2.1,sO s){b:Bn}(h:Ht f=kc b):Gk f=kc (b,0)/\EL f=kc (a1R f,0)/\(Ds f=kc (b,ka)/\DS f=kc (a1R f,0))/\1<=(a1R f).length/\(a1R f).length<=700800:=by
 have i:=a9N g;have j:=fR g;rw[h]at i j;obtain⟨c,y,q⟩:=Rp h;have m:f.2.2.2.2.1.length<=8:=by have:=c.1.2.2.2.1;omega
 have n:MG f=kc ka:=by rw[b9a g,h];rfl
 obtain⟨t,v,w,o,x,a⟩:=fO n c m (λs l=>⟨g s l,q s l⟩);obtain⟨p,e,d,r⟩:=a3p g;have k:a1R f=a6L f (BH t):=by unfold a1R;rw[a];rfl
 rw[a]at d;simp only[sj,pJ]at d;obtain⟨rfl,rfl⟩:=d;have u:=a1q c o;refine⟨i,by rw[k];exact a,⟨j,by rw[k];exact r⟩,?_,?_⟩;rw[k];simp only[a6L,lN,lC];omega;rw[k];simp only[a6L,lN,lC,B3];omega
def b9B(fm:AA):Nat->List Bo->Option (List Pc)|_,[]=>kc []|st,f::fs=>if f.2.2.1=fm/\f.1=(st:Int)then(Ht f).bind λb=>(b9B fm (st+BI b) fs).bind λxs=>kc ((f,b,a1R f)::xs)else kd
theorem b0m{fm:AA}:∀{fs:List Bo}{st:Nat}{a:List Pc},(∀f∈fs,∀s∈f.2.2.2.2.1,sO s)->b9B fm st fs=kc a->Ql fm st a/\a.map (·.1)=fs|[],st,a,_,h=>(by cases h;exact⟨trivial,rfl⟩)|f::fs,st,a,d,h=>by unfold b9B at h;split at h;rename_i c;obtain⟨b,hb,h⟩:=A7.1 h;obtain⟨t,j,h⟩:=A7.1 h;cases h;have k:=d f (by simp);obtain⟨l,m,n,o,p⟩:=mS k hb;obtain⟨b1,b2,e⟩:=b2N k hb;obtain⟨q,r⟩:=b0m (λg i=>d g (by simp[i])) j;exact⟨⟨⟨c.2,e,c.1,l,m,n,b1,by rw[b2,<-c.1],b1.2.2.2.2.2.1,o,p⟩,q⟩,by simp[r]⟩;cases h
theorem fZ(x y:AA):gE (.pair (.int .i64) (.pair (.int .i64) (.pair (.int .i64) .unit))) x y=A3 (x=y):=by(obtain⟨a,b,c,u⟩:=x;obtain⟨h,g,f,k⟩:=y;show((a==h)&&((b==g)&&((c==f)&&ka)))=_;rw[N6]);simp
abbrev c3q:Type:=Int×(Int×Unit)
theorem a6V(x y:c3q):gE (.pair (.int .i64) (.pair (.int .i64) .unit)) x y=A3 (x=y):=by(obtain⟨a,b,u⟩:=x;obtain⟨h,g,f⟩:=y;show((a==h)&&((b==g)&&ka))=_;rw[N6]);simp
set_option maxRecDepth 100000 in
theorem c1Q:Xe ()=kc ka:=by kernel_rfl
def zT:b5Z:=((0,0,0,()),0,0,[],[],())
theorem a4Q{fm:AA}:∀{ys:List Pc}{st:Nat}{x:Pc},Ql fm st (ys++[x])->d4E fm (st+JD ys) x|[],st,x,h=>by simpa[JD]using h.1|y::ys,st,x,h=>by have:=a4Q h.2;simpa[JD,I8]using this
theorem b6d{fm:AA}{g:List Pc}(k:Ql fm 0 g)(c:g.length<=200):Ym (g.map (·.1))=kc (JD g:Int):=by
 have f:=a1S k;rcases E7 g with rfl|⟨h,x,rfl⟩;rfl;rw[K0]at k c f|-;have a:=a4Q k;have d:((((h++[x]).map (·.1)).length:Int)==0)=kb:=by grind
 have e:((h++[x]).map (·.1)).length=h.length+1:=by simp
 have b:Aq ((h++[x]).map (·.1)) (h.length:Int)=kc x.1:=by grind[VF]
 unfold Ym;rw[d,cF,show zB .i64 ((((h++[x]).map (·.1)).length:Int)-1)=(h.length:Int)from by grind[Al],b];simp only[oB];rw[a.1,a.2.1,UD]at *;grind[Al]
theorem XY{fm:AA}(e g:Int){fs:List Bo}(l:fs.length<=200):∀(zC:List Pc)(h:List Bo)(st off:Nat)(S:List c3q),h++zC.map (·.1)=fs->Ql fm st zC->S.length=h.length->st<=4096*h.length->off<=700800*h.length->Ah NM (fs,(st:Int),(off:Int),(h.length:Int),zT,(fm,e,g,S,fs,()),fm,())=kc (.inl (fs,zT,(fm,e,g,S++Gp st off zC,fs,()),fm,()))|[],h,st,off,S,b,k,c,hst,hoff=>by simp_all[Ad,NM,Gp]|x::zC,h,st,off,S,b,k,c,hst,hoff=>by(have f:h.length<fs.length:=by grind);(have i:Aq fs (h.length:Int)=kc x.1:=by grind[VF]);(obtain⟨k1,k2,k3,-,-,⟨-,j⟩,k8,-,-,-,k11⟩:=k.1;have d:=k8.2.2.2.2.2.1;have a:fs.length=h.length+(zC.length+1):=by grind);(have m:zB .i64 ((st:Int)+((BI x.2.1:Nat):Int))=((st+BI x.2.1:Nat):Int):=by grind[Al]);(have n:zB .i64 ((off:Int)+((x.2.2.length:Nat):Int))=((off+x.2.2.length:Nat):Int):=by grind[Al]);rw[Ag (s':=(fs,((st+BI x.2.1:Nat):Int),((off+x.2.2.length:Nat):Int),(((h++[x.1]).length:Nat):Int),zT,(fm,e,g,S++[((st:Int),(off:Int),())],fs,()),fm,())) (by simp only[NM,Bp f,cT,i,oB,j,bN,cF,fZ,dE k3,bT,k1,AN (show S.length+1<2147483648 by omega),k2,m,n,Aa (show h.length<1000000 by omega)];simp)];rw[XY (fm:=fm) e g l zC (h++[x.1]) (st+BI x.2.1) (off+x.2.2.length) (S++[((st:Int),(off:Int),())]) (by simp_all) k.2 (by grind) (by grind) (by grind)];simp[Gp]
theorem a4R{fm:AA}:∀{g:List Pc}{st:Nat},Ql fm st g->(JB g).length<=32768*g.length|[],_,_=>by simp[JB]|x::g,st,h=>by(have f:=a4R h.2;have hb:=h.1.2.2.2.2.2.2.1;have k:(a1H x.2.1).length<=4096*8:=by rw[pQ];exact B9 hb.2.2.2.2.2.1 hb.2.2.2.1);simp only[JB,D3,lN,lC]at *;omega
theorem a4S{fm:AA}:∀{g:List Pc}{st:Nat},Ql fm st g->(JB g).all (λx=>Bq x fm.2.2.1)=true|[],_,_=>rfl|x::g,st,h=>by have k:=a4S h.2;have f:=b3W h.1.2.2.2.2.2.2.1;rw[h.1.2.2.2.2.2.2.2.1]at f;show((a1H x.2.1++JB g).all _)=ka;rw[J6,k,f];rfl
theorem XZ{fm:AA}{fs:List Bo}(c:fs.length<=200):∀(zC:List Pc)(h:List Bo)(st:Nat)(out:LI),h++zC.map (·.1)=fs->Ql fm st zC->out.length<=32768*h.length->Ah NL (fs,(h.length:Int),out,())=kc (.inl (out++JB zC,()))|[],h,st,out,k,_,_=>by simp_all[Ad,NL,JB]|x::zC,h,st,out,k,f,e=>by(have g:h.length<fs.length:=by grind);(have a:Aq fs (h.length:Int)=kc x.1:=by grind[VF]);(have hb:=f.1.2.2.2.2.2.2.1;have b:=f.1.2.2.2.2.2.1.1;have d:(a1H x.2.1).length<=4096*8:=by rw[pQ];exact B9 hb.2.2.2.2.2.1 hb.2.2.2.1);rw[Ag (s':=(fs,(((h++[x.1]).length:Nat):Int),out++a1H x.2.1,())) (by simp only[NL,Bp g,cT,a,oB,b,bT,cF,a6U hb,AN (show out.length+(a1H x.2.1).length<2147483648 by omega),Aa (show h.length<1000000 by omega)];simp)];rw[XZ c zC (h++[x.1]) _ (out++a1H x.2.1) (by simp_all) f.2 (by grind)];simp[JB]
theorem a6W{fm:AA}{g:List Pc}{st:Nat}(h:Ql fm st g)(f:g.length<=200):Ta (g.map (·.1))=kc (JB g,ka):=by have:=XZ (fs:=g.map (·.1)) (by simp_all) g [] st [] rfl h (by simp);simp_all[Ta]
theorem mT{fm:AA}(k:Qj fm){g:List Pc}(f:Ql fm 0 g)(a:g.length<=200):PF (fm,g.map (·.1))=kc (Wm fm g,ka):=by(have i:=a4R f;have b:4<=fm.2.2.1/\fm.2.2.1<=24:=⟨k.2.2.2.2.1,k.2.2.2.2.2⟩;have e:=a1E b (JB g);have c:A3 (((E2 (g.map (·.1)):Nat):Int) > (4096:Int))=kb:=by grind);(have h:=XY (fm:=fm) ((JD g:Nat):Int) 0 (fs:=g.map (·.1)) (by simp_all) g [] 0 0 [] rfl f rfl (by simp) (by simp);simp at h;have d:Pf (JB g,fm.2.2.1)=kc ((Kg fm g:Nat):Int):=by unfold Pf;simp only[a9W b (show(JB g).length<=30000000 by omega) (a4S f),oB,a6T (show(Gn fm.2.2.1 (JB g)).length<1000000000 by omega) (fS _ _)];rfl);unfold PF;simp only[Oc,k,decide_true,oB,bT,cF,c,b6d f a];erw[h];simp only[oB,a6W f a,d];rfl
def c4B(f:Bo):Prop:=(∀s∈f.2.2.2.2.1,sO s)/\f.2.2.2.2.1.length<=10/\f.2.2.2.1.length<=20
theorem b6e{fm:AA}(n:Qj fm){h:List Pc}(p:Ql fm 0 h)(o:h.length<=200)(c:∀f∈h.map (·.1),c4B f):NN (Wm fm h)=kc ka:=by
 have d:(Gp 0 0 h).length<=200:=by simp_all[Sv]
 have q:=AD (f:=Ia) (λi=>((i:Int),Wm fm h,Wm fm h,())) (Gp 0 0 h).length (b:=C7 (Wm fm h,Wm fm h,())) (λi k=>by
   have g:i<(Wm fm h).2.2.2.1.length:=k;simp only[Ia,Bp g,cT,Ac g,oB,a6V,decide_true,bT,cF,Aa (show i<1000000 by omega)])
  (by
   have e:(Gp 0 0 h).length=(Wm fm h).2.2.2.1.length:=rfl;simp_all[Ia])
 have r:=AD (f:=Ib) (λi=>((i:Int),Wm fm h,Wm fm h,())) (h.map (·.1)).length (b:=C7 ()) (λi k=>by
   have g:i<(Wm fm h).2.2.2.2.1.length:=k;obtain⟨j,t,u⟩:=c _ (A9 k);have a:ID ((Wm fm h).2.2.2.2.1[i],(Wm fm h).2.2.2.2.1[i])=kc ka:=a1u (f:=(h.map (·.1))[i]) j (by omega) (by omega)
   have:(h.map (·.1)).length=h.length:=C6 ..
   simp only[Ib,Bp g,cT,Ac g,oB,a,bT,cF,Aa (show i<1000000 by omega)])
  (by
   have e:(h.map (·.1)).length=(Wm fm h).2.2.2.2.1.length:=rfl;simp_all[Ib])
 unfold NN Qa;have l:(Wm fm h).1=fm:=rfl;have m:(Wm fm h).2.2.2.2.1=h.map (·.1):=rfl;simp_all[mT,fZ]
theorem Zz{fm:AA}{all:List Pc}(o:all.length<=200){t:b5Z}(l:t.2.2.2.2.1=all.map (·.1)):∀(zC g:List Pc)(st:Nat)(out h:LI),g++zC=all->Ql fm st zC->out.length<=100+18*g.length->h.length<=700800*g.length->Ah Jw ((g.length:Int),out,h,t,())=kc (out++(a7d zC).flatMap Fk,h++Du zC,t,())|[],g,st,out,h,d,_,_,_=>by simp_all[Ad,Jw,a7d,Du]|x::zC,g,st,out,h,d,b,q,hb=>by(have f:g.length<t.2.2.2.2.1.length:=by grind);(have a:all.length=g.length+(zC.length+1):=by grind);(have i:Aq t.2.2.2.2.1 (g.length:Int)=kc x.1:=by grind[VF]);(obtain⟨h1,h2,h3,h4,h5,⟨p,c⟩,h8,h9,h10,h11,h12⟩:=b.1;have e:([zB .u64 ((x.2.2.length:Nat):Int),zB .u64 x.1.2.1]:List Int)=Tk [x.2.2.length,BI x.2.1]:=by rw[h2,Av (by omega),Av (by omega)];rfl);have k:=IJ (ns:=[x.2.2.length,BI x.2.1]) (λn j=>by grind) (by simp);have m:=RF [x.2.2.length,BI x.2.1] (λn j=>by grind);simp only[lC,B3]at m;rw[Ag (s':=((((g++[x]).length:Nat):Int),out++[x.2.2.length,BI x.2.1].flatMap Fk,h++x.2.2,t,())) (by simp only[Jw,Bp f,cT,i,oB,c,e,k,AN (show out.length+([x.2.2.length,BI x.2.1].flatMap Fk).length<2147483648 by omega),AN (show h.length+x.2.2.length<2147483648 by omega),Aa (show g.length<1000000 by omega)];simp)];rw[Zz o l zC (g++[x]) _ _ _ (by simp_all) b.2 (by grind) (by grind)];simp[a7d,Du]
theorem b6f{fm:AA}(b:Qj fm){h:List Pc}(a:Ql fm 0 h)(c:h.length<=200)(p:∀f∈h.map (·.1),c4B f):NQ (Wm fm h)=kc (a1M fm h,0):=by(have v:=Od b a (by omega);obtain⟨x,y,z,A,B,C⟩:=id b;have o:([zB .u64 fm.1,zB .u64 fm.2.1,zB .u64 fm.2.2.1,zB .u64 ((E2 (h.map (·.1)):Nat):Int)]:List Int)=Tk [fm.1.toNat,fm.2.1.toNat,fm.2.2.1.toNat,h.length]:=by grind[Av,Tk]);(have u:=IJ (ns:=[fm.1.toNat,fm.2.1.toNat,fm.2.2.1.toNat,h.length]) (λn c=>by grind) (by simp);have w:=RF [fm.1.toNat,fm.2.1.toNat,fm.2.2.1.toNat,h.length] (λn c=>by grind);simp only[lC,B3]at w;have e:=Zz (fm:=fm) (all:=h) (by omega) (t:=Wm fm h) rfl h [] 0 (b6a++[fm.1.toNat,fm.2.1.toNat,fm.2.2.1.toNat,h.length].flatMap Fk) [] rfl a (by grind[b6a]) (by simp);simp only[B3,nZ,C4]at e;have d:=RF (a7d h) (λn c=>B7 (cB a n c) (by simp));rw[fV]at d;have g:(b6a++[fm.1.toNat,fm.2.1.toNat,fm.2.2.1.toNat,h.length].flatMap Fk++(a7d h).flatMap Fk)++XT 8 (Kg fm h)=JC fm h:=by simp_all[JC,Sw]);have r:=a1T b a (by omega);have hb:=fY b a (by omega);have q:=XX a;unfold NQ;rw[b6e b a c p];have j:(Wm fm h).1=fm:=rfl;have l:(Wm fm h).2.2.2.2.1=h.map (·.1):=rfl;have m:(Wm fm h).2.2.1=((Kg fm h:Nat):Int):=rfl;rw[j,l];simp only[oB,bT,cF,o,u,AN (show 4+([fm.1.toNat,fm.2.1.toNat,fm.2.2.1.toNat,h.length].flatMap Fk).length<2147483648 by omega),cT];erw[e];simp only[oB];rw[m,show LD (((Kg fm h:Nat):Int),8)=kc (XT 8 (Kg fm h))from a1P (k:=8) (by omega)];simp only[oB,B4,g];rw[AN (by grind),cT,jM (show short (JC fm h)by unfold short;omega) hb];simp only[oB];have i:=a1L (JC fm h);rw[Av (n:=((Wg (JC fm h):Nat):Int)) (by omega),show LD (((Wg (JC fm h):Nat):Int),4)=kc (XT 4 (Wg (JC fm h)))from a1P (k:=4) (by omega)];simp only[oB];rw[AN (by rw[XU];omega),cT,AN (by grind[XU]),cT];simp_all[a1M]
theorem a1V{n N:Nat}(e:n<=5000){l:List AA}(p:l.length<=16)(o:l.all (Dy (N:Int))=ka):∀(k i:Nat)(c:List (List Int)),i+k=l.length->Eg c n->c.length=N->Ah Iu (l,(i:Int),c,())=kc (match YC (l.drop i) c with|some r=>C7 (r,())|none=>C9 ([],6,()))|0,i,c,h,_,_=>by(obtain rfl:i=l.length:=by omega);rw[N2];exact Ad (by simp only[Iu,b0u,cF];rfl)|k+1,i,c,h,d,hcl=>by(have g:i<l.length:=by omega);(rw[I7 g];have j:Dy (c.length:Int) l[i]=ka:=by grind);obtain⟨b,f,m,a⟩:=a1v d e j (sign:=1) (.inl rfl);simp[YC];cases hst:HE 1 l[i] c with|none=>simp_all[Ad,Iu,Ac]|some r=>rw[hst]at a;obtain⟨rfl,rfl⟩:=a;obtain⟨q,t⟩:=Kf d j hst;rw[Ag (s':=(l,((i+1:Nat):Int),f,())) (by simp only[Iu,Bp g,cT,Ac g,oB,m,bT,cF,Aa (show i<1000000 by omega)])];rw[a1V e p o k (i+1) f (by omega) q (by omega)];rfl
theorem TH(c:List (List Int))(l:List AA):KD (c,l)=kc (if Dh c/\Kc l (c.length:Int)then oT (YC l c)else([],1)):=by unfold KD;simp only[XN,oB];by_cases hq:Dh c/\Kc l (c.length:Int);have h:=YB hq.1;have g:=hq.2;rw[dE hq,if_pos hq];simp;rw[Zx h (by have:=hq.1.2.2.1;omega) (by have:=hq.1.2.1;omega)];have:=a1V (N:=c.length) (by have:=hq.1.2.2.1;omega:(c.headD []).length<=5000) g.2.2.1 g.2.2.2 l.length 0 c (by omega) h rfl;rw[K1]at this;simp at this;simp;rw[this];cases YC l c<;>rfl;grind
theorem Wj(c:List (List Int))(n:Int){i:Nat}(hi:i<c.length)(m:short c[i]):∀(k j:Nat)(s:Int),2<=j->j+k=c[i].length\/(k=0/\c[i].length<=j)->∃s',Ah Dk (s,c[i],(j:Int),c,n,(i:Int),())=kc (s',c,n,(i:Int),())/\Ah GB (c,s,(i:Int),(j:Int),())=kc (c,s',(i:Int),())|0,j,s,o,h=>by(have d:A3 ((j:Int)<(c[i].length:Int))=kb:=by grind);exact⟨s,Ad (by simp only[Dk,d,cF]),Ad (by simp only[GB,Ac hi,oB,d,cF])⟩|k+1,j,s,o,h=>by(have g:j<c[i].length:=by omega);(unfold short at m;have f:zB .i64 ((j:Int)-1)=((j-1:Nat):Int):=by grind[Al]);(have a:zB .i64 ((j:Int)-2)=((j-2:Nat):Int):=by grind[Al]);have b:=Ac (l:=c[i]) (i:=j-1) (by omega);have e:=Ac (l:=c[i]) (i:=j-2) (by omega);obtain⟨s',p,q⟩:=Wj c n hi m k (j+1) (zB .i64 (s+DH (zB .i64 (zB .i64 (c[i][j]-zB .i64 (2*c[i][j-1]))+c[i][j-2])) (zB .i64 (0-zB .i64 (zB .i64 (c[i][j]-zB .i64 (2*c[i][j-1]))+c[i][j-2]))))) (by omega) (by omega);refine⟨s',?_,?_⟩;rw[<-p];exact Ag (by simp only[Dk,Bp g,cT,Ac g,oB,f,a,b,e,Aa (show j<1000000 by omega)]);rw[<-q];exact Ag (by simp only[GB,Rz,Ac hi,Bp g,cT,Ac g,oB,f,a,b,e,Aa (show j<1000000 by omega)])
theorem mU{c:List (List Int)}(hq:Dh c):∃w,Gd c=kc w/\Hf c=kc w:=by(have j:=YB hq;have r:Kc ([]:List AA) (c.length:Int):=⟨by have:=hq.1;omega,by have:=hq.2.1;omega,by simp,rfl⟩;have f:∀(k i:Nat)(s:Int),i+k=c.length->∃e,Ah Dm (s,c,(c.length:Int),(i:Int),())=kc (e,())/\Ah GC (c,s,(i:Int),())=kc (e,()):=by intro k;induction k with|zero=>(intro i s l;obtain rfl:i=c.length:=by omega);simp_all[Ad,Dm,GC]|succ k o=>(intro i s l;have h:i<c.length:=by omega);have t:=(j _ (A9 h)).1;have m:=hq.2.2.1;have n:=hq.2.1;obtain⟨p,a,g⟩:=Wj c (c.length:Int) h (by unfold short;omega) (c[i].length-2) 2 s (E8 _) (by omega);obtain⟨q,d,b⟩:=o (i+1) p (by omega);rw[show((2:Nat):Int)=2 from rfl]at a g;refine⟨q,?_,?_⟩;rw[<-d];exact Ag (by simp only[Dm,Bp h,cT,Ac h,oB,a,Aa (show i<1000000 by omega)]);rw[<-b];exact Ag (by simp only[GC,Bp h,cT,g,oB,Aa (show i<1000000 by omega)]));obtain⟨w,a,d⟩:=f c.length 0 0 (by omega);simp_all[Gd,pO,Hf,XN]
theorem jN(x:Int):LY x=Na x:=rfl
def mV(c:List (List Int))(B:Int):Prop:=∀r∈c,∀x∈r,-B<=x/\x<=B
def cC(l:List AA):Prop:=∀s∈l,-256<=s.2.2.1/\s.2.2.1<=256
theorem a4T{g B:Int}(d:0<=B)(i:-256<=g/\g<=256):∀{f ys:LI},(∀x∈f,-B<=x/\x<=B)->(∀y∈ys,-B<=y/\y<=B)->∀z∈Qk 1 g f ys,-(2*B)<=z/\z<=2*B|[],_,_,_,z,h=>by simp[Qk]at h|_::_,[],_,_,z,h=>by simp[Qk]at h|x::f,y::ys,k,b,z,h=>by(rcases mC.1 (show z∈HD 1 g x y::Qk 1 g f ys from h)with rfl|h;have j:=k x (by simp);have l:=b y (by simp);have m:-(256*B)<=g*x/\g*x<=256*B:=by(have a1:g.natAbs<=256:=by omega);(have c:x.natAbs<=B.toNat:=by omega);have:=B9 a1 c;rw[<-Int.natAbs_mul]at this;omega);grind[HD];exact a4T d i (λa e=>k a (by grind)) (λa e=>b a (by grind)) z h
theorem b6g{c:List (List Int)}{n:Nat}(v:Eg c n){B:Int}(d:0<=B)(hb:mV c B)(b:2*B<1073741824){s:AA}(j:Dy (c.length:Int) s=ka)(e:-256<=s.2.2.1/\s.2.2.1<=256):∃a,HE 1 s c=kc a/\mV a (2*B):=by(obtain⟨a1,m,o,p,q,t,u⟩:=Db.1 j;have g:∀i,i<c.length->c.getD i []∈c:=λi w=>by simp_all);(have y:=a4T d e (hb _ (g s.1.toNat (by omega))) (hb _ (g s.2.1.toNat (by omega)));have f:(Qk 1 s.2.2.1 (c.getD s.1.toNat []) (c.getD s.2.1.toNat [])).all Ae=ka:=lA.2 λz h=>Cp.2 (by grind);unfold HE;simp only[f,if_true];refine⟨_,rfl,λr k x l=>?_⟩;rcases I6 k with k|rfl);have:=hb r k x l;omega;simp_all
theorem c4C(c:Nat):(2:Int)^c=((2^c:Nat):Int):=by rfl
theorem b3X{n N:Nat}:∀(l:List AA){c:List (List Int)} {B:Int},Eg c n->c.length=N->l.all (Dy (N:Int))=ka->cC l->0<=B->mV c B->B*2^l.length<1073741824->∃h,YC l c=kc h|[],c,_,_,_,_,_,_,_,_=>⟨c,rfl⟩|s::l,c,B,f,o,a,k,g,hb,h30=>by(simp only[C5,bA]at a;rw[lC,Int.pow_succ]at h30;have p:(1:Int)<=2^l.length:=by rw[c4C];have:=F1 l.length;omega);have e:B*2<=B*(2^l.length*2):=Int.mul_le_mul_of_nonneg_left (by omega) g;obtain⟨j,b,d⟩:=b6g f g hb (by omega) (s:=s) (by simp_all) (k s (by simp));obtain⟨i,r⟩:=Kf f (by simp_all) b;obtain⟨h,m⟩:=b3X l i (by omega) a.2 (λt q=>k t (by grind)) (by omega) d (by grind);simp_all[YC]
theorem mW{m:Nat}(h:m<=4):cC (BV m)/\(BV m).length<=3:=by match m with|0=>exact⟨by simp[cC,BV],by simp[BV]⟩|1=>exact⟨by simp[cC,BV],by simp[BV]⟩|2=>exact⟨by simp[cC,BV],by simp[BV]⟩|3=>exact⟨by simp[cC,BV],by simp[BV]⟩|4=>exact⟨by simp[cC,BV],by simp[BV]⟩|m+5=>omega
theorem b6h{p:List (List Int)}{n:Nat}(hp:Eg p n)(a:p.length=2)(hb:mV p 16777216){m:Nat}(h:m<=4):∃g,YC (BV m) p=kc g:=by obtain⟨f,k⟩:=mW h;refine b3X (BV m) hp a (RE h).2.2.2 f (by omega) hb ?_;have:(2:Nat)^(BV m).length<=2^3:=D2 (by omega) k;grind
theorem Sx{p:List (List Int)}{n:Nat}(hp:Eg p n)(j:p.length=2)(l:n<=4096)(hb:mV p 16777216)(i:Int)(out:List AA)(b:Bn):∀(k m h:Nat)(least:Int),m+k=5->h<=4->∃g,g<=4/\Ah DJ (p,(h:Int),least,(m:Int),())=kc (((g:Nat):Int),())/\Ah Jl (i,p,(h:Int),least,(m:Int),out,b,())=kc (i,((g:Nat):Int),out,b,())|0,m,h,least,A,hbe=>by(obtain rfl:m=5:=by omega);exact⟨h,hbe,Ad rfl,Ad rfl⟩|k+1,m,h,least,A,hbe=>by(have d:A3 ((m:Int)<5)=ka:=by grind);(have v:zB .i64 ((m:Int)+1)=((m+1:Nat):Int):=Aa (by omega);have f:Kc (BV m) (p.length:Int):=by grind[RE]);(have u:Dh p:=Uz hp (by omega) (by omega) l;obtain⟨q,a⟩:=b6h hp j hb (m:=m) (by omega);obtain⟨B,E⟩:=Ro (BV m) hp j (RE (by omega)).2.2.2 a;obtain⟨w,C,D⟩:=mU (c:=q) (Uz B (by omega) (by omega) l);have z0:((0:Int) != 0)=kb:=rfl;have y:Rx (p,BV m)=kc (q,0):=by rw[a9M,if_pos ⟨u,f⟩,a];rfl);(have z:KD (p,BV m)=kc (q,0):=by rw[TH,if_pos ⟨u,f⟩,a];rfl);have e:=UB (m:=m) (by omega);cases hlt:A3 (w<least)with|true=>(obtain⟨o,r,x,t⟩:=Sx hp j l hb i out b k (m+1) m w (by omega) (by omega);refine⟨o,r,?_,?_⟩;simp_all[Ag,DJ];rw[<-t];exact Ag (by simp_all[Jl,jN]))|false=>obtain⟨o,r,x,t⟩:=Sx hp j l hb i out b k (m+1) h least (by omega) hbe;refine⟨o,r,?_,?_⟩;rw[<-x];exact Ag (by simp only[DJ,d,cT,e,oB,y,z0,cF,C,hlt,v]);rw[<-t];exact Ag (by simp only[Jl,d,cT,jN,e,oB,z,D,hlt,v,cF])
theorem a1W(b:Bn)(first:Nat)(u:first<=100){y:List AA}(e:y.all (Dy 2)=ka)(t:y.length<=10)(out:List AA)(v:out.length<=1000):
  Ah FN ((first:Int),(0:Int),out,y,b,())=kc ((first:Int),out++y.map (St first),b,()):=by
 have:=Bi (f:=FN) (β:=Int×(List AA×(Bn×Unit))) y (λi (a:List AA)=>((first:Int),(i:Int),a,y,b,())) (λa x=>.inl (a++[St first x])) (λi a=>a.length=out.length+i) (λa=>((first:Int),a,b,()))
  (λi g a c=>⟨λj h=>by
   simp at h;subst h;obtain⟨a1,l,m,o,p,q,r⟩:=Db.1 (lA.1 e _ (A9 g));have k:A3 ((0:Int)<=(i:Int))=ka:=by simp
   have d:F6 y (D0 (i:Int)) ((0:Int),(0:Int),(0:Int),())=y[i]:=by simp_all
   refine⟨?_,by grind⟩;simp only[FN,Bp g,cT,k,B6,AN (show a.length+1<2147483648 by omega),d,Aa (show i<1000000 by omega),B4];rw[Al (n:=y[i].1+(first:Int)) (by omega),Al (n:=y[i].2.1+(first:Int)) (by omega)]
   rfl,λb hb=>by grind⟩)
  (λa c=>by simp_all[FN]) (a:=out) (by simp)
 simp_all[Oa,Sz,b2C]
theorem ZA{b:Bn}{n:Nat}(G:Eg b.2.1 n)(t:n<=4096)(F:b.2.1.length<=8)(q:mV b.2.1 16777216):∀(k j:Nat)(out:List AA),j+k=5->out.length<=3*j->
  ∃l,Ah EU (((2*j:Nat):Int),out,b,())=kc (l,())/\Ah Jm (((2*j:Nat):Int),out,b,())=kc (l,())
 |k,j,out,O,hol=>by
  have h:zB .i64 (((2*j:Nat):Int)+1)=((2*j+1:Nat):Int):=by grind[Al]
  by_cases hlt:2*j+1<b.2.1.length
  ·cases k with
   |zero=>omega
   |succ k=>
    have p:zB .i64 (((2*j:Nat):Int)+2)=((2*j+2:Nat):Int):=by grind[Al]
    have C:Eg [b.2.1.getD (2*j) [],b.2.1.getD (2*j+1) []] n:=λr o=>by
     simp only[mC,D6,or_false]at o;rcases o with rfl|rfl;all_goals grind[Hs]
    have f:∀i,i<b.2.1.length->b.2.1.getD i []∈b.2.1:=λi N=>by simp_all
    have u:mV [b.2.1.getD (2*j) [],b.2.1.getD (2*j+1) []] 16777216:=λr o=>by
     simp only[mC,D6,or_false]at o;rcases o with rfl|rfl;exact q _ (f _ (by omega));exact q _ (f _ (by omega))
    have e:=c3n (c:=b.2.1) (i:=2*j) (by omega);obtain⟨w,R,L⟩:=mU (c:=[b.2.1.getD (2*j) [],b.2.1.getD (2*j+1) []]) (Uz C (by simp) (by simp) t);obtain⟨m,v,Q,K⟩:=Sx C rfl t u ((2*j:Nat):Int) out b 4 1 0 w rfl (by omega);have a:MB [b.2.1.getD (2*j) [],b.2.1.getD (2*j+1) []]=kc (BV m):=by
     simp_all[MB,UB]
    have g:=(RE v).2.2.2;have M:=(mW v).2;have x:A3 (((2*j+1:Nat):Int)<((b.2.1.length:Nat):Int))=ka:=Bp hlt;have y:A3 ((0:Int)<=((2*j+2:Nat):Int))=ka:=by rfl
    have z:A3 (((2*j+2:Nat):Int)<=((b.2.1.length:Nat):Int))=ka:=by grind
    have A:A3 ((0:Int)<=((2*j:Nat):Int))=ka:=by rfl
    have B:A3 (((2*j:Nat):Int)<=(((2*j+2:Nat)):Int))=ka:=by grind
    have I:=mH b (2*j) (by omega) g (by omega) out (by omega);have P:=a1W b (2*j) (by omega) g (by omega) out (by omega);obtain⟨l,D,E⟩:=ZA G t F q k (j+1) (out++(BV m).map (St (2*j))) (by omega) (by grind);rw[show 2*(j+1)=2*j+2 from by rfl]at D E;refine⟨l,?_,?_⟩;rw[<-D];exact Ag (by simp only[EU,h,x,cT,p,y,z,B6,tN,A,B,e,a,oB,I]);rw[<-E];simp only[H7]at K;have H:=UB v;refine Ag ?_
    simp only[Jm,h,x,cT,p,y,z,B6,tN,A,B,e,L,oB];simp_all[jN]
  have d:A3 (((2*j+1:Nat):Int)<((b.2.1.length:Nat):Int))=kb:=by grind
  exact⟨out,Ad (by simp only[EU,h,d,cF]),Ad (by simp only[Jm,h,d,cF])⟩
theorem b6i{b:Bn}(hb:Hv b):mV b.2.1 16777216:=λr h x g=>by have:=lA.1 hb.2.2.2.2.2.2 r h;simp only[bA]at this;exact b3Q ⟨hb.1,hb.2.1⟩ (lA.1 this.2 x g)
theorem a1X{b:Bn}(hb:Hv b):∃l,Hz b=kc l/\NA b=kc l:=by obtain⟨f,-⟩:=Ss hb;obtain⟨l,h,g⟩:=ZA f hb.2.2.2.2.2.1 hb.2.2.2.1 (b6i hb) 5 0 [] rfl (by simp);simp at h g;simp_all[Hz,KQ,NA,Mh]
theorem a3q{d:LI}(i:d.all Ae=ka)(b:d.length<=4096){o w:Nat}(g:1<=o)(f:o<=32)(k:2<=w/\w<=16):NC (d,(o:Int),(w:Int))=kc (cS 3 0 (Sq d o w).2.1 (Sq d o w).1 [],(Sq d o w).2.2==0):=by(obtain⟨c,j,e,l,h,-⟩:=a4m i b g f k;have a:Sq d o w=(c,j,e):=by simp_all[Sq]);unfold NC;simp only[h,oB,a];rfl
theorem UE{d:LI}(b:d.all Ae=ka)(a:d.length<=4096){o w:Nat}(g:1<=o)(f:o<=32)(k:2<=w/\w<=16){L:List BN}(c:L.length<1000):Bx (L,d,(o:Int),(w:Int))=kc (L++YM d o w,[]):=by have h:AZ (L.length+1)=ka:=Aw (by omega);unfold Bx YM;simp only[a3q b a g f k,oB];cases (Sq d o w).2.2==0 with|true=>simp_all|false=>simp
theorem b0n{d:LI}{L:List BN}(k:L.length<1000):Ah Hj (d,(0:Int),L,())=kc (d,L++Rk 5,()):=by
 have:=AD (f:=Hj) (λi:Nat=>(d,(i:Int),L++Rk i,())) 5 (b:=(d,L++Rk 5,()))
  (λi a=>by
   have g:A3 ((i:Int)<5)=ka:=dE (by omega);have h:AZ ((L++Rk i).length+1)=ka:=Aw (by simp[Rk];omega);have e:(L++Rk i)++[cS 2 (i:Int) 0 [] []]=L++Rk (i+1):=by simp[Rk,D7]
   rw[<-e];simp only[Hj,g,cT,h,Aa (show i<1000000 by omega)];rfl)
  (by
   rfl)
 simp at this;rw[show Rk 0=[]from rfl,D8]at this;omega
def a6X(d:List Int):Prop:=∃r,OC d=kc r/\r.2=(jF d).2/\(r.2=ka->r.1=(jF d).1)
theorem b9C{d:LI}(b:d.all Ae=ka)(j:d.length<=4096)(n:a6X d)(k:Int):SW (d,k)=kc (IH d k):=by
 obtain⟨o,I,H,-⟩:=We (show d.length<100000 by omega) b;have hb:a9z d=o:=by simp_all[a9z]
 obtain⟨Q,r,K,M⟩:=n;have G:(oS d).length<=1:=by grind[oS]
 have U:=II d 4 12;have V:=II d 8 12;have S:=II d 1 12;have T:=II d 2 12;have N:=II d 12 14;have B:=λL (f:L.length<1000)=>UE (L:=L) b j (o:=4) (w:=12) (by omega) (by omega) (by omega) f;have C:=λL (f:L.length<1000)=>UE (L:=L) b j (o:=8) (w:=12) (by omega) (by omega) (by omega) f;have z:=λL (f:L.length<1000)=>UE (L:=L) b j (o:=1) (w:=12) (by omega) (by omega) (by omega) f;have A:=λL (f:L.length<1000)=>UE (L:=L) b j (o:=2) (w:=12) (by omega) (by omega) (by omega) f;have l:=λL (f:L.length<1000)=>UE (L:=L) b j (o:=12) (w:=14) (by omega) (by omega) (by omega) f;have m:=λL (f:L.length<1000)=>UE (L:=L) b j (o:=16) (w:=14) (by omega) (by omega) (by omega) f;simp at B C z A l m;have X:(Ce d).length=3:=rfl;have Y:(Dx d k).length<=2:=by unfold Dx;split<;>simp<;>omega
 have Z:(Oj d k).length<=3:=by unfold Oj;split<;>simp<;>omega
 have n5:(Rk 5).length=5:=rfl;have F:SW (d,k)=(Iv d).bind λD=>(show Option ((List Int)×(Int×((List BN)×Unit)))from bif A3 (k>=1)then((Bx ([cS 0 0 0 [] [],cS 1 0 0 [] [],cS 2 D 0 [] []],d,(4:Int),(12:Int))).bind λt=>(Bx (t.1,d,(8:Int),(12:Int))).bind λu=>kc (d,k,u.1,()))else kc (d,k,[cS 0 0 0 [] [],cS 1 0 0 [] [],cS 2 D 0 [] []],())).bind λg=>(show Option ((List Int)×(Int×((List BN)×Unit)))from bif A3 (g.2.1>=2)then(bif AZ (g.2.2.1.length+2)then((OC g.1).bind λp=>bif p.2 then(bif AZ ((g.2.2.1++[cS 5 0 0 [] [((16:Int),(4:Int),())],cS 5 0 0 [] [((32:Int),(3:Int),()),((16:Int),(5:Int),())]]).length+1)then kc (g.1,g.2.1,g.2.2.1++[cS 5 0 0 [] [((16:Int),(4:Int),())],cS 5 0 0 [] [((32:Int),(3:Int),()),((16:Int),(5:Int),())]]++[p.1],())else kd) else kc (g.1,g.2.1,g.2.2.1++[cS 5 0 0 [] [((16:Int),(4:Int),())],cS 5 0 0 [] [((32:Int),(3:Int),()),((16:Int),(5:Int),())]],()))else kd)else kc (g.1,g.2.1,g.2.2.1,())).bind λq=>(show Option ((List BN)×Unit)from bif A3 (q.2.1>=3)then((Ah Hj (q.1,(0:Int),q.2.2.1,())).bind λa=>(Bx (a.2.1,a.1,(1:Int),(12:Int))).bind λv=>(Bx (v.1,a.1,(2:Int),(12:Int))).bind λx=>(Bx (x.1,a.1,(12:Int),(14:Int))).bind λc=>(Bx (c.1,a.1,(16:Int),(14:Int))).bind λi=>kc (i.1,()))else kc (q.2.2.1,())).bind λy=>kc y.1:=rfl
 have E:[cS 0 0 0 [] [],cS 1 0 0 [] [],cS 2 o 0 [] []]=Ce d:=by unfold Ce;grind
 have R:(bif A3 (k>=1)then((Bx (Ce d,d,(4:Int),(12:Int))).bind λt=>(Bx (t.1,d,(8:Int),(12:Int))).bind λu=>kc (d,k,u.1,()))else kc (d,k,Ce d,()):Option ((List Int)×(Int×((List BN)×Unit))))=kc (d,k,Ce d++Dx d k,()):=by unfold Dx;by_cases h:1<=k;have e:A3 (k>=1)=ka:=dE h;simp only[e,cT,B (Ce d) (by omega),oB,C (Ce d++YM d 4 12) (by grind),if_pos h,aA];grind
 have s2:(bif A3 (k>=2)then(bif AZ ((Ce d++Dx d k).length+2)then((OC d).bind λp=>bif p.2 then(bif AZ ((Ce d++Dx d k++[cS 5 0 0 [] [((16:Int),(4:Int),())],cS 5 0 0 [] [((32:Int),(3:Int),()),((16:Int),(5:Int),())]]).length+1)then kc (d,k,Ce d++Dx d k++[cS 5 0 0 [] [((16:Int),(4:Int),())],cS 5 0 0 [] [((32:Int),(3:Int),()),((16:Int),(5:Int),())]]++[p.1],())else kd) else kc (d,k,Ce d++Dx d k++[cS 5 0 0 [] [((16:Int),(4:Int),())],cS 5 0 0 [] [((32:Int),(3:Int),()),((16:Int),(5:Int),())]],()))else kd)else kc (d,k,Ce d++Dx d k,()):Option ((List Int)×(Int×((List BN)×Unit))))=kc (d,k,Ce d++(Dx d k++Oj d k),()):=by unfold Oj;by_cases h:2<=k;(have e:A3 (k>=2)=ka:=dE h;have O:AZ ((Ce d++Dx d k).length+2)=ka:=Aw (by grind);have P:AZ ((Ce d++Dx d k++[cS 5 0 0 [] [((16:Int),(4:Int),())],cS 5 0 0 [] [((32:Int),(3:Int),()),((16:Int),(5:Int),())]]).length+1)=ka:=Aw (by simp;omega);simp only[e,O,P,cT,r,oB,if_pos h,oS];cases hg:Q.2 with|true=>grind|false=>grind);grind
 have s3:(bif A3 (k>=3)then((Ah Hj (d,(0:Int),Ce d++(Dx d k++Oj d k),())).bind λa=>(Bx (a.2.1,a.1,(1:Int),(12:Int))).bind λv=>(Bx (v.1,a.1,(2:Int),(12:Int))).bind λx=>(Bx (x.1,a.1,(12:Int),(14:Int))).bind λc=>(Bx (c.1,a.1,(16:Int),(14:Int))).bind λi=>kc (i.1,()))else kc (Ce d++(Dx d k++Oj d k),()):Option ((List BN)×Unit))=kc (IH d k,()):=by unfold IH a4r;by_cases h:3<=k;have e:A3 (k>=3)=ka:=dE h;simp only[e,cT,b0n (L:=Ce d++(Dx d k++Oj d k)) (by simp;omega),oB,if_pos h];rw[z _ (by simp;omega)];simp only[oB];rw[A _ (by simp;omega)];simp only[oB];rw[l _ (by simp;omega)];simp only[oB];rw[m _ (by simp;omega)];simp;grind
 rw[F,H,oB,E];simp only[];rw[R];simp only[oB];simp_all
theorem a3r{d:LI}(f:d.length<=256):a6X d:=by(have h:=a9B f;have b:jF d=(BP 0,kb):=by unfold jF;grind);(have k:A3 ((d.length:Int) > 4096)=kb:=dF (by omega);have a:A3 ((d.length:Int)<=256)=ka:=dE (by omega);have g:ND (d,(16:Int),(256:Int))=kc (0,7):=by grind[ND]);refine⟨(BP 0,kb),?_,by grind,λh=>by grind⟩;unfold OC;simp only[g,zQ,show((7:Int) != 0)=ka from rfl];rfl
def a6Y(a:Int×(Bool×BN)):Prop:=(a.2.1=kb->a.1=0)/\(a.2.1=ka->a.1≠0)
theorem b2P{l:LI}{c:BN}(g:sO c){a:Int×(Bool×BN)}(h:a6Y a):a6Y (Rl l a c):=by unfold Rl;cases he:(Cu c.1 l c).2 != 0 with|true=>grind|false=>simp;cases !a.2.1 || A3 (KS (Cu c.1 l c).1 (l.length:Int)<a.1)with|false=>grind|true=>simp;obtain⟨a1,-,-,f⟩:=pL g (show(Cu c.1 l c).2=0 by grind);have:=b5H a1 (n:=(l.length:Int)) (by grind);exact⟨λh=>(by grind),λ_=>(by omega)⟩
theorem a3s{l:LI}{cs:List BN}(q:∀c∈cs,sO c)(w:l.length<=4096)(v:cs.length<1000):
  Ah Hn (l,(0:Int),(0:Int),cs,BP 0,BP 0,())=kc (BP 0,(fH l cs).2.2,()):=by
 have:=Bi (f:=Hn) cs (λi (a:Int×(Bool×BN))=>(l,a.1,(i:Int),cs,BP 0,a.2.2,())) (λa x=>.inl (Rl l a x)) (λ_ a=>a6Y a) (λa=>(BP 0,a.2.2,()))
  (λi m a j=>by
   refine⟨λu g=>?_,λb hb=>by grind⟩;simp at g;subst g;have d:=q _ (A9 m);refine⟨?_,b2P d j⟩;have n:=a9e (mB (k:=cs[i].1) (l:=l) d) (l.length:Int);have p:F6 cs (D0 (i:Int)) (BP 0)=cs[i]:=by grind
   have t:BP 0=((0:Int),(0:Int),(0:Int),(0:Int),(0:Int),([]:(List Int)),A8 3 (0:Int),([]:(List (Int×Int×Unit))),([]:(List Int)),((0:Int),([]:(List Int)),()),([]:(List Int)),()):=rfl;have o:A3 ((0:Int)<=(i:Int))=ka:=by simp
   have r:=Aa (show i<1000000 by omega);unfold Rl;simp only[Hn,Bp m,cT,o,B6,<-t,p,a9v d cs[i].1 (show l.length<=100000 by omega),oB,n];cases (Cu cs[i].1 l cs[i]).2 != 0 with
   |true=>grind
   |false=>
    cases hf:a.2.1 with
    |false=>
     have e:(a.1==(0:Int))=ka:=by rw[j.1 hf];rfl
     grind
    |true=>
     have e:(a.1==(0:Int))=kb:=by simpa using j.2 hf
     grind)
  (λa _=>by grind[Hn]) (a:=((0:Int),kb,BP 0)) ⟨λ_=>rfl,λh=>(by grind)⟩
 simp at this;rw[this,Sr];rfl
theorem b0o{l:LI}(v:1<=l.length)(b:l.length<=4096)(a:l.all Ae=ka)(h:a4s (Bm l))(c:a6X (Bm l)){k:Int}(u:0<=k)(x:k<=3):DF (l,k)=kc ((fH l (IH (Bm l) k)).2.2,0):=by(have e:short l:=by unfold short;omega);(have r:=jD e a;obtain⟨-,d,t,-⟩:=Ie b a;have i:A3 (((l.length:Nat):Int)<1)=kb:=dF (by omega);have j:A3 (((l.length:Nat):Int) > 4096)=kb:=dF (by omega);have m:A3 (k<0)=kb:=dF (by omega);have n:A3 (k > 3)=kb:=dF (by omega);have f:(IH (Bm l) k).length<1000:=by(have g:=λo w=>II (Bm l) o w;have y:=g 4 12;have z:=g 8 12;have A:=g 1 12;have B:=g 2 12;have C:=g 12 14;have D:=g 16 14;have p:(oS (Bm l)).length<=1:=by grind[oS]);simp only[IH,Ce,Dx,Oj,a4r,lN];grind[Rk]);have hb:=a3s (l:=l) (bS d (by omega) h k) b f;have q:BP 0=((0:Int),(0:Int),(0:Int),(0:Int),(0:Int),([]:(List Int)),A8 3 (0:Int),([]:(List (Int×Int×Unit))),([]:(List Int)),((0:Int),([]:(List Int)),()),([]:(List Int)),()):=rfl;unfold DF;simp only[<-q,i,j,m,n,cF,oB,AC e,a,bT,r,lZ b a,b9C d (show(Bm l).length<=4096 by omega) c,hb]
theorem b6j{l:LI}(i:l.length<=256)(k:Int):∃s e,Cv (l,k)=kc (s,e)/\DF (l,k)=kc (s,e)/\(s=BP 0\/sO s):=by
 have d:BP 0=((0:Int),(0:Int),(0:Int),(0:Int),(0:Int),([]:(List Int)),A8 3 (0:Int),([]:(List (Int×Int×Unit))),([]:(List Int)),((0:Int),([]:(List Int)),()),([]:(List Int)),()):=rfl;have c:short l:=by unfold short;omega
 by_cases h1:1<=l.length;rotate_left
 ·have f:A3 (((l.length:Nat):Int)<1)=ka:=dE (by omega);refine⟨BP 0,1,?_,?_,.inl rfl⟩;all_goals simp_all[Cv,DF]
 have f:A3 (((l.length:Nat):Int)<1)=kb:=dF (by omega);have b:A3 (((l.length:Nat):Int) > 4096)=kb:=dF (by omega);by_cases hk:0<=k/\k<=3;rotate_left
 ·have h:(k<0)\/(¬ k<0/\k > 3):=by omega
  rcases h with h|⟨h,a⟩
  ·refine⟨BP 0,1,?_,?_,.inl rfl⟩;all_goals simp_all[Cv,DF]
  ·refine⟨BP 0,1,?_,?_,.inl rfl⟩;all_goals simp_all[Cv,DF]
 have h:A3 (k<0)=kb:=dF (by omega);have a:A3 (k > 3)=kb:=dF (by omega);by_cases hw:l.all Ae=ka;grind[b8K,Bm,a1e,b0o,a3r];have g:=E9.2 hw;refine⟨BP 0,6,?_,?_,.inl rfl⟩;unfold Cv;simp only[f,b,h,a,cF,oB,Fi c,g,C3,cT,d];unfold DF;simp only[f,b,h,a,cF,oB,AC c,g,C3,cT,d]
theorem oV(b:Bn):DL b=kc (BI b:Int):=by unfold DL BI;cases hc:b.2.1 with|nil=>rfl|cons r c=>rfl
theorem ZB{effort:Int}{rows:List (List Int)}(c:∀r∈rows,r.length<=256)(i:rows.length<=8)(f:Bo):∀(zC d:List (List Int)) (g h:List BN),d++zC=rows->g.length=d.length->Of (λr=>Cv (r,effort)) zC=kc (h.map λs=>(s,0))->Ah Fh (effort,rows,(d.length:Int),XP,Zw f g,())=kc (XP,Zw f (g++h),())|[],d,g,h,j,hdl,k=>by simp_all[Of,Ad,Fh]|r::zC,d,g,h,j,hdl,k=>by(have b:d.length<rows.length:=by grind);(have m:Aq rows (d.length:Int)=kc r:=by grind[Ac]);obtain⟨s,e,b1,b2,-⟩:=b6j (l:=r) (c r (by grind)) effort;simp[Of,b1]at k;cases hm:Of (λr=>Cv (r,effort)) zC with|none=>simp_all|some q=>rw[hm]at k;simp at k;cases h with|nil=>grind|cons t h=>(simp at k;obtain⟨⟨rfl,rfl⟩,rfl⟩:=k;have a:Fh (effort,rows,(d.length:Int),XP,Zw f g,())=kc (.inl (effort,rows,(((d++[r]).length:Nat):Int),XP,Zw f (g++[s]),())):=by simp only[Fh,Bp b,cT,m,oB,b2];rw[show(Zw f g).2.2.2.2.1=g from rfl,AN (show g.length+1<2147483648 by omega),cT,Aa (show d.length<1000000 by omega)];rw[show(((d++[r]).length:Nat):Int)=((d.length+1:Nat):Int)from by simp];rfl);rw[Ag a,ZB c i f zC (d++[r]) (g++[s]) h (by simp_all) (by simp_all) hm];simp
theorem b6k{b:Bn}(hb:Hv b)(f:BI b<=256){rate start effort:Int}(k:1<=rate/\rate<=1048576)(n:0<=start/\start<=4194304-((BI b:Nat):Int))(A:0<=effort)(B:effort<=3):
  ∃g:Bo,HO (b,(rate,((b.2.1.length:Nat):Int),b.1,()),start,effort)=kc (g,0)/\Fx (b,(rate,((b.2.1.length:Nat):Int),b.1,()),start,effort)=kc (g,0)/\
   (∀s∈g.2.2.2.2.1,sO s)/\g.2.2.2.1.length<1000000/\g.2.2.2.2.1.length<1000000:=by
 obtain⟨l,rows,c,D,a,d,E,F,G,H,I⟩:=a1B hb f k n A B;refine⟨_,D,?_,F,by have:=a.2.2.1;grind,?_⟩;rotate_left
 have:=fP E
 obtain⟨e,-⟩:=Ss hb;have P:=(Ro l e rfl a.2.2.2 d).2
 have:=hb.2.2.2.1
 grind;obtain⟨e,p⟩:=Ss hb;have i:=hb;obtain⟨y,z,L,M,N,O,-⟩:=i;have m:Qj (rate,((b.2.1.length:Nat):Int),b.1,()):=⟨k.1,k.2,by grind,by grind,y,z⟩;obtain⟨C,Q⟩:=Ro l e rfl a.2.2.2 d;have w:(b.1 != b.1)=kb:=bN _;have x:(((b.2.1.length:Nat):Int) != ((b.2.1.length:Nat):Int))=kb:=bN _;have q:A3 (effort<0)=kb:=by simp_all
 have t:A3 (effort > 3)=kb:=by simp_all
 have u:A3 (start<0)=kb:=by simp_all
 have v:A3 (start > zB .i64 (4194304-((BI b:Nat):Int)))=kb:=by grind[Al]
 have h:=ZB (effort:=effort) (rows:=rows) (λr k=>by have:=(C r k).1;omega) (by omega) (start,((BI b:Nat):Int),(rate,((b.2.1.length:Nat):Int),b.1,()),l,([]:List BN),()) rows [] [] c rfl rfl G;unfold Fx;simp only[Mh,dE hb,oB,bT,cF,Oc,dE m,w,x,q,t,u,oV,v];cases he:A3 (effort > 0)with
 |true=>
  have j:=I (by simp_all);obtain⟨R,o,K⟩:=a1X hb;rw[j]at o;simp at o;subst o;simp[K,TH,if_pos (show Dh b.2.1/\Kc l (b.2.1.length:Int)from⟨p,a⟩),d,oT];erw[h];rfl
 |false=>
  have:=H (by grind)
  subst this;simp only[cF,oB,TH,if_pos (show Dh b.2.1/\Kc ([]:List AA) (b.2.1.length:Int)from⟨p,a⟩),d,oT];erw[h];rfl
theorem d6R{b:Bn}{fm:AA}(hb:Hv b)(f:BI b<=256)(a:1<=fm.1/\fm.1<=1048576)(k:fm.2.1=(b.2.1.length:Int))(h:fm.2.2.1=b.1){st:Nat}(m:st+BI b<=4194304){effort:Int}(d:0<=effort)(i:effort<=3):∃g:Bo,HO (b,fm,(st:Int),effort)=kc (g,0)/\Fx (b,fm,(st:Int),effort)=kc (g,0)/\(∀s∈g.2.2.2.2.1,sO s)/\Ht g=kc b/\g.1=(st:Int)/\g.2.2.1=fm:=by(obtain⟨rate,r,bits,u⟩:=fm;cases u;simp only at a k h;subst k h;obtain⟨g,j,t,n,v,w,o,p⟩:=made hb f (rate:=rate) (start:=(st:Int)) (effort:=effort) a (by omega) d i;obtain⟨l,c,q,-⟩:=b6k hb f (rate:=rate) (start:=(st:Int)) (effort:=effort) a (by omega) d i;have e:l=((st:Int),g):=by rw[j]at c;simp only[sj,pJ]at c;exact c.1.symm);subst e;exact⟨_,j,q,o,p (st:Int) (by omega),rfl,n⟩
def b9D(fm:AA)(l:List Int)(ch sz total:Nat)(effort:Int):Nat->List Pc->Prop|st,[]=>total<=st|st,x::xs=>st<total/\x.2.1=OI fm.2.2.1 (Wh l ch st (min (st+sz) total)) ch/\Fx (x.2.1,fm,(st:Int),effort)=kc (x.1,0)/\b9D fm l ch sz total effort (st+sz) xs
def a1Y(fm:AA):Nat->List Pc->Prop|_,[]=>True|st,x::xs=>((∀s∈x.1.2.2.2.2.1,sO s)/\Ht x.1=kc x.2.1/\x.1.1=(st:Int)/\x.1.2.2.1=fm/\x.2.2=a1R x.1)/\a1Y fm (st+BI x.2.1) xs
theorem a4U{fm:AA}:∀{f:List Pc}{st:Nat}{x:Pc},a1Y fm st f->a1Y fm (st+JD f) [x]->a1Y fm st (f++[x])|[],st,x,_,g=>by simpa[JD]using g|y::k,st,x,h,g=>⟨h.1,a4U h.2 (by simpa[JD,I8]using g)⟩
theorem b9E{fm:AA}:∀{g:List Pc}{st:Nat},a1Y fm st g->b9B fm st (g.map (·.1))=kc g|[],_,_=>rfl|x::g,st,h=>by obtain⟨⟨c,f,k,a,b⟩,h6⟩:=h;rw[E6,b9B,if_pos ⟨a,k⟩,f,oB,b9E h6,oB,<-b]
theorem a1Z{fm:AA}:∀{k:List Pc}{st:Nat},a1Y fm st k->∀f∈k.map (·.1),∀s∈f.2.2.2.2.1,sO s|[],_,_,f,g=>by simp at g|x::k,st,h,f,g=>by rcases mC.1 g with rfl|g;exact h.1.1;exact a1Z h.2 f g
theorem gA{fm:AA}{g:List Pc}{st:Nat}(h:a1Y fm st g):Ql fm st g:=(b0m (a1Z h) (b9E h)).1
def b9F(fm:AA)(total:Nat)(xs:List Pc):b5Z:=(fm,(total:Int),((Kg fm xs:Nat):Int),Gp 0 0 xs,xs.map (·.1),())
theorem b6l{fm:AA}(P:Qj fm){ch:Nat}(e:fm.2.1=(ch:Int)){l:LI}{h sz:Nat}(v:l.length=h*ch)(ht:h<=60)(hs:1<=sz/\sz<=4096)(p:l.all (λx=>Bq x fm.2.2.1)=ka){effort:Int}(h0:0<=effort)(h3:effort<=3):∀(k st:Nat)(f:List Pc),h<=st+k->JD f=min st h->JB f=l.take (min st h*ch)->a1Y fm 0 f->f.length<=st->f.length<=60->st<=5000->∃zC,b9D fm l ch sz h effort st zC/\a1Y fm 0 (f++zC)/\JD (f++zC)=h/\JB (f++zC)=l/\(f++zC).length<=60/\Ah FL (l,(sz:Int),effort,(h:Int),(((Du f).length:Nat):Int),(st:Int),b9F fm h f,fm,())=kc (.inl (b9F fm h (f++zC),())):=by(obtain⟨f1,f2,f3,f4,f5,f6⟩:=id P;have u:1<=ch/\ch<=8:=by omega);intro k;induction k with|zero=>(intro st f Q b d t B a K;have D:min st h=h:=by omega);(have y:A3 ((st:Int)<(h:Int))=kb:=by simp;omega);rw[D]at b d;refine⟨[],by simpa[b9D]using Q,by simpa using t,by simpa using b,by rw[D8,d,<-v,E3],by simpa using a,?_⟩;rw[D8];exact Ad (by simp only[FL,y,cF])|succ k ih=>(intro st f Q b d t B a K;by_cases hlt:st<h;have E:min st h=st:=by omega);(rw[E]at b d;obtain⟨en,m⟩:∃en,min (st+sz) h=en:=⟨_,rfl⟩;have o:st<en/\en<=h/\en<=st+sz:=by omega);(have C:en*ch<=l.length:=by rw[v];exact C8 _ o.2.1);(have h5:st*ch<=en*ch:=C8 _ (by omega);have h1:l.length<=60*8:=by rw[v];exact B9 ht u.2);(have c:=a4K (st:=st) C;have j:=a4L (ch:=ch) (st:=st) (en:=en) p;have q:=c1E (w:=fm.2.2.1) c u (by omega) ⟨f5,f6⟩ j;have F:=a1I (w:=fm.2.2.1) c u.1;have H:=c1F (w:=fm.2.2.1) c u.1;have G:=c1N P e (l:=Wh l ch st en) (n:=en-st) (by omega) c j;obtain⟨g,m1,N,X,Y,m4,m5⟩:=d6R (fm:=fm) q (by omega) ⟨f1,f2⟩ (by rw[e];simp[OI,Ew]) rfl (st:=st) (by omega) h0 h3;obtain⟨-,r,-,-,h2⟩:=mS X Y;have M:=a4M q (w:=fm.2.2.1) rfl (JB f);obtain⟨x,L⟩:∃x:Pc,x=(g,OI fm.2.2.1 (Wh l ch st en) ch,a1R g):=⟨_,rfl⟩;have O:x.1=g:=by rw[L]);(have i:x.2.1=OI fm.2.2.1 (Wh l ch st en) ch:=by rw[L]);(have Z:x.2.2=a1R g:=by rw[L]);(have h4:=XX (gA t);have z:JD (f++[x])=min (st+sz) h:=by rw[UD,i,F,b];omega);(have A:JB (f++[x])=l.take (min (st+sz) h*ch):=by rw[bX,i,H,d,m,b6b (by omega)]);(have I:a1Y fm 0 (f++[x]):=a4U t ⟨by rw[H0,b,O,i,Z];exact⟨X,Y,m4,m5,rfl⟩,trivial⟩;obtain⟨zC,k1,R,S,T,V,U⟩:=ih (st+sz) (f++[x]) (by omega) z A I (by simp only[lN,B8];omega) (by simp only[lN,B8];omega) (by omega);have ea:f++[x]++zC=f++x::zC:=by simp);(rw[ea]at R S T U V;refine⟨x::zC,⟨hlt,by rw[m];exact i,by rw[i,O];exact N,k1⟩,R,S,T,V,?_⟩;rw[<-U];have q1:zB .i64 ((En (zB .i64 ((st:Int)+(sz:Int))) (h:Int))*(ch:Int))=((en*ch:Nat):Int):=by rw[Al (n:=(st:Int)+(sz:Int)) (by omega),Yq,show min ((st:Int)+(sz:Int)) (h:Int)=(en:Int)from by omega,<-F2,Al (by omega)]);(have q2:zB .i64 ((st:Int)*(ch:Int))=((st*ch:Nat):Int):=by rw[<-F2,Al (by omega)]);(have d1:A3 ((0:Int)<=((en*ch:Nat):Int))=ka:=dE (C2 _);have d2:A3 (((en*ch:Nat):Int)<=((l.length:Nat):Int))=ka:=dE (by omega);have d3:A3 ((0:Int)<=((st*ch:Nat):Int))=ka:=dE (C2 _);have d4:A3 (((st*ch:Nat):Int)<=((en*ch:Nat):Int))=ka:=dE (by omega);have ec:N8 (st*ch) (L8 (en*ch) l)=Wh l ch st en:=rfl;have n0:((0:Int) != 0)=kb:=rfl;have w1:zB .i64 ((((Du f).length:Nat):Int)+(((a1R g).length:Nat):Int))=(((Du (f++[x])).length:Nat):Int):=by rw[XS,lN,Z,Al (by omega)];omega);(have w2:zB .i64 ((st:Int)+(sz:Int))=((st+sz:Nat):Int):=by rw[Al (by omega)];omega);refine Ag ?_;(simp only[FL,Bp hlt,cT,e,q1,q2,d1,d2,d3,d4,B6,tN,ec,G,oB,n0,cF,m1,r,b9F];erw[M];simp only[oB,Sv,C6,AN (show f.length+1<2147483648 by omega),cT,w1,w2];simp only[Kg,bX,mK,pA,E6,List.map_nil,O,i,H0,b];rfl;have D:min st h=h:=by omega);(have y:A3 ((st:Int)<(h:Int))=kb:=by simp;omega);rw[D]at b d;refine⟨[],by simp only[b9D];omega,by simpa using t,by simpa using b,by rw[D8,d,<-v,E3],by simpa using a,?_⟩;rw[D8];exact Ad (by simp only[FL,y,cF])
theorem b0p{fm:AA}(m:Qj fm){ch:Nat}(a:fm.2.1=(ch:Int)){l:LI}{n:Nat}(w:1<=n/\n<=4096)(p:l.length=n*ch)(c:l.all (λx=>Bq x fm.2.2.1)=ka):LW (l,fm)=kc (OI fm.2.2.1 l ch,0):=by
 have k:1<=ch/\ch<=8:=by have:=m.2.2.1;have:=m.2.2.2.1;omega
 have M:l.length<=4096*8:=by rw[p];exact B9 w.2 k.2
 have j:1<=l.length:=by rw[p];exact Nat.mul_pos w.1 k.1
 have B:4<=fm.2.2.1/\fm.2.2.1<=24:=m.2.2.2.2;have u:((ch:Int)==0)=kb:=by simp;omega
 have h:=AD (f:=HR) (λi=>(l,(i:Int),Mw,(fm.2.2.1,Ew (l.take i) ch,()),fm,())) l.length (b:=C7 (Mw,OI fm.2.2.1 l ch,())) (λi o=>by
  have t:D9 (i:Int) (ch:Int)=((i%ch:Nat):Int):=rfl;have v:=C1 i k.1;have q:∀d,(Ew d ch).length=ch:=λd=>by simp[Ew]
  have y:A3 ((0:Int)<=((i%ch:Nat):Int))=ka:=dE (C2 _);have C:Bq l[i] fm.2.2.1=ka:=lA.1 c _ (A9 o);have r:(l.take i).length=i:=by rw[List.length_take];omega
  have A:((Ew (l.take i) ch).getD (i%ch) []).length<=32768:=by rw[lD];unfold Ew;rw[M9,List.getElem?_range v];show(YN (l.take i) ch (i%ch)).length<=32768;unfold YN;rw[C6];exact Nat.le_trans (List.length_filter_le _ _) (by rw[List.length_range];omega)
  have g:=b0g (l.take i) l[i] k.1;rw[r]at g;simp only[HR,Bp o,cT,Ac o,oB,KR B,C,bT,cF,a,u,t,y,J8,q,Bp v,B6,tN,AN (show((Ew (l.take i) ch).getD (i%ch) []).length+1<2147483648 by omega),beq_self_eq_true,Bool.and_true,Aa (show i<1000000 by omega)];erw[g];rw[D5 o]) (by
  simp only[HR,b0u,cF,E3];rfl)
 have z:Ew ([]:List Int) ch=A8 ch []:=by(refine G3 (by simp[Ew]) λi K L=>?_);simp[Ew,YN]
 have D:(((l.length:Nat):Int)==0)=kb:=by simp;intro e;subst e;simp at j
 have E:D9 ((l.length:Nat):Int) (ch:Int)=0:=by show(((l.length%ch:Nat)):Int)=0;rw[p,Nat.mul_mod_left];rfl
 have F:zB .i64 (D1 ((l.length:Nat):Int) (ch:Int))=(n:Int):=by rw[show D1 ((l.length:Nat):Int) (ch:Int)=((l.length / ch:Nat):Int)from rfl,p,I3 _ k.1,Al (by omega)]
 have G:A3 ((n:Int) > 4096)=kb:=by simp;omega
 have H:A3 ((0:Int)<=(ch:Int))=ka:=by simp
 have I:A3 ((ch:Int)<=(ch:Int))=ka:=by simp
 unfold LW;simp only[Oc,m,decide_true,oB,bT,cF,D,a,u,E,show((0:Int) != 0)=kb from rfl,F,G,H,I,tN,AN (show ch<2147483648 by omega),B6,cT];simp only[N7,z]at h;erw[h];rfl
theorem gB{fm:AA}(j:Qj fm){ch:Nat}(k:fm.2.1=(ch:Int)){l:LI}{g sz:Nat}(m:l.length=g*ch)(t:g<=60)(E:1<=sz/\sz<=4096)(f:l.all (λx=>Bq x fm.2.2.1)=ka){effort:Int}:∀(b:List Pc)(st:Nat)(fs:List Bo),b9D fm l ch sz g effort st b->fs.length<=st->st<=5000->Ah FZ (l,(sz:Int),effort,(g:Int),(st:Int),fs,fm,())=kc (fs++b.map (·.1),fm,())|[],st,fs,h,_,_=>by(have h:g<=st:=h;have z:A3 ((st:Int)<(g:Int))=kb:=by simp;omega);rw[List.map_nil,D8];exact Ad (by simp only[FZ,z,cF])|x::b,st,fs,h,hfs,hst=>by(obtain⟨o,q,r,B⟩:=h;obtain⟨K,L,M,N,O,P⟩:=id j;have C:1<=ch/\ch<=8:=by omega);(obtain⟨en,i⟩:∃en,min (st+sz) g=en:=⟨_,rfl⟩;rw[i]at q;have a:st<en/\en<=g/\en<=st+sz:=by omega);(have e:en*ch<=l.length:=by rw[m];exact C8 _ a.2.1);(have F:st*ch<=en*ch:=C8 _ (by omega);have D:l.length<=60*8:=by rw[m];exact B9 t C.2);(have d:=a4K (st:=st) e;have c:=a4L (ch:=ch) (st:=st) (en:=en) f;have p:=b0p j k (l:=Wh l ch st en) (n:=en-st) (by omega) d c;rw[q]at r;have G:zB .i64 ((En (zB .i64 ((st:Int)+(sz:Int))) (g:Int))*(ch:Int))=((en*ch:Nat):Int):=by rw[Al (n:=(st:Int)+(sz:Int)) (by omega),Yq,show min ((st:Int)+(sz:Int)) (g:Int)=(en:Int)from by omega,<-F2,Al (by omega)]);(have H:zB .i64 ((st:Int)*(ch:Int))=((st*ch:Nat):Int):=by rw[<-F2,Al (by omega)]);(have u:A3 ((0:Int)<=((en*ch:Nat):Int))=ka:=dE (C2 _);have v:A3 (((en*ch:Nat):Int)<=((l.length:Nat):Int))=ka:=dE (by omega);have w:A3 ((0:Int)<=((st*ch:Nat):Int))=ka:=dE (C2 _);have y:A3 (((st*ch:Nat):Int)<=((en*ch:Nat):Int))=ka:=dE (by omega);have A:N8 (st*ch) (L8 (en*ch) l)=Wh l ch st en:=rfl;have I:zB .i64 ((st:Int)+(sz:Int))=((st+sz:Nat):Int):=by rw[Al (by omega)];omega);rw[Ag (s':=(l,(sz:Int),effort,(g:Int),((st+sz:Nat):Int),fs++[x.1],fm,())) (by simp only[FZ,Bp o,cT,k,G,H,u,v,w,y,B6,tN,A,p,oB,r,AN (show fs.length+1<2147483648 by omega)];rw[I];rfl)];rw[gB j k m t E f b (st+sz) (fs++[x.1]) B (by simp only[lN,B8];omega) (by omega)];simp
theorem b0q{fm:AA}:∀{k:List Pc}{st:Nat},a1Y fm st k->∀f∈k.map (·.1),c4B f|[],_,_,f,g=>by simp at g|x::k,st,h,f,g=>by rcases mC.1 g with rfl|g;obtain⟨b,c,d,e,i⟩:=h.1;obtain⟨a,j,-⟩:=Rp c;have:=a.1.2.2.2.1;have:=a.2.2.2.2.2.2.2.1;exact⟨b,by show x.1.2.2.2.2.1.length<=10;omega,by show x.1.2.2.2.1.length<=20;omega⟩;exact b0q h.2 f g
theorem b0r{l:LI}(b:l.length<=10000){fm:AA}(a:4<=fm.2.2.1/\fm.2.2.1<=24)(sz effort h:Int):Ah DZ (l,sz,effort,h,l,(l.length:Int),(0:Int),fm,())=kc (bif l.all (λx=>Bq x fm.2.2.1)then .inl (l,sz,effort,h,fm,())else .inr (6,[],()))/\Ah CD (l,sz,effort,h,(0:Int),fm,())=kc (bif l.all (λx=>Bq x fm.2.2.1)then .inl (l,sz,effort,h,fm,())else .inr (6,[],())):=by constructor;exact AY (f:=DZ) l (λi=>(l,sz,effort,h,l,(l.length:Int),(i:Int),fm,()) ) (λx=>Bq x fm.2.2.1) (λi g k=>by simp only[DZ,Bp g,cT,Ac g,oB,UA a,k,bT,cF,Aa (show i<1000000 by omega)]) (λi g k=>by simp only[DZ,Bp g,cT,Ac g,oB,UA a,k,C3]) (by simp only[DZ,b0u,cF]);exact AY (f:=CD) l (λi=>(l,sz,effort,h,(i:Int),fm,())) (λx=>Bq x fm.2.2.1) (λi g k=>by simp only[CD,Bp g,cT,Ac g,oB,KR a,k,bT,cF,Aa (show i<1000000 by omega)]) (λi g k=>by simp only[CD,Bp g,cT,Ac g,oB,KR a,k,C3]) (by simp only[CD,b0u,cF])
theorem b0s(fm:AA){l:LI}(D:l.length<=60)(sz effort:Int):∃r,Hb (fm,l,sz,effort)=kc r/\Jy (fm,l,sz,effort)=kc r:=by
 unfold Hb Jy;simp only[Kd,Oc,oB];by_cases hf:Qj fm;rotate_left;simp only[hf,decide_false,C3,cT,oB];exact⟨_,rfl,rfl⟩;simp only[hf,decide_true,bT,cF];by_cases s1:sz<1;simp only[s1,decide_true,cT,oB];exact⟨_,rfl,rfl⟩;by_cases s2:sz > 4096;simp only[s1,s2,decide_true,decide_false,cT,cF,oB];exact⟨_,rfl,rfl⟩;by_cases e1:effort<0;simp only[s1,s2,e1,decide_true,decide_false,cT,cF,oB];exact⟨_,rfl,rfl⟩;by_cases e2:effort > 3;simp only[s1,s2,e1,e2,decide_true,decide_false,cT,cF,oB];exact⟨_,rfl,rfl⟩;simp only[s1,s2,e1,e2,decide_false,cF,oB];obtain⟨M,N,O,P,v,w⟩:=id hf;obtain⟨g,k⟩:∃g:Nat,fm.2.1=(g:Int):=⟨fm.2.1.toNat,by omega⟩;obtain⟨z,rfl⟩:∃z:Nat,sz=(z:Int):=⟨sz.toNat,by omega⟩;have m:1<=g/\g<=8:=by omega
 have p:((g:Int)==0)=kb:=by simp;omega
 have z0:((z:Int)==0)=kb:=by simp;omega
 have L:D9 ((l.length:Nat):Int) (g:Int)=((l.length%g:Nat):Int):=rfl;simp only[k,p,cF,L];by_cases hm:l.length%g=0;rotate_left
 have:(((l.length%g:Nat):Int) != 0)=ka:=by simp only[bne_iff_ne,ne_eq];omega
 simp only[this,cT];exact⟨_,rfl,rfl⟩;obtain⟨h,f⟩:∃h,l.length=h*g:=⟨l.length / g,by have:=Nat.div_add_mod l.length g;rw[F3];omega⟩;have d:h<=60:=Nat.le_trans (J4 h m.1) (f▸D);have I:(((l.length%g:Nat):Int) != 0)=kb:=by rw[hm];rfl
 have K:zB .i64 (D1 ((l.length:Nat):Int) (g:Int))=(h:Int):=by
  rw[show D1 ((l.length:Nat):Int) (g:Int)=((l.length / g:Nat):Int)from rfl,f,I3 _ m.1,Al (by omega)]
 have t:A3 ((h:Int) > 4194304)=kb:=by simp;omega
 have u:A3 ((zB .i64 (D1 (zB .i64 ((zB .i64 ((h:Int)+(z:Int)))-(1:Int))) (z:Int))) > (4096:Int))=kb:=by
  rw[Al (n:=(h:Int)+(z:Int)) (by omega),Al (n:=(h:Int)+(z:Int)-1) (by omega),show((h:Int)+(z:Int)-1)=((h+z-1:Nat):Int)from by omega,show D1 ((h+z-1:Nat):Int) (z:Int)=(((h+z-1) / z:Nat):Int)from rfl];have o:(h+z-1) / z<62:=by
   refine G6 ?_
   have:h<=h*z:=J4 _ (by omega)
   have B:h*z<=60*z:=C8 _ d;rw[F3 z 62];omega
  revert o;generalize (h+z-1) / z=q;intro o;rw[Al (by omega)];exact dF (by omega)
 obtain⟨G,H⟩:=b0r (l:=l) (by omega) ⟨v,w⟩ (z:Int) effort (h:Int);simp only[I,cF,K,t,z0,u,oB];erw[G,H];cases hfit:l.all (λx=>Bq x fm.2.2.1)with
 |false=>exact⟨_,rfl,rfl⟩
 |true=>
  obtain⟨b,y,a,i,-,A,j⟩:=b6l hf k f d (sz:=z) (by omega) hfit (effort:=effort) (by omega) (by omega) 60 0 [] (by omega) (by simp[JD]) (by simp[JB]) trivial (by simp) (by simp) (by omega);rw[C4]at a i A j;have F:=gB hf k f d (sz:=z) (by omega) hfit (effort:=effort) b 0 [] y (by simp) (by omega);have C:b9F fm h b=Wm fm b:=by unfold b9F Wm;rw[i]
  have E:=b2O hf (gA a) (by omega);have e:=mT hf (gA a) (by omega);have c:=b6f hf (gA a) (by omega) (b0q a);refine⟨(a1M fm b,0),?_,?_⟩;simp only[cT,oB];erw[j];simp only[oB,C,E];simp only[cT,oB];erw[F];simp only[oB,C4,e];erw[c];rfl
theorem jO(x:AA×(List Int×(Int×Int))):Mp x=kc ka:=by
 obtain⟨g,l,a,h⟩:=x;unfold Mp;simp only[c1Q,oB,bT,cF];by_cases hl:l.length<=60;rotate_left
 have:A3 (((l.length:Nat):Int) > 60)=ka:=by simp only[dT];omega
 simp only[this,cT]
 have:A3 (((l.length:Nat):Int) > 60)=kb:=by simp only[decide_eq_false_iff_not];omega
 obtain⟨r,f,k⟩:=b0s g hl a h;simp only[this,cF,f,k,oB,b5W,cT,beq_self_eq_true]
end Go.Ab
namespace Go.Proofs.YtkikcohfbelmeaaGreatDoor
open Go.Ab Go.ChangeShapes Go.WideShapes Go.ChangeAt Go.RowKit
theorem gC{α:Type}{f:Nat->Option (α×CI×List Nat)}:∀(L:List α)(i:Nat),(∀(j:Nat) x,L[j]?=kc x->f (i+j)=kc (x,[],[]))->Ak f L.length i=kc (L,[],[])|[],_,_=>rfl|a::L,i,h=>by have g:=h 0 a rfl;have k:=gC L (i+1) (λj x b=>by have:=h (j+1) x (by simpa using b);rw[<-this];congr 1;omega);simp only[lC,Ak];simp only[J1]at g;rw[g,k];rfl
section
variable {H:Type} {enc:TypeId×Value->H} {P:Program} {w:World} {base:Nat} {spare:Nat->Bool} {held:Bool}
theorem a3t{k:IntKind}{n:Nat}{t e:TypeId}{fuel:Nat}{cs:List Value}{L:List Int}{p:List MemPlace}(C:P.underlying t=kc (.array n e))(v:P.underlying e=kc (.int k))(u:P.cellsOf e=1) (h:DataW.trod enc P w base spare held fuel t cs=kc (.agg (L.map λi=>.lit (.int k i)),p)):L.length=n/\∀(j:Nat) x,L[j]?=kc x->cs[j]?=kc (.int k x):=by(obtain⟨D,m,rfl,b,-,B,a⟩:=DataW.trod_array C h;simp only[pJ,DataW.agg.injEq]at b;have A:L.length=n:=by rw[<-B];simpa using cG E2 b.1);refine⟨A,λj x c=>?_⟩;obtain⟨z,-⟩:=lS.1 c;have g:=a j (by omega);rw[u]at g;obtain⟨y,d⟩:∃y,D[j]?=kc y:=⟨_,lG (by omega)⟩;rw[d]at g;obtain⟨i,o,q,-⟩:=DataW.trod_int v g;have f:=cG (λl=>l[j]?) b.1;simp only[M9,c,d,Option.map_some,q]at f;simp only[sj,DataW.lit.injEq,Lit.int.injEq,true_and]at f;subst f;have r:=cG (λl=>l[0]?) o;simpa[L5,List.getElem?_take]using r
end
def b3Y : String := (Rows.trackEncodesRow.laid.map Prod.fst).headD ""
theorem d4e:Tryz.prog.globalNamed b3Y=kc 2:=by kernel_rfl
def c4D:TypeId:=((Tryz.prog.globals[2]?).map (·.type)).getD 0
theorem c1R:(Tryz.prog.globals[2]?).map (·.type)=kc c4D:=by kernel_rfl
def c4E:TypeId:=match Tryz.prog.underlying c4D with|some (.array _ e)=>e|_=>0
theorem d4f:Tryz.prog.underlying c4D=kc (.array 64 c4E):=by kernel_rfl
theorem c9h:Tryz.prog.underlying c4E=kc (.int .u8):=by kernel_rfl
theorem c9i:Tryz.prog.cellsOf c4E=1:=by kernel_rfl
@[reducible] def laidTab:List (String×DataW Unit):=[(b3Y,Rows.laid_math_bits_deBruijn64tab)]

theorem c4F {g:Nat} {t:Ty} {x:t.sK} (h:G0 g=kc ⟨t,x⟩):g=2/\(⟨t,x⟩:(t:Ty)×t.sK)=⟨.arr 64 (.int .u8),YU⟩:=by by_cases e:g=2;subst e;exact⟨rfl,(Option.some.inj h).symm⟩;(have e2:(2==g)=kb:=by rw[beq_eq_false_iff_ne];exact λh=>e h.symm);unfold G0 find at h;rw[e2]at h;exact absurd h (by simp[find])
theorem a6Z{W:World}(h:laidMetH Tryz.prog laidTab W):∀g t x,G0 g=kc ⟨t,x⟩->g<W.heap.size/\AL (Af W kd) t ((Src.at g 0).rd (Af W kd))=kc (x,[],[]):=by(rw[MakeChecks.laidMetH_plain _ _ _ (by kernel_rfl)]at h;obtain⟨ps,⟨r,y,m,q,v,w,b,c,d,a,_⟩,_,_⟩:=h;obtain rfl:=Option.some.inj (d4e.symm.trans b);obtain rfl:=Option.some.inj (c1R.symm.trans c);have n:(Rows.laid_math_bits_deBruijn64tab:DataW Unit)=.agg (YU.map λi=>.lit (.int .u8 i)):=rfl;rw[n]at a;obtain⟨u,p⟩:=a3t d4f c9h c9i a;have k:∀(j:Nat) x,YU[j]?=kc x->W.cell? ⟨2,j,kd⟩=kc (.int .u8 x):=λj x l=>by rw[World.var?_cell b d j];simpa using p j x l);intro g t x o;obtain⟨rfl,e⟩:=c4F o;cases e;refine⟨b3o (k 0 0 rfl),?_⟩;exact gC (f:=λi=>AL (Af W kd) (.int .u8) λj=>(Src.at 2 0).rd (Af W kd) (i*1+j)) YU 0 (λj x l=>by have:=k j x l;simp only[AL,Src.rd,Af,H0,Nat.mul_one,J1,this,if_true])
set_option maxRecDepth 100000 in
theorem b9G (os:Os) (args:Array Value):laidMetH Tryz.prog laidTab ((World.doorLaid Tryz.prog 400 os).forCall (λ_ _=>0) ⟨#[],args,[]⟩).memory:=laidMetH_of_parts3 (fuel:=8) (laidMet_of_run' 8 (by kernel_rfl) (by kernel_rfl)) (by kernel_rfl) (by kernel_rfl)
end Go.Proofs.YtkikcohfbelmeaaGreatDoor
