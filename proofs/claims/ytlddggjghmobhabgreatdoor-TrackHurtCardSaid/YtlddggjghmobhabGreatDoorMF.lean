/- Part of the proof: QRB. Conditions: as each statement tells. -/
import Derived.Test.YtlddggjghmobhabGreatDoorRows
import Derived.ProofKit
import Derived.LaidMore
import Derived.LaidLaws
import Derived.LaidHandle
import Derived.LaidByTextLater
import Derived.Handed
import Derived.Test.YtlddggjghmobhabGreatDoorME
noncomputable section
set_option linter.unusedSimpArgs false
set_option linter.unusedVariables false
open BitVec renaming ofInt->A4,toNat_ofInt->B8,xor_assoc->C1,eq_of_getLsbD_eq->E9,getLsbD_ushiftRight->G4,toNat_and->I3,eq_of_toNat_eq->I8,getLsbD_ofNat->J0,toNat_ofNat->K3,msb_eq_getLsbD_last->K8,xor_comm->L3,getLsbD->L9,toNat_or->P2,xor_self->P4,xor_zero->P5,ofNat->P8,toNat->P9
open Bool renaming and_self->B3,true_and->E5,not_false->G9,not_eq_true'->N7,eq_false_iff->N9
open Decidable renaming decide->A3
open Int renaming eq_ofNat_of_zero_le->A7,natCast_nonneg->B7,toNat_of_nonneg->C4,tdiv->C6,tmod->D3,cast_ofNat_Int->E3,toNat->E8,fdiv_eq_ediv_of_nonneg->G3,natCast_mul->J2,tmod_eq_emod_of_nonneg->K4,tdiv_eq_ediv_of_nonneg->K5,natCast_add->L1,emod_emod_of_dvd->M6,emod_eq_of_lt->N6
open List renaming replicate->A6,length->A8,nil_append->A9,length_nil->B4,range->B9,getElem_mem->C0,append_eq->C2,all_cons->C7,length_map->C8,foldl_append->C9,flatMap_cons->D0,length_take->D2,not_mem_nil->D4,length_drop->D5,map_cons->D8,map_congr_left->E1,take->E2,drop->E4,take_length->E7,append_nil->F2,map_map->F6,mem_of_mem_take->F7,mem_flatMap->F8,cons_append->F9,flatMap_append->G5,range_succ->G6,length_eq_zero_iff->G7,mem_map->G8,mem_range->H0,range_add->H1,flatMap_map->H2,length_singleton->I0,ext_getElem->I4,take_append_drop->I7,mem_of_mem_drop->I9,drop_append_of_le_length->J1,foldl_cons->J3,take_append_of_le_length->J4,getElem?_drop->J9,filter_append->K0,getElem?_append_right->K6,drop_eq_getElem_cons->K9,eq_nil_or_concat->L5,concat_eq_append->L6,eq_replicate_iff->L8,mem_iff_getElem->M9,sum_cons->N1,getD_cons_succ->N2,getElem?_map->O6,append->P0,append_cons->P1,take_left->P6,getD->P7
open Nat renaming mul_le_mul_right->B6,mod_lt->C3,lt_trans->C5,mul_le_mul->D1,pow_le_pow_right->D6,mod_eq_of_lt->E6,and_two_pow_sub_one_eq_mod->F0,two_pow_pos->F1,le_refl->F4,two_pow_add_eq_or_of_lt->F5,add_assoc->I5,div_lt_iff_lt_mul->I6,pow_succ->J5,mul_comm->J6,le_of_lt->J7,zero_add->J8,mul_div_cancel->K1,mul_mod->K7,min_eq_left->L0,testBit_lt_two_pow->L4,add_mul->L7,le_sub_one_of_lt->M7,div_lt_of_lt_mul->M8,pos_of_ne_zero->N3,eq_zero_or_pos->N4,add_zero->N5,add_mod_right->N8,lt_succ_of_lt->O7,div_add_mod'->O8,div_le_self->P3
open Option renaming bind_eq_some_iff->D7,none->O9
open Sum renaming inl->D9,inr->F3
namespace Go.Ab
open IntKind renaming wrap->zD
def pU(n:Nat)(x:Int):Prop:=-((2^n:Nat):Int)<=2*x/\2*x<((2^n:Nat):Int)
theorem rV{n:Nat}(f:n<=62)(x:Int):∃v:Nat,Br x n=(v:Int)/\v<2^n/\(v:Int)=x%((2^n:Nat):Int):=by
 have k:zD .u64 x=x%18446744073709551616:=by rfl
 obtain⟨y,h⟩:∃y:Nat,x%18446744073709551616=(y:Int):=A7 (Int.emod_nonneg _ (by simp));have g:y<18446744073709551616:=by omega
 refine⟨y%2^n,?_,C3 _ (F1 n),?_⟩;simp_all[Br,Yt];rw[Int.natCast_emod,<-h];refine M6 x ?_
 have:(2:Nat)^n ∣ 2^64:=Nat.pow_dvd_pow 2 (by omega)
 exact Int.natCast_dvd_natCast.2 this
theorem b0K{n:Nat}(q:n<=62){x:Int}(u:pU n x){P R:LI}(c:CI (P++(pb (Br x n) n++R)))(g:(P++(pb (Br x n) n++R)).length<200000000):
  Bg (Dm P (pb (Br x n) n++R),(n:Int))=some (x,Dm (P++pb (Br x n) n) R):=by
 obtain⟨v,z,b,f⟩:=rV q x;rw[z]at c g|-;have a:=b3R q b c g;obtain⟨i,j⟩:=u;have B:=F1 n;have o:(v:Int)=x/\0<=x\/(v:Int)=x+((2^n:Nat):Int)/\x<0:=by
  by_cases h0:0<=x;exact .inl ⟨by rw[f];exact N6 h0 (by omega),h0⟩;refine .inr ⟨?_,by omega⟩;rw[f,<-Int.add_emod_right];exact N6 (by omega) (by omega)
 unfold Bg;simp[a];rw[show(Dm (P++pb (v:Int) n) R).2.2.1=0 from rfl]
 simp
 cases n with
 |zero=>
  grind
 |succ k=>
  have l:(((k+1:Nat):Int)==0)=false:=by rfl
  have t:zD .i64 ((64:Int)-((k+1:Nat):Int))=((64-(k+1):Nat):Int):=by grind[Ae]
  have r:A3 (((64-(k+1):Nat):Int)<0)=false:=by simp
  simp only[l,cF,t,r];have p:64-(k+1)+(k+1)=64:=by omega
  generalize 64-(k+1)=m at p|-;have y:2^m*2^(k+1)=18446744073709551616:=by rw[<-Nat.pow_add,p]
  have d:((2^m:Nat):Int)*((2^(k+1):Nat):Int)=18446744073709551616:=by omega
  have w:=F1 m;have A:AT .u64 (v:Int) (m:Int)=(v:Int)*((2^m:Nat):Int):=by
   show zD .u64 ((v:Int)*2^(min (m:Int).toNat 64))=_;rw[tN,L0 (by omega)];have e:(2:Int)^m=((2^m:Nat):Int):=by simp
   rw[e];refine Aw ⟨Int.mul_nonneg (by omega) (by omega),?_⟩
   have:v*2^m<2^(k+1)*2^m:=Nat.mul_lt_mul_of_pos_right b w
   grind
  have b1:-9223372036854775808<=x*((2^m:Nat):Int):=by
   have:=Int.mul_le_mul_of_nonneg_right i (show(0:Int)<=((2^m:Nat):Int)by omega)
   grind
  have b2:x*((2^m:Nat):Int)<9223372036854775808:=by
   have:=Int.mul_lt_mul_of_pos_right j (show(0:Int)<((2^m:Nat):Int)by omega)
   grind
  have D:zD .i64 ((v:Int)*((2^m:Nat):Int))=x*((2^m:Nat):Int):=by
   rcases o with⟨h,-⟩|⟨h,-⟩;grind[Ae];rw[h,Int.add_mul,Int.mul_comm ((2^(k+1):Nat):Int),d];grind[zD,IntKind.bits,IntKind.signed]
  have C:AR .i64 (x*((2^m:Nat):Int)) (m:Int)=x:=by
   show Int.fdiv (x*((2^m:Nat):Int)) (2^(min (m:Int).toNat 64))=x;rw[tN,L0 (by omega)];grind[Int.mul_ediv_cancel]
  simp_all
theorem a7F(P:LI)(n:Nat)(R:LI){c:Nat}(h:c<n):(P++(A6 n 0++1::R)).getD (P.length+c) 0=0:=by
 grind
theorem b3S(P:LI)(n:Nat)(R:LI):(P++(A6 n 0++1::R)).getD (P.length+n) 0=1:=by
 simp
theorem b0L{n lm:Nat}(z:n<=lm)(u:lm<1000000){P R:LI}(o:CI (P++(A6 n 0++1::R)))(p:(P++(A6 n 0++1::R)).length<200000000):
  Ec (Dm P (A6 n 0++1::R),(lm:Int))=some ((n:Int),Dm (P++(A6 n 0++[1])) R):=by
 obtain⟨-,r⟩:=GK (P++(A6 n 0++1::R));have t:(P++(A6 n 0++1::R)).length=P.length+n+1+R.length:=by grind
 have e8:zD .i64 ((8:Int)*(((wL (P++(A6 n 0++1::R))).1.length:Nat):Int))=(8:Int)*(((wL (P++(A6 n 0++1::R))).1.length:Nat):Int):=Ae (by omega);have g:∀c,c<=n->Ca (Dm P (A6 n 0++1::R),((P.length:Int)+(c:Int)))=some (if c=n then 1 else 0,Dm P (A6 n 0++1::R)):=fun c l=>by
  have:=a2h o (by omega) (i:=P.length+c) (by omega) ((P.length:Int),(0:Int),())
  rw[L1]at this;refine this.trans ?_
  by_cases e:c=n;subst e;rw[b3S,if_pos rfl];rfl;rw[a7F P n R (by omega),if_neg e];rfl
 have h:∀c:Nat,c<=n->(((P.length:Int)+(c:Int))==(8:Int)*(((wL (P++(A6 n 0++1::R))).1.length:Nat):Int))=false:=fun c l=>by
  grind
 have j:zD .i64 ((P.length:Int)+(n:Int)+1)=(((P++(A6 n 0++[1])).length:Nat):Int):=by
  rw[Ae (by omega)];grind
 have a:P++(A6 n 0++1::R)=(P++(A6 n 0++[1]))++R:=by simp
 have w:((Dm P (A6 n 0++1::R)).1,(((P++(A6 n 0++[1])).length:Nat):Int),(Dm P (A6 n 0++1::R)).2.2)=Dm (P++(A6 n 0++[1])) R:=by
  unfold Dm;simp
 have k:(Dm P (A6 n 0++1::R)).1=(wL (P++(A6 n 0++1::R))).1:=rfl;have m:=Bz (f:=Ei) (fun c:Nat=>((lm:Int),(c:Int),(P.length:Int)+(c:Int),Dm P (A6 n 0++1::R),())) n (b:=((n:Int),Dm (P++(A6 n 0++[1])) R,()))
  (fun c l=>by
   have d:((0:Int)==1)=false:=rfl;have q:(((c:Nat):Int)==(lm:Int))=false:=by grind
   have x:zD .i64 ((c:Int)+1)=((c+1:Nat):Int):=Aa (by omega);have y:zD .i64 ((P.length:Int)+(c:Int)+1)=(P.length:Int)+((c+1:Nat):Int):=by rw[Ae (by omega)];rfl
   simp only[Ei,k,e8,h c (by omega),cF,g c (by omega),oB,if_neg (Nat.ne_of_lt l),d,q,x,y])
  (by
   have d:((1:Int)==1)=true:=rfl;simp only[Ei,k,e8,h n (F4 _),cF,g n (F4 _),oB,if_pos rfl,d,cT,j];grind)
 unfold Ec;rw[show(Dm P (A6 n 0++1::R)).2.2.1=0 from rfl,show(Dm P (A6 n 0++1::R)).2.1=(P.length:Int)from rfl];have v:EA (lm:Int) 0=(lm:Int):=by
  rfl
 grind
def fX(P R:List Int):Prop:=CI (P++R)/\(P++R).length<200000000
theorem fX.shift{P A R:LI}(h:fX P (A++R)):fX (P++A) R:=by
 unfold fX at h|-;simp_all
theorem IZ{v n:Nat}(g:n<=62)(hv:v<2^n){P R:LI}(h:fX P (pb (v:Int) n++R)):Ao (Dm P (pb (v:Int) n++R),(n:Int))=some ((v:Int),Dm (P++pb (v:Int) n) R):=b3R g hv h.1 h.2
theorem Pf{n:Nat}(f:n<=62){x:Int}(g:pU n x){P R:LI}(h:fX P (pb (Br x n) n++R)):Bg (Dm P (pb (Br x n) n++R),(n:Int))=some (x,Dm (P++pb (Br x n) n) R):=b0K f g h.1 h.2
def b4S(n:Nat):List Int:=A6 n 0++[1]
theorem a4Y{n lm:Nat}(f:n<=lm)(g:lm<1000000){P R:LI}(h:fX P (b4S n++R)):Ec (Dm P (b4S n++R),(lm:Int))=some ((n:Int),Dm (P++b4S n) R):=by
 have e:b4S n++R=A6 n 0++1::R:=by simp[b4S]
 rw[e]at h|-;exact b0L f g h.1 h.2
theorem Ja{v n:Nat}(h:n<=63)(hv:v<2^n)(L:LI):AK (v:Int) n L=L++pb (v:Int) n:=by
 grind[AK,GL,Nat.div_eq_of_lt]
def TD(k:Nat)(x:Int):List Int:=
 if AN x / 2^k<32 then b4S (AN x / 2^k)++pb ((AN x%2^k:Nat):Int) k else b4S 32++pb ((AN x:Nat):Int) 32
theorem b0M{k:Nat}(f:k<=25){x:Int}(g:Af x=true)(L:LI):MK k x L=L++TD k x:=by
 have h:=MB g;unfold MK TD;split;rw[Ja (by omega) (C3 _ (F1 k))];simp[nH,b4S];grind[Ja,nH,b4S]
theorem b0N{x:Int}(f:Af x=true):Kb ((AN x:Nat):Int)=some x:=by
 have b:=MB f;have d:=CD.1 f;have c:D3 ((AN x:Nat):Int) 2=((AN x:Nat):Int)%2:=K4 (by omega);have a:C6 ((AN x:Nat):Int) 2=((AN x:Nat):Int) / 2:=K5 (by omega);have k:A3 (((AN x:Nat):Int)>=2147483648)=false:=by grind
 unfold Kb;simp only[k,cF,c,a];by_cases h0:0<=x;have e:((AN x:Nat):Int)=2*x:=by unfold AN;grind
 rw[e];have h:((2*x)%2==(0:Int))=true:=by simp
 have g:2*x / 2=x:=by omega
 simp only[h,cT,g];grind[Aw,Ae];have e:((AN x:Nat):Int)=-2*x-1:=by unfold AN;grind
 rw[e];have h:((-2*x-1)%2==(0:Int))=false:=by grind
 have g:(-2*x-1) / 2=-x-1:=by omega
 simp only[h,cF,g];grind[Aw,Ae]
theorem a4Z{k:Nat}(r:k<=25){x:Int}(c:Af x=true){P R:LI}(h:fX P (TD k x++R)):Sz (Dm P (TD k x++R),(k:Int))=some (x,(0:Int),Dm (P++TD k x) R):=by
 have m:=MB c;have b:=b0N c;unfold Sz AB;unfold TD at h|-;have t:∀A B:List Int,(Dm A B).2.2.1=0:=fun _ _=>rfl;split;rename_i g;rw[if_pos g,aA]at h;have j:=a4Y (n:=AN x / 2^k) (lm:=32) (by omega) (by omega) h;have l:=IZ (n:=k) (v:=AN x%2^k) (by omega) (C3 _ (F1 k)) h.shift;have i:zD .u64 ((AN x / 2^k:Nat):Int)=((AN x / 2^k:Nat):Int):=GM (by omega);have d:A3 (((AN x / 2^k:Nat):Int)<32)=true:=by grind
 have e:A3 ((k:Int)<0)=false:=by simp
 have f:AN x / 2^k*2^k<=AN x:=Nat.div_mul_le_self _ _;have o:AT .u64 ((AN x / 2^k:Nat):Int) (k:Int)=((AN x / 2^k*2^k:Nat):Int):=RK (by omega) (by omega);have a:zD .u64 (((AN x / 2^k*2^k:Nat):Int)+((AN x%2^k:Nat):Int))=((AN x:Nat):Int):=by
  rw[<-L1,O8,Aw (by omega)]
 grind;rename_i g;rw[if_neg g,aA]at h;have j:=a4Y (n:=32) (lm:=32) (by omega) (by omega) h;have l:=IZ (n:=32) (v:=AN x) (by omega) (by omega) h.shift;have i:zD .u64 (32:Int)=32:=Aw (by omega);have d:A3 ((32:Int)<32)=false:=by simp
 have e:A3 ((k:Int)<0)=false:=by simp
 have q:A3 (((AN x:Nat):Int)>=2147483648)=false:=by grind
 have p:AR .u64 ((AN x:Nat):Int) (k:Int)=((AN x / 2^k:Nat):Int):=GL (by omega);grind
def Jb(k:Nat)(l:List Int):List Int:=l.flatMap (TD k)
theorem lU{k:Nat}(g:k<=25):∀(l L:LI),l.all Af=true->HZ k l L=L++Jb k l
 | [],L,_=>by simp[HZ,Jb]
 |x::l,L,h=>by
  simp only[C7,EV]at h;show HZ k l (MK k x L)=_;rw[lU g l _ h.2,b0M g h.1];simp[Jb]
theorem Wn{k:Nat}(g:k<=25){N:Nat}(a:N<1000000):∀(l zF P R:LI),l.all Af=true->zF.length+l.length=N->fX P (Jb k l++R)->
  Al Ng ((k:Int),(N:Int),(zF.length:Int),zF,Dm P (Jb k l++R),())=some (D9 (zF++l,Dm (P++Jb k l) R,()))
 | [],zF,P,R,_,f,_=>by
  have:zF.length=N:=by omega
  subst this;have d:A3 ((zF.length:Int)<(zF.length:Int))=false:=by simp
  simp_all[Ag,Ng,Jb]
 |x::l,zF,P,R,h,f,hok=>by
  simp only[C7,EV]at h;rw[lC]at f;have e:Jb k (x::l)++R=TD k x++(Jb k l++R):=by simp[Jb]
  rw[e]at hok|-;have d:A3 ((zF.length:Int)<(N:Int))=true:=by grind
  have c:=a4Z g h.1 hok;have b:Bp (A8 zF+1)=true:=AW (by omega);have i:zD .i64 ((zF.length:Int)+1)=(((zF++[x]).length:Nat):Int):=by grind[Ae]
  rw[Ai (s':=((k:Int),(N:Int),(((zF++[x]).length:Nat):Int),zF++[x],Dm (P++TD k x) (Jb k l++R),())) (by
   simp_all[Ng])]
  rw[Wn g a l (zF++[x]) (P++TD k x) R h.2 (by grind) hok.shift];simp[Jb]
theorem a5a{k:Nat}(a:k<=25){l P R:LI}(h:l.all Af=true)(b:l.length<1000000)(f:fX P (Jb k l++R)):
  SA (Dm P (Jb k l++R),(k:Int),((l.length:Nat):Int))=some (l,(0:Int),Dm (P++Jb k l) R):=by
 have e:Cz (k:Int)=some true:=by
  grind[Cz]
 have c:A3 (((l.length:Nat):Int)<0)=false:=by simp
 have d:A3 (((l.length:Nat):Int) > 4194304)=false:=by grind
 have i:∀A B:List Int,(Dm A B).2.2.1=0:=fun _ _=>rfl;have g:=Wn a b l [] P R h (by simp) f;simp at g;unfold SA AB;grind
theorem b3T{x:Int}{v:Nat}(h:a4T x v=true):pU v x:=by
 have a:=F1 v;rcases gG.1 h with rfl|⟨g,-,f,k⟩;exact⟨by omega,by omega⟩;have e:2^v=2^(v-1)*2:=by rw[<-J5];simp_all
 unfold pU;omega
theorem Xi{l:LI}(h:l.all Af=true):∀x∈l,pU (Ar l) x:=fun x g=>b3T (a4U h x g)
def sB(n:Nat)(l:List Int):List Int:=l.flatMap fun x=>pb (Br x n) n
theorem Pg{n:Nat}(g:n<=62):∀(l L:LI),Dh n l L=L++sB n l
 | [],L=>by simp[Dh,sB]
 |x::l,L=>by
  show Dh n l (AK (Br x n) n L)=_;obtain⟨v,f,h,-⟩:=rV g x;rw[Pg g l,f,Ja (by omega) h,<-f];simp[sB]
theorem a2i(n:Nat)(x:Int)(l R:LI):sB n (x::l)++R=pb (Br x n) n++(sB n l++R):=by simp[sB]
theorem UQ{k:Int}{n:Nat}(f:n<=62){N:Nat}(a:N<1000000):∀(l zF P R:LI),(∀x∈l,pU n x)->zF.length+l.length=N->fX P (sB n l++R)->
  Al LY (k,(n:Int),(N:Int),(zF.length:Int),zF,Dm P (sB n l++R),())=some (k,(n:Int),zF++l,Dm (P++sB n l) R,())
 | [],zF,P,R,_,g,_=>by
  have:zF.length=N:=by omega
  subst this;have d:A3 ((zF.length:Int)<(zF.length:Int))=false:=by simp
  simp_all[Ag,LY,sB]
 |x::l,zF,P,R,h,g,hok=>by
  rw[lC]at g;rw[a2i]at hok|-;have d:A3 ((zF.length:Int)<(N:Int))=true:=by grind
  have c:=Pf f (h x (by simp)) hok;have b:Bp (A8 zF+1)=true:=AW (by omega);have e:zD .i64 ((zF.length:Int)+1)=(((zF++[x]).length:Nat):Int):=by grind[Ae]
  rw[Ai (s':=(k,(n:Int),(N:Int),(((zF++[x]).length:Nat):Int),zF++[x],Dm (P++pb (Br x n) n) (sB n l++R),())) (by
   simp_all[LY])]
  rw[UQ f a l (zF++[x]) _ R (fun y i=>h y (by grind)) (by grind) hok.shift];simp[sB]
def UR(k:Int)(part:List Int):List Int:=if k=31 then pb 31 5++(pb ((Ar part:Nat):Int) 5++sB (Ar part) part)else pb k 5++Jb k.toNat part
theorem b0O{k:Int}(h:kB k=true){part:LI}(g:part.all Af=true)(L:LI):PI k part L=L++UR k part:=by
 have f:=Dj g;simp[kB]at h;obtain⟨K,rfl⟩:=A7 (show 0<=k by omega);grind[PI,UR,GM,Ja,Pg,lU]
theorem a2j{k:Int}(o:kB k=true){part:LI}(c:part.all Af=true)(b:part.length<1000000){P R:LI}(h:fX P (UR k part++R)):
  Qb (Dm P (UR k part++R),((part.length:Nat):Int))=some (k,part,(0:Int),Dm (P++UR k part) R):=by
 have p:=Dj c;have e:∀A B:List Int,(Dm A B).2.2.1=0:=fun _ _=>rfl;simp[kB]at o;obtain⟨K,rfl⟩:=A7 (show 0<=k by omega);unfold Qb AB;unfold UR at h|-;split;rename_i f;rw[if_pos f,aA,aA]at h;rw[aA,aA];obtain rfl:K=31:=by omega
 have d:Ao (Dm P (pb 31 5++(pb ((Ar part:Nat):Int) 5++(sB (Ar part) part++R))),(5:Int))=_:=IZ (v:=31) (n:=5) (by omega) (by omega) h;have g:=h.shift;have l:Ao (Dm (P++pb 31 5) (pb ((Ar part:Nat):Int) 5++(sB (Ar part) part++R)),(5:Int))=_:=IZ (v:=Ar part) (n:=5) (by omega) (by omega) g;have a:=UQ (k:=31) (n:=Ar part) (by omega) b part [] _ R (Xi c) (by simp) g.shift;simp only[B4,nZ,A9,E3]at a;have i:zD .i64 ((31:Nat):Int)=31:=by rfl
 have q:zD .i64 ((Ar part:Nat):Int)=((Ar part:Nat):Int):=Ae (by omega);have j:A3 ((31:Int)<=25)=false:=by rfl
 have r:((31:Int) != 31)=false:=by rfl
 rw[d];simp only[oB,e,bne_self_eq_false,cF,i,j];erw[l];simp only[oB,q];erw[a];simp only[oB,e,bne_self_eq_false,cF,Di (show short part from b)]
 simp
 rename_i f;rw[if_neg f,aA]at h;rw[aA];have m:K<=25:=by omega
 have d:Ao (Dm P (pb (K:Int) 5++(Jb ((K:Int).toNat) part++R)),(5:Int))=_:=IZ (v:=K) (n:=5) (by omega) (by omega) h;have t:=a5a m c b h.shift;have i:zD .i64 (K:Int)=(K:Int):=Ae (by omega);simp_all
def DR:List Nat->List Int->List Int->List Int
 |z::zs,k::ks,l=>UR k (l.take z)++DR zs ks (l.drop z)
 |_,_,_=>[]
theorem rW{l:LI}(h:l.all Af=true)(z:Nat):(l.take z).all Af=true:=lA.2 fun x g=>lA.1 h x (F7 g)
theorem rX{l:LI}(h:l.all Af=true)(z:Nat):(l.drop z).all Af=true:=lA.2 fun x g=>lA.1 h x (I9 g)
theorem lV:∀(h:List Nat)(ks l L:LI),ks.all kB=true->l.all Af=true->Ia h ks l L=L++DR h ks l
 |z::h,k::ks,l,L,g,f=>by
  simp only[C7,EV]at g;simp only[Ia,DR];rw[lV h ks _ _ g.2 (rX f z),b0O g.1 (rW f z)]
  simp
 | [],_,_,L,_,_=>by simp[Ia,DR]
 |_::_,[],_,L,_,_=>by simp[Ia,DR]
theorem b0P(h:List Nat)(z:Nat)(g:List Nat):(Cm (h++z::g)).getD h.length 0=(z:Int):=by
 simp_all[Cm]
theorem US{o:Int}{z0:Vq}:∀(g:List Nat)(ks l a f P R:LI)(h:List Nat),ks.length=g.length->ks.all kB=true->g.sum=l.length->l.all Af=true->
  a.length=h.length->(h++g).length<=256->f.length+l.length<=10000->fX P (DR g ks l++R)->
  Al LZ (((Cm (h++g)).length:Int),(h.length:Int),f,Cm (h++g),Dm P (DR g ks l++R),z0,(o,a,()),()) =
   some (D9 (f++l,z0,(o,a++ks,()),Dm (P++DR g ks l) R,()))
 | [],ks,l,a,f,P,R,h,m,_,t,_,_,_,_,_=>by
  obtain rfl:ks=[]:=G7.1 m;obtain rfl:l=[]:=G7.1 (by simp_all);have d:A3 ((h.length:Int)<((Cm (h++[])).length:Int))=false:=by simp[Bq]
  rw[Ag (b:=D9 (f,z0,(o,a,()),Dm P R,())) (by simp only[LZ,d,cF];rfl)];simp[DR]
 |z::g,[],_,_,_,_,_,_,m,_,_,_,_,_,_,_=>by simp_all
 |z::g,k::ks,l,a,f,P,R,h,m,hkb,t,u,x,h256,hacc,hok=>by
  simp only[C7,EV]at hkb;rw[N1]at t;have y:z<=l.length:=by omega
  have n:(l.take z).length=z:=by simp_all
  have e:DR (z::g) (k::ks) l++R=UR k (l.take z)++(DR g ks (l.drop z)++R):=by simp[DR]
  rw[e]at hok|-;have r:(Cm (h++z::g)).length=h.length+1+g.length:=by grind[Bq]
  have d:A3 ((h.length:Int)<((Cm (h++z::g)).length:Int))=true:=by grind
  have v:A3 ((0:Int)<=(h.length:Int))=true:=by simp
  have c:=a2j hkb.1 (rW u z) (by omega) hok;rw[n]at c;have q:((0:Int) != 0)=false:=rfl;rw[lN,lC]at h256;have i:Bp (A8 a+1)=true:=AW (by omega);have j:Bp (A8 f+A8 (l.take z))=true:=AW (by omega);have p:zD .i64 ((h.length:Int)+1)=(((h++[z]).length:Nat):Int):=by grind[Ae]
  have w:h++z::g=(h++[z])++g:=by simp
  rw[Ai (s':=(((Cm ((h++[z])++g)).length:Int),(((h++[z]).length:Nat):Int),f++l.take z,Cm ((h++[z])++g),Dm (P++UR k (l.take z)) (DR g ks (l.drop z)++R),z0,(o,a++[k],()),())) (by
   simp only[LZ,d,v,B3,cT,tN,b0P,c,oB,q,cF,i,j,p,C2]
   simp)]
  rw[US g ks (l.drop z) (a++[k]) (f++l.take z) _ R (h++[z]) (by grind) hkb.2 (by grind) (rX u z) (by grind) (by grind) (by grind) hok.shift];simp[DR]
def Lv(p:Vq)(zn:List Nat)(l:List Int):List Int:=pb p.1 4++DR zn p.2.1 l
theorem pV{p:Vq}{n sH:Int}{l:LI}{g:List Nat}(h:sV p n sH l g)(L:LI):Dt p g l L=L++Lv p g l:=by
 obtain⟨o,k,u⟩:=p;have f:=h.order;simp only at f;obtain⟨O,rfl⟩:=A7 f.1;unfold Dt Lv;simp only;rw[GM (by omega),Ja (n:=4) (by omega) (by omega),lV _ _ _ _ h.all h.wide]
 simp
theorem a2k{p:Vq}{n sH:Int}{l:LI}{k:List Nat}(h:sV p n sH l k){P R:LI}(g:fX P (Lv p k l++R)):
  Qc (Dm P (Lv p k l++R),n,sH)=some (p,l,(0:Int),Dm (P++Lv p k l) R):=by
 obtain⟨o,i,u⟩:=p;have d:=h.order;have r:=h.short;have c:=h.len;simp only at d;obtain⟨O,rfl⟩:=A7 d.1;have m:∀A B:List Int,(Dm A B).2.2.1=0:=fun _ _=>rfl;have f:=h.may;unfold Hu at f;simp only[EV,N7,beq_eq_false_iff_ne]at f;have e:=h.sizes;simp only at e;have b:(((Cm k).length:Int)==0)=false:=by
  grind
 unfold Lv at g|-;simp only at g|-;rw[aA]at g|-;have j:Ao (Dm P (pb (O:Int) 4++(DR k i l++R)),(4:Int))=_:=IZ (v:=O) (n:=4) (by omega) (by omega) g;have q:zD .i64 (O:Int)=(O:Int):=Ae (by omega);have a:=US (o:=(O:Int)) (z0:=((0:Int),([]:List Int),())) k i l [] [] _ R [] h.ks h.all h.sum h.wide rfl (by simp_all) (by grind) g.shift;simp only[B4,nZ,A9,E3]at a;unfold Qc AB;simp[SR,h.row];rw[j];simp[m,q,CY,e,b];simp_all
def Oi(s:BS):List Int:=
 pb ((s.2.2.2.2.2.1.length-1:Nat):Int) 5++(pb s.2.2.2.1 4++(pb ((Ar s.2.2.2.2.2.1:Nat):Int) 5++sB (Ar s.2.2.2.2.2.1) s.2.2.2.2.2.1))
theorem rY{c:LI}{t:Int}(h:Rb c t=true):1<=c.length/\c.length<=32/\0<=t/\t<=15/\c.all Af=true:=by
 simp only[Rb,EV,dT]at h;obtain⟨g,f,k,a,b⟩:=h;refine⟨g,f,k,a,lA.2 fun x d=>?_⟩
 have:=lA.1 b x d
 simp[cW]at this;rw[CD];omega
theorem lW{s:BS}(h:Rb s.2.2.2.2.2.1 s.2.2.2.1=true)(L:LI):IX s L=L++Oi s:=by
 obtain⟨a,b,g,d,f⟩:=rY h;have k:=Dj f;unfold IX Oi;generalize s.2.2.2.2.2.1=c at *;generalize s.2.2.2.1=t at *;obtain⟨T,rfl⟩:=A7 g;grind[Ae,Aw,Pg,Ja]
def a2l(s:BS)(c:List Int):BS:=(s.1,s.2.1,s.2.2.1,s.2.2.2.1,s.2.2.2.2.1,c,s.2.2.2.2.2.2)
def b0Q(s:BS)(t:Int):BS:=(s.1,s.2.1,s.2.2.1,t,s.2.2.2.2)
theorem lX{n:Nat}(f:n<=62){N:Nat}(k:N<1000000)(s:BS):∀(l zF P R:LI),(∀x∈l,pU n x)->zF.length+l.length=N->fX P (sB n l++R)->
  Al Im ((n:Int),(N:Int),(zF.length:Int),Dm P (sB n l++R),a2l s zF,())=some ((n:Int),a2l s (zF++l),Dm (P++sB n l) R,())
 | [],zF,P,R,_,g,_=>by
  have:zF.length=N:=by omega
  subst this;have d:A3 ((zF.length:Int)<(zF.length:Int))=false:=by simp
  simp_all[Ag,Im,sB]
 |x::l,zF,P,R,h,g,hok=>by
  rw[lC]at g;rw[a2i]at hok|-;have d:A3 ((zF.length:Int)<(N:Int))=true:=by grind
  have b:=Pf f (h x (by simp)) hok;have a:Bp (A8 zF+1)=true:=AW (by omega);have c:zD .i64 ((zF.length:Int)+1)=(((zF++[x]).length:Nat):Int):=by grind[Ae]
  rw[Ai (s':=((n:Int),(N:Int),(((zF++[x]).length:Nat):Int),Dm (P++pb (Br x n) n) (sB n l++R),a2l s (zF++[x]),())) (by
   simp_all[Im,a2l])]
  rw[lX f k s l (zF++[x]) _ R (fun y e=>h y (by grind)) (by grind) hok.shift];simp[sB]
theorem dN{s s0:BS}(h:Rb s.2.2.2.2.2.1 s.2.2.2.1=true)(u:s0.2.2.2.2.2.1=[]){P R:LI}(g:fX P (Oi s++R)):
  LX (Dm P (Oi s++R),s0)=some (true,Dm (P++Oi s) R,a2l (b0Q s0 s.2.2.2.1) s.2.2.2.2.2.1):=by
 obtain⟨w,x,l,y,d⟩:=rY h;have m:=Dj d;unfold Oi at g|-;generalize s.2.2.2.2.2.1=c at *;generalize s.2.2.2.1=t at *;obtain⟨T,rfl⟩:=A7 l;simp at g|-;have e:Ao (Dm P (pb ((c.length-1:Nat):Int) 5++(pb (T:Int) 4++(pb ((Ar c:Nat):Int) 5++(sB (Ar c) c++R)))),(5:Int))=_:=IZ (v:=c.length-1) (n:=5) (by omega) (by omega) g;have f:=g.shift;have i:Ao (Dm (P++pb ((c.length-1:Nat):Int) 5) (pb (T:Int) 4++(pb ((Ar c:Nat):Int) 5++(sB (Ar c) c++R))),(4:Int))=_:=IZ (v:=T) (n:=4) (by omega) (by omega) f;have k:=f.shift;have j:Ao (Dm (P++pb ((c.length-1:Nat):Int) 5++pb (T:Int) 4) (pb ((Ar c:Nat):Int) 5++(sB (Ar c) c++R)),(5:Int))=_:=IZ (v:=Ar c) (n:=5) (by omega) (by omega) k;have a:=lX (n:=Ar c) (by omega) (N:=c.length) (by omega) (b0Q s0 (T:Int)) c [] _ R (Xi d) (by simp) k.shift;simp only[B4,nZ,A9,E3]at a;have o:zD .i64 ((c.length-1:Nat):Int)=((c.length-1:Nat):Int):=Ae (by omega);have p:zD .i64 (((c.length-1:Nat):Int)+1)=(c.length:Int):=by grind[Ae]
 have q:zD .i64 (T:Int)=(T:Int):=Ae (by omega);have r:zD .i64 ((Ar c:Nat):Int)=((Ar c:Nat):Int):=Ae (by omega);have b:((s0.1,s0.2.1,s0.2.2.1,(T:Int),s0.2.2.2.2):BS)=a2l (b0Q s0 (T:Int)) []:=by
  grind[a2l,b0Q]
 unfold LX;rw[e]
 simp
 rw[i];simp only[oB];rw[j];simp only[oB,o,p,q,r];erw[b,a];simp only[oB];rw[show(a2l (b0Q s0 (T:Int)) c).2.2.2.2.2.1=c from rfl,Di (show short c by unfold short;omega)]
 simp
def UT(st:List RF):List Int:=st.flatMap fun g=>pb (g.1-1) 5++pb g.2.1 4
theorem dO{g:RF}(h:Ab.tJ g=true):1<=g.1/\g.1<=32/\0<=g.2.1/\g.2.1<=8:=by
 simp_all[Ab.tJ]
theorem dP:∀(st:List RF)(L:LI),st.all Ab.tJ=true->EY st L=L++UT st
 | [],L,_=>by simp[EY,UT]
 |g::st,L,h=>by
  simp only[C7,EV]at h;obtain⟨k,c,f,d⟩:=dO h.1;show EY st (KV g L)=_;rw[dP st _ h.2];obtain⟨a,b,u⟩:=g;simp only at k c f d;obtain⟨B,rfl⟩:=A7 f;obtain⟨A,e⟩:=A7 (show 0<=a-1 by omega);grind[KV,PH,GM,Ja,UT]
def MM(s:BS):List Int:=
 if s.1=2 then pb s.2.2.1 3
 else if s.1=3 then Oi s
 else if s.1=4 then pb (s.2.2.2.2.1-1) 10++(sB 8 s.2.2.2.2.2.2.1++Oi s)
 else if s.1=5 then pb ((s.2.2.2.2.2.2.2.1.length:Nat):Int) 2++UT s.2.2.2.2.2.2.2.1
 else[]
theorem rZ{s:BS}{n:Int}(h:LA s.1 s n)(L:LI):CJ s L=L++MM s:=by
 unfold CJ MM;rcases h with k|k|⟨k,g,f,-⟩|⟨k,g,-⟩|⟨k,g,-,a⟩|⟨k,g,f⟩;grind;grind;rw[if_pos k,if_pos k];grind[A7,GM,Ja];simp_all[lW];rw[if_neg (by omega),if_neg (by omega),if_pos k,if_neg (by omega),if_neg (by omega),if_pos k,lW g,Pg (by omega)];simp only[Qw,EV,dT]at a;obtain⟨A,b⟩:=A7 (show 0<=s.2.2.2.2.1-1 by omega);grind[PH,GM,Ja];rw[if_neg (by omega),if_neg (by omega),if_neg (by omega),if_pos k,if_neg (by omega),if_neg (by omega),if_neg (by omega),if_pos k];simp only[My,EV,dT]at f;grind[dP,GM,Ja]
def dQ(s:BS):List Int:=pb s.1 3++(pb s.2.1 5++pb ((Ar s.2.2.2.2.2.2.2.2.1:Nat):Int) 5)
theorem b0R{s:BS}(g:0<=s.1/\s.1<=5)(f:0<=s.2.1/\s.2.1<=30)(h:s.2.2.2.2.2.2.2.2.1.all Af=true)(L:LI):QA s L=L++dQ s:=by
 grind[A7,Dj,QA,dQ,GM,Ja]
def Oj(s:BS):BS:=(s.1,s.2.1,s.2.2.1,s.2.2.2.1,s.2.2.2.2.1,s.2.2.2.2.2.1,s.2.2.2.2.2.2.1,s.2.2.2.2.2.2.2.1,[],(0,[],()),[],())
theorem dS{wd N:Nat}{ok:Bool}(o:N<1000)(k w:Int):∀(st zF:List RF)(P R:LI),st.all Ab.tJ=true->zF.length+st.length=N->fX P (UT st++R)->
  Al Jo ((wd:Int),ok,(N:Int),(zF.length:Int),Dm P (UT st++R),(k,w,0,0,0,[],[0,0,0],zF,[],(0,[],()),[],()),()) =
   some ((wd:Int),ok,(k,w,0,0,0,[],[0,0,0],zF++st,[],(0,[],()),[],()),Dm (P++UT st) R,())
 | [],zF,P,R,_,i,_=>by
  have:zF.length=N:=by omega
  subst this;have d:A3 ((zF.length:Int)<(zF.length:Int))=false:=by simp
  simp_all[Ag,Jo,UT]
 |g::st,zF,P,R,h,i,hok=>by
  simp only[C7,EV]at h;rw[lC]at i;obtain⟨j,l,c,m⟩:=dO h.1;obtain⟨a,b,u⟩:=g;simp only at j l c m;obtain⟨B,rfl⟩:=A7 c;obtain⟨A,t⟩:=A7 (show 0<=a-1 by omega);obtain rfl:a=(A:Int)+1:=by omega
  have e:UT (((A:Int)+1,(B:Int),u)::st)++R=pb (A:Int) 5++(pb (B:Int) 4++(UT st++R)):=by simp[UT]
  rw[e]at hok|-;have d:A3 ((zF.length:Int)<(N:Int))=true:=by grind
  have q:Ao (Dm P (pb (A:Int) 5++(pb (B:Int) 4++(UT st++R))),(5:Int))=_:=IZ (v:=A) (n:=5) (by omega) (by omega) hok;have f:=hok.shift;have r:Ao (Dm (P++pb (A:Int) 5) (pb (B:Int) 4++(UT st++R)),(4:Int))=_:=IZ (v:=B) (n:=4) (by omega) (by omega) f;have p:Bp (A8 zF+1)=true:=AW (by omega);have y:zD .i64 (A:Int)=(A:Int):=Ae (by omega);have z:zD .i64 (B:Int)=(B:Int):=Ae (by omega);have C:zD .i64 ((A:Int)+1)=(A:Int)+1:=Ae (by omega);have x:zD .u64 ((zF.length:Int)+1)=(((zF++[((A:Int)+1,(B:Int),u)]).length:Nat):Int):=by grind[Aw]
  rw[Ai (s':=((wd:Int),ok,(N:Int),(((zF++[((A:Int)+1,(B:Int),u)]).length:Nat):Int),Dm (P++pb (A:Int) 5++pb (B:Int) 4) (UT st++R),(k,w,0,0,0,[],[0,0,0],zF++[((A:Int)+1,(B:Int),u)],[],(0,[],()),[],()),())) (by
    simp_all[Jo])]
  rw[dS o k w st (zF++[((A:Int)+1,(B:Int),u)]) _ R h.2 (by grind) f.shift];simp[UT]
theorem a2m{x:Int}(h:fK x=true):pU 8 x:=by
 simp[fK]at h;unfold pU;omega
theorem b0S{wd:Nat}{k w g:Int}{a b c:Int}(m:fK a=true)(hb:fK b=true)(o:fK c=true){P R:LI}(f:fX P (sB 8 [a,b,c]++R)):
  Al EB ((wd:Int),(0:Int),Dm P (sB 8 [a,b,c]++R),(k,w,0,0,g,[],[0,0,0],[],[],(0,[],()),[],()),()) =
   some ((wd:Int),Dm (P++sB 8 [a,b,c]) R,(k,w,0,0,g,[],[a,b,c],[],[],(0,[],()),[],()),()):=by
 have e:sB 8 [a,b,c]++R=pb (Br a 8) 8++(pb (Br b 8) 8++(pb (Br c 8) 8++R)):=by rfl
 rw[e]at f|-;have u:Bg (Dm P (pb (Br a 8) 8++(pb (Br b 8) 8++(pb (Br c 8) 8++R))),(8:Int))=_:=Pf (n:=8) (by omega) (a2m m) f;have h:=f.shift;have v:Bg (Dm (P++pb (Br a 8) 8) (pb (Br b 8) 8++(pb (Br c 8) 8++R)),(8:Int))=_:=Pf (n:=8) (by omega) (a2m hb) h;have d:=h.shift;have x:Bg (Dm (P++pb (Br a 8) 8++pb (Br b 8) 8) (pb (Br c 8) 8++R),(8:Int))=_:=Pf (n:=8) (by omega) (a2m o) d;have y:zD .i64 ((0:Int)+1)=1:=by rfl
 have z:zD .i64 ((1:Int)+1)=2:=by rfl
 have A:zD .i64 ((2:Int)+1)=3:=by rfl
 have p:A3 ((0:Int)<3)=true:=by rfl
 have i:A3 ((0:Int)<=0)=true:=by rfl
 have q:A3 ((1:Int)<3)=true:=by rfl
 have j:A3 ((0:Int)<=1)=true:=by rfl
 have r:A3 ((2:Int)<3)=true:=by rfl
 have l:A3 ((0:Int)<=2)=true:=by rfl
 have t:A3 ((3:Int)<3)=false:=by rfl
 rw[Ai (s':=((wd:Int),(1:Int),Dm (P++pb (Br a 8) 8) (pb (Br b 8) 8++(pb (Br c 8) 8++R)),(k,w,0,0,g,[],[a,0,0],[],[],(0,[],()),[],()),())) (by
  simp_all[EB])]
 rw[Ai (s':=((wd:Int),(2:Int),Dm (P++pb (Br a 8) 8++pb (Br b 8) 8) (pb (Br c 8) 8++R),(k,w,0,0,g,[],[a,b,0],[],[],(0,[],()),[],()),())) (by
  simp_all[EB])]
 rw[Ai (s':=((wd:Int),(3:Int),Dm (P++pb (Br a 8) 8++pb (Br b 8) 8++pb (Br c 8) 8) R,(k,w,0,0,g,[],[a,b,c],[],[],(0,[],()),[],()),())) (by
  simp_all[EB])]
 simp_all[Ag,EB,sB]
theorem a7G{s:BS}{n:Int}(hs:BW s n)(ht:s.2.2.2.2.2.2.1.length=3){P R:LI}(i:fX P (dQ s++(MM s++R))):
  Nf (Dm P (dQ s++(MM s++R)))=some (Oj s,((Ar s.2.2.2.2.2.2.2.2.1:Nat):Int),true,Dm (P++(dQ s++MM s)) R):=by
 obtain⟨-,-,hf,ha,M,Q,-,-,S,-⟩:=hs;obtain⟨k,w,o,q,g,c,t,m,a,b,d,u⟩:=s;have hk:=Xg hf;simp only at hk M Q S ht;have h0:=Dj S;obtain⟨K,rfl⟩:=A7 hk.1;obtain⟨W,rfl⟩:=A7 M;unfold dQ at i|-;simp at i|-;have g1:Ao (Dm P (pb (K:Int) 3++(pb (W:Int) 5++(pb ((Ar a:Nat):Int) 5++(MM ((K:Int),(W:Int),o,q,g,c,t,m,a,b,d,u)++R)))),(3:Int))=_:=IZ (v:=K) (n:=3) (by omega) (by omega) i;have j:=i.shift;have g2:Ao (Dm (P++pb (K:Int) 3) (pb (W:Int) 5++(pb ((Ar a:Nat):Int) 5++(MM ((K:Int),(W:Int),o,q,g,c,t,m,a,b,d,u)++R))),(5:Int))=_:=IZ (v:=W) (n:=5) (by omega) (by omega) j;have l:=j.shift;have g3:Ao (Dm (P++pb (K:Int) 3++pb (W:Int) 5) (pb ((Ar a:Nat):Int) 5++(MM ((K:Int),(W:Int),o,q,g,c,t,m,a,b,d,u)++R)),(5:Int))=_:=IZ (v:=Ar a) (n:=5) (by omega) (by omega) l;have f:=l.shift;have wK:zD .i64 (K:Int)=(K:Int):=Ae (by omega);have wW:zD .i64 (W:Int)=(W:Int):=Ae (by omega);have wd:zD .i64 ((Ar a:Nat):Int)=((Ar a:Nat):Int):=Ae (by omega);unfold Nf;rw[g1];simp only[oB];rw[g2];simp only[oB];rw[g3];simp only[oB,wK,wW,wd];generalize hX:P++pb (K:Int) 3++pb (W:Int) 5++pb ((Ar a:Nat):Int) 5=X at f|-;have L:∀B:List Int,P++(pb (K:Int) 3++(pb (W:Int) 5++(pb ((Ar a:Nat):Int) 5++B)))=X++B:=fun B=>by grind
 rw[L];obtain⟨a1,F,C,D,G,E⟩:=ha;simp only at a1 F C D G E;clear g1 g2 g3 i j l hX L;rcases hf with h|h|⟨h,p,I,-⟩|⟨h,p,-⟩|⟨h,p,-,T⟩|⟨h,p,I⟩
 
 simp only at h;obtain rfl:=a1 (by omega);obtain rfl:=F (by omega);obtain rfl:=C (by omega);obtain rfl:=D (by omega);obtain rfl:=G (by omega);obtain rfl:=E (by omega);rw[h];have hb:MM ((0:Int),(W:Int),0,0,0,[],[0,0,0],[],a,b,d,u)=[]:=rfl;rw[hb,A9,F2];rfl;simp only at h;obtain rfl:=a1 (by omega);obtain rfl:=F (by omega);obtain rfl:=C (by omega);obtain rfl:=D (by omega);obtain rfl:=G (by omega);obtain rfl:=E (by omega);rw[h];have hb:MM ((1:Int),(W:Int),0,0,0,[],[0,0,0],[],a,b,d,u)=[]:=rfl;rw[hb,A9,F2];rfl;simp only at h p I;obtain rfl:=F (by omega);obtain rfl:=C (by omega);obtain rfl:=D (by omega);obtain rfl:=G (by omega);obtain rfl:=E (by omega);rw[h]at f|-;obtain⟨O,rfl⟩:=A7 p;have hb:MM ((2:Int),(W:Int),(O:Int),0,0,[],[0,0,0],[],a,b,d,u)=pb (O:Int) 3:=rfl;rw[hb]at f|-;have e:((2:Int)==2)=true:=rfl;have H:Ao (Dm X (pb (O:Int) 3++R),(3:Int))=_:=IZ (v:=O) (n:=3) (by omega) (by omega) f;have wO:zD .i64 (O:Int)=(O:Int):=Ae (by omega);simp only[e,cT,H,oB,wO];rfl;simp only at h p;obtain rfl:=a1 (by omega);obtain rfl:=C (by omega);obtain rfl:=D (by omega);obtain rfl:=E (by omega);rw[h]at f|-;have hb:MM ((3:Int),(W:Int),0,q,0,c,[0,0,0],[],a,b,d,u)=Oi ((3:Int),(W:Int),0,q,0,c,[0,0,0],[],a,b,d,u):=rfl;rw[hb]at f|-;have V:((3:Int)==2)=false:=rfl;have Y:((3:Int)==4)=false:=rfl;have Z:((3:Int)==3)=true:=rfl;have H:=dN (s:=((3:Int),(W:Int),0,q,0,c,[0,0,0],[],a,b,d,u)) (s0:=((3:Int),(W:Int),0,0,0,[],A6 3 0,[],[],(0,[],()),[],())) p rfl f;simp only[V,Z,Y,cT,cF,oB];erw[H];rfl
 ·simp only at h p T;obtain rfl:=a1 (by omega);obtain rfl:=E (by omega);rw[h]at f|-;simp only[Qw,EV,dT]at T;obtain⟨T,h5,U⟩:=T;obtain⟨A,hA⟩:=A7 (show 0<=g-1 by omega);obtain rfl:g=(A:Int)+1:=by omega
  obtain⟨x,y,z,rfl⟩:∃x y z,t=[x,y,z]:=by
   match t,ht with
   | [x,y,z],_=>simp
  simp at U;have hb:MM ((4:Int),(W:Int),0,q,(A:Int)+1,c,[x,y,z],[],a,b,d,u)=pb (A:Int) 10++(sB 8 [x,y,z]++Oi ((4:Int),(W:Int),0,q,(A:Int)+1,c,[x,y,z],[],a,b,d,u)):=by
   show pb ((A:Int)+1-1) 10++_=_
   simp
  rw[hb]at f|-;simp only[aA]at f|-;have V:((4:Int)==2)=false:=rfl;have Y:((4:Int)==4)=true:=rfl;have H:Ao (Dm X (pb (A:Int) 10++(sB 8 [x,y,z]++(Oi ((4:Int),(W:Int),0,q,(A:Int)+1,c,[x,y,z],[],a,b,d,u)++R))),(10:Int))=_:=IZ (v:=A) (n:=10) (by omega) (by omega) f;have r:=f.shift;have wA:zD .i64 (A:Int)=(A:Int):=Ae (by omega);have h4:zD .i64 ((A:Int)+1)=(A:Int)+1:=Ae (by omega);have g5:=b0S (wd:=Ar a) (k:=4) (w:=(W:Int)) (g:=(A:Int)+1) U.1 U.2.1 U.2.2 r;have g6:=dN (s:=((4:Int),(W:Int),0,q,(A:Int)+1,c,[x,y,z],[],a,b,d,u)) (s0:=((4:Int),(W:Int),0,0,(A:Int)+1,[],[x,y,z],[],[],(0,[],()),[],())) p rfl r.shift;simp_all[Oj,a2l,b0Q]
 simp only at h p I;obtain rfl:=a1 (by omega);obtain rfl:=F (by omega);obtain rfl:=C (by omega);obtain rfl:=D (by omega);obtain rfl:=G (by omega);rw[h]at f|-;simp only[My,EV,dT]at I;have hb:MM ((5:Int),(W:Int),0,0,0,[],[0,0,0],m,a,b,d,u)=pb ((m.length:Nat):Int) 2++UT m:=rfl;rw[hb]at f|-;simp only[aA]at f|-;have V:((5:Int)==2)=false:=rfl;have Y:((5:Int)==4)=false:=rfl;have Z:((5:Int)==3)=false:=rfl;have e5:((5:Int)==5)=true:=rfl;have H:Ao (Dm X (pb ((m.length:Nat):Int) 2++(UT m++R)),(2:Int))=_:=IZ (v:=m.length) (n:=2) (by omega) (by omega) f;have g5:=dS (wd:=Ar a) (ok:=true) (N:=m.length) (by omega) (5:Int) (W:Int) m [] _ R I.2 (by simp) f.shift;simp_all[Oj]
def Rg(s:BS)(zn:List Nat):List Int:=
 (dQ s++MM s)++(sB (Ar s.2.2.2.2.2.2.2.2.1) s.2.2.2.2.2.2.2.2.1++if s.1=0\/s.1=1 then[]else Lv s.2.2.2.2.2.2.2.2.2.1 zn s.2.2.2.2.2.2.2.2.2.2.1)
theorem UU{s:BS}{n:Int}(c:BW s n){g:List Nat}(e:s.1≠0/\s.1≠1->sV s.2.2.2.2.2.2.2.2.2.1 n ((s.2.2.2.2.2.2.2.2.1.length:Nat):Int) s.2.2.2.2.2.2.2.2.2.2.1 g)(L:LI):
  Er s g L=L++Rg s g:=by
 obtain⟨-,-,h,-,a,b,-,-,k,-⟩:=c;have d:=Dj k;have f:=b0R (Xg h) ⟨a,b⟩ k L;unfold Er Rg;by_cases hk:s.1=0\/s.1=1;rw[if_pos hk,if_pos hk,Pg (by omega),rZ h,f]
 simp
 rw[if_neg hk,if_neg hk,pV (e (not_or.1 hk)),Pg (by omega),rZ h,f]
 simp
def UV(s:BS)(l:List Int):BS:=(s.1,s.2.1,s.2.2.1,s.2.2.2.1,s.2.2.2.2.1,s.2.2.2.2.2.1,s.2.2.2.2.2.2.1,s.2.2.2.2.2.2.2.1,l,s.2.2.2.2.2.2.2.2.2)
theorem sA{wd:Nat}(f:wd<=62){N:Nat}(k:N<1000000)(n:Int)(ok:Bool)(z s:BS):∀(l zF P R:LI),(∀x∈l,pU wd x)->zF.length+l.length=N->fX P (sB wd l++R)->
  Al OB (n,(wd:Int),ok,(N:Int),(zF.length:Int),Dm P (sB wd l++R),z,UV s zF,())=some (n,(wd:Int),ok,Dm (P++sB wd l) R,z,UV s (zF++l),())
 | [],zF,P,R,_,g,_=>by
  have:zF.length=N:=by omega
  subst this;have d:A3 ((zF.length:Int)<(zF.length:Int))=false:=by simp
  simp_all[Ag,OB,sB]
 |x::l,zF,P,R,h,g,hok=>by
  rw[lC]at g;rw[a2i]at hok|-;have d:A3 ((zF.length:Int)<(N:Int))=true:=by grind
  have b:=Pf f (h x (by simp)) hok;have a:Bp (A8 zF+1)=true:=AW (by omega);have c:zD .i64 ((zF.length:Int)+1)=(((zF++[x]).length:Nat):Int):=by grind[Ae]
  rw[Ai (s':=(n,(wd:Int),ok,(N:Int),(((zF++[x]).length:Nat):Int),Dm (P++pb (Br x wd) wd) (sB wd l++R),z,UV s (zF++[x]),())) (by
   simp_all[OB,UV])]
  rw[sA f k n ok z s l (zF++[x]) _ R (fun y e=>h y (by grind)) (by grind) hok.shift];simp[sB]
theorem a7H{s:BS}(h:sN s):sN (Oj s) where
 uL:=h.uL
 taps:=h.taps
 stages:=h.stages
 sH:=by show([]:List Int).length<=5000;simp
 rest:=by show([]:List Int).length<=5000;simp
 ks:=by show([]:List Int).length<=_;simp
theorem b6n{s:BS}(h:sN s){n:Int}(K:(F9S s n).isSome=true){v:List Nat}(V:s.1≠0/\s.1≠1->sV s.2.2.2.2.2.2.2.2.2.1 n ((s.2.2.2.2.2.2.2.2.1.length:Nat):Int) s.2.2.2.2.2.2.2.2.2.2.1 v)
  {P R:LI}(e:fX P (Rg s v++R)):Rx (Dm P (Rg s v++R),n)=some (s,(0:Int),Dm (P++Rg s v) R):=by
 have L:=QD K;have d:=@a7G s n L h.taps P;have y:=L;obtain⟨Y,Z,Q,-,-,-,-,U,r,-,x,-⟩:=y;have T:=Dj r;have C:=h.sH;have M:A3 (n<1)=false:=by simp_all
 have O:A3 (n > 4096)=false:=by simp_all
 have j:∀A B:List Int,(Dm A B).2.2.1=0:=fun _ _=>rfl;have l:MW ((Oj s).1,Oj s,n)=some true:=by
  rw[ZS (a7H h)];unfold kQ
  have:LA (Oj s).1 (Oj s) n:=Q
  simp_all
 have i:Hg (Oj s,n)=some ((s.2.2.2.2.2.2.2.2.1.length:Nat):Int):=by
  rw[RJ]
  have:BM (Oj s) n=BM s n:=rfl
  simp_all
 have p:=kS h n;rw[K]at p;have f:BO s.2.2.2.2.2.2.2.2.1=some ((Ar s.2.2.2.2.2.2.2.2.1:Nat):Int):=Di (by unfold short;omega);unfold Rx AB;unfold Rg at e|-;simp only[aA]at e|-;have a:fX (P++(dQ s++MM s)) (sB (Ar s.2.2.2.2.2.2.2.2.1) s.2.2.2.2.2.2.2.2.1++((if s.1=0\/s.1=1 then[]else Lv s.2.2.2.2.2.2.2.2.2.1 v s.2.2.2.2.2.2.2.2.2.2.1)++R)):=fX.shift (by simp_all)
 have H:=fun(X:Bool) (z:BS)=>sA (wd:=Ar s.2.2.2.2.2.2.2.2.1) (by omega) (N:=s.2.2.2.2.2.2.2.2.1.length) (by omega) n X z (Oj s) s.2.2.2.2.2.2.2.2.1 [] _ _ (Xi r) (by simp) a;simp only[B4,nZ,A9,E3]at H;simp only[M,O,cF,j,bne_self_eq_false,oB];rw[d e];simp only[j,bne_self_eq_false,cF,oB,l,bT,i];rw[show((Oj s:BS))=UV (Oj s) []from rfl];erw[H];simp only[oB,j,bne_self_eq_false,cF];rw[show(UV (Oj s) s.2.2.2.2.2.2.2.2.1).1=s.1 from rfl,Lr];simp only[oB];by_cases hk:s.1=0\/s.1=1;have I:A3 (s.1≠0/\s.1≠1)=false:=by grind
 have q:UV (Oj s) s.2.2.2.2.2.2.2.2.1=s:=by
  obtain⟨E,F,G⟩:=x hk;obtain⟨k,w,o,sh,g,c,t,st,wm,⟨p1,p2,u1⟩,re,u⟩:=s;simp only at E F G;subst E F G;rfl
 grind;have I:A3 (s.1≠0/\s.1≠1)=true:=by simp_all
 have S:=V (not_or.1 hk);have b:=a.shift;rw[if_neg hk]at b;have m:=a2k S b;simp only[I,cT,if_neg hk];rw[show(UV (Oj s) s.2.2.2.2.2.2.2.2.1).2.2.2.2.2.2.2.2.1=s.2.2.2.2.2.2.2.2.1 from rfl];erw[m];have D:((0:Int) != 0)=false:=rfl;simp only[oB,D,cF,bT,f,bne_self_eq_false];have q:((UV (Oj s) s.2.2.2.2.2.2.2.2.1).1,(UV (Oj s) s.2.2.2.2.2.2.2.2.1).2.1,(UV (Oj s) s.2.2.2.2.2.2.2.2.1).2.2.1,(UV (Oj s) s.2.2.2.2.2.2.2.2.1).2.2.2.1,(UV (Oj s) s.2.2.2.2.2.2.2.2.1).2.2.2.2.1,(UV (Oj s) s.2.2.2.2.2.2.2.2.1).2.2.2.2.2.1,(UV (Oj s) s.2.2.2.2.2.2.2.2.1).2.2.2.2.2.2.1,(UV (Oj s) s.2.2.2.2.2.2.2.2.1).2.2.2.2.2.2.2.1,s.2.2.2.2.2.2.2.2.1,s.2.2.2.2.2.2.2.2.2.1,s.2.2.2.2.2.2.2.2.2.2.1,(UV (Oj s) s.2.2.2.2.2.2.2.2.1).2.2.2.2.2.2.2.2.2.2.2)=s:=rfl;grind
theorem c2f(y:Int):bits .u64 .and y 1=y%2:=by
 have h:((A4 64 y) &&& (A4 64 1)).toNat=(y%18446744073709551616).toNat%2:=by
  simp
 show zD .u64 ((((A4 64 y) &&& (A4 64 1)).toNat:Nat):Int)=_;grind[Aw]
theorem Es(v:Int):∀n,CI (pb v n)
 |0=>fun b hb=>by cases hb
 |n+1=>fun b hb=>by
  rcases mC.1 hb with rfl|hb;grind[MJ,c2f,JL];exact Es v n b hb
theorem a8N(n:Nat):CI (b4S n):=fun b hb=>by
 rcases mA.1 hb with hb|hb;all_goals simp_all
theorem Vy{α:Type}{f:α->List Int}{l:List α}(h:∀x,CI (f x)):CI (l.flatMap f):=fun b hb=>by
 obtain⟨x,-,g⟩:=F8.1 hb;exact h x b g
theorem b0T(k:Nat)(x:Int):CI (TD k x):=by
 unfold TD;split;exact(a8N _).app (Es _ _);exact(a8N _).app (Es _ _)
theorem gH(n:Nat)(l:LI):CI (sB n l):=Vy fun _=>Es _ _
theorem b0U(k:Int)(l:LI):CI (UR k l):=by
 unfold UR;split;exact(Es _ _).app ((Es _ _).app (gH _ _));exact(Es _ _).app (Vy fun _=>b0T _ _)
theorem YF:CI []:=fun b hb=>by grind
theorem lY:∀(h:List Nat)(ks l:LI),CI (DR h ks l)
 |z::h,k::ks,l=>by
  simp only[DR];exact(b0U _ _).app (lY h ks _)
 | [],_,_=>by simp_all[DR,YF]
 |_::_,[],_=>by simp_all[DR,YF]
theorem lZ(s:BS):CI (Oi s):=(Es _ _).app ((Es _ _).app ((Es _ _).app (gH _ _)))
theorem b0V(s:BS):CI (MM s):=by
 unfold MM;split;exact Es _ _;split;exact lZ s;split;exact(Es _ _).app ((gH _ _).app (lZ s));split;exact(Es _ _).app (Vy fun _=>(Es _ _).app (Es _ _));exact YF
theorem b3U(s:BS)(h:List Nat):CI (Rg s h):=by
 refine(((Es _ _).app ((Es _ _).app (Es _ _))).app (b0V s)).app ((gH _ _).app ?_);split;exact YF;exact(Es _ _).app (lY _ _ _)
theorem b3V{s:BS}(h:sN s){n:Int}(k:(F9S s n).isSome=true){L:LI}(j:L.length<50000000):
  ∃g,Pd (wL L,s,n)=some (0,wL (L++Rg s g))/\Ho (s,n)=some (((Rg s g).length:Nat):Int)/\(Rg s g).length<=700000/\
   (s.1≠0/\s.1≠1->sV s.2.2.2.2.2.2.2.2.2.1 n ((s.2.2.2.2.2.2.2.2.1.length:Nat):Int) s.2.2.2.2.2.2.2.2.2.2.1 g):=by
 obtain⟨e,i,a,-,c,d,-⟩:=WY h (n:=n) (L:=L) (by omega);obtain⟨rfl,g,rfl,f⟩:=d k;have b:=QD k;rw[UU b f]at a c;refine⟨g,a,?_,by simp_all,f⟩;rw[a8H h];unfold ML;rw[if_pos k,<-a1V f,UU b f]
 simp
theorem b8K{L:LI}(g:L.length<1000000000):Sy (wL L).1=some (Dm [] L):=by
 obtain⟨-,h⟩:=GK L;unfold Sy;rw[AW (by omega)];rfl
theorem b3W{L:LI}(h:L.length<1000000000):Gc (wL L)=some ((wL L).1,wL L):=by
 grind[GK,Gc,AW]
def AS(n:Nat):List Int:=if h:n<128 then[(n:Int)]else((n%128+128:Nat):Int)::AS (n / 128)
termination_by n
decreasing_by omega
theorem QE{n:Nat}(h:n<128):AS n=[(n:Int)]:=by rw[AS,dif_pos h]
theorem Tc{n:Nat}(h:¬ n<128):AS n=((n%128+128:Nat):Int)::AS (n / 128):=by rw[AS,dif_neg h]
theorem YG:∀(k n:Nat),n<128^(k+1)->1<=(AS n).length/\(AS n).length<=k+1
 |0,n,h=>by simp_all[QE]
 |k+1,n,h=>by
  by_cases hn:n<128;rw[QE hn];simp;rw[Tc hn]
  have:=YG k (n / 128) (by omega)
  simp_all
theorem Xj:∀(k n:Nat),n<128^(k+1)->∀b∈AS n,0<=b/\b<256
 |0,n,h,b,hb=>by grind[QE]
 |k+1,n,h,b,hb=>by
  by_cases hn:n<128;grind[QE];rw[Tc hn]at hb;rcases mC.1 hb with rfl|hb;omega;exact Xj k (n / 128) (by omega) b hb
theorem a8O:∀(k n:Nat)(a:LI)(b c:Int)(out:LI),n<128^(k+1)->k<=8->out.length+k<1000000->
  ∃r g,Al Mh ((n:Int),a,b,c,out,())=some (((r:Nat):Int),a,b,c,out++g,())/\AS n=g++[(r:Int)]/\r<128
 |k,n,a,b,c,out,h,p,q=>by
  by_cases hn:n<128;refine⟨n,[],?_,by rw[QE hn];rfl,hn⟩;rw[Ag (b:=((n:Int),a,b,c,out,())) (by
   have d:A3 ((n:Int)>=128)=false:=by grind
   simp only[Mh,d,cF])]
  simp
  ·cases k with
   |zero=>omega
   |succ k=>
    have m:n / 128<128^(k+1):=by omega
    have f:n<18446744073709551616:=by
     have:128^(k+1+1)<=128^9:=D6 (by omega) (by omega)
     omega
    obtain⟨r,g,o,j,l⟩:=a8O k (n / 128) a b c (out++[((n%128+128:Nat):Int)]) m (by omega) (by grind);refine⟨r,((n%128+128:Nat):Int)::g,?_,by rw[Tc hn,j];rfl,l⟩;have d:A3 ((n:Int)>=128)=true:=by grind
    have e:zD .u64 (C6 (n:Int) 128)=((n / 128:Nat):Int):=by
     rw[show C6 (n:Int) 128=((n / 128:Nat):Int)from rfl];exact Aw (by omega)
    have i:zD .u8 (zD .u8 (D3 (n:Int) 128)+128)=((n%128+128:Nat):Int):=by
     rw[show D3 (n:Int) 128=((n%128:Nat):Int)from rfl,JL,JL];omega
    rw[Ai (s':=(((n / 128:Nat):Int),a,b,c,out++[((n%128+128:Nat):Int)],())) (by
     simp only[Mh,d,cT,AW (show out.length+1<2147483648 by omega),e,i,C2])]
    simp_all
theorem NT{α β γ:Type}(f:α->List γ):∀(l:List α)(a:List γ),HJ (β:=β) (fun a x=>.inl (a++f x)) l a=.inl (a++l.flatMap f)
 | [],a=>by simp[HJ]
 |x::l,a=>by simp only[HJ];rw[NT f l];simp
def RU(ns:List Nat):List Int:=ns.map fun n:Nat=>(n:Int)
theorem YH{ns:List Nat}(h:∀n∈ns,n<9223372036854775808)(w:ns.length<=1000):NI (RU ns)=some (ns.flatMap AS):=by
 have m:(RU ns).length=ns.length:=by simp[RU]
 have:=BH (f:=Mi) (RU ns) (fun i (a:LI)=>(RU ns,((RU ns).length:Int),(i:Int),a,())) (fun a x=>.inl (a++AS x.toNat)) (fun i a=>a.length<=10*i) (fun a=>(a,()))
  (fun i l a t=>⟨fun u g=>by
   have c:i<ns.length:=by omega
   have p:(RU ns)[i]=((ns[i]:Nat):Int):=by simp[RU]
   have hb:=h ns[i] (C0 c);have k:ns[i]<128^(8+1):=by omega
   obtain⟨r,d,q,j,v⟩:=a8O 8 ns[i] (RU ns) ((RU ns).length:Int) (i:Int) a k (F4 _) (by omega);have o:=YG 8 ns[i] k;rw[j]at o;simp only[lN,lC,B4]at o;simp[p,j]at g;subst g;have e:zD .u8 (r:Int)=(r:Int):=by rw[JL];omega
   refine⟨?_,by grind⟩;simp only[Mi,Cq l,cT,Ac l,p,oB,q,AW (show(a++d).length+1<2147483648 by grind),Aa (show i<1000000 by omega),e,C2,aA],fun b hb=>by grind⟩)
  (fun a t=>by simp_all[Mi]) (a:=[]) (by simp)
 simp_all[NI,NT,SK,RU,H2]
theorem c7g{a b k:Nat}(f:a<2^k)(c:b*2^k+a<18446744073709551616):bits .u64 .or (a:Int) ((b*2^k:Nat):Int)=((a+b*2^k:Nat):Int):=by
 show zD .u64 (((A4 64 (a:Int) ||| A4 64 ((b*2^k:Nat):Int)).toNat:Nat):Int)=_;have g:(A4 64 (a:Int)).toNat=a:=by grind
 have h:(A4 64 ((b*2^k:Nat):Int)).toNat=b*2^k:=by grind[B8]
 grind[F5,J6,Aw]
theorem dU{zG:LI}:∀(j m i g:Nat)(P:LI),m<128^(j+1)->P.length=i->(i=0\/1<=m)->g<2^(7*i)->m*2^(7*i)+g<9223372036854775808->(P++(AS m++zG)).length<1000000000->
  Al Ij ((g:Int),P++(AS m++zG),((P++(AS m++zG)).length:Nat),(i:Int),())=some (.inr (((g+m*2^(7*i):Nat):Int),((i+(AS m).length:Nat):Int),(0:Int),()))
 |j,m,i,g,P,H,q,x,r,I,l=>by
  have w:i<=8:=by
   rcases x with o|h1;omega;apply Classical.byContradiction;intro G;have E:2^(7*9)<=2^(7*i):=D6 (by omega) (by omega);have F:2^(7*i)<=m*2^(7*i):=Nat.le_mul_of_pos_left _ (by omega);omega
  have z:zD .i64 ((7:Int)*(i:Int))=((7*i:Nat):Int):=by grind[Ae]
  have B:A3 ((((7*i:Nat):Int))<0)=false:=by rfl
  have A:zD .i64 ((i:Int)+1)=((i+1:Nat):Int):=Aa (by omega);have D:∀c:Nat,c<256->(i=9->False):=fun _ _ h=>by omega
  have p:((i:Int)==9)=false:=by grind
  have f:∀(c:Nat)(n:LI),c<256->AS m=(c:Int)::n->(i=0\/c≠0)->
    Ij ((g:Int),P++(AS m++zG),((P++(AS m++zG)).length:Nat),(i:Int),()) =
     bif A3 ((c:Int)<128)then some (.inr (F3 (bits .u64 .or (g:Int) (AT .u64 (zD .u64 (D3 (c:Int) 128)) ((7*i:Nat):Int)),((i+1:Nat):Int),(0:Int),())))
     else some (.inl (bits .u64 .or (g:Int) (AT .u64 (zD .u64 (D3 (c:Int) 128)) ((7*i:Nat):Int)),P++(AS m++zG),((P++(AS m++zG)).length:Nat),((i+1:Nat):Int),())):=fun c n t K o=>by
   have a:i<(P++(AS m++zG)).length:=by simp_all
   have v:Az (P++(AS m++zG)) (i:Int)=some (c:Int):=by
    simp_all[Ac]
   have L:(A3 ((i:Int) > 0)=true->((c:Int)==0)=false):=fun h=>by
    grind
   simp only[Ij,Cq a,cT,v,oB,p,cF];grind
  have k:∀c:Nat,c%128*2^(7*i)+g<9223372036854775808->bits .u64 .or (g:Int) (AT .u64 (zD .u64 (D3 (c:Int) 128)) ((7*i:Nat):Int))=((g+c%128*2^(7*i):Nat):Int):=fun c t=>by
   rw[show D3 (c:Int) 128=((c%128:Nat):Int)from rfl,Aw (by omega),RK (by omega) (by omega)];exact c7g r (by omega)
  by_cases hm128:m<128;rw[Ag (f m [] (by omega) (QE hm128) (by omega) |>.trans (by
   have d:A3 ((m:Int)<128)=true:=by grind
   simp only[d,cT];rfl))]
  rw[k m (by simp_all[E6]),E6 hm128,QE hm128];rfl
  ·cases j with
   |zero=>omega
   |succ j=>
    have u:m / 128<128^(j+1):=by omega
    have y:2^(7*(i+1))=128*2^(7*i):=by grind
    have b:m*2^(7*i)=m%128*2^(7*i)+m / 128*2^(7*(i+1)):=by
     grind
    have hb:m%128*2^(7*i)<=127*2^(7*i):=B6 _ (by omega);rw[Ai (f (m%128+128) (AS (m / 128)) (by omega) (Tc hm128) (by omega) |>.trans (by
     have d:A3 (((m%128+128:Nat):Int)<128)=false:=by grind
     simp only[d,cF];rfl))]
    rw[k (m%128+128) (by grind[N8,Nat.mod_mod]),N8,Nat.mod_mod];have e:P++(AS m++zG)=(P++[((m%128+128:Nat):Int)])++(AS (m / 128)++zG):=by rw[Tc hm128];simp
    rw[e]at l|-;have C:=dU j (m / 128) (i+1) (g+m%128*2^(7*i)) (P++[((m%128+128:Nat):Int)]) u (by simp[q]) (.inr (by omega)) (by omega) (by omega) l;rw[C,b,Tc hm128];congr 3;omega
    simp;omega
theorem b0W{n:Nat}(h:n<9223372036854775808){zG:LI}(g:(AS n++zG).length<1000000000):LQ (AS n++zG)=some ((n:Int),(((AS n).length:Nat):Int),(0:Int)):=by
 have:=dU (zG:=zG) 8 n 0 0 [] (by omega) rfl (.inl rfl) (by simp) (by omega) g
 simp_all[LQ]
def mB(P R:List Int):List Int×(Int×Int×Unit):=(P++R,(P.length:Int),(0:Int),())
theorem Gg{n:Nat}(c:n<9223372036854775808){most:Int}(e:(n:Int)<=most){P R:LI}(b:(P++(AS n++R)).length<1000000000):
  AI (mB P (AS n++R),most)=some ((n:Int),mB (P++AS n) R):=by
 have a:E4 (E8 (P.length:Int)) (E2 (P++(AS n++R)).length (P++(AS n++R)))=AS n++R:=by
  grind[tN]
 have k:((0:Int) != 0)=false:=rfl;have g:A3 ((0:Int)<=(P.length:Int))=true:=by simp
 have f:A3 ((P.length:Int)<=((P++(AS n++R)).length:Int))=true:=by grind
 have d:A3 ((n:Int) > most)=false:=by simp_all
 have h:(AS n++R).length<1000000000:=by grind
 have i:zD .i64 ((P.length:Int)+((AS n).length:Int))=(((P++AS n).length:Nat):Int):=by
  rw[Ae (by simp at b;omega)];simp
 unfold AI mB;simp only[k,cF,g,f,B3,cT];rw[a,b0W c h];grind
def Td(g:Int):Nat:=if 0<=g then(2*g).toNat else(-2*g-1).toNat
theorem b8L{g:Int}(h:-100000<=g/\g<=100000):Qi g=some ((Td g:Nat):Int):=by
 unfold Qi Td;by_cases hg:0<=g;have d:A3 (g>=0)=true:=by simp_all
 rw[d,cT,if_pos hg,Aw (n:=g) (by omega),Aw (by omega),C4 (by omega)];have d:A3 (g>=0)=false:=by simp_all
 rw[d,cF,if_neg hg,Ae (n:=g+1) (by omega),Ae (by omega),Aw (n:=0-(g+1)) (by omega),Aw (n:=2*(0-(g+1))) (by omega),Aw (by omega),C4 (by omega)];grind
theorem gI{g:Int}{m:Nat}(h:-(m:Int)<=g/\g<=(m:Int)):Td g<=2*m:=by
 grind[Td]
theorem b8M{g:Int}(h:-100000<=g/\g<=100000):Qa ((Td g:Nat):Int)=some g:=by
 unfold Qa;have f:D3 ((Td g:Nat):Int) 2=((Td g%2:Nat):Int):=rfl;have k:C6 ((Td g:Nat):Int) 2=((Td g / 2:Nat):Int):=rfl;rw[f,k];unfold Td;by_cases hg:0<=g;rw[if_pos hg];have d:((((2*g).toNat%2:Nat):Int)==0)=true:=by grind
 rw[d,cT,Aw (by omega),Ae (by omega)];grind;rw[if_neg hg];have d:((((-2*g-1).toNat%2:Nat):Int)==0)=false:=by grind
 rw[d,cF,Aw (by omega),Ae (n:=(((-2*g-1).toNat / 2:Nat):Int)) (by omega),Ae (n:=0-(((-2*g-1).toNat / 2:Nat):Int)) (by omega),Ae (by omega)];grind
def e8(s:Int):Int:=bif (AR .u8 s 7)==(1:Int)then bits .u8 .xor (AT .u8 s 1) 7 else AT .u8 s 1
def b0X(s:Int):Int:=bif (AR .u16 s 15)==(1:Int)then bits .u16 .xor (AT .u16 s 1) 32773 else AT .u16 s 1
def gJ{α:Type}(f:α->α):Nat->α->α
 |0,s=>s
 |n+1,s=>gJ f n (f s)
def g8(s c:Int):Int:=gJ e8 8 (bits .u8 .xor s c)
def b9u(s c:Int):Int:=gJ b0X 8 (bits .u16 .xor s (AT .u16 (zD .u16 c) 8))
theorem mD(l:LI)(n i:Int):∀(j k:Nat)(s:Int),k+j=8->Al Oa (s,l,n,i,(k:Int),())=some (gJ e8 j s,l,n,i,())
 |0,k,s,h=>by
  obtain rfl:k=8:=by omega
  rfl
 |j+1,k,s,h=>by
  have d:A3 ((k:Int)<8)=true:=by grind
  rw[Ai (s':=(e8 s,l,n,i,((k+1:Nat):Int),())) (by
   simp only[Oa,d,cT,Aa (show k<1000000 by omega),e8];grind)]
  exact mD l n i j (k+1) (e8 s) (by omega)
theorem YI(l:LI)(n i:Int):∀(j k:Nat)(s:Int),k+j=8->Al LV (s,l,n,i,(k:Int),())=some (gJ b0X j s,l,n,i,())
 |0,k,s,h=>by
  obtain rfl:k=8:=by omega
  rfl
 |j+1,k,s,h=>by
  have d:A3 ((k:Int)<8)=true:=by grind
  rw[Ai (s':=(b0X s,l,n,i,((k+1:Nat):Int),())) (by
   simp only[LV,d,cT,Aa (show k<1000000 by omega),b0X];grind)]
  exact YI l n i j (k+1) (b0X s) (by omega)
def fY(l:List Int):Int:=l.foldl g8 0
def FJ(l:List Int):Int:=l.foldl b9u 0
theorem a5b{l:LI}(h:short l):LW l=some (fY l):=by
 have:=BH (f:=Kv) (β:=Int×Unit) l (fun i (a:Int)=>(a,l,(l.length:Int),(i:Int),())) (fun a x=>.inl (g8 a x)) (fun _ _=>True) (fun a=>(a,()))
  (fun i k a _=>⟨fun c g=>by
   simp at g;subst g
   have:=mD l (l.length:Int) (i:Int) 8 0 (bits .u8 .xor a l[i]) rfl
   simp at this;refine⟨?_,trivial⟩;simp only[Kv,Cq k,cT,Ac k,oB,this,Aa (C5 k h),g8],fun b hb=>by grind⟩)
  (fun a d=>by simp_all[Kv]) (a:=0) trivial
 unfold LW;simp at this;rw[this,YD];rfl
theorem Xk{l:LI}(h:short l):Gy l=some (FJ l):=by
 have:=BH (f:=Ik) (β:=Int×Unit) l (fun i (a:Int)=>(a,l,(l.length:Int),(i:Int),())) (fun a x=>.inl (b9u a x)) (fun _ _=>True) (fun a=>(a,()))
  (fun i k a _=>⟨fun c g=>by
   simp at g;subst g
   have:=YI l (l.length:Int) (i:Int) 8 0 (bits .u16 .xor a (AT .u16 (zD .u16 l[i]) 8)) rfl
   simp at this;refine⟨?_,trivial⟩;simp only[Ik,Cq k,cT,Ac k,oB,this,Aa (C5 k h),b9u],fun b hb=>by grind⟩)
  (fun a d=>by simp_all[Ik]) (a:=0) trivial
 unfold Gy;simp at this;rw[this,YD];rfl
theorem OV(n:Int):zD .u16 n=n%65536:=by rfl
theorem b3X(s:Int):0<=e8 s/\e8 s<256:=by
 unfold e8;cases (AR .u8 s 7==1:Bool);simp only[cF,AT,JL];omega;simp only[cT,bits,JL];omega
theorem a0a(s:Int):0<=b0X s/\b0X s<65536:=by
 unfold b0X;cases (AR .u16 s 15==1:Bool);simp only[cF,AT,OV];omega;simp only[cT,bits,OV];omega
theorem a7I(l:LI):0<=fY l/\fY l<256:=by
 unfold fY;rcases L5 l with rfl|⟨L,b,rfl⟩
 simp
 rw[L6,C9];exact b3X _
theorem QF(l:LI):0<=FJ l/\FJ l<65536:=by
 unfold FJ;rcases L5 l with rfl|⟨L,b,rfl⟩
 simp
 rw[L6,C9];exact a0a _
theorem c6K{v:Int}(h:0<=v/\v<65536):GV (v,2)=some [v / 256,v%256]:=by
 have g:zD .u64 (C6 v 256)=v / 256:=by grind[Aw]
 have f:zD .u8 (D3 v 256)=v%256:=by simp_all[K4,JL]
 have k:zD .u8 (D3 (v / 256) 256)=v / 256:=by grind[JL]
 have a:CC (v,(2:Int),(0:Int),([]:List Int),())=some (.inl (v / 256,(2:Int),(1:Int),[v%256],())):=by
  simp only[CC,show A3 ((0:Int)<2)=true from rfl,cT,AW (show([]:List Int).length+1<2147483648 by simp),g,f];rfl
 have c:CC (v / 256,(2:Int),(1:Int),[v%256],())=some (.inl (zD .u64 (C6 (v / 256) 256),(2:Int),(2:Int),[v%256,v / 256],())):=by
  simp only[CC,show A3 ((1:Int)<2)=true from rfl,cT,AW (show([v%256]:List Int).length+1<2147483648 by simp),k];rfl
 have d:HR (v,2)=some [v%256,v / 256]:=by
  unfold HR FM
  simp
  rw[show GZ (EA (2:Int) 0) 8=2 from rfl,Ai a,Ai c,Ag (b:=([v%256,v / 256],())) rfl];rfl
 simp_all[GV,Cl]
abbrev AL:Type:=Int×(Int×(Int×Unit))
abbrev BL:Type:=Int×(Int×(AL×(List AL×(List BS×Unit))))
abbrev BI:Type:=Int×(List (List Int)×Unit)
def GX(n:Int)(s:AL):Bool:=!(A3 (s.1<0) || A3 (s.1>=n) || A3 (s.2.1<0) || A3 (s.2.1>=n) || s.1==s.2.1)&&!(A3 (s.2.2.1 < -1024) || A3 (s.2.2.1 > 1024))
theorem DS{n:Int}{s:AL}:GX n s=true↔0<=s.1/\s.1<n/\0<=s.2.1/\s.2.1<n/\s.1≠s.2.1/\-1024<=s.2.2.1/\s.2.2.1<=1024:=by
 simp only[GX,EV,N7,Bool.or_eq_false_iff,decide_eq_false_iff_not,beq_eq_false_iff_ne];omega
def PP(l:List AL)(n:Int):Prop:=1<=n/\n<=8/\l.length<=16/\l.all (GX n)=true
instance (l:List AL) (n:Int):Decidable (PP l n):=by unfold PP;infer_instance
theorem UW(l:List AL)(n:Int):MU (l,n)=some (A3 (PP l n)):=by
 unfold MU PP;by_cases h1:n<1;grind;by_cases h2:n > 8;grind;by_cases h3:((l.length:Nat):Int) > 16;grind;have g:=Cb (f:=JU) (β:=Unit ⊕ (Bool×Unit)) l (fun i=>(n,l,(l.length:Int),(i:Int),())) (GX n) (bt:=D9 ()) (bf:=F3 (false,()))
  (fun i h k=>by
   obtain⟨a1,o,p,q,r,t,u⟩:=DS.1 k;have a:A3 (l[i].1<0)=false:=by simp_all
   have b:A3 (l[i].1>=n)=false:=by simp_all
   have c:A3 (l[i].2.1<0)=false:=by simp_all
   have d:A3 (l[i].2.1>=n)=false:=by simp_all
   have e:(l[i].1==l[i].2.1)=false:=by simp_all
   have j:A3 (l[i].2.2.1 < -1024)=false:=by simp_all
   have m:A3 (l[i].2.2.1 > 1024)=false:=by simp_all
   simp only[JU,Cq h,cT,Ac h,oB,a,b,c,d,e,j,m,cF,Aa (show i<1000000 by omega)])
  (fun i h k=>by
   simp only[JU,Cq h,cT,Ac h,oB];grind[GX])
  (by simp[JU])
 grind
def NU(f:AL):Prop:=1<=f.1/\f.1<=1048576/\1<=f.2.1/\f.2.1<=8/\4<=f.2.2.1/\f.2.2.1<=24
instance (f:AL):Decidable (NU f):=by unfold NU;infer_instance
theorem GO(f:AL):CL f=some (A3 (NU f)):=by
 unfold CL JT NU;grind
def a0b(f:BL):Prop:=NU f.2.2.1/\1<=f.2.1/\f.2.1<=4096/\0<=f.1/\f.1<=4194304-f.2.1/\PP f.2.2.2.1 f.2.2.1.2.1
instance (f:BL):Decidable (a0b f):=by unfold a0b;infer_instance
theorem UX(f:BL):JV f=some (A3 (a0b f)):=by
 unfold JV a0b;rw[GO,UW];by_cases h1:NU f.2.2.1<;>by_cases h2:1<=f.2.1<;>by_cases h3:f.2.1<=4096<;>by_cases h4:0<=f.1<;>simp[h1,h2,h3,h4];have h:zD .i64 ((4194304:Int)-f.2.1)=4194304-f.2.1:=Ae (by omega);rw[h];grind
def Ib(s:AL):List Nat:=[s.1.toNat,s.2.1.toNat,Td s.2.2.1]
def IB(s:AL):List Int:=AS s.1.toNat++(AS s.2.1.toNat++AS (Td s.2.2.1))
def hb(f:BL)(body:Nat):List Int:=
 [245,75]++(AS f.1.toNat++(AS f.2.1.toNat++(AS f.2.2.1.1.toNat++(AS f.2.2.1.2.1.toNat++(AS f.2.2.1.2.2.1.toNat++(AS f.2.2.2.1.length++(f.2.2.2.1.flatMap IB++AS body)))))))
def BA(f:BL)(body:Nat):List Int:=hb f body++[fY (hb f body)]
theorem Nu{n:Nat}(h:n<9223372036854775808):1<=(AS n).length/\(AS n).length<=9:=YG 8 n (by omega)
theorem a0c{n:Int}(g:n<=8){s:AL}(h:GX n s=true):(IB s).length<=27:=by
 grind[DS,Nu,Td,IB]
theorem bE{n:Int}(g:n<=8):∀(l:List AL),l.all (GX n)=true->(l.flatMap IB).length<=27*l.length
 | [],_=>by simp
 |s::l,h=>by
  simp only[C7,EV]at h
  have:=a0c g h.1
  have:=bE g l h.2
  simp only[D0,lN,lC];omega
theorem mE{f:BL}(g:a0b f){body:Nat}(h:body<=1048576):2<=(hb f body).length/\(hb f body).length<=600:=by
 obtain⟨⟨q,r,k,a,b,c⟩,l1,l2,s1,s2,m1,m2,m3,m4⟩:=g;have d:=Nu (n:=f.1.toNat) (by omega);have e:=Nu (n:=f.2.1.toNat) (by omega);have i:=Nu (n:=f.2.2.1.1.toNat) (by omega);have j:=Nu (n:=f.2.2.1.2.1.toNat) (by omega);have l:=Nu (n:=f.2.2.1.2.2.1.toNat) (by omega);have m:=Nu (n:=f.2.2.2.1.length) (by omega);have o:=Nu (n:=body) (by omega);have p:=bE m2 _ m4;simp only[hb,lN,lC,B4];omega
theorem a8P:∀l:List AL,(l.flatMap Ib).length=3*l.length
 | []=>rfl
 |s::l=>by simp only[D0,lN,lC,a8P l];simp only[Ib,lC,B4];omega
theorem a7J{f:BL}(A:a0b f){body:Nat}(q:body<=1048576):KA (f,(body:Int))=some (BA f body):=by
 have t:=A;obtain⟨⟨O,P,K,L,M,N⟩,l1,l2,s1,s2,m1,m2,m3,m4⟩:=t;have k:∀s∈f.2.2.2.1,GX f.2.2.1.2.1 s=true:=fun s w=>lA.1 m4 s w;have h:=BH (f:=Hj) (β:=Int×(List Int×Unit)) f.2.2.2.1 (fun i (a:LI)=>((body:Int),f.2.2.2.1,((f.2.2.2.1.length:Nat):Int),(i:Int),a,())) (fun a x=>.inl (a++RU (Ib x))) (fun i a=>a.length=6+3*i) (fun a=>((body:Int),a,()))
  (fun i u a G=>⟨fun I j=>by
   simp at j;subst j;obtain⟨a1,C,D,E,F,y,z⟩:=DS.1 (k _ (C0 u));refine⟨?_,by grind[RU,Ib]⟩;simp only[Hj,Cq u,cT,Ac u,oB,b8L (g:=f.2.2.2.1[i].2.2.1) (by omega),AW (show a.length+3<2147483648 by omega),Aa (show i<1000000 by omega),C2];grind[Aw,RU,Ib],fun b hb=>by grind⟩)
  (fun a G=>by simp_all[Hj]) (a:=RU [f.1.toNat,f.2.1.toNat,f.2.2.1.1.toNat,f.2.2.1.2.1.toNat,f.2.2.1.2.2.1.toNat,f.2.2.2.1.length]) (by rfl)
 rw[NT]at h;simp[SK]at h;have d:([zD .u64 f.1,zD .u64 f.2.1,zD .u64 f.2.2.1.1,zD .u64 f.2.2.1.2.1,zD .u64 f.2.2.1.2.2.1,zD .u64 ((f.2.2.2.1.length:Nat):Int)]:List Int)=RU [f.1.toNat,f.2.1.toNat,f.2.2.1.1.toNat,f.2.2.1.2.1.toNat,f.2.2.1.2.2.1.toNat,f.2.2.2.1.length]:=by
  grind[Aw,RU]
 have o:RU [f.1.toNat,f.2.1.toNat,f.2.2.1.1.toNat,f.2.2.1.2.1.toNat,f.2.2.1.2.2.1.toNat,f.2.2.2.1.length]++f.2.2.2.1.flatMap (fun x=>RU (Ib x))++[((body:Nat):Int)]=RU ([f.1.toNat,f.2.1.toNat,f.2.2.1.1.toNat,f.2.2.1.2.1.toNat,f.2.2.1.2.2.1.toNat,f.2.2.2.1.length]++f.2.2.2.1.flatMap Ib++[body]):=by
  simp_all[RU,List.map_flatMap]
 have v:∀n∈[f.1.toNat,f.2.1.toNat,f.2.2.1.1.toNat,f.2.2.1.2.1.toNat,f.2.2.1.2.2.1.toNat,f.2.2.2.1.length]++f.2.2.2.1.flatMap Ib++[body],n<9223372036854775808:=fun n e=>by
  simp only[mA,mC,D4,or_false,F8]at e;rcases e with(e|⟨s,w,e⟩)|e;omega;obtain⟨a1,C,D,E,F,y,z⟩:=DS.1 (k _ w)
  have:=gI (m:=1024) ⟨y,z⟩
  simp[Ib]at e;omega;omega
 have B:=a8P f.2.2.2.1;have p:=YH v (by grind);have c:(([f.1.toNat,f.2.1.toNat,f.2.2.1.1.toNat,f.2.2.1.2.1.toNat,f.2.2.1.2.2.1.toNat,f.2.2.2.1.length]++f.2.2.2.1.flatMap Ib++[body]).flatMap AS)=(hb f body).drop 2:=by
  simp only[hb,G5,D0,List.flatMap_nil,F2,aA,List.flatMap_assoc,F9,A9,List.drop_succ_cons,List.drop_zero];congr 7;exact congrArg (fun g=>List.flatMap g f.2.2.2.1) (funext fun s=>by simp[IB,Ib])
 have r:[245,75]++(hb f body).drop 2=hb f body:=by rfl
 have H:=mE A q;unfold KA;simp only[d];rw[h];simp only[oB,C2];have l:=congrArg A8 o;rw[show(RU ([f.1.toNat,f.2.1.toNat,f.2.2.1.1.toNat,f.2.2.1.2.1.toNat,f.2.2.1.2.2.1.toNat,f.2.2.2.1.length]++f.2.2.2.1.flatMap Ib++[body])).length=7+3*f.2.2.2.1.length from by grind[RU,lC]]at l;rw[lN,I0]at l;rw[Aw (n:=(body:Int)) (by omega),AW (by omega),cT,o,p];simp only[oB,c,C2,r];rw[AW (by grind),cT,a5b (show short (hb f body)by unfold short;omega)]
 simp
 rw[AW (by omega),cT];rfl
def b3Y(f:BL):BL:=(f.1,f.2.1,f.2.2.1,f.2.2.2.1,[],())
theorem CE{P A R:LI}{k:Nat}(h:(P++(A++R)).length<k):((P++A)++R).length<k:=by rw[aA];exact h
theorem mF{x:LI}{ch:Int}(c:ch<=8)(s l:Int)(fm:AL)(u:List BS×Unit){N:Nat}(p:N<=16){R:LI}:∀(zG zF:List AL)(P:LI),zG.all (GX ch)=true->zF.length+zG.length=N->
  (P++(zG.flatMap IB++R)).length<1000000000->
  Al Hh (x,(N:Int),(zF.length:Int),(s,l,fm,zF,u),mB P (zG.flatMap IB++R),())=some (x,(s,l,fm,zF++zG,u),mB (P++zG.flatMap IB) R,())
 | [],zF,P,_,d,_=>by
  have e:zF.length=N:=by simpa using d
  rw[e,Ag (b:=(x,(s,l,fm,zF,u),mB P R,())) (by simp only[Hh,rE,cF];rfl)]
  simp
 |g::zG,zF,P,h,d,hlen=>by
  simp only[C7,EV]at h;rw[lC]at d;obtain⟨a1,A,B,C,D,i,j⟩:=DS.1 h.1;have E:=gI (m:=1024) ⟨i,j⟩;have o:(g::zG).flatMap IB++R=AS g.1.toNat++(AS g.2.1.toNat++(AS (Td g.2.2.1)++(zG.flatMap IB++R))):=by simp[IB]
  rw[o]at hlen|-;have t:=Gg (n:=g.1.toNat) (most:=7) (by omega) (by omega) hlen;have f:=CE hlen;have v:=Gg (n:=g.2.1.toNat) (most:=7) (by omega) (by omega) f;have k:=CE f;have w:=Gg (n:=Td g.2.2.1) (most:=2048) (by omega) (by omega) k;have a:=CE k;have r:zD .u64 ((zF.length:Int)+1)=(((zF++[g]).length:Nat):Int):=by rw[Aw (by omega)];simp
  have y:zD .i64 ((g.1.toNat:Nat):Int)=g.1:=by rw[Ae (by omega)];omega
  have z:zD .i64 ((g.2.1.toNat:Nat):Int)=g.2.1:=by rw[Ae (by omega)];omega
  have q:A3 ((zF.length:Int)<(N:Int))=true:=by simp;omega
  rw[Ai (s':=(x,(N:Int),(((zF++[g]).length:Nat):Int),(s,l,fm,zF++[g],u),mB (P++AS g.1.toNat++AS g.2.1.toNat++AS (Td g.2.2.1)) (zG.flatMap IB++R),())) (by
   simp only[Hh,q,cT,t,v,w,oB,b8M (g:=g.2.2.1) (by omega),AW (show zF.length+1<2147483648 by omega),y,z,r,C2])]
  rw[mF c s l fm u p zG (zF++[g]) _ h.2 (by simp;omega) a];simp[IB]
theorem mG{f:BL}(p:a0b f){body:Nat}(o:body<=1048576){R:LI}(hl:(BA f body++R).length<1000000000):
  Kw (BA f body++R)=some (b3Y f,((BA f body).length:Int),(body:Int),(0:Int)):=by
 have q:=p;obtain⟨⟨r1,r2,c1,c2,d1,d2⟩,l1,l2,s1,s2,m1,m2,m3,m4⟩:=q;have X:=mE p o

 have d:BA f body++R=[245,75]++(AS f.1.toNat++(AS f.2.1.toNat++(AS f.2.2.1.1.toNat++(AS f.2.2.1.2.1.toNat++(AS f.2.2.1.2.2.1.toNat++(AS f.2.2.2.1.length++(f.2.2.2.1.flatMap IB++(AS body++([fY (hb f body)]++R))))))))):=by
  simp[BA,hb]
 generalize hx:BA f body++R=x at *;have Y:2<=x.length:=by rw[d];simp
 have S:Az x 0=some 245:=by rw[d];rfl
 have U:Az x 1=some 75:=by rw[d];rfl
 have k:E4 2 (E2 x.length x)=AS f.1.toNat++(AS f.2.1.toNat++(AS f.2.2.1.1.toNat++(AS f.2.2.1.2.1.toNat++(AS f.2.2.1.2.2.1.toNat++(AS f.2.2.2.1.length++(f.2.2.2.1.flatMap IB++(AS body++([fY (hb f body)]++R)))))))):=by
  rw[E7,d];rfl
 have h:([]++(AS f.1.toNat++(AS f.2.1.toNat++(AS f.2.2.1.1.toNat++(AS f.2.2.1.2.1.toNat++(AS f.2.2.1.2.2.1.toNat++(AS f.2.2.2.1.length++(f.2.2.2.1.flatMap IB++(AS body++([fY (hb f body)]++R))))))))):List Int).length<1000000000:=by
  rw[<-k];simp;omega
 have F:=Gg (n:=f.1.toNat) (most:=4194304) (by omega) (by omega) h;have z:=CE h;have G:=Gg (n:=f.2.1.toNat) (most:=4096) (by omega) (by omega) z;have A:=CE z;have H:=Gg (n:=f.2.2.1.1.toNat) (most:=1048576) (by omega) (by omega) A;have B:=CE A;have I:=Gg (n:=f.2.2.1.2.1.toNat) (most:=8) (by omega) (by omega) B;have C:=CE B;have K:=Gg (n:=f.2.2.1.2.2.1.toNat) (most:=24) (by omega) (by omega) C;have D:=CE C;have L:=Gg (n:=f.2.2.2.1.length) (most:=16) (by omega) (by omega) D;have E:=CE D;have a:=mF (x:=x) m2 f.1 f.2.1 f.2.2.1 ([],()) m3 f.2.2.2.1 [] _ m4 (by simp) E;have V:=CE E;have i:=Gg (n:=body) (most:=1048576) (by omega) (by omega) V;simp only[B4,nZ,A9,E3]at F G H I K L i a;have w1:zD .i64 ((f.1.toNat:Nat):Int)=f.1:=by rw[Ae (by omega)];omega
 have w2:zD .i64 ((f.2.1.toNat:Nat):Int)=f.2.1:=by rw[Ae (by omega)];omega
 have w3:zD .i64 ((f.2.2.1.1.toNat:Nat):Int)=f.2.2.1.1:=by rw[Ae (by omega)];omega
 have w4:zD .i64 ((f.2.2.1.2.1.toNat:Nat):Int)=f.2.2.1.2.1:=by rw[Ae (by omega)];omega
 have w5:zD .i64 ((f.2.2.1.2.2.1.toNat:Nat):Int)=f.2.2.1.2.2.1:=by rw[Ae (by omega)];omega
 have l:AS f.1.toNat++AS f.2.1.toNat++AS f.2.2.1.1.toNat++AS f.2.2.1.2.1.toNat++AS f.2.2.1.2.2.1.toNat++AS f.2.2.2.1.length++f.2.2.2.1.flatMap IB++AS body=(hb f body).drop 2:=by simp[hb]
 rw[l]at i;have v:mB ((hb f body).drop 2) ([fY (hb f body)]++R)=(x.drop 2,(((hb f body).length-2:Nat):Int),(0:Int),()):=by
  unfold mB;rw[D5,<-hx];congr 1;unfold BA;rw[aA,J1 (by omega)]
 rw[v]at i;have b:zD .i64 (((x.drop 2).length:Int)-(((hb f body).length-2:Nat):Int))=((1+R.length:Nat):Int):=by
  have:x.length=(hb f body).length+(1+R.length):=by rw[<-hx];simp[BA];omega
  rw[D5,Ae (by omega)];omega
 have m:zD .i64 ((2:Int)+(((hb f body).length-2:Nat):Int))=(((hb f body).length:Nat):Int):=by rw[Ae (by omega)];omega
 have u:(hb f body).length<x.length:=by rw[<-hx];simp[BA]
 have c:E2 (hb f body).length x=hb f body:=by rw[<-hx];simp[BA]
 have t:Az x (((hb f body).length:Nat):Int)=some (fY (hb f body)):=by rw[Ac u];congr 1;subst hx;simp[BA]
 have Q:A3 (((x.length:Nat):Int)<2)=false:=by simp;omega
 have j:A3 ((2:Int)<=((x.length:Nat):Int))=true:=by simp;omega
 have M:((245:Int) != 245)=false:=rfl;have b1:((75:Int) != 75)=false:=rfl;have e:∀T:List Int,T.length<1000000000->IH T=some (mB [] T):=fun T d=>by unfold IH;rw[AW (by omega)];rfl
 have g:=h;rw[A9]at g;have z0:((0:Int) != 0)=false:=rfl;have N:A3 (((1+R.length:Nat):Int)<1)=false:=by simp;omega
 have O:A3 ((0:Int)<=(((hb f body).length:Nat):Int))=true:=by simp
 have P:A3 ((((hb f body).length:Nat):Int)<=((x.length:Nat):Int))=true:=by simp;omega
 have Z:(fY (hb f body) != fY (hb f body))=false:=bne_self_eq_false _;have r:a0b (f.1,f.2.1,f.2.2.1,f.2.2.2.1,([]:List BS),()):=p;have y:zD .i64 ((((hb f body).length:Nat):Int)+1)=(((BA f body).length:Nat):Int):=by rw[Ae (by omega)];simp[BA]
 have w:zD .i64 ((body:Nat):Int)=(body:Int):=Ae (by omega);unfold Kw;simp only[Q,cF,S,U,oB,M,b1,j,cT];rw[k,e _ g];simp only[oB,F,G,H,I,K,L,w1,w2,w3,w4,w5];erw[a];simp only[oB,i,EJ,z0,cF,Ck,Fs,b,N,m,O,P,B3,cT,tN,c,a5b (show short (hb f body)by unfold short;omega),t,Z];rw[UX,decide_eq_true r];simp only[oB,bT,cF,y,w];rfl
abbrev PZ:Type:=BS×List Nat
def a7K(n:Int)(p:PZ):Prop:=sN p.1/\(F9S p.1 n).isSome=true/\(p.1.1≠0/\p.1.1≠1->sV p.1.2.2.2.2.2.2.2.2.2.1 n ((p.1.2.2.2.2.2.2.2.2.1.length:Nat):Int) p.1.2.2.2.2.2.2.2.2.2.2.1 p.2)
def Ay(l:List PZ):List Int:=l.flatMap fun p=>Rg p.1 p.2
theorem bF(l:List PZ):CI (Ay l):=Vy fun _=>b3U _ _
theorem a0d(x:BL)(all:List BS)(n:all.length<=8):∀(zG zF:List BS)(L:LI),zF++zG=all->(∀s∈zG,sN s/\(F9S s x.2.1).isSome=true)->L.length+700000*zG.length<40000000->
  ∃g:List PZ,g.map (·.1)=zG/\(∀p∈g,a7K x.2.1 p)/\(Ay g).length<=700000*zG.length/\((∀s∈zG,∃c,Ho (s,x.2.1)=some (c:Int))/\some (((Ay g).length:Nat):Int)=zG.foldr (fun s a=>a.bind fun a=>(Ho (s,x.2.1)).bind fun c=>some (c+a)) (some 0))/\
   Al Mj (all,(all.length:Int),(zF.length:Int),wL L,x,())=some (.inl (wL (L++Ay g),x,()))
 | [],zF,L,q,_,_=>by
  have e:zF=all:=by simp_all
  subst e;refine⟨[],rfl,by simp,by simp[Ay],⟨by simp,by rfl⟩,?_⟩;simp_all[Ag,Mj,Ay]
 |s::zG,zF,L,q,h,o=>by
  obtain⟨i,b⟩:=h s (by simp);rw[lC]at o;obtain⟨k,j,l,w,m⟩:=b3V i b (L:=L) (by omega);obtain⟨g,k1,k2,k3,⟨y,v⟩,k6⟩:=a0d x all n zG (zF++[s]) (L++Rg s k) (by simp_all) (fun t u=>h t (by grind)) (by grind);have f:zF.length<all.length:=by grind
  have r:Az all (zF.length:Int)=some s:=by grind[Ac]
  refine⟨(s,k)::g,by grind,fun p d=>?_,?_,⟨fun t u=>?_,?_⟩,?_⟩;rcases mC.1 d with rfl|d;exact⟨i,b,m⟩;simp_all;grind[Ay];grind;simp only[List.foldr_cons,<-v,oB,l];simp[Ay];have z0:((0:Int) != 0)=false:=rfl;rw[Ai (s':=(all,(all.length:Int),(((zF++[s]).length:Nat):Int),wL (L++Rg s k),x,())) (by
   simp only[Mj,Cq f,cT,r,oB,j,z0,cF,Aa (show zF.length<1000000 by omega)]
   simp)]
  simp_all[Ay]
def PL(k:Nat):Nat:=(8-k%8)%8
def GP(L:List Int):List Int:=L++A6 (PL L.length) 0
theorem mH:∀(k:Nat)(L:LI),PL L.length=k->L.length+k<900000000->Al Em (wL L,())=some (wL (L++A6 k 0),())
 |k,L,h,a=>by
  have f:=(GK L).1;have g:D3 (wL L).2.1 8=((L.length%8:Nat):Int):=by grind
  unfold PL at h;cases k with
  |zero=>
   grind[Ag,Em]
  |succ k=>
   have hb:(((L.length%8:Nat):Int) != 0)=true:=by grind
   rw[Ai (s':=(wL (L++[0]),())) (by
    simp only[Em,g,hb,cT,a1T (show L.length<1000000000 by omega),oB])]
   rw[mH k (L++[0]) (by grind[PL]) (by grind)];grind
theorem b3Z{L:LI}(h:L.length<800000000):Gb (wL L)=some (wL (GP L)):=by
 unfold Gb;rw[mH _ L rfl (by unfold PL;omega)];rfl
def IC(L:List Int):List Int:=(wL (GP L)).1
theorem Vz(L:LI):(IC L).length=(L.length+7) / 8/\8*(IC L).length=(GP L).length:=by
 grind[GK,GP,IC,PL]
def Ol(f:BL)(L:List Int):List Int:=BA f (IC L).length++IC L
def Ic(f:BL)(L:List Int):List Int:=Ol f L++[FJ (Ol f L) / 256,FJ (Ol f L)%256]
theorem RV{f:BL}(g:a0b f){L:LI}(h:L.length<=5600000):(Ol f L).length<=700700/\(IC L).length<=700000:=by
 grind[Vz,mE,Ol,BA]
theorem YJ{f:BL}(l:Fx f=some true)(e:a0b f)(i:f.2.2.2.2.1.length<=8)(n:∀s∈f.2.2.2.2.1,sN s/\(F9S s f.2.1).isSome=true):
  ∃h:List PZ,h.map (·.1)=f.2.2.2.2.1/\(∀p∈h,a7K f.2.1 p)/\(Ay h).length<=5600000/\
   some (((Ay h).length:Nat):Int)=f.2.2.2.2.1.foldr (fun s a=>a.bind fun a=>(Ho (s,f.2.1)).bind fun c=>some (c+a)) (some 0)/\FA f=some (Ic f (Ay h),0):=by
 obtain⟨h,k1,k2,k3,⟨-,o⟩,k6⟩:=a0d f f.2.2.2.2.1 i f.2.2.2.2.1 [] [] rfl n (by grind);have d:(Ay h).length<=5600000:=by omega
 refine⟨h,k1,k2,d,o,?_⟩;rw[A9,B4]at k6;have q:=RV e d;have b:wL []=(([]:List Int),(0:Int),()):=rfl;rw[b]at k6;have k:(GP (Ay h)).length<1000000000:=by
  grind[Vz]
 have m:=QF (Ol f (Ay h));have g:BA f (IC (Ay h)).length++IC (Ay h)=Ol f (Ay h):=rfl;have j:(BA f (IC (Ay h)).length).length+(IC (Ay h)).length=(Ol f (Ay h)).length:=by grind
 unfold FA;simp only[l,oB,bT,cF];erw[k6];simp only[oB,b3Z (show(Ay h).length<800000000 by omega),b3W k];erw[a7J e (show(IC (Ay h)).length<=1048576 by omega)];simp only[oB,C2];rw[show(wL (GP (Ay h))).1=IC (Ay h)from rfl];rw[g,AW (by omega),cT,Xk (show short (Ol f (Ay h))by unfold short;omega)]
 simp
 rw[Aw (by omega),c6K m];simp only[oB];rw[AW (by grind),cT];rfl
def RW(f:BL)(l:List BS):BL:=(f.1,f.2.1,f.2.2.1,f.2.2.2.1,l,())
theorem a7L(f:BL):RW f f.2.2.2.2.1=f:=rfl
theorem mI(f g:BL)(e:Int){N:Nat}(i:N<=8){Z:LI}:∀(zG:List PZ)(zF:List BS)(P:LI),zF.length+zG.length=N->(∀p∈zG,a7K f.2.1 p)->fX P (Ay zG++Z)->
  Al Kx (e,(N:Int),(zF.length:Int),g,RW f zF,Dm P (Ay zG++Z),())=some (.inl (e,g,RW f (zF++zG.map (·.1)),Dm (P++Ay zG) Z,()))
 | [],zF,P,a,_,_=>by
  have c:zF.length=N:=by simpa using a
  rw[c,Ag (b:=D9 (e,g,RW f zF,Dm P Z,())) (by simp only[Kx,rE,cF];rfl)];simp[Ay]
 |p::zG,zF,P,a,h,hok=>by
  rw[lC]at a;obtain⟨o,m,r⟩:=h p (by simp);have d:Ay (p::zG)++Z=Rg p.1 p.2++(Ay zG++Z):=by simp[Ay]
  rw[d]at hok|-;have l:=b6n o m r hok;have j:A3 ((zF.length:Int)<(N:Int))=true:=by simp;omega
  have z0:((0:Int) != 0)=false:=rfl;rw[Ai (s':=(e,(N:Int),(((zF++[p.1]).length:Nat):Int),g,RW f (zF++[p.1]),Dm (P++Rg p.1 p.2) (Ay zG++Z),())) (by
   have k:Rx (Dm P (Rg p.1 p.2++(Ay zG++Z)),(RW f zF).2.1)=some (p.1,(0:Int),Dm (P++Rg p.1 p.2) (Ay zG++Z)):=l;simp only[Kx,j,cT,k,oB,z0,cF];rw[show(RW f zF).2.2.2.2.1=zF from rfl,AW (show zF.length+1<2147483648 by omega),cT,Aa (show zF.length<1000000 by omega)];rw[show(((zF++[p.1]).length:Nat):Int)=((zF.length+1:Nat):Int)from by simp];rfl)]
  rw[mI f g e i zG (zF++[p.1]) _ (by simp;omega) (fun q n=>h q (by simp[n])) hok.shift];simp[Ay]
theorem dV{L:LI}(a:CI L)(b:L.length<500000000)(t:Int×(Int×Unit)):∀(k i:Nat),i+k=L.length->(∀j,i<=j->L.getD j 0=0)->
  Al Ej ((L.length:Int),(i:Int),((wL L).1,t),())=some (.inl ((L.length:Int),((wL L).1,t),()))
 |0,i,h,_=>by
  obtain rfl:i=L.length:=by omega
  exact Ag (by simp only[Ej,rE,cF])
 |k+1,i,h,f=>by
  have g:i<L.length:=by omega
  have z:((0:Int)==1)=false:=rfl;have c:zD .i64 ((i:Int)+1)=((i+1:Nat):Int):=by rw[Ae (by omega)];omega
  rw[Ai (s':=((L.length:Int),((i+1:Nat):Int),((wL L).1,t),())) (by
   simp only[Ej,Cq g,cT];rw[a2h a (by omega) g t,f i (F4 _)];simp only[oB,z,cF,c])]
  exact dV a b t k (i+1) (by omega) (fun j d=>f j (by omega))
theorem b4a(L:LI)(k j:Nat)(h:L.length<=j):(L++A6 k 0).getD j 0=0:=by
 rw[lD,K6 h,List.getElem?_replicate];split<;>rfl
theorem bG{L:LI}(h:CI L):CI (GP L):=h.app fun _ hb=>.inl (List.mem_replicate.1 hb).2
theorem b0Y{L:LI}(k:CI L)(d:L.length<=5600000):∃r,Ga (Dm L (A6 (PL L.length) 0))=some r/\r.2.2.1=0:=by
 have g:(GP L).length=L.length+PL L.length:=by simp[GP]
 have b:PL L.length<8:=by unfold PL;omega
 have c:(GP L).length%8=0:=by rw[g];unfold PL;omega
 have z0:((0:Int) != 0)=false:=rfl;have f:zD .i64 (zD .i64 (C6 (zD .i64 ((L.length:Int)+7)) 8)*8)=((GP L).length:Int):=by
  rw[Ae (n:=(L.length:Int)+7) (by omega),show C6 ((L.length:Int)+7) 8=(((L.length+7) / 8:Nat):Int)from by
   rw[show((L.length:Int)+7)=((L.length+7:Nat):Int)from by omega];rfl,Ae (n:=(((L.length+7) / 8:Nat):Int)) (by omega),Ae (by omega),g]
  unfold PL;omega
 have h:=dV (bG k) (by omega) ((L.length:Int),(0:Int),()) (PL L.length) L.length (by omega) (fun j a=>b4a L _ j a);refine⟨((wL (GP L)).1,((GP L).length:Int),(0:Int),()),?_,rfl⟩;unfold Ga Dm;simp only[z0,cF,f];rw[show L++A6 (PL L.length) 0=GP L from rfl,h];rfl
theorem c2g{v:Int}(h:0<=v/\v<65536):bits .u16 .or (AT .u16 (zD .u16 (v / 256)) 8) (zD .u16 (v%256))=v:=by
 rw[OV,OV];have e:AT .u16 (v / 256%65536) 8=((v.toNat / 256*256:Nat):Int):=by
  show zD .u16 (v / 256%65536*256)=_;rw[OV];omega
 rw[e];have g:v%256%65536=((v.toNat%256:Nat):Int):=by omega
 rw[g];show zD .u16 (((A4 16 ((v.toNat / 256*256:Nat):Int) ||| A4 16 ((v.toNat%256:Nat):Int)).toNat:Nat):Int)=_;have f:(A4 16 ((v.toNat / 256*256:Nat):Int)).toNat=v.toNat / 256*256:=by rw[B8];omega
 have k:(A4 16 ((v.toNat%256:Nat):Int)).toNat=v.toNat%256:=by rw[B8];omega
 rw[P2,f,k];have e:v.toNat / 256*256 ||| v.toNat%256=v.toNat / 256*256+v.toNat%256:=by
  have:=F5 (i:=8) (b:=v.toNat%256) (by omega) (v.toNat / 256)
  rw[show 2^8*(v.toNat / 256)=v.toNat / 256*256 from by omega]at this;exact this.symm
 rw[e,OV];omega
theorem pW{f:BL}(S:Fx f=some true)(w:a0b f)(v:((f.2.2.2.2.1.length:Nat):Int)=f.2.2.1.2.1){h:List PZ}(D:h.map (·.1)=f.2.2.2.2.1)(hp:∀p∈h,a7K f.2.1 p)(B:(Ay h).length<=5600000)
  {R:LI}(Z:R.length<=200000000):Cs (Ic f (Ay h)++R)=some (f,((Ic f (Ay h)).length:Int),(0:Int)):=by
 have T:=RV w B;have U:=QF (Ol f (Ay h));have O:f.2.2.2.2.1.length<=8:=by have:=w.1.2.2.2.1;omega
 have Q:=Vz (Ay h);generalize hbd:IC (Ay h)=body at *;have d:Ic f (Ay h)=Ol f (Ay h)++[FJ (Ol f (Ay h)) / 256,FJ (Ol f (Ay h))%256]:=rfl;have k:Ol f (Ay h)=BA f body.length++body:=by unfold Ol;rw[hbd]
 generalize hpb:Ol f (Ay h)=pre at *;have q:Ic f (Ay h)++R=BA f body.length++(body++([FJ pre / 256,FJ pre%256]++R)):=by rw[d,k];simp
 have o:(Ic f (Ay h)).length=pre.length+2:=by rw[d];simp
 have C:pre.length=(BA f body.length).length+body.length:=by rw[k];simp
 have A:(Ic f (Ay h)++R).length=pre.length+2+R.length:=by rw[lN,o]
 have a:=mG w (body:=body.length) (by omega) (R:=body++([FJ pre / 256,FJ pre%256]++R)) (by rw[<-q,A];omega);rw[<-q]at a;generalize hx:Ic f (Ay h)++R=x at *;have z0:((0:Int) != 0)=false:=rfl;have X:zD .i64 (((BA f body.length).length:Int)+(body.length:Int))=(pre.length:Int):=by rw[Ae (by omega)];omega
 have E:zD .i64 ((pre.length:Int)+2)=((pre.length+2:Nat):Int):=by rw[Ae (by omega)];omega
 have Y:zD .i64 ((pre.length:Int)+1)=((pre.length+1:Nat):Int):=by rw[Ae (by omega)];omega
 have F:A3 ((x.length:Int)<((pre.length+2:Nat):Int))=false:=by simp;omega
 have G:A3 ((0:Int)<=(pre.length:Int))=true:=by simp
 have H:A3 ((pre.length:Int)<=(x.length:Int))=true:=by simp;omega
 have I:A3 ((0:Int)<=((BA f body.length).length:Int))=true:=by simp
 have K:A3 (((BA f body.length).length:Int)<=(pre.length:Int))=true:=by simp;omega
 have l:x=pre++([FJ pre / 256,FJ pre%256]++R):=by rw[<-hx,d];simp
 have j:E2 pre.length x=pre:=by rw[l];simp
 have c:E4 (BA f body.length).length pre=body:=by rw[k];simp
 have M:Az x (pre.length:Int)=some (FJ pre / 256):=by rw[Ac (by omega)];congr 1;subst l;simp
 have N:Az x ((pre.length+1:Nat):Int)=some (FJ pre%256):=by rw[Ac (by omega)];congr 1;subst l;simp
 have V:(FJ pre != bits .u16 .or (AT .u16 (zD .u16 (FJ pre / 256)) 8) (zD .u16 (FJ pre%256)))=false:=by rw[c2g U];exact bne_self_eq_false _
 have i:(GP (Ay h)).length<1000000000:=by omega
 have b:=b8K i;rw[show(wL (GP (Ay h))).1=body from hbd]at b;have y:fX [] (Ay h++A6 (PL (Ay h).length) 0):=⟨by rw[A9];exact bG (bF h),by
  rw[A9];show(GP (Ay h)).length<_;omega⟩
 have g:=mI f ((0:Int),(0:Int),((0:Int),(0:Int),(0:Int),()),([]:List AL),([]:List BS),()) (pre.length:Int) O h [] [] (by rw[<-D];simp) hp y;simp only[A9,B4,D,a7L]at g;have z:Dm [] (GP (Ay h))=Dm [] (Ay h++A6 (PL (Ay h).length) 0):=rfl;obtain⟨r,t,u⟩:=b0Y (bF h) B;have e:Dr (Dm (Ay h) (A6 (PL (Ay h).length) 0))=some ((PL (Ay h).length:Int),Dm (Ay h) (A6 (PL (Ay h).length) 0)):=by
  unfold Dr Dm
  have:(wL (Ay h++A6 (PL (Ay h).length) 0)).1=body:=hbd
  simp only[this];have hp:(GP (Ay h)).length=(Ay h).length+PL (Ay h).length:=by simp[GP]
  rw[Ae (n:=8*(body.length:Int)) (by omega),Ae (by omega)];congr 2;omega
 have L:A3 (((PL (Ay h).length:Nat):Int)>=8)=false:=by unfold PL;simp;omega
 have P:RW f []=b3Y f:=rfl;have m:f.2.2.1.2.1=((f.2.2.2.2.1.length:Nat):Int):=v.symm;unfold Cs;rw[a];simp only[oB,z0,cF,X,E,F,G,H,I,B3,cT,tN,j,Xk (show short pre by unfold short;omega),M,Y,N,V,K,c,b,z];rw[show(b3Y f).2.2.1.2.1=((f.2.2.2.2.1.length:Nat):Int)from m];erw[g];simp only[oB,e,L,cF,t,AB,u,z0,S,bT,E,o]
theorem Te(x:Int):NG x=some (Af x):=by
 grind[NG,Af]
def ID(c:List (List Int)):Prop:=1<=c.length/\c.length<=8/\(c.headD []).length<=4096/\c.all (fun r=>A3 (r.length=(c.headD []).length)&&r.all Af)=true
instance (c:List (List Int)):Decidable (ID c):=by unfold ID;infer_instance
theorem VA{α:Type}{l:List α}{d:α}(h:0<l.length):l[0]=l.headD d:=by
 cases l with
 |nil=>grind
 |cons a l=>rfl
theorem a2n(c:List (List Int)):Ll c=some (A3 (ID c)):=by
 unfold Ll;by_cases h1:((c.length:Nat):Int)<1
 have:¬ ID c:=fun h=>by have:=h.1;omega
 simp_all;by_cases h2:((c.length:Nat):Int) > 8
 have:¬ ID c:=fun h=>by have:=h.2.1;omega
 simp_all;have m:0<c.length:=by omega
 have l:Az c 0=some (c.headD []):=by rw[show(0:Int)=((0:Nat):Int)from rfl,Ac m,VA (d:=[]) m]
 have n:A3 (((c.length:Nat):Int)<1)=false:=by simp_all
 have o:A3 (((c.length:Nat):Int) > 8)=false:=by simp_all
 simp only[n,o,cF,l,oB];by_cases h3:(((c.headD []).length:Nat):Int) > 4096;rw[decide_eq_true h3,decide_eq_false (show ¬ ID c from fun h=>by have:=h.2.2.1;omega)];rfl;have p:A3 ((((c.headD []).length:Nat):Int) > 4096)=false:=by simp_all
 simp only[p,cF];have g:∀(i:Nat)(r:LI),short r->Al Gv (c,c,(c.length:Int),(i:Int),r,(r.length:Int),(0:Int),())=some (bif r.all Af then D9 (c,c,(c.length:Int),(i:Int),())else F3 (false,())):=fun i r v=>by
  have:=Cb (f:=Gv) r (fun j=>(c,c,(c.length:Int),(i:Int),r,(r.length:Int),(j:Int),())) Af (bt:=D9 (c,c,(c.length:Int),(i:Int),())) (bf:=F3 (false,()))
   (fun j h a=>by simp only[Gv,Cq h,cT,Ac h,oB,Te,a,bT,cF,Aa (C5 h v)])
   (fun j h a=>by simp_all[Gv,Ac,Te])
   (by simp_all[Gv])
  omega
 have k:=Cb (f:=Gw) c (fun i=>(c,c,(c.length:Int),(i:Int),())) (fun r=>A3 (r.length=(c.headD []).length)&&r.all Af) (bt:=D9 ()) (bf:=F3 (false,()))
  (fun i h a=>by
   simp only[EV,dT]at a;have e:((((c[i]).length:Nat):Int) != (((c.headD []).length:Nat):Int))=false:=by simp_all
   have b:=g i c[i] (by unfold short;omega);rw[a.2,cT]at b;simp only[Gw,Cq h,cT,Ac h,oB,l,e,cF,b,Aa (show i<1000000 by omega)])
  (fun i h a=>by
   by_cases hl:(c[i]).length=(c.headD []).length;have e:((((c[i]).length:Nat):Int) != (((c.headD []).length:Nat):Int))=false:=by simp_all
   have b:=g i c[i] (by unfold short;omega);rw[decide_eq_true hl,E5]at a;rw[a,cF]at b;simp_all[Gw,Ac];have e:((((c[i]).length:Nat):Int) != (((c.headD []).length:Nat):Int))=true:=by grind
   simp only[Gw,Cq h,cT,Ac h,oB,l,e])
  (by simp_all[Gw])
 simp only[nZ]at k;rw[k];have q:1<=c.length:=by omega
 have t:c.length<=8:=by omega
 have u:(c.headD []).length<=4096:=by omega
 by_cases hA:c.all (fun r=>A3 (r.length=(c.headD []).length)&&r.all Af)=true;rw[hA,decide_eq_true (show ID c from⟨q,t,u,hA⟩)];rfl;rw[N9.2 hA,decide_eq_false (show ¬ ID c from fun h=>hA h.2.2.2)];rfl
def Kn(c:List (List Int))(n:Nat):Prop:=∀r∈c,r.length=n/\r.all Af=true
theorem a8Q{c:List (List Int)}(h:ID c):Kn c (c.headD []).length:=fun r g=>by
 have:=lA.1 h.2.2.2 r g
 simp_all
theorem mJ{c:List (List Int)}{n:Nat}(h:Kn c n)(g:1<=c.length)(f:c.length<=8)(b:n<=4096):ID c:=by
 have a:(c.headD []).length=n:=by
  rw[<-VA (d:=[]) (show 0<c.length by omega)];exact(h _ (C0 _)).1
 refine⟨g,f,by omega,lA.2 fun r k=>?_⟩
 have:=h r k
 simp_all
theorem a0e{c:List (List Int)}{n:Nat}(h:Kn c n)(m:n<=5000)(l:c.length<=100):Ka c=some c:=by
 have:=BH (f:=Jn) (β:=List (List Int)×Unit) c (fun i (a:List (List Int))=>(c,(c.length:Int),(i:Int),a,())) (fun a x=>.inl (a++[x])) (fun i a=>a.length=i) (fun a=>(a,()))
  (fun i k a d=>⟨fun j g=>by
   simp at g;subst g;have o:=(h _ (C0 k)).1;have e:∀y:List Int,List.set ([([]:List Int)]:List (List Int)) 0 y=[y]:=fun _=>rfl;refine⟨?_,by grind⟩;simp only[Jn,Cq k,cT,Ac k,oB,NN (show short c[i]by unfold short;omega),e];rw[AW (by grind),cT,Aa (show i<1000000 by omega)];rfl,fun b hb=>by grind⟩)
  (fun a d=>by simp_all[Jn]) (a:=[]) rfl
 simp_all[NT,Ka,SK]
def RX(sign g:Int)(x y:Int):Int:=y+sign*(g*x / 256)
def Xl(sign g:Int)(xs ys:List Int):List Int:=List.zipWith (RX sign g) xs ys
theorem b4b(sign g:Int){xs ys:LI}(h:xs.length=ys.length):(Xl sign g xs ys).length=ys.length:=by simp[Xl,h]
theorem b4c{sign g x y:Int}(b:sign=1\/sign=-1)(c:-1024<=g/\g<=1024)(k:Af x=true)(a:Af y=true):
  zD .i64 (y+zD .i64 (sign*AR .i64 (zD .i64 (g*x)) 8))=RX sign g x y:=by
 have k:=CD.1 k;have a:=CD.1 a;have f:-1099511627776<=g*x/\g*x<=1099511627776:=by
  have f:g.natAbs<=1024:=by omega
  have h:x.natAbs<=1073741824:=by omega
  have:=D1 f h
  rw[<-Int.natAbs_mul]at this;omega
 rw[Ae (n:=g*x) (by omega)];have h:AR .i64 (g*x) 8=g*x / 256:=by
  unfold AR;show(g*x).fdiv (2^8)=_;grind
 rw[h];unfold RX;rcases b with rfl|rfl;all_goals grind[Ae]
theorem QG{α:Type}(c:List α){a b:Nat}(h:a≠b)(y d:α):(c.set b y).getD a d=c.getD a d:=by
 grind
theorem Lw{α:Type}(c:List α){b:Nat}(h:b<c.length)(y d:α):(c.set b y).getD b d=y:=by
 simp_all
theorem mK{c:List (List Int)}{s:AL}{sign:Int}(b:sign=1\/sign=-1)(m:-1024<=s.2.2.1/\s.2.2.1<=1024)(a0:0<=s.1)(o:0<=s.2.1)(d:s.1.toNat≠s.2.1.toNat)(hb:s.2.1.toNat<c.length)(i:s.2.1<(c.length:Int))
  {xs:LI}(l:c.getD s.1.toNat []=xs)(E:xs.length<=5000):∀(k g a h:LI),a++k=xs->a.length=h.length->k.length=g.length->k.all Af=true->g.all Af=true->
  if(Xl sign s.2.2.1 k g).all Af=true then
   Al Ff (sign,(xs.length:Int),(h.length:Int),c.set s.2.1.toNat (h++g),s,((s.1.toNat:Nat):Int),())=some (.inl (c.set s.2.1.toNat (h++Xl sign s.2.2.1 k g),()))
  else ∃p,Al Ff (sign,(xs.length:Int),(h.length:Int),c.set s.2.1.toNat (h++g),s,((s.1.toNat:Nat):Int),())=some (.inr (false,p,()))
 | [],g,a,h,I,F,j,_,_=>by
  have e:g=[]:=G7.1 j.symm;subst e;have w:h.length=xs.length:=by simp_all
  rw[if_pos (by rfl),w];exact Ag (by simp only[Ff,rE,cF];rfl)
 |x::k,[],a,h,_,_,j,_,_=>by simp_all
 |x::k,y::g,a,h,I,F,j,hwx,hwy=>by
  simp only[C7,EV]at hwx hwy;have D:h.length<xs.length:=by grind
  have z:(c.set s.2.1.toNat (h++y::g)).getD (E8 ((s.1.toNat:Nat):Int)) []=xs:=by grind
  have A:(c.set s.2.1.toNat (h++y::g)).getD s.2.1.toNat []=h++y::g:=Lw _ hb _ _;have B:P7 xs (E8 (h.length:Int)) 0=x:=by grind
  have C:P7 (h++y::g) (E8 (h.length:Int)) 0=y:=by simp
  have q:A3 ((0:Int)<=(h.length:Int))=true:=by simp
  have r:A3 ((h.length:Int)<(xs.length:Int))=true:=by simp_all
  have t:A3 ((0:Int)<=s.2.1)=true:=by simp_all
  have u:A3 (s.2.1<(((c.set s.2.1.toNat (h++y::g)).length:Nat):Int))=true:=by simp_all
  have v:A3 ((h.length:Int)<(((h++y::g).length:Nat):Int))=true:=by grind
  have G:=b4c b m hwx.1 hwy.1;have H:zD .i64 ((h.length:Int)+1)=((h.length+1:Nat):Int):=Aa (by omega);have K:Xl sign s.2.2.1 (x::k) (y::g)=RX sign s.2.2.1 x y::Xl sign s.2.2.1 k g:=rfl;have n:List.set (c.set s.2.1.toNat (h++y::g)) s.2.1.toNat (List.set (h++y::g) (E8 (h.length:Int)) (RX sign s.2.2.1 x y))=c.set s.2.1.toNat ((h++[RX sign s.2.2.1 x y])++g):=by
   simp
  have f:Ff (sign,(xs.length:Int),(h.length:Int),c.set s.2.1.toNat (h++y::g),s,((s.1.toNat:Nat):Int),()) =
    bif !(Af (RX sign s.2.2.1 x y))then some (.inr (F3 (false,c.set s.2.1.toNat (h++y::g),())))
    else some (.inl (sign,(xs.length:Int),((h.length+1:Nat):Int),c.set s.2.1.toNat ((h++[RX sign s.2.2.1 x y])++g),s,((s.1.toNat:Nat):Int),())):=by
   simp only[Ff,r,cT,z,A,q,B3,t,u,v,B,C,Te,G,oB,H]
   simp
  cases hwv:Af (RX sign s.2.2.1 x y)with
  |false=>
   simp_all[Ag]
  |true=>
   rw[hwv]at f;have L:=mK b m a0 o d hb i l E k g (a++[x]) (h++[RX sign s.2.2.1 x y]) (by simp_all) (by grind) (by simp_all) hwx.2 hwy.2;rw[Ai f,K];simp_all
def Lx(sign:Int)(s:AL)(c:List (List Int)):Option (List (List Int)):=
 let r:=Xl sign s.2.2.1 (c.getD s.1.toNat []) (c.getD s.2.1.toNat [])
 if r.all Af=true then some (c.set s.2.1.toNat r)else none
theorem MY{c:List (List Int)}{n:Nat}(h:Kn c n){i:Nat}(hi:i<c.length):(c.getD i []).length=n/\(c.getD i []).all Af=true:=by
 rw[lD,lG hi];exact h _ (C0 hi)
theorem a5c{c:List (List Int)}{n:Nat}(a:Kn c n)(w:n<=5000){s:AL}(p:GX (c.length:Int) s=true){sign:Int}(k:sign=1\/sign=-1):
  ∃b f,LU (c,s,sign)=some (b,f)/\match Lx sign s c with|some r=>b=true/\f=r|none=>b=false:=by
 obtain⟨a1,u,d,e,v,j,l⟩:=DS.1 p;have q:=MY a (i:=s.1.toNat) (by omega);have t:=MY a (i:=s.2.1.toNat) (by omega);have hb:s.2.1.toNat<c.length:=by omega
 have g:c.set s.2.1.toNat (c.getD s.2.1.toNat [])=c:=by
  simp_all
 have:=mK k ⟨j,l⟩ a1 d (by omega) hb e (rfl:c.getD s.1.toNat []=_) (by omega) (c.getD s.1.toNat []) (c.getD s.2.1.toNat []) [] [] rfl rfl (by omega) q.2 t.2
 rw[A9,g]at this;simp only[B4,nZ,A9,E3]at this;have m:A3 ((0:Int)<=s.1)=true:=by simp_all
 have o:A3 (s.1<(c.length:Int))=true:=by simp_all
 unfold LU Lx;simp only[m,o,B3,cT];by_cases hA:(Xl sign s.2.2.1 (c.getD s.1.toNat []) (c.getD s.2.1.toNat [])).all Af=true;simp_all;rw[if_neg hA]at this|-;obtain⟨f,h⟩:=this;simp_all
theorem Tf{c g:List (List Int)}{n:Nat}(f:Kn c n){s:AL}(a:GX (c.length:Int) s=true){sign:Int}(h:Lx sign s c=some g):Kn g n/\g.length=c.length:=by
 obtain⟨a1,b,d,e,j,l,m⟩:=DS.1 a;have p:=MY f (i:=s.1.toNat) (by omega);have q:=MY f (i:=s.2.1.toNat) (by omega);unfold Lx at h;simp only at h;split at h;rename_i o;cases h;refine⟨fun r k=>?_,by simp⟩;rcases List.mem_or_eq_of_mem_set k with k|rfl;exact f r k;simp_all[b4b];simp_all
theorem a5d(g:Int):∀xs ys:List Int,xs.length=ys.length->Xl (-1) g xs (Xl 1 g xs ys)=ys
 | [],[],_=>rfl
 |x::xs,y::ys,h=>by
  have f:=a5d g xs ys (by simpa using h);show RX (-1) g x (RX 1 g x y)::Xl (-1) g xs (Xl 1 g xs ys)=_;rw[f];unfold RX;congr 1;omega
 | [],_::_,h=>by grind
 |_::_,[],h=>by rfl
theorem b0Z{c g:List (List Int)}{n:Nat}(f:Kn c n){s:AL}(k:GX (c.length:Int) s=true)(h:Lx 1 s c=some g):Lx (-1) s g=some c:=by
 obtain⟨a1,b,d,e,j,l,m⟩:=DS.1 k;have o:=MY f (i:=s.1.toNat) (by omega);have a:=MY f (i:=s.2.1.toNat) (by omega);have hb:s.2.1.toNat<c.length:=by omega
 unfold Lx at h;simp only at h;split at h;cases h;unfold Lx;simp only;rw[QG _ (show s.1.toNat≠s.2.1.toNat by omega),Lw _ hb,a5d _ _ _ (by omega),if_pos a.2,List.set_set];simp_all;simp_all
def bI:List AL->List (List Int)->Option (List (List Int))
 | [],c=>some c
 |s::l,c=>(Lx 1 s c).bind (bI l)
def UY:List AL->List (List Int)->Option (List (List Int))
 | [],c=>some c
 |s::l,c=>(UY l c).bind (Lx (-1) s)
theorem VB{n:Nat}{N:Nat}:∀(l:List AL){c g:List (List Int)},Kn c n->c.length=N->l.all (GX (N:Int))=true->bI l c=some g->Kn g n/\g.length=N
 | [],c,g,f,e,_,h=>by cases h;simp_all
 |s::l,c,g,f,e,k,h=>by
  simp only[C7,EV]at k;simp[bI,D7]at h;obtain⟨d,a,b⟩:=h;obtain⟨i,j⟩:=Tf f (by simp_all) a;exact VB l i (by omega) k.2 b
theorem a8R{n:Nat}{N:Nat}:∀(l:List AL){c g:List (List Int)},Kn c n->c.length=N->l.all (GX (N:Int))=true->bI l c=some g->UY l g=some c
 | [],c,g,_,_,_,h=>by cases h;rfl
 |s::l,c,g,a,b,f,h=>by
  simp only[C7,EV]at f;simp only[bI,D7]at h;obtain⟨d,k,e⟩:=h;obtain⟨i,j⟩:=Tf a (by rw[b];exact f.1) k;simp only[UY];rw[a8R l i (by omega) f.2 e];exact b0Z a (by rw[b];exact f.1) k
def a7M:Option (List (List Int))->List (List Int)×Int
 |some r=>(r,0)
 |none=>([],6)
theorem a8S{n N:Nat}(e:n<=5000){l:List AL}(p:l.length<=16)(o:l.all (GX (N:Int))=true):∀(k i:Nat)(c:List (List Int)),i+k=l.length->Kn c n->c.length=N->
  Al Mk (l,(l.length:Int),(i:Int),c,())=some (match bI (l.drop i) c with|some r=>D9 (r,())|none=>F3 ([],6,()))
 |0,i,c,h,_,_=>by
  obtain rfl:i=l.length:=by omega
  rw[List.drop_length];exact Ag (by simp only[Mk,rE,cF];rfl)
 |k+1,i,c,h,d,hcl=>by
  have g:i<l.length:=by omega
  rw[K9 g];have j:GX (c.length:Int) l[i]=true:=by grind
  obtain⟨b,f,m,a⟩:=a5c d e j (sign:=1) (.inl rfl);simp[bI];cases hst:Lx 1 l[i] c with
  |none=>
   simp_all[Ag,Mk,Ac]
  |some r=>
   rw[hst]at a;obtain⟨rfl,rfl⟩:=a;obtain⟨q,t⟩:=Tf d j hst;rw[Ai (s':=(l,(l.length:Int),((i+1:Nat):Int),f,())) (by
    simp only[Mk,Cq g,cT,Ac g,oB,m,bT,cF,Aa (show i<1000000 by omega)])]
   rw[a8S e p o k (i+1) f (by omega) q (by omega)];rfl
theorem a8T(c:List (List Int))(l:List AL):Rz (c,l)=some (if ID c/\PP l (c.length:Int)then a7M (bI l c)else([],1)):=by
 unfold Rz;simp only[a2n,oB];by_cases hq:ID c;have h:=a8Q hq;simp only[hq,decide_true,bT,cF,UW,oB,true_and];by_cases hm:PP l (c.length:Int);simp[hm];rw[a0e h (by have:=hq.2.2.1;omega) (by have:=hq.2.1;omega)]
 have:=a8S (N:=c.length) (by have:=hq.2.2.1;omega:(c.headD []).length<=5000) hm.2.2.1 hm.2.2.2 l.length 0 c (by omega) h rfl
 simp at this
 simp
 erw[this];cases bI l c<;>rfl;simp_all;simp_all
theorem mL(s:AL):∀(l:List AL)(c:List (List Int)),UY (l++[s]) c=(Lx (-1) s c).bind (UY l)
 | [],c=>by
  show Lx (-1) s c=_;cases Lx (-1) s c<;>rfl
 |t::l,c=>by
  simp only[F9,UY,mL s l];cases Lx (-1) s c<;>rfl
theorem a0f{n N:Nat}(f:n<=5000){l:List AL}(j:l.all (GX (N:Int))=true)(z:List (List Int))(e:Int):∀(k:Nat)(c:List (List Int)),k<=l.length->Kn c n->c.length=N->
  match UY (l.take k) c with
  |some r=>Pv IJ l k (l,z,e,c,())=some (.inl (l,z,e,r,()))
  |none=>∃d,Pv IJ l k (l,z,e,c,())=some (.inr (.ret,l,[],6,d,()))
 |0,c,_,_,_=>rfl
 |k+1,c,q,g,hcl=>by
  have m:k<l.length:=by omega
  have a:GX (c.length:Int) l[k]=true:=by grind
  obtain⟨b,i,p,h⟩:=a5c g f a (sign:=-1) (.inr rfl);rw[List.take_succ_eq_append_getElem m,mL];cases hst:Lx (-1) l[k] c with
  |none=>
   simp_all[Pv,IJ]
  |some r=>
   rw[hst]at h;obtain⟨rfl,rfl⟩:=h;obtain⟨o,u⟩:=Tf g a hst;have t:=a0f f j z e k i (by omega) o (by omega);simp_all[Pv,IJ]
theorem b6o(c:List (List Int))(l:List AL):PX (c,l)=some (if ID c/\PP l (c.length:Int)then a7M (UY l c)else([],1)):=by
 unfold PX;simp only[a2n,oB];by_cases hq:ID c
 ·have h:=a8Q hq;simp only[hq,decide_true,bT,cF,UW,oB,true_and];by_cases hm:PP l (c.length:Int)
  ·simp[hm];rw[a0e h (by have:=hq.2.2.1;omega) (by have:=hq.2.1;omega)]
   have:=a0f (N:=c.length) (by have:=hq.2.2.1;omega:(c.headD []).length<=5000) hm.2.2.2 [] 0 l.length c (F4 _) h rfl
   rw[E7]at this;simp[AW (show l.length<2147483648 by have:=hm.2.2.1;omega)];cases hu:UY l c with
   |some r=>
    rw[hu]at this;simp only at this;erw[this];rfl
   |none=>
    rw[hu]at this;obtain⟨d,g⟩:=this;erw[g];rfl
  simp_all
 simp_all
def Ba(b:BI):Nat:=(b.2.1.headD []).length
theorem Hv(b:BI):Ft b=some ((Ba b:Nat):Int):=by
 unfold Ft Ba;obtain⟨d,c,u⟩:=b;cases c with
 |nil=>rfl
 |cons r c=>
  rfl
def LB(b:BI):Prop:=4<=b.1/\b.1<=24/\1<=b.2.1.length/\b.2.1.length<=8/\1<=Ba b/\Ba b<=4096/\b.2.1.all (fun r=>A3 (r.length=Ba b)&&r.all fun x=>Cu x b.1)=true
instance (b:BI):Decidable (LB b):=by unfold LB;infer_instance
theorem UZ{x w:Int}(h:4<=w/\w<=24):CM (x,w)=some (Cu x w):=by
 have:=IW (x:=x) (w:=w.toNat) (by omega)
 grind
theorem JG(b:BI):Fu b=some (A3 (LB b)):=by
 unfold Fu JT;by_cases h1:4<=b.1;rotate_left;rw[decide_eq_false (show ¬ LB b from fun h=>h1 h.1),decide_eq_false h1];rfl;by_cases h2:b.1<=24;rotate_left;rw[decide_eq_false (show ¬ LB b from fun h=>h2 h.2.1),decide_eq_true h1,decide_eq_false h2];rfl;by_cases h3:((b.2.1.length:Nat):Int)<1;rw[decide_eq_false (show ¬ LB b from fun h=>by have:=h.2.2.1;omega),decide_eq_true h1,decide_eq_true h2,decide_eq_true h3];rfl;by_cases h4:((b.2.1.length:Nat):Int) > 8;rw[decide_eq_false (show ¬ LB b from fun h=>by have:=h.2.2.2.1;omega),decide_eq_true h1,decide_eq_true h2,decide_eq_false h3,decide_eq_true h4];rfl;have d:A3 (((b.2.1.length:Nat):Int)<1)=false:=by simp_all
 have l:A3 (((b.2.1.length:Nat):Int) > 8)=false:=by simp_all
 simp only[decide_eq_true h1,decide_eq_true h2,d,l,cT,cF,oB,bT,Hv];by_cases h5:((Ba b:Nat):Int)<1;rw[decide_eq_false (show ¬ LB b from fun h=>by have:=h.2.2.2.2.1;omega),decide_eq_true h5];rfl;by_cases h6:((Ba b:Nat):Int) > 4096;rw[decide_eq_false (show ¬ LB b from fun h=>by have:=h.2.2.2.2.2.1;omega),decide_eq_false h5,decide_eq_true h6];rfl;have m:A3 (((Ba b:Nat):Int)<1)=false:=by simp_all
 have n:A3 (((Ba b:Nat):Int) > 4096)=false:=by simp_all
 simp[m,n];have g:∀(i:Nat)(r:LI),short r->Al Gn (b.2.1,(b.2.1.length:Int),(i:Int),r,(r.length:Int),(0:Int),b,())=some (bif r.all (fun x=>Cu x b.1)then D9 (b.2.1,(b.2.1.length:Int),(i:Int),b,())else F3 (false,())):=fun i r o=>by
  have:=Cb (f:=Gn) r (fun j=>(b.2.1,(b.2.1.length:Int),(i:Int),r,(r.length:Int),(j:Int),b,())) (fun x=>Cu x b.1) (bt:=D9 (b.2.1,(b.2.1.length:Int),(i:Int),b,())) (bf:=F3 (false,()))
   (fun j h a=>by simp only[Gn,Cq h,cT,Ac h,oB,UZ ⟨h1,h2⟩,a,bT,cF,Aa (C5 h o)])
   (fun j h a=>by simp_all[Gn,Ac,UZ])
   (by simp_all[Gn])
  omega
 have k:=Cb (f:=Gp) b.2.1 (fun i=>(b.2.1,(b.2.1.length:Int),(i:Int),b,())) (fun r=>A3 (r.length=Ba b)&&r.all fun x=>Cu x b.1) (bt:=D9 ()) (bf:=F3 (false,()))
  (fun i h a=>by
   simp only[EV,dT]at a;have e:((((b.2.1[i]).length:Nat):Int) != ((Ba b:Nat):Int))=false:=by simp_all
   have c:=g i b.2.1[i] (by unfold short;omega);rw[a.2,cT]at c;simp only[Gp,Cq h,cT,Ac h,oB,Hv,e,cF,c,Aa (show i<1000000 by omega)])
  (fun i h a=>by
   by_cases hl:(b.2.1[i]).length=Ba b;have e:((((b.2.1[i]).length:Nat):Int) != ((Ba b:Nat):Int))=false:=by simp_all
   have c:=g i b.2.1[i] (by unfold short;omega);rw[decide_eq_true hl,E5]at a;rw[a,cF]at c;simp_all[Gp,Ac,Hv];have e:((((b.2.1[i]).length:Nat):Int) != ((Ba b:Nat):Int))=true:=by grind
   simp only[Gp,Cq h,cT,Ac h,oB,Hv,e])
  (by simp_all[Gp])
 simp at k;rw[k];by_cases hA:b.2.1.all (fun r=>A3 (r.length=Ba b)&&r.all fun x=>Cu x b.1)=true;rw[hA,decide_eq_true (show LB b from⟨h1,h2,by omega,by omega,by omega,by omega,hA⟩)];rfl;rw[N9.2 hA,decide_eq_false (show ¬ LB b from fun h=>hA h.2.2.2.2.2.2)];rfl
def TH{α β:Type}(g:α->Option β):List α->Option (List β)
 | []=>some []
 |a::l=>(g a).bind fun b=>(TH g l).bind fun r=>some (b::r)
theorem mM{α β:Type}{g:α->Option β}:∀{l:List α}{r:List β},TH g l=some r->r.length=l.length
 | [],r,h=>by cases h;rfl
 |a::l,r,h=>by
  simp only[TH,D7]at h;obtain⟨b,-,c,f,k⟩:=h;cases k;simp[mM f]
theorem a0g{α β:Type}{g:α->Option β}:∀{l:List α}{r:List β},TH g l=some r->∀a∈l,(g a).isSome=true
 | [],r,h,a,d=>by cases d
 |a::l,r,h,x,f=>by
  simp only[TH,D7]at h;obtain⟨b,k,i,c,e⟩:=h;rcases mC.1 f with rfl|f;rw[k];rfl;exact a0g c x f
def Rh(f:BL):Option BI:=
 if a0b f/\((f.2.2.2.2.1.length:Nat):Int)=f.2.2.1.2.1 then
  (TH (fun s=>F9S s f.2.1) f.2.2.2.2.1).bind fun rs=>
   if ID rs/\PP f.2.2.2.1 (rs.length:Int)then
    (UY f.2.2.2.1 rs).bind fun ch=>if LB (f.2.2.1.2.2.1,ch,())then Option.some (f.2.2.1.2.2.1,ch,())else O9
   else O9
 else O9
def Va:BI:=(0,[],())
def c6L:Option BI->BI×Int
 |some b=>(b,0)
 |none=>(Va,1)
theorem dW(f:BL)(all:List BS)(l:all.length<=8):∀(zG zF:List BS)(g:List (List Int)),zF++zG=all->g.length=zF.length->(∀s∈zG,sN s)->
  Al Gx (all,(all.length:Int),(zF.length:Int),g,Va,f,())=some (match TH (fun s=>F9S s f.2.1) zG with|some rs=>D9 (g++rs,Va,f,())|none=>F3 (1,Va,()))
 | [],zF,g,c,i,_=>by
  have e:zF=all:=by simpa using c
  subst e;rw[Ag (b:=D9 (g,Va,f,())) (by simp only[Gx,rE,cF])];simp[TH]
 |s::zG,zF,g,c,i,h=>by
  have m:=h s (by simp);have a:zF.length<all.length:=by rw[<-c];simp
  have d:Az all (zF.length:Int)=some s:=by rw[Ac a];subst c;simp
  have k:=kR m f.2.1;simp only[TH];cases ho:F9S s f.2.1 with
  |none=>
   rw[ho]at k;have b1:((1:Int) != 0)=true:=rfl;exact Ag (by simp only[Gx,Cq a,cT,d,oB,k,b1];rfl)
  |some r=>
   rw[ho]at k;have j:((0:Int) != 0)=false:=rfl;rw[Ai (s':=(all,(all.length:Int),(((zF++[s]).length:Nat):Int),g++[r],Va,f,())) (by
    simp only[Gx,Cq a,cT,d,oB,k,j,cF,AW (show g.length+1<2147483648 by omega),Aa (show zF.length<1000000 by omega)]
    simp)]
   rw[dW f all l zG (zF++[s]) (g++[r]) (by simpa using c) (by simp[i]) (fun t n=>h t (by simp[n]))];simp only[oB];cases TH (fun s=>F9S s f.2.1) zG<;>simp
theorem a5e{f:BL}(d:∀s∈f.2.2.2.2.1,sN s):FN f=some (c6L (Rh f)):=by
 unfold FN Rh;simp only[UX,oB];by_cases hf:a0b f;rotate_left;simp only[hf,decide_false,G9,cT,oB,false_and,if_false];rfl;by_cases hl:((f.2.2.2.2.1.length:Nat):Int)=f.2.2.1.2.1;rotate_left;have e:(((f.2.2.2.2.1.length:Nat):Int) != f.2.2.1.2.1)=true:=by simpa using hl
 simp only[hf,decide_true,bT,cF,oB,e,cT,hl,and_false,if_false];rfl;have e:(((f.2.2.2.2.1.length:Nat):Int) != f.2.2.1.2.1)=false:=by simpa using hl
 have c:f.2.2.2.2.1.length<=8:=by have:=hf.1.2.2.2.1;omega
 have b:A3 ((0:Int)<=((f.2.2.2.2.1.length:Nat):Int))=true:=by simp
 have h:=dW f f.2.2.2.2.1 c f.2.2.2.2.1 [] [] rfl rfl d;rw[B4]at h;rw[if_pos ⟨hf,hl⟩];simp only[hf,decide_true,bT,cF,oB,e,b,tN,AW (show f.2.2.2.2.1.length<2147483648 by omega),B3,cT];erw[h];cases hm:TH (fun s=>F9S s f.2.1) f.2.2.2.2.1 with
 |none=>rfl
 |some g=>
  simp only[oB,A9,b6o];by_cases hq:ID g/\PP f.2.2.2.1 (g.length:Int)
  ·simp only[if_pos hq];cases hu:UY f.2.2.2.1 g with
   |none=>rfl
   |some a=>
    have k:((0:Int) != 0)=false:=rfl;simp only[a7M,k,cF,JG,oB];by_cases hb:LB (f.2.2.1.2.2.1,a,());simp only[hb,decide_true,bT,cF,if_true];rfl;simp only[hb,decide_false,G9,cT,if_false];rfl
  simp only[if_neg hq];rfl
theorem b4d{f:BL}(h:∀s∈f.2.2.2.2.1,sN s):Fx f=some (Rh f).isSome:=by
 unfold Fx;rw[a5e h];cases Rh f<;>rfl
theorem Tg{f:BL}{b:BI}(h:Rh f=some b):a0b f/\((f.2.2.2.2.1.length:Nat):Int)=f.2.2.1.2.1/\∀s∈f.2.2.2.2.1,(F9S s f.2.1).isSome=true:=by
 unfold Rh at h;split at h;rename_i g;simp only[D7]at h;obtain⟨a,k,-⟩:=h;exact⟨g.1,g.2,a0g k⟩;cases h
theorem a7N{f:BL}{b:BI}(k:∀s∈f.2.2.2.2.1,sN s)(h:Rh f=some b):∃L,L.length<=5600000/\some ((L.length:Nat):Int)=f.2.2.2.2.1.foldr (fun s a=>a.bind fun a=>(Ho (s,f.2.1)).bind fun c=>some (c+a)) (some 0)/\
  FA f=some (Ic f L,0)/\(∀R:List Int,R.length<=200000000->Cs (Ic f L++R)=some (f,((Ic f L).length:Int),(0:Int))):=by
 obtain⟨g,j,l⟩:=Tg h;have d:Fx f=some true:=by rw[b4d k,h];rfl
 have m:f.2.2.2.2.1.length<=8:=by have:=g.1.2.2.2.1;omega
 obtain⟨t,o,p,i,q,r⟩:=YJ d g m (fun s e=>⟨k s e,l s e⟩);exact⟨Ay t,i,q,r,fun R n=>pW d g j o p i n⟩
theorem a5f(x:AL):nE (.pair (.int .i64) (.pair (.int .i64) (.pair (.int .i64) .unit))) x x=true:=by
 show((x.1==x.1)&&((x.2.1==x.2.1)&&((x.2.2.1==x.2.2.1)&&true)))=true
 simp
theorem YK{x w:Int}(h:4<=w/\w<=24):Pe (x,w)=some (Cu x w):=by
 have:=UE (x:=x) (w:=w.toNat) (by omega)
 grind
theorem b6p{x w:Int}(c:4<=w/\w<=24)(h:Cu x w=true):-16777216<=x/\x<=16777216:=by
 unfold Cu at h;simp at h;obtain⟨-,-,f,g⟩:=h;obtain⟨o,k⟩:∃o:Nat,w-1=(o:Int):=⟨(w-1).toNat,by omega⟩;rw[k]at f g;rw[b3s (by omega)]at g;have b:2^o<=2^24:=D6 (by omega) (by omega);have a:AT .i64 (-1) (o:Int)=zD .i64 (-((2^o:Nat):Int)):=by
  unfold AT;show zD .i64 (-1*2^(min (o:Int).toNat 64))=_;grind
 grind[Ae]
theorem b1a{x w:Int}(g:4<=w/\w<=24)(h:Cu x w=true):Af x=true:=CD.2 (by have:=b6p g h;omega)
theorem Vb{b:BI}(h:LB b):Kn b.2.1 (Ba b)/\ID b.2.1:=by
 obtain⟨k,a,c,d,e,i,g⟩:=h;have j:Kn b.2.1 (Ba b):=fun r f=>by
  have:=lA.1 g r f
  simp only[EV,dT]at this;grind[b1a]
 grind[mJ]
theorem a7O{b:BI}(hb:LB b){l:List AL}(e:PP l (b.2.1.length:Int)){h:List (List Int)}(p:bI l b.2.1=some h){f:List BS}(t:TH (fun s=>F9S s ((Ba b:Nat):Int)) f=some h)
  {start rate:Int}(g:0<=start/\start<=4194304-((Ba b:Nat):Int))(r:1<=rate/\rate<=1048576):
  Rh (start,((Ba b:Nat):Int),(rate,((b.2.1.length:Nat):Int),b.1,()),l,f,())=some b:=by
 obtain⟨o,A⟩:=Vb hb;obtain⟨z,B⟩:=VB l o rfl e.2.2.2 p;have q:=mM t;obtain⟨j,m,u,v,w,n,x⟩:=hb;have d:a0b (start,((Ba b:Nat):Int),(rate,((b.2.1.length:Nat):Int),b.1,()),l,f,()):=⟨⟨r.1,r.2,by grind,by grind,j,m⟩,by grind,by grind,g.1,g.2,e⟩;have c:((f.length:Nat):Int)=((b.2.1.length:Nat):Int):=by omega
 have k:ID h:=mJ z (by omega) (by omega) n;have i:PP l ((h.length:Nat):Int):=by simp_all
 have y:=a8R l o rfl e.2.2.2 p;have a:((b.1,b.2.1,()):BI)=b:=rfl;unfold Rh;rw[if_pos ⟨d,c⟩];simp only[t,oB];rw[if_pos ⟨k,i⟩,y];simp only[oB,a];rw[if_pos ⟨j,m,u,v,w,n,x⟩]
def Vc:BL:=(0,0,(0,0,0,()),[],[],())
theorem b6q(k:Nat)(a:k<=62)(y:Int):∃v:Nat,bits .i64 .and y ((2^k-1:Nat):Int)=(v:Int)/\v<2^k:=by
 have b:2^k<=2^62:=D6 (by omega) a;have f:0<2^k:=Nat.pow_pos (by omega);have h:((A4 64 y) &&& (A4 64 ((2^k-1:Nat):Int))).toNat=(A4 64 y).toNat%2^k:=by
  rw[I3];have e:(A4 64 ((2^k-1:Nat):Int)).toNat=2^k-1:=by
   rw[B8];generalize 2^k=p at *;omega
  rw[e,F0]
 have g:=C3 (A4 64 y).toNat f;refine⟨(A4 64 y).toNat%2^k,?_,g⟩;show zD .i64 ((((A4 64 y) &&& (A4 64 ((2^k-1:Nat):Int))).toNat:Nat):Int)=_;rw[h];generalize (A4 64 y).toNat%2^k=z at *;exact Ae (by omega)
theorem mN(c:List (List Int))(n i:Int){r:LI}(a:short r):∀(k j:Nat)(s:Int),2<=j->j+k=r.length\/(k=0/\r.length<=j)->∃s',Al Jt (s,r,(j:Int),c,n,i,())=some (s',c,n,i,())
 |0,j,s,p,h=>⟨s,Ag (by
   have d:A3 ((j:Int)<(r.length:Int))=false:=by grind
   simp only[Jt,d,cF])⟩
 |k+1,j,s,p,h=>by
  have f:j<r.length:=by omega
  unfold short at a;have b:zD .i64 ((j:Int)-1)=((j-1:Nat):Int):=by grind[Ae]
  have e:zD .i64 ((j:Int)-2)=((j-2:Nat):Int):=by grind[Ae]
  have m:=Ac (l:=r) (i:=j-1) (by omega);have o:=Ac (l:=r) (i:=j-2) (by omega);obtain⟨s',g⟩:=mN c n i a k (j+1) (zD .i64 (s+EA (zD .i64 (zD .i64 (r[j]-zD .i64 (2*r[j-1]))+r[j-2])) (zD .i64 (0-zD .i64 (zD .i64 (r[j]-zD .i64 (2*r[j-1]))+r[j-2]))))) (by omega) (by omega);refine⟨s',?_⟩;rw[<-g];exact Ai (by simp only[Jt,Cq f,cT,Ac f,oB,b,e,m,o,Aa (show j<1000000 by omega)])
theorem a0h{c:List (List Int)}{n:Nat}(h:Kn c n)(q:n<=4096)(p:c.length<1000):∃w,Ke c=some w:=by
 unfold Ke;simp only[a2n,oB];by_cases hq:ID c;rotate_left;simp_all;simp[hq];have f:∀(k i:Nat)(s:Int),i+k=c.length->∃b,Al Ju (s,c,(c.length:Int),(i:Int),())=some (b,()):=by
  intro k
  induction k with
  |zero=>
   intro i s e;obtain rfl:i=c.length:=by omega
   simp_all[Ag,Ju]
  |succ k l=>
   intro i s e;have g:i<c.length:=by omega
   have t:=(h _ (C0 g)).1;obtain⟨m,a⟩:=mN c (c.length:Int) (i:Int) (r:=c[i]) (by unfold short;omega) (c[i].length-2) 2 s (F4 _) (by omega);obtain⟨o,d⟩:=l (i+1) m (by omega);refine⟨o,?_⟩;rw[<-d];rw[show((2:Nat):Int)=2 from rfl]at a;exact Ai (by simp only[Ju,Cq g,cT,Ac g,oB,a,Aa (show i<1000000 by omega)])
 obtain⟨b,j⟩:=f c.length 0 0 (by omega);simp_all
def KX(m:Nat):List AL:=match m with
 | 1=>[(0,1,-256,())]
 | 2=>[(1,0,-256,())]
 | 3=>[(1,0,-256,()),(0,1,128,())]
 | 4=>[(1,0,-106,()),(0,1,181,()),(1,0,-106,())]
 |_=>[]
theorem mO{m:Nat}(h:m<=4):OI (m:Int)=some (KX m):=by
 match m,h with
 |0,_=>rfl
 | 1,_=>rfl
 | 2,_=>rfl
 | 3,_=>rfl
 | 4,_=>rfl
theorem a0i{m:Nat}(h:m<=4):PP (KX m) 2:=by
 match m,h with
 |0,_=>decide
 | 1,_=>decide
 | 2,_=>decide
 | 3,_=>decide
 | 4,_=>decide
theorem VC{p:List (List Int)}{n:Nat}(hp:Kn p n)(e:p.length=2)(hq:ID p)(c:n<=4096):∀(k m h:Nat)(least:Int),m+k=5->h<=4->(bI (KX h) p).isSome=true->
  ∃g,Al IM (p,(h:Int),least,(m:Int),())=some (((g:Nat):Int),())/\g<=4/\(bI (KX g) p).isSome=true
 |0,m,h,least,o,hb,b=>by
  obtain rfl:m=5:=by omega
  exact⟨h,Ag rfl,hb,b⟩
 |k+1,m,h,least,o,hb,b=>by
  have d:A3 ((m:Int)<5)=true:=by grind
  have j:zD .i64 ((m:Int)+1)=((m+1:Nat):Int):=Aa (by omega);have a:PP (KX m) (p.length:Int):=by grind[a0i]
  cases hdo:bI (KX m) p with
  |none=>
   have b1:((6:Int) != 0)=true:=rfl;rw[Ai (s':=(p,(h:Int),least,((m+1:Nat):Int),())) (by
    simp only[IM,d,cT,mO (show m<=4 by omega),oB,a8T,if_pos (show ID p/\PP (KX m) (p.length:Int)from⟨hq,a⟩),hdo,a7M,b1,j])]
   exact VC hp e hq c k (m+1) h least (by omega) hb b
  |some r=>
   have l:((0:Int) != 0)=false:=rfl;obtain⟨q,t⟩:=VB (KX m) hp rfl a.2.2.2 hdo
   obtain⟨w,i⟩:=a0h q c (by omega);have f:IM (p,(h:Int),least,(m:Int),())=bif A3 (w<least)then some (.inl (p,(m:Int),w,((m+1:Nat):Int),()))else some (.inl (p,(h:Int),least,((m+1:Nat):Int),())):=by
    simp only[IM,d,cT,mO (show m<=4 by omega),oB,a8T,if_pos (show ID p/\PP (KX m) (p.length:Int)from⟨hq,a⟩),hdo,a7M,l,cF,i,j]
   cases hlt:A3 (w<least)with
   |true=>
    rw[hlt]at f;rw[Ai f];exact VC hp e hq c k (m+1) m w (by omega) (by omega) (by simp_all)
   |false=>
    rw[hlt]at f;rw[Ai f];exact VC hp e hq c k (m+1) h least (by omega) hb b
theorem b6r{p:List (List Int)}{n:Nat}(hp:Kn p n)(g:p.length=2)(h:n<=4096):∃m,m<=4/\Qj p=some (KX m)/\(bI (KX m) p).isSome=true:=by
 have k:=mJ hp (by omega) (by omega) h;obtain⟨w,c⟩:=a0h hp h (by omega);obtain⟨m,a,f,b⟩:=VC hp g k h 4 1 0 w rfl (by omega) rfl;grind[Qj,mO]
def Vd(i:Nat)(s:AL):AL:=(s.1+(i:Int),s.2.1+(i:Int),s.2.2.1,())
theorem b4e{i N:Nat}(h:i+2<=N){s:AL}(k:GX 2 s=true):GX (N:Int) (Vd i s)=true:=by
 obtain⟨a1,a,b,c,d,g,f⟩:=DS.1 k;exact DS.2 ⟨by show 0<=s.1+(i:Int);omega,by show s.1+(i:Int)<(N:Int);omega,by show 0<=s.2.1+(i:Int);omega,by show s.2.1+(i:Int)<(N:Int);omega,by show s.1+(i:Int)≠s.2.1+(i:Int);omega,g,f⟩
def a8U(i:Nat)(c c' p:List (List Int)):Prop:=c'.length=c.length/\p.length=2/\c'.getD i []=p.getD 0 []/\c'.getD (i+1) []=p.getD 1 []/\∀j,j≠i->j≠i+1->c'.getD j []=c.getD j []
theorem a7P{i:Nat}{c0 c p p':List (List Int)}(hi:i+2<=c0.length)(h:a8U i c0 c p){s:AL}(o:GX 2 s=true)(g:Lx 1 s p=some p'):∃k,Lx 1 (Vd i s) c=some k/\a8U i c0 k p':=by
 obtain⟨z,A,B,C,D⟩:=h;obtain⟨a1,a,b,d,t,u,v⟩:=DS.1 o;unfold Lx at g|-;simp only at g|-;have f:∀x:Int,0<=x->x<2->c.getD (x+(i:Int)).toNat []=p.getD x.toNat []:=fun x F q=>by
  grind
 have w:=f s.1 a1 a;have y:=f s.2.1 b d;simp only[Vd];have n:Xl 1 s.2.2.1 (c.getD (s.1+(i:Int)).toNat []) (c.getD (s.2.1+(i:Int)).toNat [])=Xl 1 s.2.2.1 (p.getD s.1.toNat []) (p.getD s.2.1.toNat []):=by simp_all
 simp only[n];split at g;rename_i l;cases g;rw[if_pos l];generalize Xl 1 s.2.2.1 (p.getD s.1.toNat []) (p.getD s.2.1.toNat [])=r at *;refine⟨_,rfl,by grind,by grind,?_,?_,fun j E m=>?_⟩
 have:s.2.1=0\/s.2.1=1:=by omega
 rcases this with e|e;rw[e,show((0:Int)+(i:Int)).toNat=i from by omega,Lw _ (by omega),show(0:Int).toNat=0 from rfl,Lw _ (by omega)];rw[e,show((1:Int)+(i:Int)).toNat=i+1 from by omega,QG _ (by omega),show(1:Int).toNat=1 from rfl,QG _ (by omega)];omega
 have:s.2.1=0\/s.2.1=1:=by omega
 rcases this with e|e;simp_all;rw[e,show((1:Int)+(i:Int)).toNat=i+1 from by omega,Lw _ (by omega),show(1:Int).toNat=1 from rfl,Lw _ (by omega)];rw[QG _ (by omega)];simp_all;simp_all
theorem a5g{i:Nat}{c0:List (List Int)}(hi:i+2<=c0.length):∀(l:List AL){c p p':List (List Int)},l.all (GX 2)=true->a8U i c0 c p->bI l p=some p'->∃g,bI (l.map (Vd i)) c=some g/\a8U i c0 g p'
 | [],c,p,p',_,h,f=>by cases f;exact⟨c,rfl,h⟩
 |s::l,c,p,p',k,h,f=>by
  simp only[C7,EV]at k;simp[bI,D7]at f;obtain⟨q,a,b⟩:=f;obtain⟨d,e,j⟩:=a7P hi h k.1 a;obtain⟨g,j1,j2⟩:=a5g hi l k.2 j b;exact⟨g,by simp only[D8,bI,e,oB];exact j1,j2⟩
theorem a8V:∀(l m:List AL)(c:List (List Int)),bI (l++m) c=(bI l c).bind (bI m)
 | [],m,c=>rfl
 |s::l,m,c=>by
  simp only[F9,bI];cases Lx 1 s c with
  |none=>rfl
  |some d=>exact a8V l m d
theorem a7Q{α β:Type}(f:α->β):∀l:List α,l.flatMap (fun x=>[f x])=l.map f
 | []=>rfl
 |x::l=>by simp[a7Q f l]
theorem a5h(b:BI)(first:Nat)(u:first<=100){y:List AL}(e:y.all (GX 2)=true)(t:y.length<=10)(out:List AL)(v:out.length<=1000):
  Al IN ((first:Int),(y.length:Int),(0:Int),out,y,b,())=some ((first:Int),out++y.map (Vd first),b,()):=by
 have:=BH (f:=IN) (β:=Int×(List AL×(BI×Unit))) y (fun i (a:List AL)=>((first:Int),(y.length:Int),(i:Int),a,y,b,())) (fun a x=>.inl (a++[Vd first x])) (fun i a=>a.length=out.length+i) (fun a=>((first:Int),a,b,()))
  (fun i g a c=>⟨fun j h=>by
   simp at h;subst h;obtain⟨a1,l,m,o,p,q,r⟩:=DS.1 (lA.1 e _ (C0 g));have k:A3 ((0:Int)<=(i:Int))=true:=by simp
   have d:P7 y (E8 (i:Int)) ((0:Int),(0:Int),(0:Int),())=y[i]:=by simp_all
   refine⟨?_,by grind⟩;simp only[IN,Cq g,cT,k,B3,AW (show a.length+1<2147483648 by omega),d,Aa (show i<1000000 by omega),C2];rw[Ae (n:=y[i].1+(first:Int)) (by omega),Ae (n:=y[i].2.1+(first:Int)) (by omega)]
   rfl,fun b hb=>by grind⟩)
  (fun a c=>by simp_all[IN]) (a:=out) (by simp)
 simp_all[NT,SK,a7Q]
theorem c2h{c:List (List Int)}{i:Nat}(h:i+2<=c.length):E4 i (E2 (i+2) c)=[c.getD i [],c.getD (i+1) []]:=by
 apply List.ext_getElem?;intro j;rw[J9];grind
theorem mP{b:BI}{n:Nat}(o:Kn b.2.1 n)(p:n<=4096)(z:b.2.1.length<=8):∀(k j:Nat)(out:List AL)(c:List (List Int)),j+k=5->out.length<=3*j->out.all (GX (b.2.1.length:Int))=true->bI out b.2.1=some c->(∀i,2*j<=i->c.getD i []=b.2.1.getD i [])->3*j<=12\/b.2.1.length<=2*j->
  ∃l f,Al Ml (((2*j:Nat):Int),out,b,())=some (l,())/\l.length<=16/\l.all (GX (b.2.1.length:Int))=true/\bI l b.2.1=some f
 |k,j,out,c,O,hol,hob,hdo,hag,h12=>by
  have g:zD .i64 (((2*j:Nat):Int)+1)=((2*j+1:Nat):Int):=by grind[Ae]
  by_cases hlt:2*j+1<b.2.1.length
  ·cases k with
   |zero=>omega
   |succ k=>
    have e:zD .i64 (((2*j:Nat):Int)+2)=((2*j+2:Nat):Int):=by grind[Ae]
    have D:Kn [b.2.1.getD (2*j) [],b.2.1.getD (2*j+1) []] n:=fun r q=>by
     simp only[mC,D4,or_false]at q;rcases q with rfl|rfl;all_goals grind[MY]
    obtain⟨m,u,Q,F⟩:=b6r D rfl p;obtain⟨R,d⟩:=Option.isSome_iff_exists.1 F;have h:=(a0i u).2.2.2;have C:(KX m).length<=3:=by
     match m,u with
     |0,_=>decide
     | 1,_=>decide
     | 2,_=>decide
     | 3,_=>decide
     | 4,_=>decide
    have A:c.length=b.2.1.length:=(VB out o rfl hob hdo).2;obtain⟨f,G,H,I,K,L,M⟩:=a5g (i:=2*j) (c0:=c) (by omega) (KX m) h ⟨rfl,rfl,hag _ (F4 _),hag _ (by omega),fun _ _ _=>rfl⟩ d;have B:=a5h b (2*j) (by omega) h (by omega) out (by omega);have a:A3 (((2*j+1:Nat):Int)<((b.2.1.length:Nat):Int))=true:=by grind
    have v:A3 ((0:Int)<=((2*j+2:Nat):Int))=true:=by rfl
    have w:A3 (((2*j+2:Nat):Int)<=((b.2.1.length:Nat):Int))=true:=by grind
    have x:A3 ((0:Int)<=((2*j:Nat):Int))=true:=by rfl
    have y:A3 (((2*j:Nat):Int)<=((2*j+2:Nat):Int))=true:=by grind
    rw[Ai (s':=(((2*(j+1):Nat):Int),out++(KX m).map (Vd (2*j)),b,())) (by
     simp only[Ml,g,a,cT,e,v,w,B3,tN,x,y];grind[c2h])]
    refine mP o p z k (j+1) (out++(KX m).map (Vd (2*j))) f (by omega) (by grind) ?_ (by simp_all[a8V]) (fun i N=>by grind) (by omega);rw[List.all_append,hob,E5,lA];intro s E;obtain⟨t,P,rfl⟩:=G8.1 E;grind[b4e]
  refine⟨out,c,Ag ?_,by omega,hob,hdo⟩;have a:A3 (((2*j+1:Nat):Int)<((b.2.1.length:Nat):Int))=false:=by grind
  simp only[Ml,g,a,cF]
termination_by k=>k
theorem a2o{b:BI}(hb:LB b):∃l h,Lo b=some l/\PP l (b.2.1.length:Int)/\bI l b.2.1=some h:=by
 obtain⟨c,-⟩:=Vb hb;have a:=hb.2.2.2.1;obtain⟨l,h,d,g,f,k⟩:=mP c hb.2.2.2.2.2.1 a 5 0 [] b.2.1 rfl (by simp) rfl rfl (fun _ _=>rfl) (by omega);refine⟨l,h,?_,⟨by have:=hb.2.2.1;omega,by omega,g,f⟩,k⟩;unfold Lo;simp[JG,decide_eq_true hb];simp_all
theorem b4f{r:LI}{n:Nat}(h:r.length=n/\r.all Af=true)(a:1<=n)(b:n<=256){k:Int}(f:0<=k)(c:k<=3):
  ∃s,IQ (r,k)=some (s,0)/\sN s/\F9S s (n:Int)=some r/\ML s (n:Int)<=((13+Ar r*n:Nat):Int):=by
 obtain⟨e,g⟩:=h;have d:=KW (l:=r) (by omega) g;grind[a7E,b8J]
theorem mQ{effort:Int}(b:0<=effort)(j:effort<=3){h:List (List Int)}{n:Nat}(l:Kn h n)(c:1<=n)(i:n<=256)(m:h.length<=8)(f:BL):∀(zG d:List (List Int)) (zF:List BS),d++zG=h->zF.length=d.length->
  ∃g,Al HE (effort,h,(h.length:Int),(d.length:Int),Vc,RW f zF,())=some (.inl (Vc,RW f (zF++g),()))/\TH (fun s=>F9S s (n:Int)) g=some zG/\(∀s∈g,sN s)/\TH (fun r=>IQ (r,effort)) zG=some (g.map fun s=>(s,0))
 | [],d,zF,o,hdl=>by
  have e:d=h:=by simp_all
  subst e;refine⟨[],?_,rfl,by simp,rfl⟩;simp_all[Ag,HE]
 |r::zG,d,zF,o,hdl=>by
  have a:d.length<h.length:=by grind
  have p:Az h (d.length:Int)=some r:=by grind[Ac]
  obtain⟨s,b1,b2,q,-⟩:=b4f (l r (by grind)) c i b j;have z0:((0:Int) != 0)=false:=rfl;have k:HE (effort,h,(h.length:Int),(d.length:Int),Vc,RW f zF,())=some (.inl (effort,h,(h.length:Int),(((d++[r]).length:Nat):Int),Vc,RW f (zF++[s]),())):=by
   simp only[HE,Cq a,cT,p,oB,b1,z0,cF];rw[show(RW f zF).2.2.2.2.1=zF from rfl,AW (show zF.length+1<2147483648 by omega),cT,Aa (show d.length<1000000 by omega)];rw[show(((d++[r]).length:Nat):Int)=((d.length+1:Nat):Int)from by simp];rfl
  rw[Ai k];obtain⟨g,v,w,x,y⟩:=mQ b j l c i m f zG (d++[r]) (zF++[s]) (by simp_all) (by simp_all);refine⟨s::g,?_,?_,fun t u=>?_,?_⟩;simp_all;simp_all[TH];grind;simp_all[TH]
theorem a7R{b:BI}(hb:LB b)(a:Ba b<=256){rate start effort:Int}(o:1<=rate/\rate<=1048576)(C:0<=start/\start<=4194304-((Ba b:Nat):Int))(z:0<=effort)(A:effort<=3):
  ∃l g f,Ep (b,(rate,((b.2.1.length:Nat):Int),b.1,()),start,effort)=some ((start,((Ba b:Nat):Int),(rate,((b.2.1.length:Nat):Int),b.1,()),l,f,()),0)/\
   PP l (b.2.1.length:Int)/\bI l b.2.1=some g/\TH (fun s=>F9S s ((Ba b:Nat):Int)) f=some g/\(∀s∈f,sN s)/\TH (fun r=>IQ (r,effort)) g=some (f.map fun s=>(s,0))/\
   (effort=0->l=[])/\(0<effort->Lo b=some l):=by
 obtain⟨B,n⟩:=Vb hb;have j:=hb;obtain⟨x,y,E,F,G,H,-⟩:=j;have m:NU (rate,((b.2.1.length:Nat):Int),b.1,()):=⟨o.1,o.2,by grind,by grind,x,y⟩;have k:∃l g,PP l (b.2.1.length:Int)/\bI l b.2.1=some g/\(effort=0->l=[])/\(0<effort->Lo b=some l):=by
  by_cases he:effort=0;exact⟨[],b.2.1,⟨by omega,by omega,by simp,rfl⟩,rfl,fun _=>rfl,fun h=>by omega⟩;grind[a2o]
 obtain⟨l,g,i,e,c,d⟩:=k;obtain⟨D,I⟩:=VB l B rfl i.2.2.2 e;obtain⟨f,j1,j2,j3,j4⟩:=mQ z A D (by omega) a (by omega) (start,((Ba b:Nat):Int),(rate,((b.2.1.length:Nat):Int),b.1,()),l,([]:List BS),()) g [] [] rfl rfl;refine⟨l,g,f,?_,i,e,j2,j3,j4,c,d⟩;have v:(b.1 != b.1)=false:=bne_self_eq_false _;have w:(((b.2.1.length:Nat):Int) != ((b.2.1.length:Nat):Int))=false:=bne_self_eq_false _;have p:A3 (effort<0)=false:=by simp_all
 have q:A3 (effort > 3)=false:=by simp_all
 have t:A3 (start<0)=false:=by simp_all
 have u:A3 (start > zD .i64 (4194304-((Ba b:Nat):Int)))=false:=by grind[Ae]
 have z0:((0:Int) != 0)=false:=rfl;unfold Ep;simp only[JG,decide_eq_true hb,oB,bT,cF,GO,decide_eq_true m,v,w,p,q,t,Hv,u];cases he:A3 (effort > 0)with
 |true=>
  have:=d (by simp_all)
  simp[this,a8T,if_pos (show ID b.2.1/\PP l (b.2.1.length:Int)from⟨n,i⟩),e,a7M];erw[j1];rfl
 |false=>
  have:=c (by grind)
  subst this;simp only[cF,oB,a8T,if_pos (show ID b.2.1/\PP ([]:List AL) (b.2.1.length:Int)from⟨n,i⟩),e,a7M,z0];erw[j1];rfl
theorem made{b:BI}(hb:LB b)(f:Ba b<=256){rate start effort:Int}(i:1<=rate/\rate<=1048576)(c:0<=start/\start<=4194304-((Ba b:Nat):Int))(m:0<=effort)(o:effort<=3):
  ∃g:Int×(AL×(List AL×(List BS×Unit))),Ep (b,(rate,((b.2.1.length:Nat):Int),b.1,()),start,effort)=some ((start,g),0)/\g.1=((Ba b:Nat):Int)/\g.2.1=(rate,((b.2.1.length:Nat):Int),b.1,())/\
   g.2.2.1.length<=16/\g.2.2.2.1.length<=8/\(∀s∈g.2.2.2.1,sN s)/\∀h,0<=h/\h<=4194304-((Ba b:Nat):Int)->Rh (h,g)=some b:=by
 obtain⟨l,j,k,n,a,d,e,p,-⟩:=a7R hb f i c m o;obtain⟨q,-⟩:=Vb hb;have u:=mM e;have r:=(VB l q rfl a.2.2.2 d).2;exact⟨_,n,rfl,rfl,a.2.2.1,by have:=hb.2.2.2.1;show k.length<=8;omega,p,fun h t=>a7O hb a d e t i⟩
theorem b6s(y:Int):bits .i64 .and y 255=y%256:=by
 have h:((A4 64 y) &&& (A4 64 255)).toNat=(y%18446744073709551616).toNat%256:=by
  rw[I3,B8];have e:(A4 64 255).toNat=2^8-1:=by decide
  rw[e,F0];rfl
 show zD .i64 ((((A4 64 y) &&& (A4 64 255)).toNat:Nat):Int)=_;rw[h,Ae (by omega)];omega
theorem c6M(x:Int){j:Nat}(g:j<8):AR .i64 x ((8*j:Nat):Int)=x.fdiv (256^j):=by
 have h:min (E8 ((8*j:Nat):Int)) (IntKind.bits .i64)=8*j:=by
  simp only[tN,IntKind.bits];omega
 unfold AR;rw[h,show(256:Int)=2^8 from rfl,<-Int.pow_mul]
def a8W(k:Nat)(x:Int):List Int:=a1L k (x%18446744073709551616).toNat
theorem b6t(x:Int)(j:Nat)(g:j<8):((((x%18446744073709551616).toNat) / 256^j%256:Nat):Int)=x.fdiv (256^j)%256:=by
 have h:j=0\/j=1\/j=2\/j=3\/j=4\/j=5\/j=6\/j=7:=by omega
 rcases h with rfl|rfl|rfl|rfl|rfl|rfl|rfl|rfl<;>rw[G3 _ (by decide)]<;>simp only[Nat.reducePow,Int.reducePow]<;>omega
theorem Xm(k:Nat)(x:Int):(a8W k x).length=k:=PD _ _
theorem b4g(k:Nat)(h:k<8)(x:Int):a8W (k+1) x=a8W k x++[x.fdiv (256^k)%256]:=by
 unfold a8W;rw[kI,b6t x k h]
theorem bJ:∀(k n:Nat),∀b∈a1L k n,0<=b/\b<256
 |0,_=>by simp[a1L]
 |k+1,n=>fun b hb=>by
  rcases mC.1 hb with rfl|hb;omega;exact bJ k _ b hb
def Jc(w:Int)(l:List Int):List Int:=l.flatMap (a8W ((w+7) / 8).toNat)
theorem a5i{k:Nat}{g:Int->List Int}(h:∀x,(g x).length=k):∀(l:LI),(l.flatMap g).length=l.length*k
 | []=>by simp
 |x::l=>by
  rw[D0,lN,h,a5i h l,lC,L7];omega
theorem a7S{w:Int}(hw:4<=w/\w<=24)(l:LI):(Jc w l).length<=3*l.length:=by
 unfold Jc;rw[a5i (Xm _)]
 have:((w+7) / 8).toNat<=3:=by omega
 calc l.length*((w+7) / 8).toNat<=l.length*3:=Nat.mul_le_mul_left _ this
  _=3*l.length:=J6 ..
theorem a7T(w:Int)(a b:LI):Jc w (a++b)=Jc w a++Jc w b:=G5
theorem a2p(w:Int)(l:LI):∀b∈Jc w l,0<=b/\b<256:=fun b hb=>by
 obtain⟨x,-,h⟩:=F8.1 hb;exact bJ _ _ b h
theorem b6u(b x n:Int)(i:Int)(l:LI){k:Nat}(e:k<=8)(out:LI)(m:out.length<100000000):
  Al Gz (b,(k:Int),x,l,n,i,(k:Int),(0:Int),out,())=some (b,(k:Int),l,n,i,out++a8W k x,()):=by
 have h:=Bz (f:=Gz) (fun j=>(b,(k:Int),x,l,n,i,(k:Int),(j:Int),out++a8W j x,()))
  k (b:=(b,(k:Int),l,n,i,out++a8W k x,())) (fun j d=>by
   have c:zD .i64 ((8:Int)*(j:Int))=((8*j:Nat):Int):=by rw[Ae (by omega)];omega
   have g:A3 (((8*j:Nat):Int)<0)=false:=by simp;omega
   simp only[Gz];rw[Cq d,AW (show(out++a8W j x).length+1<2147483648 by rw[lN,Xm];omega),c,g,Aa (show j<1000000 by omega),b6s,c6M x (by omega),JL,M6 _ (by decide),b4g j (by omega),<-aA];rfl) (by simp only[Gz,rE,cF])
 have a:out++a8W 0 x=out:=by simp[a8W,a1L]
 simp only[a]at h;exact h
theorem b8N{w:Int}(h:4<=w/\w<=24):zD .i64 (C6 (zD .i64 (w+(7:Int))) (8:Int))=((((w+7) / 8).toNat:Nat):Int):=by
 rw[Ae (n:=w+7) (by omega),K5 (by omega),Ae (by omega)];omega
theorem a0j{w:Int}(a:4<=w/\w<=24)(l:LI)(e:l.length<=1000000){k:Nat}(d:k<=3):∀(zG zF out:LI),zF++zG=l->zG.all (fun x=>Cu x w)=true->out.length+3*zG.length<100000000->
  Al Js (w,(k:Int),l,(l.length:Int),(zF.length:Int),out,())=some (.inl (out++zG.flatMap (a8W k),()))
 | [],zF,out,h,_,_=>by
  obtain rfl:zF=l:=by simpa using h
  rw[Ag (b:=D9 (out,())) (by simp only[Js,rE,cF])]
  simp
 |x::zG,zF,out,h,f,i=>by
  have g:zF.length<l.length:=by rw[<-h];simp
  have c:Az l (zF.length:Int)=some x:=by rw[Ac g];subst h;simp
  simp only[C7,EV]at f;simp only[lC]at i;rw[Ai (s':=(w,(k:Int),l,(l.length:Int),(((zF++[x]).length:Nat):Int),out++a8W k x,())) (by
   simp only[Js,Cq g,cT,c,oB,UZ a,f.1,bT,cF,b6u w x _ _ l (show k<=8 by omega) out (by omega),Aa (show zF.length<1000000 by omega)]
   simp)]
  rw[a0j a l e d zG (zF++[x]) (out++a8W k x) (by simpa using h) f.2 (by rw[lN,Xm];omega)]
  simp
theorem mR{w:Int}(g:4<=w/\w<=24){l:LI}(c:l.length<=1000000)(b:l.all (fun x=>Cu x w)=true):Nh (l,w)=some (Jc w l,0):=by
 have f:A3 (w<(4:Int))=false:=by simp;omega
 have a:A3 (w > (24:Int))=false:=by simp;omega
 have h:=a0j g l c (k:=((w+7) / 8).toNat) (by omega) l [] [] rfl b (by simp;omega);rw[B4]at h;simp only[Nh,f,cF,oB,a,b8N g];erw[h];rfl
def YL(d:List Int)(ch c:Nat):List Int:=((B9 d.length).filter fun i=>i%ch==c).map fun i=>d.getD i 0
def Fa(d:List Int)(ch:Nat):List (List Int):=(B9 ch).map (YL d ch)
def wv(n:Nat)(rows:List (List Int)):List Int:=(B9 n).flatMap fun i=>rows.map fun r=>r.getD i 0
theorem b4h{α:Type}{a b:List α}{i:Nat}{d:α}(h:i<a.length):(a++b).getD i d=a.getD i d:=by
 grind
theorem b1b(d:LI)(x:Int)(ch c:Nat):YL (d++[x]) ch c=if d.length%ch=c then YL d ch c++[x]else YL d ch c:=by
 unfold YL;rw[lN,I0,G6,K0,pA];have h:((B9 d.length).filter fun i=>i%ch==c).map (fun i=>(d++[x]).getD i 0)=((B9 d.length).filter fun i=>i%ch==c).map fun i=>d.getD i 0:=
  E1 fun i g=>b4h (H0.1 (List.mem_filter.1 g).1)
 grind
theorem a5j(c:Nat):∀ch,(B9 ch).filter (·==c)=if c<ch then[c]else[]
 |0=>rfl
 |ch+1=>by
  rw[G6,K0,a5j c ch];grind
theorem a5k{ch c:Nat}(h:c<ch):∀n,(B9 (n*ch)).filter (fun i=>i%ch==c)=(B9 n).map fun i=>i*ch+c
 |0=>by simp
 |n+1=>by
  rw[Nat.succ_mul,H1,K0,a5k h n,G6,pA,List.filter_map];congr 1;have e:∀i∈B9 ch,((fun i=>i%ch==c)∘fun x=>n*ch+x) i=(i==c):=fun i g=>by
   simp_all[E6]
  simp_all[List.filter_congr,a5j]
theorem bK{d:LI}{n ch c:Nat}(g:d.length=n*ch)(h:c<ch):YL d ch c=(B9 n).map fun i=>d.getD (i*ch+c) 0:=by
 simp_all[YL,a5k]
theorem b8O(f:Nat->Int)(ch:Nat):∀n,(B9 n).flatMap (fun i=>(B9 ch).map fun c=>f (i*ch+c))=(B9 (n*ch)).map f
 |0=>by simp
 |n+1=>by
  rw[G6,G5,b8O f ch n,Nat.succ_mul,H1,pA,F6];simp[Function.comp_def]
theorem a7U(d:LI):(B9 d.length).map (fun i=>d.getD i 0)=d:=
 I4 (by simp) fun i h g=>by simp_all
theorem mS{α β:Type}{l:List α}{f g:α->List β}(h:∀a∈l,f a=g a):l.flatMap f=l.flatMap g:=by
 grind[E1]
theorem b6v{d:LI}{n ch:Nat}(h:d.length=n*ch):wv n (Fa d ch)=d:=by
 have:wv n (Fa d ch)=(B9 n).flatMap fun i=>(B9 ch).map fun c=>d.getD (i*ch+c) 0:=
  mS fun i g=>by
   grind[Fa,E1,bK]
 grind[b8O,a7U]
theorem b8P{d:LI}{n ch a b:Nat}(f:d.length=n*ch)(l:b<=n):wv (b-a) ((Fa d ch).map fun r=>(r.take b).drop a)=(d.take (b*ch)).drop (a*ch):=by
 have:wv (b-a) ((Fa d ch).map fun r=>(r.take b).drop a)=(B9 (b-a)).flatMap fun i=>(B9 ch).map fun c=>(fun j=>d.getD (a*ch+j) 0) (i*ch+c):=
  mS fun i h=>by
   have h:=H0.1 h;unfold Fa;rw[F6,F6];refine E1 fun c g=>?_
   show(((YL d ch c).take b).drop a).getD i 0=d.getD (a*ch+(i*ch+c)) 0;rw[bK f (H0.1 g),lD,J9,List.getElem?_take_of_lt (by omega),O6,List.getElem?_range (by omega)];grind
 rw[this];refine(b8O (fun j=>d.getD (a*ch+j) 0) ch (b-a)).trans ?_
 have hb:b*ch<=d.length:=by simp_all[B6]
 have e:(b-a)*ch=b*ch-a*ch:=Nat.sub_mul ..;refine I4 (by simp_all) fun i k m=>?_
 grind
def KL:Nat:=2305843009213693951
def a5K(h:Nat)(l:List Nat):Nat:=l.foldl (fun h c=>(h*1000003+(c+1))%KL) h
theorem b6w(h:Nat):a5K h []=h:=rfl
theorem a5l(h c:Nat)(l:List Nat):a5K h (c::l)=a5K ((h*1000003+(c+1))%KL) l:=rfl
theorem a7V(h:Nat)(a b:List Nat):a5K h (a++b)=a5K (a5K h a) b:=C9 ..
theorem a7W{h:Nat}(g:h<KL)(l:List Nat):a5K h l<KL:=by
 induction l generalizing h with
 |nil=>exact g
 |cons c l f=>exact f (C3 _ (by decide))
theorem YM(a b c:Nat):(a%KL*b+c)%KL=(a*b+c)%KL:=by
 simp_all[Nat.add_mod]
theorem a5m(a b:Nat):(a+b%KL)%KL=(a+b)%KL:=by
 simp
theorem b4i(l:List Nat)(h:Nat):a5K h l%KL=(h*1000003^l.length+a5K 0 l)%KL:=by
 induction l generalizing h with
 |nil=>simp[b6w]
 |cons c l g=>
  rw[a5l,a5l,g,YM,<-a5m (h*_),g ((0*1000003+(c+1))%KL),YM,a5m,lC,J5];grind
theorem b4j(a b:List Nat):a5K 0 (a++b)=(a5K 0 a*(1000003^b.length%KL)+a5K 0 b)%KL:=by
 rw[a7V,<-E6 (a7W (a7W (by decide) a) b),b4i,J6 (a5K 0 a) (_%KL),YM,J6 (a5K 0 a)]
def b9v:Nat->Nat->Nat->Nat->Nat
 |0,_,p,_=>p
 |k+1,n,p,s=>if n=0 then p else b9v k (n / 2) (if n%2=1 then p*s%KL else p) (s*s%KL)
theorem b4k(a b:Nat):a%KL*b%KL=a*b%KL:=YM a b 0
theorem a5n(a n:Nat):(a%KL)^n%KL=a^n%KL:=by rw[<-Nat.pow_mod]
theorem b8Q(k n p s:Nat)(h:n<2^k)(hp:p<KL):b9v k n p s=p*s^n%KL:=by
 induction k generalizing n p s with
 |zero=>simp_all[b9v,E6]
 |succ k a=>
  rw[b9v];by_cases h0:n=0;simp_all[E6];rw[if_neg h0];have g:n / 2<2^k:=by omega
  have f:(s*s)^(n / 2)=s^(2*(n / 2)):=by grind[Nat.pow_mul]
  by_cases h1:n%2=1;rw[if_pos h1,a _ _ _ g (C3 _ (by decide)),K7,a5n,f,<-K7,b4k,Nat.mul_assoc,<-Nat.pow_succ'];grind;rw[if_neg h1,a _ _ _ g hp,K7,a5n,f,<-K7];grind
theorem b4l{u d f g q r:Nat}(k:u=q*f+r)(h:q*g<=4294967296*r+d):q*(f*4294967296+g)<=u*4294967296+d:=by
 grind
theorem b6x(u d e y:Nat):((u*4294967296+d)%y*4294967296+e)%y=((u*4294967296+d)*4294967296+e)%y:=by
 simp_all[Nat.add_mod,K7]
theorem b1c(n k y:Nat)(h:0<k):n*k%(y*k) / k=n%y:=by
 simp_all[Nat.mul_mod_mul_right]
abbrev Pc:Type:=BL×(BI×List Int)
def b1d(fm:AL)(st:Nat)(x:Pc):Prop:=
 x.1.1=(st:Int)/\x.1.2.1=((Ba x.2.1:Nat):Int)/\x.1.2.2.1=fm/\FN x.1=some (x.2.1,0)/\FA x.1=some (x.2.2,0)/\
  (∀R:List Int,R.length<=200000000->Cs (x.2.2++R)=some (x.1,(x.2.2.length:Int),(0:Int)))/\LB x.2.1/\x.2.1.1=fm.2.2.1/\Ba x.2.1<=64/\1<=x.2.2.length/\x.2.2.length<=700800
def Ie(fm:AL):Nat->List Pc->Prop
 |_,[]=>True
 |st,x::xs=>b1d fm st x/\Ie fm (st+Ba x.2.1) xs
def GQ:Nat->Nat->List Pc->List (Int×Int×Unit)
 |_,_,[]=>[]
 |st,off,x::xs=>((st:Int),(off:Int),())::GQ (st+Ba x.2.1) (off+x.2.2.length) xs
def Ax(xs:List Pc):Nat:=(xs.map fun x=>Ba x.2.1).sum
def Au(xs:List Pc):List Int:=xs.flatMap fun x=>x.2.2
def dX(b:BI):List Int:=wv (Ba b) b.2.1
def Fb(xs:List Pc):List Int:=xs.flatMap fun x=>dX x.2.1
def b6y(l:List Int):Nat:=a5K 0 (l.map E8)
def Et(fm:AL)(xs:List Pc):Nat:=b6y (Jc fm.2.2.1 (Fb xs))
theorem a2q(l:LI):b6y l<KL:=a7W (by decide) _
theorem b6z(a b:LI):b6y (a++b)=(b6y a*(1000003^b.length%KL)+b6y b)%KL:=by
 simp_all[b6y,b4j]
theorem GR(xs:List Pc)(x:Pc):Ax (xs++[x])=Ax xs+Ba x.2.1:=by simp[Ax]
theorem GY(xs:List Pc)(x:Pc):Au (xs++[x])=Au xs++x.2.2:=by simp[Au]
theorem Th(xs:List Pc)(x:Pc):Fb (xs++[x])=Fb xs++dX x.2.1:=by simp[Fb]
theorem b4m{h:List (List Int)}:∀n,(wv n h).length=n*h.length:=fun n=>by
 simp_all[wv,List.map_const']
theorem a0k{fm:AL}:∀{xs:List Pc}{st:Nat}{x:Pc},Ie fm st xs->b1d fm (st+Ax xs) x->Ie fm st (xs++[x])
 | [],st,x,_,h=>⟨by simpa[Ax]using h,trivial⟩
 |y::xs,st,x,h,g=>⟨h.1,a0k h.2 (by simp_all[Ax,I5])⟩
theorem Ve:∀(xs:List Pc)(st off:Nat)(x:Pc),GQ st off (xs++[x])=GQ st off xs++[(((st+Ax xs:Nat):Int),((off+(Au xs).length:Nat):Int),())]
 | [],st,off,x=>by rfl
 |y::xs,st,off,x=>by
  simp_all[GQ,Ve,Ax,Au,I5]
theorem KY:∀(xs:List Pc)(st off:Nat),(GQ st off xs).length=xs.length
 | [],_,_=>rfl
 |_::xs,_,_=>congrArg (·+1) (KY xs _ _)
theorem KZ{fm:AL}:∀{xs:List Pc}{st:Nat},Ie fm st xs->(Au xs).length<=700800*xs.length
 | [],_,_=>by simp[Au]
 |x::xs,st,h=>by
  have:=KZ h.2
  have:=h.1.2.2.2.2.2.2.2.2.2.2
  simp only[Au,D0,lN,lC]at *;omega
theorem b6A{b:BI}{fm:AL}(hb:LB b)(i:Ba b<=64)(j:1<=fm.1/\fm.1<=1048576)(d:fm.2.1=((b.2.1.length:Nat):Int))(h:fm.2.2.1=b.1){st:Nat}(q:st+Ba b<=4194304){effort:Int}(m:0<=effort)(n:effort<=3):
  ∃g p,Ep (b,fm,(st:Int),effort)=some (((st:Int),g),0)/\b1d fm st (((st:Int),g),b,p):=by
 obtain⟨rate,x,bits,u⟩:=fm;cases u;simp only at j d h;subst d h;obtain⟨g,r,t,v,z,A,l,w⟩:=made hb (by omega) (rate:=rate) (start:=(st:Int)) (effort:=effort) j (by omega) m n;have a:=w (st:Int) (by omega);obtain⟨L,o,-,e,c⟩:=a7N (f:=((st:Int),g)) l a;have k:=a5e (f:=((st:Int),g)) l;rw[a]at k;have y:=RV (Tg a).1 o;refine⟨g,Ic ((st:Int),g) L,r,rfl,t,v,k,e,c,hb,rfl,i,?_,?_⟩;all_goals grind[Ic]
theorem a5o{d:LI}{n ch c:Nat}(g:d.length=n*ch)(h:c<ch):(YL d ch c).length=n:=by rw[bK g h];simp
theorem b4n{d:LI}{ch c:Nat}{x:Int}(h:x∈YL d ch c):x∈d:=by
 unfold YL at h;grind
def PN(w:Int)(d:List Int)(ch:Nat):BI:=(w,Fa d ch,())
theorem YN{w:Int}{d:LI}{n ch:Nat}(g:d.length=n*ch)(h:0<ch):Ba (PN w d ch)=n:=by
 obtain⟨k,rfl⟩:∃k,ch=k+1:=⟨ch-1,by omega⟩;show((Fa d (k+1)).headD []).length=n;grind[Fa,List.range_succ_eq_map,a5o]
theorem b6B{w:Int}{d:LI}{n ch:Nat}(f:d.length=n*ch)(h:1<=ch/\ch<=8)(j:1<=n/\n<=4096)(k:4<=w/\w<=24)(a:d.all (fun x=>Cu x w)=true):LB (PN w d ch):=by
 have b:=YN (w:=w) f (show 0<ch by omega);have g:(Fa d ch).length=ch:=by simp[Fa]
 refine⟨k.1,k.2,by simp_all[PN],by simp_all[PN],by omega,by omega,?_⟩;rw[b];refine lA.2 fun r e=>?_
 obtain⟨c,g,rfl⟩:=G8.1 (show r∈(B9 ch).map (YL d ch)from e);rw[EV,dT];exact⟨a5o f (H0.1 g),lA.2 fun x i=>lA.1 a x (b4n i)⟩
theorem a8X{w:Int}{d:LI}{n ch:Nat}(g:d.length=n*ch)(h:0<ch):dX (PN w d ch)=d:=by
 unfold dX;rw[YN g h];exact b6v g
def pX(n:Nat)(l:List Int):Nat:=l.foldl (fun n c=>n*256+c.toNat) n
def GS(k n:Nat):List Int:=(a1L k n).reverse
theorem mT:∀(k n:Nat),n<256^k->pX 0 (GS k n)=n
 |0,n,h=>by simp at h;subst h;rfl
 |k+1,n,h=>by
  have g:=mT k (n / 256) (by rw[I6 (by omega)];rw[J5]at h;exact h);unfold pX GS at *;rw[a1L,List.reverse_cons,C9,g]
  simp
  omega
theorem ET(k n:Nat):(GS k n).length=k:=by simp[GS,PD]
theorem Xn(k n:Nat):∀b∈GS k n,0<=b/\b<256:=fun b hb=>bJ k n b (List.mem_reverse.1 hb)
theorem mU{n k:Nat}(l:n<18446744073709551616)(j:k<=8):HR ((n:Int),(k:Int))=some (a1L k n):=by
 have c:FM (k:Int)=some (k:Int):=by
  grind[FM,Qv,Vo]
 simp[HR,c];have h:=Bz (f:=CC) (fun i=>(((n / 256^i:Nat):Int),(k:Int),(i:Int),a1L i n,())) k (b:=(a1L k n,())) (fun i d=>by
   have g:zD .u64 (C6 ((n / 256^i:Nat):Int) 256)=((n / 256^(i+1):Nat):Int):=by
    have e:C6 ((n / 256^i:Nat):Int) 256=((n / 256^i / 256:Nat):Int):=rfl;rw[e,Nat.div_div_eq_div_mul,<-J5]
    have:=P3 n (256^(i+1))
    grind[Aw]
   have a:zD .u8 (D3 ((n / 256^i:Nat):Int) 256)=((n / 256^i%256:Nat):Int):=by
    have e:D3 ((n / 256^i:Nat):Int) 256=((n / 256^i%256:Nat):Int):=rfl;rw[e,JL];omega
   simp only[CC];rw[Cq d,AW (show(a1L i n).length+1<2147483648 by rw[PD];omega),g,Aa (show i<1000000 by omega),a,kI];rfl) (by simp_all[CC])
 simp only[Nat.pow_zero,Nat.div_one,a1L]at h;simp_all
theorem YO{n k:Nat}(g:n<18446744073709551616)(h:k<=8):GV ((n:Int),(k:Int))=some (GS k n):=by
 unfold GV Cl;simp only[mU g h,oB];rw[decide_eq_true (by rw[PD];omega)];rfl
def c6N(s:BitVec 32):BitVec 32:=bif s.getLsbD 0 then(s >>> 1) ^^^ 0xedb88320#32 else s >>> 1
def b8R:Nat->BitVec 32->BitVec 32
 |0,s=>s
 |k+1,s=>b8R k (c6N s)
def b8S(s x:BitVec 32):BitVec 32:=b8R 8 (s ^^^ x)
def c2i(s:BitVec 32)(l:List (BitVec 32)):BitVec 32:=l.foldl b8S s
theorem b8T(s:BitVec 32):A4 32 ((s.toNat:Nat):Int)=s:=by
 simp
theorem c2j(s:BitVec 32):zD .u32 ((s.toNat:Nat):Int)=((s.toNat:Nat):Int):=by
 have:=s.isLt
 grind[zD,IntKind.bits,IntKind.signed]
theorem b4o(s t:BitVec 32):bits .u32 .xor ((s.toNat:Nat):Int) ((t.toNat:Nat):Int)=(((s ^^^ t).toNat:Nat):Int):=by
 show zD .u32 (((A4 32 _ ^^^ A4 32 _).toNat:Nat):Int)=_;rw[b8T,b8T,c2j]
theorem c2k(s:BitVec 32):(bits .u32 .and ((s.toNat:Nat):Int) 1==(1:Int))=s.getLsbD 0:=by
 have h:bits .u32 .and ((s.toNat:Nat):Int) 1=(((s &&& 1#32).toNat:Nat):Int):=by
  show zD .u32 (((A4 32 _ &&& A4 32 1).toNat:Nat):Int)=_;rw[b8T,show A4 32 1=1#32 from rfl,c2j]
 rw[h,I3,show(1#32).toNat=1 from rfl,Nat.and_one_is_mod,L9,Nat.testBit_zero];grind
theorem c2l(s:BitVec 32):AR .u32 ((s.toNat:Nat):Int) 1=(((s >>> 1).toNat:Nat):Int):=by
 unfold AR;rw[show min (E8 1) (IntKind.bits .u32)=1 from rfl,G3 _ (by simp),BitVec.toNat_ushiftRight,Nat.shiftRight_eq_div_pow];rfl
def b4T(s:Int):Int:=bif (bits .u32 .and s 1)==(1:Int)then bits .u32 .xor (AR .u32 s 1) 3988292384 else AR .u32 s 1
theorem b8U(s:BitVec 32):b4T ((s.toNat:Nat):Int)=(((c6N s).toNat:Nat):Int):=by
 unfold b4T c6N;rw[c2k,c2l,show(3988292384:Int)=(((0xedb88320#32).toNat:Nat):Int)from rfl,b4o];grind
theorem a5p:∀(k:Nat)(s:BitVec 32),gJ b4T k ((s.toNat:Nat):Int)=(((b8R k s).toNat:Nat):Int)
 |0,_=>rfl
 |k+1,s=>by
  rw[show gJ b4T (k+1) ((s.toNat:Nat):Int)=gJ b4T k (b4T ((s.toNat:Nat):Int))from rfl,b8U,a5p k];rfl
def c2m(l:List Int):BitVec 32:=c2i 0xffffffff#32 (l.map (A4 32))
def CF(l:List Int):Nat:=(~~~ c2m l).toNat
theorem YP(l:LI):CF l<4294967296:=(~~~ c2m l).isLt
abbrev a7X:Type:=AL×(Int×(Int×(List (Int×(Int×Unit))×(List BL×Unit))))
def TE(fm:AL)(xs:List Pc):a7X:=(fm,((Ax xs:Nat):Int),((Et fm xs:Nat):Int),GQ 0 0 xs,xs.map (·.1),())
def dY(xs:List Pc):List Nat:=xs.flatMap fun x=>[x.2.2.length,Ba x.2.1]
def Ly(fm:AL)(xs:List Pc):List Nat:=[fm.1.toNat,fm.2.1.toNat,fm.2.2.1.toNat,xs.length]++dY xs
def a7Y:List Int:=[75,78,83,68]
def AP(fm:AL)(xs:List Pc):List Int:=a7Y++((Ly fm xs).flatMap AS++GS 8 (Et fm xs))
def DI(fm:AL)(xs:List Pc):List Int:=AP fm xs++(GS 4 (CF (AP fm xs))++Au xs)
def Cp(l:List Int)(ch st en:Nat):List Int:=(l.take (en*ch)).drop (st*ch)
theorem a0l{l:LI}{ch st en:Nat}(h:en*ch<=l.length):(Cp l ch st en).length=(en-st)*ch:=by
 simp_all[Cp,Nat.sub_mul]
theorem a0m{l:LI}{ch st en:Nat}(h:st<=en):l.take (st*ch)++Cp l ch st en=l.take (en*ch):=by
 grind[Cp,B6,I7]
theorem b1e{l:LI}{p:Int->Bool}{ch st en:Nat}(h:l.all p=true):(Cp l ch st en).all p=true:=
 lA.2 fun x g=>lA.1 h x (F7 (I9 g))
theorem YQ(xs:List Pc):(dY xs).length=2*xs.length:=by
 induction xs with
 |nil=>rfl
 |cons x xs h=>grind[dY]
theorem b4p(xs:List Pc)(x:Pc):dY (xs++[x])=dY xs++[x.2.2.length,Ba x.2.1]:=by simp[dY]
theorem a0n{fm:AL}:∀{xs:List Pc}{st:Nat},Ie fm st xs->∀n∈dY xs,n<1048704
 | [],_,_,n,g=>by simp[dY]at g
 |x::xs,st,h,n,g=>by
  have f:=h.1.2.2.2.2.2.2.2.2;simp only[dY,D0,mA,mC,D4,or_false]at g;rcases g with(rfl|rfl)|g;omega;omega;exact a0n h.2 n g
theorem RY{fm:AL}:∀{xs:List Pc}{st:Nat},Ie fm st xs->xs.length<=Ax xs/\Ax xs<=64*xs.length
 | [],_,_=>by simp[Ax]
 |x::xs,st,h=>by
  have g:=h.1.2.2.2.2.2.2.1.2.2.2.2.1;have f:=h.1.2.2.2.2.2.2.2.2.1
  have:=RY h.2
  simp only[Ax,D8,N1,lC]at *;omega
theorem VD:∀(l:List Nat),(∀n∈l,n<9223372036854775808)->(l.flatMap AS).length<=9*l.length
 | [],_=>by simp
 |n::l,h=>by
  have:=(Nu (h n (by simp))).2
  have:=VD l fun m g=>h m (by simp[g])
  simp only[D0,lN,lC];omega
theorem Lz{fm:AL}(f:NU fm){xs:List Pc}(h:Ie fm 0 xs)(i:xs.length<=256):∀n∈Ly fm xs,n<1048704:=fun n g=>by
 simp only[Ly,mA,mC,D4,or_false]at g;obtain⟨k,a,b,c,d,e⟩:=f;rcases g with(rfl|rfl|rfl|rfl)|g;omega;omega;omega;omega;exact a0n h n g
theorem Ph{fm:AL}(g:NU fm){xs:List Pc}(h:Ie fm 0 xs)(k:xs.length<=256):(AP fm xs).length<=6000:=by
 have a:=VD (Ly fm xs) fun n f=>C5 (Lz g h k n f) (by simp);grind[Ly,YQ,AP,a7Y,ET]
def Xo(y0 d q r:Nat):Prop:=4294967296<=q\/4294967296*r+d<q*y0
instance (y0 d q r:Nat):Decidable (Xo y0 d q r):=inferInstanceAs (Decidable (_\/_))
def a5q(u d y1 y0:Nat):Nat:=
 if Xo y0 d (u / y1) (u%y1)then
  if 4294967296<=u%y1+y1 then u / y1-1
  else if Xo y0 d (u / y1-1) (u%y1+y1)then u / y1-2 else u / y1-1
 else u / y1
theorem b6C{u d g f:Nat}(B:2147483648<=g)(w:f<4294967296)(D:u<g*4294967296+f)(C:d<4294967296):
  a5q u d g f=(u*4294967296+d) / (g*4294967296+f):=by
 have n:0<g:=by omega
 have e:u=u / g*g+u%g:=(O8 u g).symm;have x:=C3 u n;have p:u / g<=4294967297:=by
  have:u / g<4294967298:=(I6 n).2 (by omega)
  omega
 have G:u*4294967296+d<(u / g+1)*(g*4294967296+f):=by
  grind
 have over:∀{q r:Nat},u=q*g+r->Xo f d q r->u*4294967296+d<q*(g*4294967296+f):=by
  intro q r i j;rcases j with j|j
  have:=B6 (g*4294967296+f) j
  omega;grind
 have fits:∀{q r:Nat},u=q*g+r->¬ Xo f d q r->q*(g*4294967296+f)<=u*4294967296+d:=
  fun i j=>b4l i (Nat.le_of_not_lt fun h=>j (.inr h))
 have l:∀{q r:Nat},u=q*g+r->q<=4294967296->4294967296<=r->q*(g*4294967296+f)<=u*4294967296+d:=by
  intro q r i p x;refine b4l i ?_
  have a:=D1 p (J7 w);omega
 unfold a5q;generalize u / g=q at *;generalize u%g=r at *;have A:∀{m:Nat},m*(g*4294967296+f)<=u*4294967296+d->u*4294967296+d<(m+1)*(g*4294967296+f)->m=(u*4294967296+d) / (g*4294967296+f):=
  fun a b=>(Nat.div_eq_of_lt_le a b).symm
 by_cases c:Xo f d q r;rw[if_pos c];have o:=over e c;have E:1<=q:=N3 fun z=>by grind
 obtain⟨q,rfl⟩:∃k,q=k+1:=⟨q-1,by omega⟩;rw[Nat.add_sub_cancel];have t:u=q*g+(r+g):=by grind
 by_cases c1:4294967296<=r+g;grind;rw[if_neg c1];by_cases c2:Xo f d q (r+g);rw[if_pos c2];have y:=over t c2;have F:1<=q:=N3 fun z=>by grind
 obtain⟨q,rfl⟩:∃k,q=k+1:=⟨q-1,by omega⟩;have v:u=q*g+(r+g+g):=by grind
 exact A (m:=q) (l v (by omega) (by omega)) y;grind;grind
theorem b8V(hi lo:Nat):
  (((hi*8+lo / 2305843009213693952)*4294967296+lo*8%18446744073709551616 / 4294967296)%18446744073709551608*4294967296+lo*8%18446744073709551616%4294967296)%18446744073709551608 / 8
   = (hi*18446744073709551616+lo)%KL:=by
 have e:((hi*8+lo / 2305843009213693952)*4294967296+lo*8%18446744073709551616 / 4294967296)*4294967296+lo*8%18446744073709551616%4294967296=(hi*18446744073709551616+lo)*8:=by omega
 rw[b6x,e];exact b1c _ 8 KL (by simp)
theorem b4q{hi lo:Nat}(h:hi<KL)(g:lo<18446744073709551616):hi*8+lo / 2305843009213693952<4294967295*4294967296+4294967288:=by
 unfold KL at h;omega
theorem b1f{a b c:Nat}(h:a<KL)(hb:b<KL)(g:c<=KL):(a*b+c) / 18446744073709551616<KL:=by
 have:=D1 (M7 h) (M7 hb)
 unfold KL at *;omega
theorem b8W{a b h k g f t:Nat}(j:h=a%4294967296)(l:k=a / 4294967296)(n:g=b%4294967296)(o:f=b / 4294967296)(y:t=k*g+h*g / 4294967296)
  (v:a<18446744073709551616)(hb:b<18446744073709551616):
  k*f+t / 4294967296+(t%4294967296+h*f) / 4294967296=a*b / 18446744073709551616/\h*g<18446744073709551616/\t<18446744073709551616/\t%4294967296+h*f<18446744073709551616:=by
 have r:a=k*4294967296+h:=by omega
 have u:b=f*4294967296+g:=by omega
 have e:a*b=k*f*18446744073709551616+(k*g+h*f)*4294967296+h*g:=by
  grind
 have m:∀{p q:Nat},p<4294967296->q<4294967296->p*q<=4294967295*4294967295:=fun w x=>D1 (by omega) (by omega);have c:=m (show h<4294967296 by omega) (show g<4294967296 by omega);have i:=m (show k<4294967296 by omega) (show g<4294967296 by omega);have d:=m (show h<4294967296 by omega) (show f<4294967296 by omega);omega
theorem b4r(n:Nat):zD .u64 (n:Int)=((n%18446744073709551616:Nat):Int):=by
 rfl
theorem a7Z{n k:Nat}(h:k<=64):AR .u64 (n:Int) (k:Int)=((n / 2^k:Nat):Int):=by
 have g:min (E8 (k:Int)) (IntKind.bits .u64)=k:=by simp_all[IntKind.bits]
 unfold AR;grind
theorem b4s(n:Nat):AR .u64 (n:Int) 32=((n / 4294967296:Nat):Int):=a7Z (k:=32) (by omega)
theorem b7X(n:Nat):bits .u64 .and (n:Int) 4294967295=((n%4294967296:Nat):Int):=by
 show zD .u64 (((A4 64 (n:Int) &&& A4 64 4294967295).toNat:Nat):Int)=_;have g:(A4 64 4294967295).toNat=4294967295:=rfl;have h:(A4 64 (n:Int)).toNat=n%18446744073709551616:=by rfl
 rw[I3,h,g,show 4294967295=2^32-1 from rfl,F0,b4r];omega
theorem c6O{a b:Nat}(f:a<2305843009213693952)(hb:b<8):bits .u64 .or ((a*8:Nat):Int) (b:Int)=((a*8+b:Nat):Int):=by
 show zD .u64 (((A4 64 ((a*8:Nat):Int) ||| A4 64 (b:Int)).toNat:Nat):Int)=_;have h:(A4 64 ((a*8:Nat):Int)).toNat=2^3*a:=by grind[B8]
 have g:(A4 64 (b:Int)).toNat=b:=by grind
 rw[P2,h,g,<-F5 (i:=3) hb a,b4r];omega
theorem b4t{a b:Nat}(f:a<18446744073709551616)(hb:b<18446744073709551616):Io ((a:Int),(b:Int))=some (((a*b / 18446744073709551616:Nat):Int),((a*b%18446744073709551616:Nat):Int)):=by
 obtain⟨k,c,d,e⟩:=b8W (a:=a) (b:=b) rfl rfl rfl rfl rfl f hb;unfold Io;simp only[b4s,b7X,<-J2,<-L1,b4r,sj,pJ,Int.natCast_inj];refine⟨?_,trivial⟩;revert k c d e;generalize a%4294967296*(b%4294967296)=p00;generalize a / 4294967296*(b%4294967296)=p10;generalize a%4294967296*(b / 4294967296)=p01;have i:a*b / 18446744073709551616<18446744073709551616:=M8 (Nat.lt_of_le_of_lt (D1 (J7 f) (J7 hb)) (by omega:18446744073709551616*18446744073709551616<18446744073709551616*18446744073709551616+1) |> fun h=>by
  rcases Nat.lt_or_ge (a*b) (18446744073709551616*18446744073709551616)with g|g;omega
  have:=Nat.mul_lt_mul_of_lt_of_le f (J7 hb) (by omega);omega)
 omega
theorem dZ{α:Type}(p:Prop)[Decidable p](a b:α):(bif decide p then a else b)=if p then a else b:=by
 simp
theorem b8X:EM 2305843009213693951=some 3:=by rfl
theorem b6D{u d q:Nat}(h:q=a5q u d 4294967295 4294967288)(f:u<4294967295*4294967296+4294967288)(g:d<4294967296):q*18446744073709551608<=u*4294967296+d/\u*4294967296+d<q*18446744073709551608+18446744073709551608/\q<4294967296:=by
 grind[b6C]
theorem eA{u d u0 q r:Nat}{s:Int}(i:d<4294967296)(hq:q<=4294967297)(j:r<4294967296):CA ((18446744073709551608:Int),s,(4294967295:Int),(4294967288:Int),(u:Int),(d:Int),(u0:Int),(q:Int),(r:Int),()) =
  if Xo 4294967288 d q r then(if 4294967296<=r+4294967295 then some (.inr ((18446744073709551608:Int),s,(4294967295:Int),(4294967288:Int),(u:Int),(d:Int),(u0:Int),((q-1:Nat):Int),()))else some (.inl ((18446744073709551608:Int),s,(4294967295:Int),(4294967288:Int),(u:Int),(d:Int),(u0:Int),((q-1:Nat):Int),((r+4294967295:Nat):Int),())))else some (.inr ((18446744073709551608:Int),s,(4294967295:Int),(4294967288:Int),(u:Int),(d:Int),(u0:Int),(q:Int),())):=by
 have c:zD .u64 ((q:Int)-1)=(((q-1:Nat)):Int)\/q=0:=by
  rcases N4 q with h|h;exact .inr h;left;rw[Aw (by omega)];omega
 have a:zD .u64 ((r:Int)+4294967295)=((r+4294967295:Nat):Int):=by rw[Aw (by omega)];omega
 have b:A3 (zD .u64 ((r:Int)+4294967295)>=(4294967296:Int))=A3 (4294967296<=r+4294967295):=by
  rw[a];exact decide_eq_decide.2 (by omega)
 have g:q≠0->(bif A3 (zD .u64 ((r:Int)+4294967295)>=(4294967296:Int))then(some (.inr ((18446744073709551608:Int),s,(4294967295:Int),(4294967288:Int),(u:Int),(d:Int),(u0:Int),(zD .u64 ((q:Int)-1)),())):Option (_ ⊕ (Int×Int×Int×Int×Int×Int×Int×Int×Unit)))else some (.inl ((18446744073709551608:Int),s,(4294967295:Int),(4294967288:Int),(u:Int),(d:Int),(u0:Int),(zD .u64 ((q:Int)-1)),(zD .u64 ((r:Int)+4294967295)),()))) =
   (if 4294967296<=r+4294967295 then some (.inr ((18446744073709551608:Int),s,(4294967295:Int),(4294967288:Int),(u:Int),(d:Int),(u0:Int),((q-1:Nat):Int),()))else some (.inl ((18446744073709551608:Int),s,(4294967295:Int),(4294967288:Int),(u:Int),(d:Int),(u0:Int),((q-1:Nat):Int),((r+4294967295:Nat):Int),()))):=fun e=>by
  rw[b,c.resolve_right e,a];exact dZ ..
 by_cases h1:4294967296<=q;have f:A3 ((q:Int)>=(4294967296:Int))=true:=decide_eq_true (by omega);rw[if_pos (.inl h1),<-g (by omega)];unfold CA;dsimp only;rw[f,cT,oB];have f:A3 ((q:Int)>=(4294967296:Int))=false:=decide_eq_false (by omega);have l:zD .u64 ((q:Int)*4294967288)=((q*4294967288:Nat):Int):=by rw[Aw (by omega)];omega
 have m:zD .u64 (zD .u64 ((4294967296:Int)*(r:Int))+(d:Int))=((4294967296*r+d:Nat):Int):=by rw[Aw (n:=4294967296*(r:Int)) (by omega),Aw (by omega)];omega
 by_cases h2:4294967296*r+d<q*4294967288;have k:A3 (zD .u64 ((q:Int)*4294967288) > zD .u64 (zD .u64 ((4294967296:Int)*(r:Int))+(d:Int)))=true:=decide_eq_true (by omega);rw[if_pos (.inr h2),<-g (by omega)];unfold CA;dsimp only;rw[f,cF,k,cT,oB];have k:A3 (zD .u64 ((q:Int)*4294967288) > zD .u64 (zD .u64 ((4294967296:Int)*(r:Int))+(d:Int)))=false:=decide_eq_false (by omega);rw[if_neg (by unfold Xo;omega)];unfold CA;dsimp only;rw[f,cF,k,cF,oB]
theorem b8Y{u d u0:Nat}{s:Int}(a:u<4294967295*4294967296+4294967288)(k:d<4294967296):
  Al CA ((18446744073709551608:Int),s,(4294967295:Int),(4294967288:Int),(u:Int),(d:Int),(u0:Int),((u / 4294967295:Nat):Int),((u%4294967295:Nat):Int),())=some ((18446744073709551608:Int),s,(4294967295:Int),(4294967288:Int),(u:Int),(d:Int),(u0:Int),((a5q u d 4294967295 4294967288:Nat):Int),()):=by
 have h:u / 4294967295<=4294967297:=by omega
 have g:u%4294967295<4294967295:=C3 _ (by omega);unfold a5q;revert h g;generalize u / 4294967295=q;generalize u%4294967295=r;intro h g;have f:=eA (u0:=u0) (s:=s) (u:=u) k h (O7 g);by_cases c1:Xo 4294967288 d q r
 ·rw[if_pos c1]at f|-;by_cases c2:4294967296<=r+4294967295;simp_all[Ag]
  ·rw[if_neg c2]at f|-;rw[Ai f];have b:=eA (u0:=u0) (s:=s) (u:=u) (q:=q-1) (r:=r+4294967295) k (by omega) (by omega);by_cases c3:Xo 4294967288 d (q-1) (r+4294967295);all_goals simp_all[Nat.sub_sub,Ag]
 simp_all[Ag]
theorem eD{u d q r:Nat}{s q1:Int}(i:d<4294967296)(hq:q<=4294967297)(j:r<4294967296):CB ((18446744073709551608:Int),s,(4294967295:Int),(4294967288:Int),(d:Int),q1,(r:Int),(u:Int),(q:Int),()) =
  if Xo 4294967288 d q r then(if 4294967296<=r+4294967295 then some (.inr ((18446744073709551608:Int),s,(d:Int),q1,(u:Int),((q-1:Nat):Int),()))else some (.inl ((18446744073709551608:Int),s,(4294967295:Int),(4294967288:Int),(d:Int),q1,((r+4294967295:Nat):Int),(u:Int),((q-1:Nat):Int),())))else some (.inr ((18446744073709551608:Int),s,(d:Int),q1,(u:Int),(q:Int),())):=by
 have c:zD .u64 ((q:Int)-1)=(((q-1:Nat)):Int)\/q=0:=by
  rcases N4 q with h|h;exact .inr h;left;rw[Aw (by omega)];omega
 have a:zD .u64 ((r:Int)+4294967295)=((r+4294967295:Nat):Int):=by rw[Aw (by omega)];omega
 have b:A3 (zD .u64 ((r:Int)+4294967295)>=(4294967296:Int))=A3 (4294967296<=r+4294967295):=by
  rw[a];exact decide_eq_decide.2 (by omega)
 have g:q≠0->(bif A3 (zD .u64 ((r:Int)+4294967295)>=(4294967296:Int))then(some (.inr ((18446744073709551608:Int),s,(d:Int),q1,(u:Int),(zD .u64 ((q:Int)-1)),())):Option (_ ⊕ (Int×Int×Int×Int×Int×Int×Unit)))else some (.inl ((18446744073709551608:Int),s,(4294967295:Int),(4294967288:Int),(d:Int),q1,(zD .u64 ((r:Int)+4294967295)),(u:Int),(zD .u64 ((q:Int)-1)),()))) =
   (if 4294967296<=r+4294967295 then some (.inr ((18446744073709551608:Int),s,(d:Int),q1,(u:Int),((q-1:Nat):Int),()))else some (.inl ((18446744073709551608:Int),s,(4294967295:Int),(4294967288:Int),(d:Int),q1,((r+4294967295:Nat):Int),(u:Int),((q-1:Nat):Int),()))):=fun e=>by
  rw[b,c.resolve_right e,a];exact dZ ..
 by_cases h1:4294967296<=q;have f:A3 ((q:Int)>=(4294967296:Int))=true:=decide_eq_true (by omega);rw[if_pos (.inl h1),<-g (by omega)];unfold CB;dsimp only;rw[f,cT,oB];have f:A3 ((q:Int)>=(4294967296:Int))=false:=decide_eq_false (by omega);have l:zD .u64 ((q:Int)*4294967288)=((q*4294967288:Nat):Int):=by rw[Aw (by omega)];omega
 have m:zD .u64 (zD .u64 ((4294967296:Int)*(r:Int))+(d:Int))=((4294967296*r+d:Nat):Int):=by rw[Aw (n:=4294967296*(r:Int)) (by omega),Aw (by omega)];omega
 by_cases h2:4294967296*r+d<q*4294967288;have k:A3 (zD .u64 ((q:Int)*4294967288) > zD .u64 (zD .u64 ((4294967296:Int)*(r:Int))+(d:Int)))=true:=decide_eq_true (by omega);rw[if_pos (.inr h2),<-g (by omega)];unfold CB;dsimp only;rw[f,cF,k,cT,oB];have k:A3 (zD .u64 ((q:Int)*4294967288) > zD .u64 (zD .u64 ((4294967296:Int)*(r:Int))+(d:Int)))=false:=decide_eq_false (by omega);rw[if_neg (by unfold Xo;omega)];unfold CB;dsimp only;rw[f,cF,k,cF,oB]
theorem b8Z{u d:Nat}{s q1:Int}(a:u<4294967295*4294967296+4294967288)(k:d<4294967296):
  Al CB ((18446744073709551608:Int),s,(4294967295:Int),(4294967288:Int),(d:Int),q1,((u%4294967295:Nat):Int),(u:Int),((u / 4294967295:Nat):Int),())=some ((18446744073709551608:Int),s,(d:Int),q1,(u:Int),((a5q u d 4294967295 4294967288:Nat):Int),()):=by
 have h:u / 4294967295<=4294967297:=by omega
 have g:u%4294967295<4294967295:=C3 _ (by omega);unfold a5q;revert h g;generalize u / 4294967295=q;generalize u%4294967295=r;intro h g;have f:=eD (s:=s) (q1:=q1) (u:=u) k h (O7 g);by_cases c1:Xo 4294967288 d q r
 ·rw[if_pos c1]at f|-;by_cases c2:4294967296<=r+4294967295;simp_all[Ag]
  ·rw[if_neg c2]at f|-;rw[Ai f];have b:=eD (s:=s) (q1:=q1) (u:=u) (q:=q-1) (r:=r+4294967295) k (by omega) (by omega);by_cases c3:Xo 4294967288 d (q-1) (r+4294967295);all_goals simp_all[Nat.sub_sub,Ag]
 simp_all[Ag]
theorem c2n(n:Int):zD .u64 n=n%18446744073709551616:=by rfl
theorem b6E{u d Q:Nat}(h:Q*18446744073709551608<=u*4294967296+d)(g:u*4294967296+d<Q*18446744073709551608+18446744073709551608):
  zD .u64 (zD .u64 (zD .u64 ((u:Int)*4294967296)+(d:Int))-zD .u64 ((Q:Int)*18446744073709551608))=(((u*4294967296+d)%18446744073709551608:Nat):Int):=by
 grind[c2n]
theorem a8Y{u:Nat}(h:u<18446744073709551616):zD .u64 ((u:Int)-zD .u64 (((u / 4294967295:Nat):Int)*4294967295))=((u%4294967295:Nat):Int):=by
 grind[Aw]
theorem c7h(n:Nat):AT .u64 (n:Int) 3=((n*8%18446744073709551616:Nat):Int):=by
 rfl
theorem b4u(lo:Nat):DN (0,(lo:Int),(2305843009213693951:Int))=some (zD .u64 (C6 (lo:Int) 2305843009213693951),((lo%2305843009213693951:Nat):Int)):=by
 rfl
theorem c2o:zD .u64 3=3:=by rfl
theorem b9a:zD .u64 (64-3)=((61:Nat):Int):=by rfl
theorem c2p:AT .u64 2305843009213693951 3=18446744073709551608:=by rfl
theorem c2q:AR .u64 18446744073709551608 32=4294967295:=by rfl
theorem c2r:bits .u64 .and 18446744073709551608 4294967295=4294967288:=by rfl
theorem c2s:((2305843009213693951:Int)==0)=false:=by rfl
theorem c2t:A3 ((3:Int)<0)=false:=by rfl
theorem c2u:A3 (((61:Nat):Int)<0)=false:=by rfl
theorem c2v:((4294967295:Int)==0)=false:=by rfl
theorem b4v{u d Q v:Nat}(hv:(u*4294967296+d)%18446744073709551608=v)(h:Q*18446744073709551608<=u*4294967296+d)(g:u*4294967296+d<Q*18446744073709551608+18446744073709551608):
  zD .u64 (zD .u64 (zD .u64 ((u:Int)*4294967296)+(d:Int))-zD .u64 ((Q:Int)*18446744073709551608))=(v:Int):=by
 simp_all[b6E]
theorem b7Y{u:Nat}(h:u<18446744073709551616):zD .u64 ((u / 4294967295:Nat):Int)=((u / 4294967295:Nat):Int):=Aw (by omega)
theorem b6F{hi lo u d e v r:Nat}(hv:(u*4294967296+d)%18446744073709551608=v)(o:(v*4294967296+e)%18446744073709551608=r)(z:hi≠0)(A:hi<2305843009213693951)(p:hi*8+lo / 2305843009213693952=u)(j:lo*8%18446744073709551616 / 4294967296=d)(l:lo*8%18446744073709551616%4294967296=e)(B:lo<18446744073709551616)
  (h:u<4294967295*4294967296+4294967288)(f:d<4294967296)(a:e<4294967296):
  ∃q:Int,DN ((hi:Int),(lo:Int),(2305843009213693951:Int))=some (q,((r / 8:Nat):Int)):=by
 have b:((hi:Int)==0)=false:=by simp_all
 have c:A3 ((2305843009213693951:Int)<=(hi:Int))=false:=decide_eq_false (by omega);have i:hi*8%18446744073709551616=hi*8:=by omega
 have m:bits .u64 .or ((hi*8:Nat):Int) (AR .u64 (lo:Int) ((61:Nat):Int))=(u:Int):=by
  rw[a7Z (k:=61) (by omega),show 2^61=2305843009213693952 from rfl,c6O (by omega) (by omega),p]
 have t:=b8Y (u0:=e) (s:=3) h f;have D:=b4v hv (b6D rfl h f).1 (b6D rfl h f).2.1;have g:v<4294967295*4294967296+4294967288:=by grind
 have C:=b8Z (s:=3) (q1:=((a5q u d 4294967295 4294967288:Nat):Int)) g a;have E:=b4v o (b6D rfl g a).1 (b6D rfl g a).2.1;have w:=a8Y (u:=u) (C5 h (by simp));have G:=a8Y (u:=v) (C5 g (by simp));have x:zD .u64 ((u / 4294967295:Nat):Int)=((u / 4294967295:Nat):Int):=b7Y (C5 h (by simp));have y:zD .u64 ((v / 4294967295:Nat):Int)=((v / 4294967295:Nat):Int):=b7Y (C5 g (by simp));have q1:C6 (u:Int) 4294967295=((u / 4294967295:Nat):Int):=rfl;have F:C6 (v:Int) 4294967295=((v / 4294967295:Nat):Int):=rfl;have g8:∀n:Nat,AR .u64 (n:Int) 3=((n / 8:Nat):Int):=fun n=>a7Z (k:=3) (by omega);unfold DN;dsimp only;rw[c2s,cF,c,cF,b,cF,b8X,oB,c2o,c2t,cF,cF,b9a,c2u,cF,cF,c2p,c2q,c2v,cF,c2r,c7h hi,i,m,c7h lo,b4s,j,b7X,l,q1,x,w,t,oB];simp_all
theorem b6G{hi lo:Nat}(h:hi<KL)(g:lo<18446744073709551616):∃q:Int,DN ((hi:Int),(lo:Int),(2305843009213693951:Int))=some (q,(((hi*18446744073709551616+lo)%KL:Nat):Int)):=by
 by_cases h0:hi=0;subst h0;rw[Nat.zero_mul,J8];exact⟨_,b4u lo⟩;rw[<-b8V hi lo];exact b6F rfl rfl h0 h rfl rfl rfl g (b4q h g) (M8 (Nat.lt_of_lt_of_le (C3 _ (by omega)) (by omega))) (C3 _ (by omega))
theorem gK{a b c:Nat}(g:a<KL)(hb:b<KL)(f:c<=KL):IK ((a:Int),(b:Int),(c:Int))=some (((a*b+c)%KL:Nat):Int):=by
 have k:=b1f g hb f;unfold KL at g hb f k;have l:=b4t (a:=a) (b:=b) (by omega) (by omega);have j:Ma (((a*b%18446744073709551616:Nat):Int),(c:Int),(0:Int))=some ((((a*b%18446744073709551616+c)%18446744073709551616:Nat):Int),(((a*b%18446744073709551616+c) / 18446744073709551616:Nat):Int)):=rfl;obtain⟨hi,h⟩:∃hi,(a*b+c) / 18446744073709551616=hi:=⟨_,rfl⟩;rw[h]at k;have i:zD .u64 (((a*b / 18446744073709551616:Nat):Int)+((a*b%18446744073709551616+c) / 18446744073709551616:Nat))=(hi:Int):=by
  grind[Aw]
 obtain⟨q,d⟩:=b6G (hi:=hi) (lo:=(a*b%18446744073709551616+c)%18446744073709551616) (by unfold KL;omega) (by omega);have e:hi*18446744073709551616+(a*b%18446744073709551616+c)%18446744073709551616=a*b+c:=by omega
 rw[e]at d;have t:D3 (hi:Int) 2305843009213693951=(hi:Int):=by
  grind
 unfold IK Mb;simp_all
theorem eE(l:LI)(n i:Int):∀(j k:Nat)(s:Int),k+j=8->Al JK (s,l,n,i,(k:Int),())=some (gJ b4T j s,l,n,i,())
 |0,k,s,h=>by
  obtain rfl:k=8:=by omega
  rfl
 |j+1,k,s,h=>by
  have d:A3 ((k:Int)<8)=true:=by grind
  rw[Ai (s':=(b4T s,l,n,i,((k+1:Nat):Int),())) (by
   simp only[JK,d,cT,Aa (show k<1000000 by omega),b4T];grind)]
  exact eE l n i j (k+1) (b4T s) (by omega)
theorem mV{l:LI}(k:short l):∀(zG zF:LI)(s:BitVec 32),zF++zG=l->(∀b∈zG,0<=b/\b<256)->
  Al FZ (((s.toNat:Nat):Int),l,(l.length:Int),(zF.length:Int),())=some ((((c2i s (zG.map (A4 32))).toNat:Nat):Int),())
 | [],zF,s,a,_=>by
  obtain rfl:zF=l:=by simp_all
  exact Ag (by simp only[FZ,rE,cF];rfl)
 |x::zG,zF,s,a,hb=>by
  have g:zF.length<l.length:=by grind
  have c:Az l (zF.length:Int)=some x:=by grind[Ac]
  have d:=hb x (by simp);have e:bits .u32 .xor ((s.toNat:Nat):Int) (zD .u32 x)=(((s ^^^ A4 32 x).toNat:Nat):Int):=by
   rw[<-b4o];grind[B8,zD,IntKind.bits]
  have f:=eE l (l.length:Int) (zF.length:Int) 8 0 (bits .u32 .xor ((s.toNat:Nat):Int) (zD .u32 x)) rfl;rw[e,a5p]at f;rw[Ai (s':=((((b8S s (A4 32 x)).toNat:Nat):Int),l,(l.length:Int),(((zF++[x]).length:Nat):Int),())) (by
   simp only[FZ,Cq g,cT,c,oB,e];erw[f];simp only[oB,Aa (C5 g k)];simp[b8S])]
  exact mV k zG (zF++[x]) _ (by simp_all) (fun b h=>hb b (by grind))
theorem YR{l:LI}(g:short l)(hb:∀b∈l,0<=b/\b<256):Gm l=some ((CF l:Nat):Int):=by
 have h:=mV g l [] 0xffffffff#32 rfl hb;rw[B4]at h;unfold Gm;erw[h];simp only[oB];rw[show IntKind.max .u32=(((0xffffffff#32).toNat:Nat):Int)from rfl,b4o];rfl
theorem mW{l:LI}(k:short l):∀(zG zF:LI)(h:Nat),zF++zG=l->h<KL->(∀b∈zG,0<=b/\b<256)->
  Al Ky ((h:Int),l,(l.length:Int),(zF.length:Int),())=some (((a5K h (zG.map E8):Nat):Int),())
 | [],zF,h,d,_,_=>by
  obtain rfl:zF=l:=by simp_all
  exact Ag (by simp only[Ky,rE,cF];rfl)
 |x::zG,zF,h,d,j,hb=>by
  have g:zF.length<l.length:=by grind
  have i:Az l (zF.length:Int)=some x:=by grind[Ac]
  have m:=hb x (by simp);have e:zD .u64 ((zD .u64 x)+(1:Int))=((x.toNat+1:Nat):Int):=by grind[Aw]
  have f:=gK (a:=h) (b:=1000003) (c:=x.toNat+1) j (by decide) (by unfold KL;omega);rw[Ai (s':=((((h*1000003+(x.toNat+1))%KL:Nat):Int),l,(l.length:Int),(((zF++[x]).length:Nat):Int),())) (by
   simp only[Ky,Cq g,cT,i,oB,e];erw[f];simp[Aa (C5 g k)])]
  exact mW k zG (zF++[x]) _ (by simp_all) (C3 _ (by decide)) (fun b h=>hb b (by grind))
theorem b4w{l:LI}(g:short l)(hb:∀b∈l,0<=b/\b<256):Jp l=some ((b6y l:Nat):Int):=by
 have h:=mW g l [] 0 rfl (by decide) hb;unfold Jp;erw[h];rfl
theorem Xp:∀(k n p s:Nat),n<2^k->n<4611686018427387904->p<KL->s<KL->Al Kz ((n:Int),(p:Int),(s:Int),())=some (((b9v k n p s:Nat):Int),())
 |0,n,p,s,j,_,_,_=>by
  obtain rfl:n=0:=by omega
  rfl
 |k+1,n,p,s,j,hn2,e,g=>by
  by_cases h0:n=0;subst h0;rfl;have d:A3 ((n:Int) > 0)=true:=by grind
  have a:D3 (n:Int) 2=((n%2:Nat):Int):=rfl;have l:zD .i64 (C6 (n:Int) 2)=((n / 2:Nat):Int):=by rw[show C6 (n:Int) 2=((n / 2:Nat):Int)from rfl,Ae (by omega)]
  have f:=gK (c:=0) g g (by simp);have h:=gK (c:=0) e g (by simp);have b:n / 2<2^k:=by omega
  simp only[N5,nZ]at f h;have m:=C3 (s*s) (show 0<KL by decide);rw[b9v,if_neg h0];by_cases h1:n%2=1;rw[if_pos h1,Ai (s':=(((n / 2:Nat):Int),((p*s%KL:Nat):Int),((s*s%KL:Nat):Int),())) (by
   simp only[Kz,d,cT,a,h1,show(((1:Nat):Int)==1)=true from rfl];simp_all)]
  exact Xp k _ _ _ b (by omega) (C3 _ (by decide)) m;have i:n%2=0:=by omega
  rw[if_neg h1,Ai (s':=(((n / 2:Nat):Int),(p:Int),((s*s%KL:Nat):Int),())) (by
   simp only[Kz,d,cT,a,i,show(((0:Nat):Int)==1)=false from rfl,cF,oB];simp_all)]
  exact Xp k _ _ _ b (by omega) e m
theorem b6H{a b n:Nat}(f:a<KL)(hb:b<KL)(h:n<4611686018427387904):Qf ((a:Int),(b:Int),(n:Int))=some ((((a*(1000003^n%KL)+b)%KL:Nat):Int),true):=by
 have i:=Xp 62 n 1 1000003 h h (by decide) (by decide);rw[b8Q 62 n 1 1000003 h (by decide),Nat.one_mul]at i;have l:=gK (c:=b) f (C3 (1000003^n) (show 0<KL by decide)) (J7 hb);unfold KL at f hb;have k:A3 ((a:Int)>=(2305843009213693951:Int))=false:=by grind
 have d:A3 ((b:Int)>=(2305843009213693951:Int))=false:=by grind
 have e:A3 ((n:Int)<(0:Int))=false:=by simp
 have j:EA (n:Int) 0=(n:Int):=by rfl
 have g:OD (n:Int)=some ((1000003^n%KL:Nat):Int):=by
  simp_all[OD]
 simp only[Qf,k,d,e,cF,oB,g];simp_all
theorem a5r(b:BI)(N:Int){i:Nat}:∀(zG zF:List (List Int)) (out:LI),zF++zG=b.2.1->b.2.1.length<=8->(∀r∈zG,i<r.length)->out.length+zG.length<1000000->
  Al Jq ((i:Int),N,(i:Int),b.2.1,(b.2.1.length:Int),(zF.length:Int),out,b,())=some (N,(i:Int),out++zG.map (fun r=>r.getD i 0),b,())
 | [],zF,out,a,_,_,_=>by
  simp_all[Ag,Jq]
 |r::zG,zF,out,a,k,f,e=>by
  have g:zF.length<b.2.1.length:=by grind
  have c:Az b.2.1 (zF.length:Int)=some r:=by grind[Ac]
  have d:=f r (by simp);have h:Az r (i:Int)=some (r.getD i 0):=by simp_all[Ac]
  simp at e;rw[Ai (s':=((i:Int),N,(i:Int),b.2.1,(b.2.1.length:Int),(((zF++[r]).length:Nat):Int),out++[r.getD i 0],b,())) (by
   simp only[Jq,Cq g,cT,c,h,oB,AW (show out.length+1<2147483648 by omega),Aa (show zF.length<1000000 by omega)]
   simp)]
  rw[a5r b N zG (zF++[r]) _ (by simp_all) k (fun q j=>f q (by grind)) (by grind)]
  simp
theorem a5s{b:BI}(hb:LB b):HQ b=some (dX b):=by
 obtain⟨g1,g2,g3,g4,g5,g6,g7⟩:=id hb;have hlen:∀r∈b.2.1,r.length=Ba b:=fun r hr=>by
  simp_all
 have hw:∀i,i<=4096->(wv i b.2.1).length<=32768:=fun i hi=>by
  rw[b4m]
  calc i*b.2.1.length<=4096*8:=D1 hi g4
   _=32768:=rfl
 have h:=Bz (f:=Jr) (fun i=>(((Ba b:Nat):Int),(i:Int),wv i b.2.1,b,())) (Ba b) (b:=(wv (Ba b) b.2.1,())) (fun i hi=>by
  have h0:=a5r b ((Ba b:Nat):Int) (i:=i) b.2.1 [] (wv i b.2.1) rfl g4 (fun r hr=>by simp_all) (by grind);rw[B4]at h0;simp only[Jr,Cq hi,cT];grind[Aa,wv,G6]) (by simp_all[Jr])
 unfold HQ;simp[JG,hb,Hv];erw[h];rfl
theorem a8Z{b:BI}:(dX b).length=Ba b*b.2.1.length:=b4m _
theorem b6I{b:BI}(hb:LB b):(dX b).all (fun x=>Cu x b.1)=true:=by
 obtain⟨g,f,k,a,c,d,e⟩:=hb;refine lA.2 fun x h=>?_
 unfold dX wv at h;grind
theorem b6J{b:BI}(hb:LB b):OC b=some (Jc b.1 (dX b),0):=by
 have hl:(dX b).length<=1000000:=by
  rw[a8Z]
  calc Ba b*b.2.1.length<=4096*8:=D1 hb.2.2.2.2.2.1 hb.2.2.2.1
   _<=1000000:=by simp
 unfold OC;simp only[JG,hb,decide_true,oB,bT,cF,a5s hb,mR ⟨hb.1,hb.2.1⟩ hl (b6I hb)]
theorem bL{b:BI}(hb:LB b){w:Int}(h:b.1=w)(d:LI):GA (((b6y (Jc w d):Nat):Int),b)=some (((b6y (Jc w (d++dX b)):Nat):Int),true):=by
 subst h;have g:=a7S ⟨hb.1,hb.2.1⟩ (dX b);have f:(dX b).length<=4096*8:=by rw[a8Z];exact D1 hb.2.2.2.2.2.1 hb.2.2.2.1
 have k:=b6H (a2q (Jc b.1 d)) (a2q (Jc b.1 (dX b))) (n:=(Jc b.1 (dX b)).length) (by omega);unfold GA;simp only[b6J hb,oB,show((0:Int) != 0)=false from rfl,cF,b4w (show short (Jc b.1 (dX b))by unfold short;omega) (a2p _ _),a7T,b6z];simp_all
theorem b4x(d:LI)(x:Int){ch:Nat}(h:0<ch):(Fa d ch).set (d.length%ch) ((Fa d ch).getD (d.length%ch) []++[x])=Fa (d++[x]) ch:=by
 have k:=C3 d.length h;refine I4 (by simp[Fa]) fun i g f=>?_
 simp[Fa]at g;rw[List.getElem_set];simp_all[Fa,b1b]
theorem b6K{fm:AL}(e:NU fm){ch:Nat}(k:fm.2.1=(ch:Int)){l:LI}{n:Nat}(r:1<=n/\n<=4096)(m:l.length=n*ch)(a:l.all (fun x=>Cu x fm.2.2.1)=true):
  OH (l,fm)=some (PN fm.2.2.1 l ch,0):=by
 have g:1<=ch/\ch<=8:=by have:=e.2.2.1;have:=e.2.2.2.1;omega
 have L:l.length<=4096*8:=by rw[m];exact D1 r.2 g.2
 have u:1<=l.length:=by rw[m];exact Nat.mul_pos r.1 g.1
 have A:4<=fm.2.2.1/\fm.2.2.1<=24:=e.2.2.2.2;have q:((ch:Int)==0)=false:=by grind
 have h:=Bz (f:=KB) (fun i=>(l,((l.length:Nat):Int),(i:Int),Va,(fm.2.2.1,Fa (l.take i) ch,()),fm,())) l.length (b:=D9 (Va,PN fm.2.2.1 l ch,())) (fun i j=>by
  have t:D3 (i:Int) (ch:Int)=((i%ch:Nat):Int):=rfl;have z:=C3 i g.1;have o:∀d,(Fa d ch).length=ch:=fun d=>by simp[Fa]
  have v:A3 ((0:Int)<=((i%ch:Nat):Int))=true:=decide_eq_true (B7 _);have B:Cu l[i] fm.2.2.1=true:=lA.1 a _ (C0 j);have p:(l.take i).length=i:=by grind
  have y:((Fa (l.take i) ch).getD (i%ch) []).length<=32768:=by
   grind[Fa,YL]
  have c:=b4x (l.take i) l[i] g.1;rw[p]at c;simp only[KB,Cq j,cT,Ac j,oB,UZ A,B,bT,cF,k,q,t,v,List.length_set,o,Cq z,B3,tN,AW (show((Fa (l.take i) ch).getD (i%ch) []).length+1<2147483648 by omega),beq_self_eq_true,Bool.and_true,Aa (show i<1000000 by omega)];simp_all) (by
  simp only[KB,rE,cF,E7];rfl)
 have w:Fa ([]:List Int) ch=A6 ch []:=by
  refine I4 (by simp[Fa]) fun i I K=>?_
  simp[Fa,YL]
 have C:(((l.length:Nat):Int)==0)=false:=by grind
 have D:D3 ((l.length:Nat):Int) (ch:Int)=0:=by
  simp_all
 have E:zD .i64 (C6 ((l.length:Nat):Int) (ch:Int))=(n:Int):=by
  rw[show C6 ((l.length:Nat):Int) (ch:Int)=((l.length / ch:Nat):Int)from rfl,m,K1 _ g.1,Ae (by omega)]
 have F:A3 ((n:Int) > 4096)=false:=by grind
 have G:A3 ((0:Int)<=(ch:Int))=true:=by simp
 have H:A3 ((ch:Int)<=(ch:Int))=true:=by simp
 unfold OH;simp only[GO,e,decide_true,oB,bT,cF,C,k,q,D,show((0:Int) != 0)=false from rfl,E,F,G,H,tN,AW (show ch<2147483648 by omega),B3,cT];simp only[List.take_zero,w]at h;erw[h];rfl
theorem QJ{α:Type}(a:List α)(x:α)(b:List α):Az (a++x::b) (a.length:Int)=some x:=by
 simp_all[Ac]
theorem Xq:∀(a b:List Pc)(st off:Nat),GQ st off (a++b)=GQ st off a++GQ (st+Ax a) (off+(Au a).length) b
 | [],b,st,off=>by rfl
 |y::a,b,st,off=>by
  simp_all[GQ,Xq,Ax,Au,I5]
theorem a5t{fm:AL}{all:List Pc}(h:all.length<=256){t:a7X}(r:t.1=fm)(b:t.2.2.2.1=GQ 0 0 all):∀(zG zF:List Pc),zF++zG=all->Ie fm (Ax zF) zG->(Au zF).length<=700800*zF.length->Ax zF<=64*zF.length->
  Al Mr (((Ax zF:Nat):Int),(((Au zF).length:Nat):Int),((Et fm zF:Nat):Int),all.map (·.1),((all.map (·.1)).length:Int),(zF.length:Int),zF.map (·.2.2),zF.map (·.2.1),t,()) =
   some (.inl (((Ax all:Nat):Int),((Et fm all:Nat):Int),all.map (·.2.2),all.map (·.2.1),t,()))
 | [],zF,k,_,_,_=>by
  obtain rfl:zF=all:=by simp_all
  simp_all[Ag,Mr]
 |x::zG,zF,k,q,hb,G=>by
  obtain⟨⟨C,e,D,j,l,E,m,n,F,c,d⟩,hr2⟩:=q;have f:zF.length<(all.map (·.1)).length:=by grind
  have a:all.length=zF.length+(zG.length+1):=by grind
  have p:Az (all.map (·.1)) (zF.length:Int)=some x.1:=by
   grind[QJ]
  have g:Az t.2.2.2.1 (zF.length:Int)=some (((Ax zF:Nat):Int),(((Au zF).length:Nat):Int),()):=by
   have:=QJ (GQ 0 0 zF) (((Ax zF:Nat):Int),(((Au zF).length:Nat):Int),()) (GQ (Ax zF+Ba x.2.1) ((Au zF).length+x.2.2.length) zG)
   rw[KY]at this;rw[b,<-k,Xq];simp_all[GQ]
  have o:nE (.pair (.int .i64) (.pair (.int .i64) (.pair (.int .i64) .unit))) x.1.2.2.1 t.1=true:=by simp_all[a5f]
  have u:=bL m (w:=fm.2.2.1) n (Fb zF);have y:(x.1.1 != ((Ax zF:Nat):Int))=false:=by simp_all
  have z:∀i:Int,(i != i)=false:=fun i=>by simp
  have v:((0:Int) != 0)=false:=rfl;have A:zD .i64 (((Ax zF:Nat):Int)+((Ba x.2.1:Nat):Int))=((Ax (zF++[x]):Nat):Int):=by grind[GR,Ae]
  have B:zD .i64 ((((Au zF).length:Nat):Int)+((x.2.2.length:Nat):Int))=(((Au (zF++[x])).length:Nat):Int):=by grind[GY,Ae]
  rw[Ai (s':=(((Ax (zF++[x]):Nat):Int),(((Au (zF++[x])).length:Nat):Int),((Et fm (zF++[x]):Nat):Int),all.map (·.1),((all.map (·.1)).length:Int),(((zF++[x]).length:Nat):Int),(zF++[x]).map (·.2.2),(zF++[x]).map (·.2.1),t,())) (by
   simp only[Mr,Cq f,cT,p,oB];rw[o];simp only[bT,cF,oB,y,g,z,j,v,l];erw[u];simp only[oB,bT,cF,C8,AW (show zF.length+1<2147483648 by omega),cT,e,A,B,Aa (show zF.length<1000000 by omega)];simp[Et,Th])]
  exact a5t h r b zG (zF++[x]) (by simp_all) (by simp_all[GR]) (by grind[GY]) (by grind[GR])
theorem b9b{fm:AL}(c:NU fm){xs:List Pc}(b:Ie fm 0 xs)(g:xs.length<=256):NL (TE fm xs)=some (xs.map (·.2.2),xs.map (·.2.1),true):=by
 have h:=a5t g (t:=TE fm xs) rfl rfl xs [] rfl b (by simp[Au]) (by simp[Ax]);have a:CL (TE fm xs).1=some true:=by simp_all[GO,TE]
 have f:A3 (((A8 (TE fm xs).2.2.2.2.1:Nat):Int) > (4096:Int))=false:=by simp[TE];omega
 have k:(((A8 (TE fm xs).2.2.2.1:Nat):Int) != ((A8 (TE fm xs).2.2.2.2.1:Nat):Int))=false:=by simp[TE,KY]
 unfold NL;simp[a,f,k];erw[h];simp_all[TE]
theorem bM{α:Type}(a:List α)(x d:α)(b:List α):(a++x::b).getD a.length d=x:=by
 rw[lD];simp
theorem a0o{fm:AL}{all:List Pc}(g:all.length<=256)(t:a7X)(A:List Nat)(i:A.length=4):∀(zG zF:List Pc)(st:Nat),zF++zG=all->Ie fm st zG->
  Al Ms (all.map (·.1),((all.map (·.1)).length:Int),(zF.length:Int),all.map (·.2.2),RU (A++dY zF),t,())=some (all.map (·.2.2),RU (A++dY all),t,())
 | [],zF,st,h,_=>by
  obtain rfl:zF=all:=by simpa using h
  exact Ag (by simp only[Ms,C8,rE,cF])
 |x::zG,zF,st,h,n=>by
  obtain⟨⟨q,e,r,u,v,w,y,z,B,c,d⟩,hr2⟩:=n;have a:zF.length<(all.map (·.1)).length:=by rw[<-h];simp
  have f:zF.length<(all.map (·.2.2)).length:=by rw[<-h];simp
  have l:Az (all.map (·.1)) (zF.length:Int)=some x.1:=by
   have:=QJ (zF.map (·.1)) x.1 (zG.map (·.1))
   rw[C8]at this;rw[<-h,pA,D8];exact this
  have m:(all.map (·.2.2)).getD zF.length []=x.2.2:=by
   have:=bM (zF.map (·.2.2)) x.2.2 [] (zG.map (·.2.2))
   rw[C8]at this;rw[<-h,pA,D8];exact this
  have b:A3 ((0:Int)<=(zF.length:Int))=true:=decide_eq_true (B7 _);have j:zF.length<all.length:=by rw[<-h];simp
  have k:(RU (A++dY zF)).length+2<2147483648:=by simp only[RU,C8,lN,YQ];omega
  have o:zD .u64 ((x.2.2.length:Nat):Int)=((x.2.2.length:Nat):Int):=Aw (by omega);have p:zD .u64 ((Ba x.2.1:Nat):Int)=((Ba x.2.1:Nat):Int):=Aw (by omega);rw[Ai (s':=(all.map (·.1),((all.map (·.1)).length:Int),(((zF++[x]).length:Nat):Int),all.map (·.2.2),RU (A++dY (zF++[x])),t,())) (by
   simp only[Ms,Cq a,Cq f,b,B3,cT,l,oB,AW k,tN,m,o,e,p,Aa (show zF.length<1000000 by omega)];simp[b4p,RU])]
  exact a0o g t A i zG (zF++[x]) _ (by simpa using h) hr2
theorem a0p{all:List (List Int)}(f:all.length<=256)(h:∀p∈all,p.length<=700800):∀(zG zF:List (List Int)) (out:LI),zF++zG=all->out.length+700800*zG.length<=190000000->
  Al Mt ((all.length:Int),(zF.length:Int),out,all,())=some (out++zG.flatten,())
 | [],zF,out,g,_=>by
  obtain rfl:zF=all:=by simpa using g
  rw[Ag (b:=(out,())) (by simp only[Mt,rE,cF])]
  simp
 |p::zG,zF,out,g,c=>by
  have k:zF.length<all.length:=by rw[<-g];simp
  have d:all.getD zF.length []=p:=by rw[<-g];exact bM zF p [] zG
  have e:=h p (by rw[<-g];simp);have a:A3 ((0:Int)<=(zF.length:Int))=true:=decide_eq_true (B7 _);simp only[lC]at c;rw[Ai (s':=((all.length:Int),(((zF++[p]).length:Nat):Int),out++p,all,())) (by
   simp only[Mt,Cq k,a,B3,cT,tN,d,AW (show out.length+p.length<2147483648 by omega),Aa (show zF.length<1000000 by omega)]
   simp)]
  rw[a0p f h zG (zF++[p]) (out++p) (by simpa using g) (by simp only[lN];omega)]
  simp
theorem mX{fm:AL}:∀{xs:List Pc}{st:Nat},Ie fm st xs->∀p∈xs.map (·.2.2),p.length<=700800
 | [],_,_,p,g=>by simp at g
 |x::xs,st,h,p,g=>by
  rcases mC.1 g with rfl|g;exact h.1.2.2.2.2.2.2.2.2.2.2;exact mX h.2 p g
theorem eF:∀(l:List Nat),(∀n∈l,n<9223372036854775808)->∀b∈l.flatMap AS,0<=b/\b<256:=fun l h b hb=>by
 obtain⟨n,g,hb⟩:=F8.1 hb;exact Xj 8 n (by rw[show(128:Nat)^(8+1)=9223372036854775808 from by decide];exact h n g) b hb
theorem a5u{fm:AL}(g:NU fm){xs:List Pc}(h:Ie fm 0 xs)(k:xs.length<=256):∀b∈AP fm xs,0<=b/\b<256:=fun b hb=>by
 unfold AP at hb;rcases mA.1 hb with hb|hb;simp only[a7Y,mC,D4,or_false]at hb;omega;rcases mA.1 hb with hb|hb;exact eF _ (fun n f=>C5 (Lz g h k n f) (by decide)) b hb;exact Xn _ _ b hb
theorem b1g{fm:AL}(f:NU fm){xs:List Pc}(g:Ie fm 0 xs)(h:xs.length<=256):Qq (TE fm xs)=some (DI fm xs,0):=by
 obtain⟨v,w,x,y,z,A⟩:=id f;have c:=a0o h (TE fm xs) [fm.1.toNat,fm.2.1.toNat,fm.2.2.1.toNat,xs.length] rfl xs [] 0 rfl g;have m:=YH (ns:=Ly fm xs) (fun n j=>C5 (Lz f g h n j) (by decide)) (by simp only[Ly,lN,YQ,lC,B4];omega);have D:=VD (Ly fm xs) fun n i=>C5 (Lz f g h n i) (by decide);have C:(Ly fm xs).length<=516:=by simp only[Ly,lN,YQ,lC,B4];omega
 have B:=Ph f g h;have e:=YO (n:=Et fm xs) (k:=8) (by have:=a2q (Jc fm.2.2.1 (Fb xs));unfold KL at this;unfold Et;omega) (by omega);have d:=YO (n:=CF (AP fm xs)) (k:=4) (by have:=YP (AP fm xs);omega) (by omega);have o:=YR (l:=AP fm xs) (by unfold short;omega) (a5u f g h);have hb:=a0p (all:=xs.map (·.2.2)) (by simpa using h) (mX g) (xs.map (·.2.2)) [] (AP fm xs++GS 4 (CF (AP fm xs))) rfl (by simp only[lN,C8,ET];omega);have p:zD .u64 fm.1=((fm.1.toNat:Nat):Int):=by rw[Aw (by omega)];omega
 have q:zD .u64 fm.2.1=((fm.2.1.toNat:Nat):Int):=by rw[Aw (by omega)];omega
 have r:zD .u64 fm.2.2.1=((fm.2.2.1.toNat:Nat):Int):=by rw[Aw (by omega)];omega
 have t:zD .u64 ((A8 (xs.map (·.1)):Nat):Int)=((xs.length:Nat):Int):=by rw[C8,Aw (by omega)]
 have u:zD .u64 ((CF (AP fm xs):Nat):Int)=((CF (AP fm xs):Nat):Int):=Aw (by have:=YP (AP fm xs);omega);unfold Qq;rw[b9b f g h];simp only[oB,bT,cF,TE,p,q,r,t];erw[c];simp only[oB];erw[m];simp only[oB,AW (show 4+((Ly fm xs).flatMap AS).length<2147483648 by omega),cT];erw[e];have b:P0 (P0 ([(75:Int),(78:Int),(83:Int),(68:Int)]:List Int) ((Ly fm xs).flatMap AS)) (GS 8 (Et fm xs))=AP fm xs:=aA ..;have a:(P0 ([(75:Int),(78:Int),(83:Int),(68:Int)]:List Int) ((Ly fm xs).flatMap AS)).length+(GS 8 (Et fm xs)).length<2147483648:=by
  have:=congrArg A8 b
  simp only[C2,lN]at this|-;omega
 simp only[oB,AW a,cT,b,o,u];erw[d];simp only[oB,AW (show(AP fm xs).length+(GS 4 (CF (AP fm xs))).length<2147483648 by rw[ET];omega),cT];erw[hb];simp only[oB,DI,Au,List.flatMap_def,aA]
theorem b6L{P A R:LI}(b:(P++(A++R)).length<1000000000):FY (mB P (A++R),(A.length:Int))=some (A,mB (P++A) R):=by
 simp at b;have c:EA (A.length:Int) 0=(A.length:Int):=by rfl
 have d:zD .i64 (((P++(A++R)).length:Int)-(P.length:Int))=((A++R).length:Int):=by
  grind[Ae]
 have h:A3 ((A.length:Int) > ((A++R).length:Int))=false:=by grind
 have i:zD .i64 ((P.length:Int)+(A.length:Int))=(((P++A).length:Nat):Int):=by
  grind[Ae]
 have g:A3 ((0:Int)<=(((P++A).length:Nat):Int))=true:=by rfl
 have f:A3 ((((P++A).length:Nat):Int)<=((P++(A++R)).length:Int))=true:=by simp_all
 have k:A3 ((0:Int)<=(P.length:Int))=true:=by simp
 have a:A3 ((P.length:Int)<=(((P++A).length:Nat):Int))=true:=by grind
 have e:E4 P.length (E2 (P++A).length (P++(A++R)))=A:=by
  grind
 unfold FY Ck mB;simp only[show((0:Int) != 0)=false from rfl,cF,oB,c,d,h,i,g,f,k,a,B3,cT,tN,e,AW (show A.length<2147483648 by omega),aA]
theorem a5v{all:LI}(a:all.length<=8)(z:List Int×(Int×Int×Unit)):∀(zG zF:LI)(n:Nat),zF++zG=all->(∀b∈zG,0<=b/\b<256)->n<256^zF.length->
  Al EW ((n:Int),(all.length:Int),(zF.length:Int),all,z,())=some (((pX n zG:Nat):Int),z,())
 | [],zF,n,c,_,_=>by
  obtain rfl:zF=all:=by simp_all
  exact Ag (by simp only[EW,rE,cF];rfl)
 |x::zG,zF,n,c,hb,i=>by
  have g:zF.length<all.length:=by grind
  have d:all.getD zF.length 0=x:=by grind
  have j:=hb x (by simp);have f:A3 ((0:Int)<=(zF.length:Int))=true:=decide_eq_true (B7 _);have e:256^zF.length<=256^7:=D6 (by omega) (by omega);have k:(256:Nat)^7=72057594037927936:=by rfl
  have w:zD .u64 ((zD .u64 ((n:Int)*(256:Int)))+(zD .u64 x))=((n*256+x.toNat:Nat):Int):=by
   grind[Aw]
  rw[Ai (s':=(((n*256+x.toNat:Nat):Int),(all.length:Int),(((zF++[x]).length:Nat):Int),all,z,())) (by
   simp only[EW,Cq g,f,B3,cT,tN,d,w,Aa (show zF.length<1000000 by omega)]
   simp)]
  exact a5v a z zG (zF++[x]) _ (by simp_all) (fun b h=>hb b (by grind)) (by grind)
theorem a9a{P A R:LI}{k:Nat}(f:A.length=k)(g:k<=8)(hb:∀b∈A,0<=b/\b<256)(a:(P++(A++R)).length<1000000000):EK (mB P (A++R),(k:Int))=some (((pX 0 A:Nat):Int),mB (P++A) R):=by
 subst f;have h:=a5v g (mB (P++A) R) A [] 0 rfl hb (by simp);grind[FM,Qv,Vo,EK,b6L]
abbrev eG:Type:=AL×(List Int×(List Int×(Int×(Int×(Int×Unit)))))
def Cf(xs:List Pc):List Int:=xs.map fun x=>((x.2.2.length:Nat):Int)
def Ko(xs:List Pc):List Int:=xs.map fun x=>((Ba x.2.1:Nat):Int)
def RZ(fm:AL)(xs:List Pc)(pr bg:Nat):eG:=(fm,Cf xs,Ko xs,((Ax xs:Nat):Int),(pr:Int),(bg:Int),())
def mY:eG:=((0,0,0,()),[],[],0,0,0,())
theorem eH{all:List Pc}(h:all.length<=256)(x:LI)(fm:AL)(z:eG)(u:Int×(Int×Int×Unit)){R:LI}:∀(zG zF:List Pc)(P:LI)(st:Nat),zF++zG=all->Ie fm st zG->
  (P++((dY zG).flatMap AS++R)).length<1000000000->
  Al Hc (x,(all.length:Int),(zF.length:Int),z,(fm,Cf zF,Ko zF,u),mB P ((dY zG).flatMap AS++R),()) =
   some (x,z,(fm,Cf all,Ko all,u),mB (P++(dY zG).flatMap AS) R,())
 | [],zF,P,st,d,_,_=>by
  obtain rfl:zF=all:=by simp_all
  simp_all[Ag,Hc,dY]
 |y::zG,zF,P,st,d,i,f=>by
  obtain⟨⟨t,v,w,A,B,C,D,E,F,b,c⟩,hr2⟩:=i;have a:zF.length<all.length:=by grind
  have e:(dY (y::zG)).flatMap AS++R=AS y.2.2.length++(AS (Ba y.2.1)++((dY zG).flatMap AS++R)):=by simp[dY]
  rw[e]at f|-;have g:=CE f;have k:=CE g;have m:=Gg (n:=y.2.2.length) (most:=1048704) (by omega) (by omega) f;have o:=Gg (n:=Ba y.2.1) (most:=4096) (by omega) (by omega) g;have p:zD .i64 ((y.2.2.length:Nat):Int)=((y.2.2.length:Nat):Int):=Ae (by omega);have q:zD .i64 ((Ba y.2.1:Nat):Int)=((Ba y.2.1:Nat):Int):=Ae (by omega);have r:zD .u64 ((zF.length:Int)+1)=(((zF++[y]).length:Nat):Int):=by grind[Aw]
  have j:(Cf zF).length=zF.length:=by simp[Cf]
  have l:(Ko zF).length=zF.length:=by simp[Ko]
  rw[Ai (s':=(x,(all.length:Int),(((zF++[y]).length:Nat):Int),z,(fm,Cf (zF++[y]),Ko (zF++[y]),u),mB ((P++AS y.2.2.length)++AS (Ba y.2.1)) ((dY zG).flatMap AS++R),())) (by
   simp only[Hc,Cq a,cT,m,o,oB,j,l,AW (show zF.length+1<2147483648 by omega),p,q,r];simp[Cf,Ko])]
  rw[eH h x fm z u zG (zF++[y]) _ _ (by simp_all) hr2 k];simp[dY]
theorem a5w{all:List Pc}(h:all.length<=256)(fm:AL)(z:eG)(v:LI)(u:Int×(Int×Unit)):∀(zG zF:List Pc)(st:Nat),zF++zG=all->Ie fm st zG->Ax zF<=64*zF.length->
  Al He ((all.length:Int),(zF.length:Int),z,(fm,v,Ko all,((Ax zF:Nat):Int),u),())=some (.inl (z,(fm,v,Ko all,((Ax all:Nat):Int),u),()))
 | [],zF,st,e,_,_=>by
  obtain rfl:zF=all:=by simp_all
  simp_all[Ag,He]
 |y::zG,zF,st,e,j,A=>by
  obtain⟨⟨m,n,o,p,q,r,d,t,x,b,c⟩,hr2⟩:=j;have f:zF.length<all.length:=by grind
  have g:zF.length<(Ko all).length:=by simp_all[Ko]
  have i:(Ko all).getD zF.length 0=((Ba y.2.1:Nat):Int):=by
   grind[Ko]
  have k:=d.2.2.2.2.1;have l:(((Ba y.2.1:Nat):Int)==0)=false:=by grind
  have a:A3 ((0:Int)<=(zF.length:Int))=true:=decide_eq_true (B7 _);have w:zD .i64 (((Ax zF:Nat):Int)+((Ba y.2.1:Nat):Int))=((Ax (zF++[y]):Nat):Int):=by grind[GR,Ae]
  rw[Ai (s':=((all.length:Int),(((zF++[y]).length:Nat):Int),z,(fm,v,Ko all,((Ax (zF++[y]):Nat):Int),u),())) (by
   simp only[He,Cq f,Cq g,a,B3,cT,tN,i,l,cF,w,Aa (show zF.length<1000000 by omega)]
   simp)]
  exact a5w h fm z v u zG (zF++[y]) _ (by simp_all) hr2 (by grind[GR])
theorem a5x{fm:AL}(j:NU fm){xs:List Pc}(e:Ie fm 0 xs)(h:xs.length<=256){A C R:LI}(z:A.length=8)(G:∀b∈A,0<=b/\b<256)(Q:C.length=4)(I:∀b∈C,0<=b/\b<256)(hR:R.length<=190000000)
  {H:LI}(q:H=a7Y++((Ly fm xs).flatMap AS++A)):
  Fe (H++(C++R))=some (if CF H=pX 0 C then(RZ fm xs (pX 0 A) (H.length+4),0)else(mY,5)):=by
 obtain⟨f1,f2,f3,f4,f5,f6⟩:=id j;have Y:=VD (Ly fm xs) fun n w=>C5 (Lz j e h n w) (by simp);have hl:(Ly fm xs).length<=516:=by grind[Ly,YQ]
 have K:∀b∈H,0<=b/\b<256:=fun b hb=>by
  rw[q]at hb;rcases mA.1 hb with hb|hb;simp[a7Y]at hb;omega;rcases mA.1 hb with hb|hb;exact eF _ (fun n w=>C5 (Lz j e h n w) (by simp)) b hb;simp_all
 have a:H.length=4+((Ly fm xs).flatMap AS).length+8:=by grind[a7Y]
 have U:=YR (l:=H) (by unfold short;omega) K;have y:(Ly fm xs).flatMap AS=AS fm.1.toNat++(AS fm.2.1.toNat++(AS fm.2.2.1.toNat++(AS xs.length++(dY xs).flatMap AS))):=by rfl
 obtain⟨V,S⟩:∃V,(Ly fm xs).flatMap AS=V:=⟨_,rfl⟩;rw[S]at Y a y q;have ex:H++(C++R)=75::78::83::68::(V++(A++(C++R))):=by rw[q];simp[a7Y]
 have g:(V++(A++(C++R))).length<1000000000:=by grind
 have B:([]++(AS fm.1.toNat++(AS fm.2.1.toNat++(AS fm.2.2.1.toNat++(AS xs.length++((dY xs).flatMap AS++(A++(C++R)))))))).length<1000000000:=by simp_all
 have D:=CE B;have E:=CE D;have F:=CE E;have Z:=CE F;have n1:=Gg (n:=fm.1.toNat) (most:=1048576) (by omega) (by omega) B;have n2:=Gg (n:=fm.2.1.toNat) (most:=8) (by omega) (by omega) D;have n3:=Gg (n:=fm.2.2.1.toNat) (most:=24) (by omega) (by omega) E;have n4:=Gg (n:=xs.length) (most:=4096) (by omega) (by omega) F;have w1:zD .i64 ((fm.1.toNat:Nat):Int)=fm.1:=by grind[Ae]
 have w2:zD .i64 ((fm.2.1.toNat:Nat):Int)=fm.2.1:=by grind[Ae]
 have w3:zD .i64 ((fm.2.2.1.toNat:Nat):Int)=fm.2.2.1:=by grind[Ae]
 have f:=eH h (H++(C++R)) fm mY (0,0,0,()) xs [] _ 0 rfl e Z;have O:([]++AS fm.1.toNat++AS fm.2.1.toNat++AS fm.2.2.1.toNat++AS xs.length)++(dY xs).flatMap AS=V:=by simp_all
 rw[O]at f;have n8:=a9a (P:=V) z (by omega) G g;have n9:=a9a (P:=V++A) Q (by omega) I (CE g);have k:zD .i64 (((V++(A++(C++R))).length:Int)-(V.length:Int))=((A++(C++R)).length:Int):=by
  simp only[lN]at g|-;rw[Ae (by omega)];omega
 have m:A3 (((A++(C++R)).length:Int)<12)=false:=by grind
 have r:zD .i64 ((4:Int)+(((V++A).length:Nat):Int))=((H.length:Nat):Int):=by
  rw[a];simp only[lN,z];rw[Ae (by omega)];rfl
 have o:A3 ((0:Int)<=((H.length:Nat):Int))=true:=decide_eq_true (B7 _);have p:A3 (((H.length:Nat):Int)<=(((H++(C++R)).length:Nat):Int))=true:=by grind
 have c:zD .i64 (((H.length:Nat):Int)+4)=((H.length+4:Nat):Int):=by grind[Ae]
 have X:zD .u64 ((CF H:Nat):Int)=((CF H:Nat):Int):=Aw (by grind[YP]);have L:A3 (((A8 (H++(C++R)):Nat):Int)<(4:Int))=false:=by grind
 have M:A3 ((4:Int)<=((A8 (H++(C++R)):Nat):Int))=true:=by simp_all
 have t:((b4V (E2 4 (H++(C++R)))) != ([75,78,83,68]:List Int))=false:=by rw[ex];rfl
 have u:E4 4 (E2 (A8 (H++(C++R))) (H++(C++R)))=V++(A++(C++R)):=by rw[E7,ex];rfl
 have d:IH (V++(A++(C++R)))=some (mB [] (AS fm.1.toNat++(AS fm.2.1.toNat++(AS fm.2.2.1.toNat++(AS xs.length++((dY xs).flatMap AS++(A++(C++R)))))))):=by
  unfold IH;rw[AW (by omega),cT,y];simp[mB]
 have i:=a5w h fm mY (Cf xs) (((pX 0 A:Nat):Int),((H.length+4:Nat):Int),()) xs [] 0 rfl e (by simp[Ax]);have v:(Ko xs).length=xs.length:=by simp[Ko]
 have T:=(RY e).2;have N:A3 (((Ax xs:Nat):Int) > (4194304:Int))=false:=by grind
 unfold Fe;simp only[L,cF,M,cT,t,u,d,oB,n1,n2,n3,n4,w1,w2,w3];erw[f];simp only[oB,EJ,Ck,Fs,mB,show((0:Int) != 0)=false from rfl,cF,k,m];erw[n8];simp only[oB,mB,r,o,p,B3,cT,tN,P6,U,X];erw[n9];simp only[oB];by_cases hq:CF H=pX 0 C;have x:(((CF H:Nat):Int) != ((pX 0 C:Nat):Int))=false:=by simp_all
 simp only[x,cF,if_pos hq,GO,j,decide_true,bT,oB,c,v];erw[i];simp only[N,oB,cF];rfl;have x:(((CF H:Nat):Int) != ((pX 0 C:Nat):Int))=true:=by grind
 simp only[x,cT,if_neg hq];rfl
theorem YS{B P p R:LI}(r:B=P++(p++R))(v:B.length<1000000000){pl:eG}{i:Int}(l:Az pl.2.1 i=some ((p.length:Nat):Int))(st:Int){f:BL}{n e:Int}(j:Cs p=some (f,n,e))(t:e≠0):
  ∃u:BL×BI,Ds (B,pl,i,((P.length:Nat):Int),st)=some (u.1,u.2,e):=by
 have d:B.length=P.length+(p.length+R.length):=by simp_all
 have o:zD .i64 (((A8 B:Nat):Int)-((P.length:Nat):Int))=((p.length+R.length:Nat):Int):=by grind[Ae]
 have h:A3 (((p.length+R.length:Nat):Int)<((p.length:Nat):Int))=false:=decide_eq_false (by omega);have q:zD .i64 (((P.length:Nat):Int)+((p.length:Nat):Int))=((P.length+p.length:Nat):Int):=by grind[Ae]
 have g:A3 ((0:Int)<=((P.length+p.length:Nat):Int))=true:=decide_eq_true (B7 _);have k:A3 (((P.length+p.length:Nat):Int)<=((A8 B:Nat):Int))=true:=by simp_all
 have a:A3 ((0:Int)<=((P.length:Nat):Int))=true:=decide_eq_true (B7 _);have b:A3 (((P.length:Nat):Int)<=((P.length+p.length:Nat):Int))=true:=decide_eq_true (by omega);have c:E4 P.length (E2 (P.length+p.length) B)=p:=by
  grind
 have m:(e != 0)=true:=by simp_all
 unfold Ds;simp only[l,oB,o,h,cF,q,g,k,a,b,B3,cT,tN,c,j,m]
 simp
theorem eI{B P R:LI}{fm:AL}{st:Nat}{x:Pc}(p:b1d fm st x)(E:B=P++(x.2.2++R))(G:B.length<1000000000){pl:eG}(hp:pl.1=fm){i:Int}(n:Az pl.2.1 i=some ((x.2.2.length:Nat):Int))(o:Az pl.2.2.1 i=some ((Ba x.2.1:Nat):Int)):
  Ds (B,pl,i,((P.length:Nat):Int),(st:Int))=some (x.1,x.2.1,0):=by
 obtain⟨u,v,w,y,z,l,A,C,D,e,j⟩:=p;have m:B.length=P.length+(x.2.2.length+R.length):=by simp_all
 have r:zD .i64 (((A8 B:Nat):Int)-((P.length:Nat):Int))=((x.2.2.length+R.length:Nat):Int):=by grind[Ae]
 have g:A3 (((x.2.2.length+R.length:Nat):Int)<((x.2.2.length:Nat):Int))=false:=decide_eq_false (by omega);have t:zD .i64 (((P.length:Nat):Int)+((x.2.2.length:Nat):Int))=((P.length+x.2.2.length:Nat):Int):=by grind[Ae]
 have f:A3 ((0:Int)<=((P.length+x.2.2.length:Nat):Int))=true:=decide_eq_true (B7 _);have k:A3 (((P.length+x.2.2.length:Nat):Int)<=((A8 B:Nat):Int))=true:=by simp_all
 have a:A3 ((0:Int)<=((P.length:Nat):Int))=true:=decide_eq_true (B7 _);have b:A3 (((P.length:Nat):Int)<=((P.length+x.2.2.length:Nat):Int))=true:=decide_eq_true (by omega);have d:E4 P.length (E2 (P.length+x.2.2.length) B)=x.2.2:=by
  grind
 have h:=l [] (by simp);rw[F2]at h;have q:((0:Int) != 0)=false:=rfl;have c:A3 (((x.2.2.length:Nat):Int)<((x.2.2.length:Nat):Int))=false:=by simp
 have F:nE (.pair (.int .i64) (.pair (.int .i64) (.pair (.int .i64) .unit))) x.1.2.2.1 pl.1=true:=by simp_all[a5f]
 have H:(x.1.1 != (st:Int))=false:=by simp_all
 have I:(((Ba x.2.1:Nat):Int) != ((Ba x.2.1:Nat):Int))=false:=by simp
 unfold Ds;simp only[n,oB,r,g,cF,t,f,k,a,b,B3,cT,tN,d,h,q,c];simp_all
def mZ:a7X:=((0,0,0,()),0,0,[],[],())
theorem YT{zF zG:List Pc}(x:Pc):Az (Cf (zF++x::zG)) (zF.length:Int)=some ((x.2.2.length:Nat):Int):=by
 grind[QJ,Cf]
theorem a2r{zF zG:List Pc}(x:Pc):Az (Ko (zF++x::zG)) (zF.length:Int)=some ((Ba x.2.1:Nat):Int):=by
 grind[QJ,Ko]
theorem bN{fm:AL}{all tail:List Pc}(h:all.length<=256){B Hd Z:LI}(l:B.length<1000000000){pl:eG}(hp:pl.1=fm)(b:pl.2.1=Cf all)(c:pl.2.2.1=Ko all)(g:pl.2.2.2.2.2.1=((Hd.length:Nat):Int))(z:a7X):
  ∀(zG zF:List Pc),zF++(zG++tail)=all->B=Hd++(Au zF++(Au zG++Z))->Ie fm (Ax zF) zG->Ax zF<=64*zF.length->
  Al Dg (B,((Hd.length+(Au zF).length:Nat):Int),Cf all,(all.length:Int),(zF.length:Int),z,pl,TE fm zF,()) =
   Al Dg (B,((Hd.length+(Au (zF++zG)).length:Nat):Int),Cf all,(all.length:Int),((zF++zG).length:Int),z,pl,TE fm (zF++zG),())
 | [],zF,_,_,_,_=>by simp
 |x::zG,zF,k,u,y,N=>by
  obtain⟨n,A⟩:=y;have a:zF.length<all.length:=by grind
  have f:B=(Hd++Au zF)++(x.2.2++(Au zG++Z)):=by rw[u];simp[Au]
  have v:Hd.length+(Au zF).length+x.2.2.length<=B.length:=by grind
  have m:=YT (zF:=zF) (zG:=zG++tail) x;have d:=a2r (zF:=zF) (zG:=zG++tail) x;rw[F9]at k;rw[k]at m d;have j:=eI n f l hp (i:=(zF.length:Int)) (by simp_all) (by simp_all);rw[lN]at j;obtain⟨G,q,H,I,K,L,r,t,M,o,p⟩:=n;have e:=bL r (w:=fm.2.2.1) t (Fb zF);have C:(GQ 0 0 zF).length+1<2147483648:=by rw[KY];omega
  have D:zD .i64 (((Hd.length+(Au zF).length:Nat):Int)+((x.2.2.length:Nat):Int))=((Hd.length+(Au (zF++[x])).length:Nat):Int):=by
   rw[GY,lN,Ae (by omega)];omega
  have E:zD .i64 (((Ax zF:Nat):Int)+((Ba x.2.1:Nat):Int))=((Ax (zF++[x]):Nat):Int):=by rw[GR,Ae (by omega)];rfl
  have F:zD .i64 (((Hd.length+(Au zF).length:Nat):Int)-((Hd.length:Nat):Int))=(((Au zF).length:Nat):Int):=by grind[Ae]
  rw[Ai (s':=(B,((Hd.length+(Au (zF++[x])).length:Nat):Int),Cf all,(all.length:Int),(((zF++[x]).length:Nat):Int),z,pl,TE fm (zF++[x]),())) (by
   simp only[Dg,Cq a,cT,m,oB,TE];erw[j];simp only[oB,show((0:Int) != 0)=false from rfl,cF];erw[e];simp only[oB,AW C,C8,AW (show zF.length+1<2147483648 by omega),cT,D,q,E,g,F,Aa (show zF.length<1000000 by omega)];simp[Et,Th,Ve])]
  rw[P1 zF x zG];exact bN (Z:=Z) h l hp b c g z zG (zF++[x]) (by simpa using k) (by simp_all[GY]) (by simp_all[GR]) (by grind[GR])
theorem QK{fm:AL}(k:NU fm){xs:List Pc}(b:Ie fm 0 xs)(g:xs.length<=256){R:LI}(f:R.length<=190000000):
  Fe (AP fm xs++(GS 4 (CF (AP fm xs))++R))=some (RZ fm xs (Et fm xs) ((AP fm xs).length+4),0):=by
 have a:=a2q (Jc fm.2.2.1 (Fb xs));have h:=a5x k b g (A:=GS 8 (Et fm xs)) (C:=GS 4 (CF (AP fm xs))) (R:=R) (ET ..) (Xn 8 _) (ET ..) (Xn 4 _) f (H:=AP fm xs) rfl;rw[mT 4 _ (by simp_all[YP]),mT 8 _ (by grind[KL,Et]),if_pos rfl]at h;omega
theorem a8a{fm:AL}(c:NU fm){xs:List Pc}(k:Ie fm 0 xs)(h:xs.length<=256):Ek (DI fm xs)=some (TE fm xs,0):=by
 have e:=KZ k;have l:=Ph c k h;have i:=QK c k h (R:=Au xs) (by omega);have d:(DI fm xs).length=(AP fm xs).length+4+(Au xs).length:=by grind[DI,ET]
 have f:(AP fm xs++GS 4 (CF (AP fm xs))).length=(AP fm xs).length+4:=by simp[ET]
 have g:=bN (fm:=fm) h (B:=DI fm xs) (Hd:=AP fm xs++GS 4 (CF (AP fm xs))) (Z:=[]) (by omega) (pl:=RZ fm xs (Et fm xs) ((AP fm xs).length+4)) rfl rfl rfl (by rw[f];rfl) mZ (tail:=[]) xs [] (by simp) (by simp[DI,Au]) k (by simp[Ax]);rw[f,A9]at g;have a:Al Dg (DI fm xs,(((AP fm xs).length+4+(Au xs).length:Nat):Int),Cf xs,(xs.length:Int),(xs.length:Int),mZ,RZ fm xs (Et fm xs) ((AP fm xs).length+4),TE fm xs,())=some (D9 (DI fm xs,(((AP fm xs).length+4+(Au xs).length:Nat):Int),mZ,RZ fm xs (Et fm xs) ((AP fm xs).length+4),TE fm xs,())):=
  Ag (by simp_all[Dg])
 rw[a]at g;have b:(Cf xs).length=xs.length:=by simp[Cf]
 have j:A3 ((((AP fm xs).length+4+(Au xs).length:Nat):Int)<(((DI fm xs).length:Nat):Int))=false:=by simp_all
 unfold Ek;rw[show DI fm xs=AP fm xs++(GS 4 (CF (AP fm xs))++Au xs)from rfl,i];simp only[oB,show((0:Int) != 0)=false from rfl,cF,RZ,b];erw[g];simp_all[RZ,TE]
def a8b(fm:AL)(l:List Int)(ch sz total:Nat)(effort:Int):Nat->List Pc->Prop
 |st,[]=>total<=st
 |st,x::xs=>st<total/\x.2.1=PN fm.2.2.1 (Cp l ch st (min (st+sz) total)) ch/\Ep (x.2.1,fm,(st:Int),effort)=some (x.1,0)/\b1d fm st x/\a8b fm l ch sz total effort (st+sz) xs
def a5y(fm:AL)(total:Nat)(xs:List Pc):a7X:=(fm,(total:Int),((Et fm xs:Nat):Int),GQ 0 0 xs,xs.map (·.1),())
theorem b4y{fm:AL}(F:NU fm){ch:Nat}(b:fm.2.1=(ch:Int)){l:LI}{h sz:Nat}(hl:l.length=h*ch)(ht:h<=200)(hs:1<=sz/\sz<=64)(c:l.all (fun x=>Cu x fm.2.2.1)=true){effort:Int}(Z:0<=effort)(h3:effort<=3):
  ∀(k st:Nat)(zF:List Pc),h<=st+k->Ax zF=min st h->Fb zF=l.take (min st h*ch)->Ie fm 0 zF->zF.length<=st->st<=300->
  ∃zG,a8b fm l ch sz h effort st zG/\Ie fm 0 (zF++zG)/\Ax (zF++zG)=h/\Fb (zF++zG)=l/\
   Al It (l,(sz:Int),effort,(h:Int),(((Au zF).length:Nat):Int),(st:Int),a5y fm h zF,fm,())=some (.inl (a5y fm h (zF++zG),())):=by
 obtain⟨U,V,f3,f4,X,Y⟩:=id F;have i:1<=ch/\ch<=8:=by omega
 intro k
 induction k with
 |zero=>
  intro st zF G m q A t C;have hm:min st h=h:=by omega
  have R:A3 ((st:Int)<(h:Int))=false:=by simp_all
  rw[hm]at m q;refine⟨[],by simpa[a8b]using G,by simp_all,by simp_all,by grind,?_⟩;rw[F2];exact Ag (by simp only[It,R,cF])
 |succ k ih=>
  intro st zF G m q A t C;by_cases hlt:st<h;have v:min st h=st:=by omega
  rw[v]at m q;obtain⟨en,h1⟩:∃en,min (st+sz) h=en:=⟨_,rfl⟩;have E:st<en/\en<=h/\en<=st+sz:=by omega
  have u:en*ch<=l.length:=by simp_all[B6]
  have h7:st*ch<=en*ch:=B6 _ (by omega);have h2:l.length<=200*8:=by rw[hl];exact D1 ht i.2
  have f:=a0l (st:=st) u;have a:=b1e (ch:=ch) (st:=st) (en:=en) c;have d:=b6B (w:=fm.2.2.1) f i (by omega) ⟨X,Y⟩ a;have h4:=YN (w:=fm.2.2.1) f i.1;have h5:=a8X (w:=fm.2.2.1) f i.1;have z:=b6K F b (l:=Cp l ch st en) (n:=en-st) (by omega) f a;obtain⟨g,p,m1,j⟩:=b6A (fm:=fm) d (by omega) ⟨U,V⟩ (by simp_all[PN,Fa]) rfl (st:=st) (by omega) Z h3;have e:=j.2.2.2.2.1;have D:=bL d (w:=fm.2.2.1) rfl (Fb zF);obtain⟨x,hx⟩:∃x:Pc,x=(((st:Int),g),PN fm.2.2.1 (Cp l ch st en) ch,p):=⟨_,rfl⟩;have x1:x.1=((st:Int),g):=by grind
  have x2:x.2.1=PN fm.2.2.1 (Cp l ch st en) ch:=by grind
  have M:x.2.2=p:=by grind
  rw[<-hx]at j;have y:=j.2.2.2.2.2.2.2.2.2.2;rw[M]at y;have h6:=KZ A;have o:Ax (zF++[x])=min (st+sz) h:=by grind[GR]
  have r:Fb (zF++[x])=l.take (min (st+sz) h*ch):=by grind[Th,a0m]
  have B:Ie fm 0 (zF++[x]):=a0k A (by simp_all);obtain⟨zG,k1,H,I,K,L⟩:=ih (st+sz) (zF++[x]) (by omega) o r B (by grind) (by omega);have S:zF++[x]++zG=zF++x::zG:=by simp
  rw[S]at H I K L;refine⟨x::zG,⟨hlt,by simp_all,by simp_all,j,k1⟩,H,I,K,?_⟩;rw[<-L];have q1:zD .i64 ((GZ (zD .i64 ((st:Int)+(sz:Int))) (h:Int))*(ch:Int))=((en*ch:Nat):Int):=by
   rw[Ae (n:=(st:Int)+(sz:Int)) (by omega),Qv,show min ((st:Int)+(sz:Int)) (h:Int)=(en:Int)from by omega,<-J2,Ae (by omega)]
  have q2:zD .i64 ((st:Int)*(ch:Int))=((st*ch:Nat):Int):=by grind[Ae]
  have N:A3 ((0:Int)<=((en*ch:Nat):Int))=true:=decide_eq_true (B7 _);have O:A3 (((en*ch:Nat):Int)<=((l.length:Nat):Int))=true:=decide_eq_true (by omega);have P:A3 ((0:Int)<=((st*ch:Nat):Int))=true:=decide_eq_true (B7 _);have Q:A3 (((st*ch:Nat):Int)<=((en*ch:Nat):Int))=true:=decide_eq_true (by omega);have T:E4 (st*ch) (E2 (en*ch) l)=Cp l ch st en:=rfl;have n0:((0:Int) != 0)=false:=rfl;have w1:zD .i64 ((((Au zF).length:Nat):Int)+((p.length:Nat):Int))=(((Au (zF++[x])).length:Nat):Int):=by
   rw[GY,lN,M,Ae (by omega)];rfl
  have w2:zD .i64 ((st:Int)+(sz:Int))=((st+sz:Nat):Int):=by grind[Ae]
  refine Ai ?_
  simp only[It,Cq hlt,cT,b,q1,q2,N,O,P,Q,B3,tN,T,z,oB,n0,cF,m1,e,a5y];erw[D];simp only[oB,KY,C8,AW (show zF.length+1<2147483648 by omega),cT,w1,w2];simp_all[Et,Th,Ve];grind
theorem eJ{l:LI}(b:l.length<=10000){fm:AL}(f:4<=fm.2.2.1/\fm.2.2.1<=24)(sz effort h:Int):∀(zG zF:LI),zF++zG=l->zG.all (fun x=>Cu x fm.2.2.1)=true->
  Al Ir (l,sz,effort,h,l,(l.length:Int),(zF.length:Int),fm,())=some (.inl (l,sz,effort,h,fm,()))
 | [],zF,k,_=>by
  obtain rfl:zF=l:=by simp_all
  simp_all[Ag,Ir]
 |x::zG,zF,k,hfit=>by
  have g:zF.length<l.length:=by grind
  have a:Az l (zF.length:Int)=some x:=by grind[Ac]
  simp only[C7,EV]at hfit;rw[Ai (s':=(l,sz,effort,h,l,(l.length:Int),(((zF++[x]).length:Nat):Int),fm,())) (by
   simp only[Ir,Cq g,cT,a,oB,UZ f,hfit.1,bT,cF,Aa (show zF.length<1000000 by omega)]
   simp)]
  exact eJ b f sz effort h zG (zF++[x]) (by simp_all) hfit.2
theorem b1h{fm:AL}(k:NU fm){ch:Nat}(f:fm.2.1=(ch:Int)){l:LI}{h sz:Nat}(b:l.length=h*ch)(e:h<=200)(D:1<=sz/\sz<=64)(g:l.all (fun x=>Cu x fm.2.2.1)=true){effort:Int}(A:0<=effort)(B:effort<=3):
  ∃xs,a8b fm l ch sz h effort 0 xs/\Ie fm 0 xs/\Ax xs=h/\Fb xs=l/\xs.length<=256/\GG (fm,l,(sz:Int),effort)=some (DI fm xs,0):=by
 obtain⟨xs,E,c,j,m,o⟩:=b4y k f b e D g A B 200 0 [] (by omega) (by rfl) (by simp[Fb]) trivial (by simp) (by omega);rw[A9]at c j m o;have i:xs.length<=256:=by grind[RY]
 obtain⟨I,K,L,M,y,z⟩:=id k;have d:1<=ch/\ch<=8:=by omega
 have C:l.length<=200*8:=by rw[b];exact D1 e d.2
 have a:=eJ (l:=l) (fm:=fm) (by omega) ⟨y,z⟩ (sz:Int) effort (h:Int) l [] rfl g;have q:A3 ((sz:Int)<1)=false:=by grind
 have r:A3 ((sz:Int) > 4096)=false:=by grind
 have t:A3 (effort<0)=false:=by simp_all
 have u:A3 (effort > 3)=false:=by simp_all
 have p:((ch:Int)==0)=false:=by grind
 have F:D3 ((l.length:Nat):Int) (ch:Int)=0:=by
  simp_all
 have G:zD .i64 (C6 ((l.length:Nat):Int) (ch:Int))=(h:Int):=by
  rw[show C6 ((l.length:Nat):Int) (ch:Int)=((l.length / ch:Nat):Int)from rfl,b,K1 _ d.1,Ae (by omega)]
 have v:A3 ((h:Int) > 4194304)=false:=by grind
 have H:((sz:Int)==0)=false:=by grind
 have w:A3 ((zD .i64 (C6 (zD .i64 ((zD .i64 ((h:Int)+(sz:Int)))-(1:Int))) (sz:Int))) > (4096:Int))=false:=by
  rw[Ae (n:=(h:Int)+(sz:Int)) (by omega),Ae (n:=(h:Int)+(sz:Int)-1) (by omega),show((h:Int)+(sz:Int)-1)=((h+sz-1:Nat):Int)from by omega,show C6 ((h+sz-1:Nat):Int) (sz:Int)=(((h+sz-1) / sz:Nat):Int)from rfl];have P:=P3 (h+sz-1) sz;grind[Ae]
 have N:a5y fm h xs=TE fm xs:=by simp_all[a5y,TE]
 have O:=b1g k c i;refine⟨xs,E,c,j,m,i,?_⟩;unfold GG;simp only[GO,k,decide_true,oB,bT,cF,q,r,t,u,f,p,F,show((0:Int) != 0)=false from rfl,G,v,H,w];erw[a]
 simp
 erw[o];simp_all
theorem a2s(f:AL):Qs f=some (A3 (NU f)):=by
 unfold Qs NU;grind
def Wo(s:BitVec 16):BitVec 16:=bif s.msb then(s <<< 1) ^^^ 32773#16 else s <<< 1
theorem a2t(s t:BitVec 16):Wo (s ^^^ t)=Wo s ^^^ Wo t:=by
 unfold Wo;rw[BitVec.msb_xor,BitVec.shiftLeft_xor_distrib];cases s.msb<;>cases t.msb<;>simp only[cT,cF,Bool.xor_true,Bool.xor_false,bT,G9];rw[C1];rw[C1,C1,L3 (t <<< 1)];rw[C1,L3 32773#16,C1,P4,P5]
theorem a5z{s:BitVec 16}(h:Wo s=0):s=0:=by
 unfold Wo at h;cases hm:s.msb with
 |true=>
  rw[hm,cT]at h
  have:=congrArg (fun x=>L9 x 0) h
  simp at this
 |false=>
  rw[hm,cF]at h;refine E9 fun i g=>?_
  by_cases h15:i=15;subst h15;rw[K8]at hm;simpa using hm
  have:=congrArg (fun x=>L9 x (i+1)) h
  simp at this;simpa using this (by omega)
theorem c2w:Wo 0=0:=by decide
theorem YU{s:BitVec 16}:∀{n:Nat},gJ Wo n s=0->s=0
 |0,h=>h
 |n+1,h=>a5z (YU (n:=n) h)
theorem b4z:∀n:Nat,gJ Wo n 0=0
 |0=>rfl
 |n+1=>by
  show gJ Wo n (Wo 0)=0;rw[c2w,b4z n]
def b4U(b:Bool):BitVec 16:=bif b then 32768#16 else 0#16
def pY(s:BitVec 16)(b:Bool):BitVec 16:=Wo (s ^^^ b4U b)
def a5A:List Bool->BitVec 16
 | []=>0#16
 |b::w=>b4U b ^^^ (a5A w >>> 1)
theorem b6M(b:Bool)(j:Nat):(b4U b).getLsbD j=(b&&A3 (j=15)):=by
 cases b with
 |false=>simp[b4U]
 |true=>
  simp only[b4U,cT,E5];rw[show(32768#16)=P8 16 (2^15)from rfl,J0,Nat.testBit_two_pow];by_cases h:j=15;subst h;rfl;rw[decide_eq_false (by omega:¬ (15=j)),decide_eq_false h,Bool.and_false]
theorem QM:∀(w:List Bool)(j:Nat),(a5A w).getLsbD j=(A3 (j<16)&&w.getD (15-j) false)
 | [],j=>by simp[a5A]
 |b::w,j=>by
  rw[a5A,BitVec.getLsbD_xor,b6M,G4,QM w];by_cases h:j=15;subst h;simp;by_cases h2:j<16;rw[show 15-j=(15-(1+j))+1 from by omega,N2];simp[h,h2,show 1+j<16 from by omega];simp[h,h2,show ¬ (1+j<16)from by omega]
theorem b4A{w:List Bool}(h:w.length<=15):Wo (a5A w >>> 1)=a5A w:=by
 have k:(a5A w >>> 1).msb=false:=by
  rw[K8,G4,QM];simp
 unfold Wo;rw[k,cF];refine E9 fun i f=>?_
 rw[BitVec.getLsbD_shiftLeft,G4];cases i with
 |zero=>
  have g:(a5A w).getLsbD 0=false:=by
   rw[QM,lD,List.getElem?_eq_none (by omega)];rfl
  rw[g];simp
 |succ i=>rw[show 1+(i+1-1)=i+1 from by omega];simp[f]
theorem b1i:∀(w:List Bool)(s:BitVec 16),w.length<=16->w.foldl pY s=gJ Wo w.length (s ^^^ a5A w)
 | [],s,_=>by simp[a5A,gJ]
 |b::w,s,h=>by
  rw[lC]at h;rw[J3,b1i w _ (by omega),a5A,<-C1];show _=gJ Wo w.length (Wo (s ^^^ b4U b ^^^ (a5A w >>> 1)));rw[a2t,b4A (by omega)];rfl
theorem a5B{α:Type}(f g:α->Bool):∀(L:List α)(s t:BitVec 16),(L.map fun j=>xor (f j) (g j)).foldl pY (s ^^^ t)=(L.map f).foldl pY s ^^^ (L.map g).foldl pY t
 | [],_,_=>rfl
 |a::L,s,t=>by
  simp only[D8,J3];rw[<-a5B f g L];congr 1;unfold pY;rw[<-a2t];congr 1
  have:b4U (xor (f a) (g a))=b4U (f a) ^^^ b4U (g a):=by cases f a<;>cases g a<;>rfl
  rw[this];simp only[C1];rw[<-C1 t,L3 t,C1]
theorem Xr:∀(n:Nat)(s:BitVec 16),(A6 n false).foldl pY s=gJ Wo n s
 |0,_=>rfl
 |n+1,s=>by
  rw[List.replicate_succ,J3,Xr n];show gJ Wo n (Wo (s ^^^ 0#16))=gJ Wo n (Wo s);rw[P5]
theorem c2x{w:List Bool}(h:w.length<=16)(a:true∈w)(k m:Nat):(A6 k false++(w++A6 m false)).foldl pY 0≠0:=by
 rw[C9,C9,Xr,Xr,b4z,b1i w _ h];intro e;have e:=YU (YU e);have e:a5A w=0:=by simpa using e
 obtain⟨i,f,g⟩:=M9.1 a
 have:=QM w (15-i)
 rw[e,show 15-(15-i)=i from by omega,lD,lG f,g]at this;simp at this;omega
def gL(c:Int):List Bool:=[7,6,5,4,3,2,1,0].map fun i=>c.toNat.testBit i
def cr(s:Int):BitVec 16:=A4 16 s
theorem bO(n:Nat):cr (n:Int)=P8 16 n:=by simp[cr]
theorem a2u(n:Int):cr (zD .u16 n)=cr n:=by
 rw[OV];unfold cr;apply I8;rw[B8,B8];congr 1;omega
theorem b9c{s t:Int}(g:0<=s/\s<65536)(f:0<=t/\t<65536)(h:cr s=cr t):s=t:=by
 have:=congrArg P9 h
 unfold cr at this;rw[B8,B8]at this;omega
theorem b4B(a b:Int):cr (bits .u16 .xor a b)=cr a ^^^ cr b:=by
 have e:bits .u16 .xor a b=zD .u16 (((cr a ^^^ cr b).toNat:Nat):Int):=rfl;rw[e,a2u,bO,BitVec.ofNat_toNat,BitVec.setWidth_eq]
theorem b9d{s:Int}(h:0<=s/\s<65536):cr (b0X s)=Wo (cr s):=by
 obtain⟨n,rfl⟩:=A7 h.1;have f:AT .u16 (n:Int) 1=zD .u16 ((n*2:Nat):Int):=rfl;have g:cr (AT .u16 (n:Int) 1)=cr (n:Int) <<< 1:=by
  rw[f,a2u,bO,bO];apply I8;rw[BitVec.toNat_shiftLeft,K3,K3,Nat.shiftLeft_eq];omega
 have hb:(AR .u16 (n:Int) 15==(1:Int))=(cr (n:Int)).msb:=by
  have e:AR .u16 (n:Int) 15=((n / 32768:Nat):Int):=by
   show Int.fdiv (n:Int) ((32768:Nat):Int)=_;rw[G3 _ (by omega)];rfl
  rw[e,bO,BitVec.msb_eq_decide,K3];by_cases hn:32768<=n;rw[decide_eq_true (by omega:2^(16-1)<=n%2^16)]
  simp;omega
  rw[decide_eq_false (by omega:¬ 2^(16-1)<=n%2^16)]
  simp;omega
 unfold b0X Wo;rw[hb];cases (cr (n:Int)).msb;exact g;simp only[cT];rw[b4B,g];rfl
theorem b4C:∀(k:Nat){s:Int},0<=s/\s<65536->cr (gJ b0X k s)=gJ Wo k (cr s)
 |0,_,_=>rfl
 |k+1,s,h=>by
  show cr (gJ b0X k (b0X s))=gJ Wo k (Wo (cr s));rw[b4C k (a0a s),b9d h]
theorem YV(c:Int)(i:Nat):(gL c).getD i false=(A3 (i<8)&&c.toNat.testBit (7-i)):=by
 unfold gL
 match i with
 |0|1|2|3|4|5|6|7=>simp
 |i+8=>simp;omega
theorem b4D{c:Int}(h:0<=c/\c<256):a5A (gL c)=cr (AT .u16 (zD .u16 c) 8):=by
 obtain⟨n,rfl⟩:=A7 h.1;have f:AT .u16 (zD .u16 (n:Int)) 8=zD .u16 ((n*2^8:Nat):Int):=by
  rw[show zD .u16 (n:Int)=(n:Int)from by rw[OV];omega];rfl
 rw[f,a2u,bO];refine E9 fun j g=>?_
 rw[QM,YV,J0,Nat.testBit_mul_two_pow,tN];by_cases h8:8<=j;rw[show 7-(15-j)=j-8 from by omega];simp[g,h8,show 15-j<8 from by omega];simp[g,h8,show ¬ 15-j<8 from by omega]
theorem a2v(a b:Int):0<=bits .u16 .xor a b/\bits .u16 .xor a b<65536:=by
 simp only[bits,OV];omega
theorem b9e{s c:Int}(h:0<=c/\c<256):cr (b9u s c)=(gL c).foldl pY (cr s):=by
 rw[b1i _ _ (by simp[gL]),b4D h];unfold b9u;rw[b4C 8 (a2v _ _),b4B];rfl
def NV(p:List Int):List Bool:=p.flatMap gL
theorem b4E:∀(p:LI){s:Int},(∀c∈p,0<=c/\c<256)->cr (p.foldl b9u s)=(NV p).foldl pY (cr s)
 | [],_,_=>rfl
 |c::p,s,h=>by
  rw[J3,b4E p (fun d g=>h d (by simp[g])),b9e (h c (by simp))];simp[NV,C9]
theorem b4F{p:LI}(h:∀c∈p,0<=c/\c<256):cr (FJ p)=(NV p).foldl pY 0:=by
 unfold FJ;rw[b4E p h];rfl
theorem b6N{a b:Int}(g:0<=a/\a<256)(hb:0<=b/\b<256):a5A (gL a++gL b)=cr (a*256+b):=by
 obtain⟨n,rfl⟩:=A7 g.1;obtain⟨m,rfl⟩:=A7 hb.1;rw[show(n:Int)*256+(m:Int)=((2^8*n+m:Nat):Int)from by omega,bO];refine E9 fun j h=>?_
 rw[QM,J0,Nat.testBit_two_pow_mul_add _ (by omega),lD];by_cases h8:j<8;rw[K6 (by simp[gL];omega),<-lD,YV,if_pos h8,tN,show(gL (n:Int)).length=8 from rfl,show 7-(15-j-8)=j from by omega];simp[h,show 15-j-8<8 from by omega];rw[List.getElem?_append_left (by simp[gL];omega),<-lD,YV,if_neg h8,tN,show 7-(15-j)=j-8 from by omega];simp[h,show 15-j<8 from by omega]
theorem a5C{p:LI}(h:∀c∈p,0<=c/\c<256){a b:Int}(g:0<=a/\a<256)(hb:0<=b/\b<256):(NV (p++[a,b])).foldl pY 0=0↔FJ p=a*256+b:=by
 have e:NV (p++[a,b])=NV p++(gL a++gL b):=by simp[NV]
 rw[e,C9,<-b4F h,b1i _ _ (by simp[gL]),b6N g hb];constructor;intro e;have e:=YU e;refine b9c (QF p) (by omega) ?_
 have:=congrArg (· ^^^ cr (a*256+b)) e
 simpa[C1]using this;intro e;rw[e,P4];exact b4z _
def b1j(f t:Nat)(r:List Int):List Int:=E4 f (E2 t r)
def a8c(b:BI)(f t:Nat):BI:=(b.1,b.2.1.map (b1j f t),())
theorem b9f{b:BI}(hb:LB b){f t:Nat}(u:f<t)(v:t<=Ba b):Qg (b,(f:Int),(t:Int),())=some (a8c b f t,0):=by
 obtain⟨p,-⟩:=Vb hb;have d:A3 ((f:Int)<0)=false:=by simp only[decide_eq_false_iff_not];omega
 have e:A3 ((f:Int)>=(t:Int))=false:=by simp only[decide_eq_false_iff_not];omega
 have j:A3 ((t:Int) > ((Ba b:Nat):Int))=false:=by simp only[decide_eq_false_iff_not];omega
 have w:=hb.2.2.2.2.2.1;have h:=BH (f:=Mc) (β:=BI×(BI×Unit)) b.2.1 (fun i (a:List (List Int))=>(b.2.1,((b.2.1.length:Nat):Int),(i:Int),((0:Int),([]:List (List Int)),()),(b.1,a,()),((f:Int),(t:Int),()),())) (fun a x=>.inl (a++[b1j f t x])) (fun i a=>a.length=i) (fun a=>(((0:Int),([]:List (List Int)),()),(b.1,a,()),()))
  (fun i k a c=>⟨fun r g=>by
   simp only[Sum.inl.injEq]at g;subst g;have y:=(p _ (C0 k)).1;have l:A3 ((0:Int)<=(t:Int))=true:=by simp
   have m:A3 ((t:Int)<=((b.2.1[i].length:Nat):Int))=true:=by simp only[dT];omega
   have n:A3 ((0:Int)<=(f:Int))=true:=by simp
   have o:A3 ((f:Int)<=(t:Int))=true:=by simp only[dT];omega
   have q:=hb.2.2.2.1;refine⟨?_,by simp[c]⟩;simp only[Mc,Cq k,cT,Ac k,oB,tN,l,m,n,o,B3];rw[SU (show short (E4 f (E2 t b.2.1[i]))by unfold short;rw[D5,D2];omega)];simp only[oB];rw[AW (show a.length+1<2147483648 by omega),cT,Aa (show i<1000000 by omega)];rfl,fun b hb=>by cases hb⟩)
  (fun a c=>by simp only[Mc,rE,cF]) (a:=[]) rfl
 rw[NT (fun x:List Int=>[b1j f t x])]at h;simp only[nZ,SK,a7Q,A9]at h;unfold Qg;simp only[JG,decide_eq_true hb,oB,bT,cF,d,e,Hv,j];erw[h];rfl
theorem a9b{b:BI}(hb:LB b){f t:Nat}(g:f<t)(k:t<=Ba b):Ba (a8c b f t)=t-f:=by
 unfold Ba a8c;have a:=hb.2.2.1;have h:0<b.2.1.length:=by omega
 have c:Ba b=(b.2.1[0]).length:=by unfold Ba;rw[VA (d:=[]) h]
 rw[<-VA (d:=[]) (show 0<(b.2.1.map (b1j f t)).length by simpa using h)];simp only[List.getElem_map,b1j,D5,D2];omega
theorem b9g{b:BI}(hb:LB b){f t:Nat}(e:f<t)(i:t<=Ba b):LB (a8c b f t):=by
 have j:=a9b hb e i;obtain⟨g,k,a,c,o,p,d⟩:=hb;refine⟨g,k,by simpa[a8c]using a,by simpa[a8c]using c,by omega,by omega,lA.2 fun r l=>?_⟩;obtain⟨n,h,rfl⟩:=G8.1 l
 have:=lA.1 d n h
 simp only[EV,dT]at this;simp only[EV,dT];refine⟨by rw[j];simp only[b1j,D5,D2];omega,lA.2 fun x m=>lA.1 this.2 x (F7 (I9 m))⟩
def EU(c:Int):Prop:=0<=c/\c<256
def QN(p:List Int)(j:Nat):Bool:=(p.getD (j / 8) 0).toNat.testBit (7-j%8)
theorem nB:∀p:List Int,NV p=(B9 (8*p.length)).map (QN p)
 | []=>rfl
 |c::p=>by
  have e:NV (c::p)=gL c++NV p:=rfl;rw[e,nB p,lC,show 8*(p.length+1)=8+8*p.length from by omega,H1,pA,F6];congr 1;refine E1 fun j _=>?_
  show QN p j=QN (c::p) (8+j);unfold QN;rw[show(8+j) / 8=j / 8+1 from by omega,N2,show(8+j)%8=j%8 from by omega]
structure yX (b k i:Nat) (p0 p:List Int) (sm:Bool):Prop where
 len:p.length=p0.length
 ok:∀c∈p,EU c
 bit:∀j,QN p j=xor (QN p0 j) (decide (k<=j/\j<k+i)&&b.testBit (j-k))
 smk:sm=true↔∃t,t<i/\b.testBit t=true
 pre:p.take (k / 8)=p0.take (k / 8)
 same:sm=false->p=p0
theorem turned{b k:Nat}{g q:LI}{s:Bool}(y:k<8*g.length)(l:(NV g).foldl pY 0=0)(f:yX b k (min 16 (8*g.length-k)) g q s)(v:s=true):(NV q).foldl pY 0≠0:=by
 obtain⟨n,u⟩:∃n,min 16 (8*g.length-k)=n:=⟨_,rfl⟩;rw[u]at f;have e:NV q=(B9 (8*g.length)).map fun j=>xor (QN g j) (A3 (k<=j/\j<k+n)&&b.testBit (j-k)):=by
  rw[nB,f.len];exact E1 fun j _=>f.bit j
 have h:=a5B (QN g) (fun j=>A3 (k<=j/\j<k+n)&&b.testBit (j-k)) (B9 (8*g.length)) 0 0;have c:∀x:BitVec 16,(0:BitVec 16) ^^^ x=x:=fun _=>BitVec.zero_xor;rw[c,<-e,<-nB,l,c]at h;rw[h];obtain⟨m,r⟩:∃m,8*g.length=k+(n+m):=⟨8*g.length-k-n,by omega⟩;rw[r,H1,H1,pA,pA,pA,F6,F6,F6];have d:(B9 k).map (fun j=>A3 (k<=j/\j<k+n)&&b.testBit (j-k))=A6 k false:=by
  rw[L8];refine⟨by simp,fun x a=>?_⟩;obtain⟨j,p,rfl⟩:=G8.1 a;grind
 have i:(B9 m).map (((fun j=>A3 (k<=j/\j<k+n)&&b.testBit (j-k))∘(k+·))∘(n+·))=A6 m false:=by
  rw[L8];refine⟨by simp,fun x a=>?_⟩;obtain⟨j,p,rfl⟩:=G8.1 a;grind
 rw[d,i];refine c2x (by simp;omega) ?_ k m;obtain⟨t,o,w⟩:=f.smk.1 v;refine G8.2 ⟨t,H0.2 o,?_⟩;simp_all
theorem a5D{f:BL}(b:a0b f){n:Nat}(E:n<=700000){q:LI}(D:q.length=(BA f n).length+n+2)(C:q.take (BA f n).length=BA f n)(hq:∀c∈q,EU c)(h:(NV q).foldl pY 0≠0):
  Cs q=some (Vc,0,5):=by
 have p:=mE b (body:=n) (by omega);have t:(BA f n).length=(hb f n).length+1:=by simp[BA]
 have d:=mG b (body:=n) (by omega) (R:=q.drop (BA f n).length) (by
  grind)
 have k:BA f n++q.drop (BA f n).length=q:=by
  grind[I7]
 rw[k]at d;have z0:((0:Int) != 0)=false:=rfl;obtain⟨N,B⟩:∃N,(BA f n).length+n=N:=⟨_,rfl⟩;have y:zD .i64 (((BA f n).length:Int)+(n:Int))=(N:Int):=by rw[Ae (by omega)];omega
 have z:zD .i64 ((N:Int)+2)=((N+2:Nat):Int):=by rw[Ae (by omega)];rfl
 have A:zD .i64 ((N:Int)+1)=((N+1:Nat):Int):=by rw[Ae (by omega)];rfl
 have l:A3 ((q.length:Int)<((N+2:Nat):Int))=false:=by simp_all
 have m:A3 ((0:Int)<=(N:Int))=true:=by simp
 have o:A3 ((N:Int)<=(q.length:Int))=true:=by grind
 have i:N<q.length:=by omega
 have j:N+1<q.length:=by omega
 have x:Gy (q.take N)=some (FJ (q.take N)):=Xk (show(q.take N).length<1000000 by grind);have b1:=hq _ (C0 i);have b2:=hq _ (C0 j);have a:q=q.take N++[q[N],q[N+1]]:=by
  conv=>lhs;rw[<-I7 N q]
  simp_all[K9,List.drop_eq_nil_of_le]
 have u:FJ (q.take N)≠q[N]*256+q[N+1]:=fun e=>h (by
  rw[a];exact(a5C (fun c r=>hq c (F7 r)) b1 b2).2 e)
 have w:=c2g (v:=q[N]*256+q[N+1]) (by unfold EU at b1 b2;omega);rw[show(q[N]*256+q[N+1]) / 256=q[N]from by unfold EU at b2;omega,show(q[N]*256+q[N+1])%256=q[N+1]from by unfold EU at b2;omega]at w;have g:(FJ (q.take N) != bits .u16 .or (AT .u16 (zD .u16 q[N]) 8) (zD .u16 q[N+1]))=true:=by grind
 unfold Cs;rw[d];simp only[oB,z0,cF,y,z,A,l,m,o,B3,cT,tN,x,Ac i,Ac j,g];rfl
theorem b6O{g:Int}(h:-100000<=g/\g<=100000):RB g=some ((Td g:Nat):Int):=by
 unfold RB Td;by_cases hg:0<=g;have d:A3 (g<0)=false:=by simp only[decide_eq_false_iff_not];omega
 have e:AT .u64 (zD .u64 g) 1=2*g:=by
  show zD .u64 (zD .u64 g*2)=_;rw[Aw (n:=g) (by omega),Aw (by omega)];omega
 rw[d,cF,e,if_pos hg,C4 (by omega)];rfl;have d:A3 (g<0)=true:=by simp only[dT];omega
 have e:AT .u64 (zD .u64 g) 1=((18446744073709551615-(-2*g-1).toNat:Nat):Int):=by
  show zD .u64 (zD .u64 g*2)=_;rw[b0x (n:=g) (by omega)];have f:∀n:Int,zD .u64 n=n%18446744073709551616:=fun n=>by simp[zD,IntKind.bits,IntKind.signed]
  rw[f];omega
 rw[d,cT,e,if_neg hg,a8G (by omega)];simp only[oB];congr 2;omega
theorem eM(a:LI)(i:Int):∀(k n:Nat)(out:LI),n<128^(k+1)->k<=8->out.length+k<1000000->
  ∃r g,Al JB (a,i,(n:Int),out,())=some (a,i,((r:Nat):Int),out++g,())/\AS n=g++[(r:Int)]/\r<128
 |k,n,out,h,t,u=>by
  by_cases hn:n<128;refine⟨n,[],?_,by rw[QE hn];rfl,hn⟩;rw[Ag (b:=(a,i,(n:Int),out,())) (by
   have d:A3 ((n:Int)>=128)=false:=by simp;omega
   simp only[JB,d,cF])]
  simp
  ·cases k with
   |zero=>omega
   |succ k=>
    have q:n / 128<128^(k+1):=by rw[I6 (by omega)];rw[J5]at h;exact h
    have f:n<18446744073709551616:=by
     have:128^(k+1+1)<=128^9:=D6 (by omega) (by omega)
     have e:(128:Nat)^9=9223372036854775808:=by decide
     omega
    obtain⟨r,g,c,m,p⟩:=eM a i k (n / 128) (out++[((n%128+128:Nat):Int)]) q (by omega) (by simp;omega);refine⟨r,((n%128+128:Nat):Int)::g,?_,by rw[Tc hn,m];rfl,p⟩;have d:A3 ((n:Int)>=128)=true:=by simp;omega
    have j:AR .u64 (n:Int) 7=((n / 128:Nat):Int):=GL (o:=7) (by omega);have l:zD .u8 (bits .u64 .or (bits .u64 .and (n:Int) 127) 128)=((n%128+128:Nat):Int):=by
     have c:bits .u64 .and (n:Int) 127=((n%2^7:Nat):Int):=Yt (k:=7) f (by omega);rw[c,show((128:Int))=((1*2^7:Nat):Int)from rfl,c7g (C3 _ (by omega)) (by omega),JL];omega
    rw[Ai (s':=(a,i,((n / 128:Nat):Int),out++[((n%128+128:Nat):Int)],())) (by
     simp only[JB,d,cT,AW (show out.length+1<2147483648 by omega),j,l,C2])]
    rw[c]
    simp
theorem On{ns:List Nat}(h:∀n∈ns,n<9223372036854775808)(w:ns.length<=1000):Dy (RU ns)=some (ns.flatMap AS):=by
 have m:(RU ns).length=ns.length:=by simp[RU]
 have:=BH (f:=JC) (RU ns) (fun i (a:LI)=>(RU ns,(i:Int),a,())) (fun a x=>.inl (a++AS x.toNat)) (fun i a=>a.length<=10*i) (fun a=>(a,()))
  (fun i l a t=>⟨fun u g=>by
   have c:i<ns.length:=by omega
   have p:(RU ns)[i]=((ns[i]:Nat):Int):=by simp[RU]
   have hb:=h ns[i] (C0 c);have k:ns[i]<128^(8+1):=by rw[show(128:Nat)^(8+1)=9223372036854775808 from by decide];exact hb
   obtain⟨r,d,q,j,v⟩:=eM (RU ns) (i:Int) 8 ns[i] a k (F4 _) (by omega);have o:=YG 8 ns[i] k;rw[j]at o;simp only[lN,lC,B4]at o;simp only[p,tN,j,Sum.inl.injEq]at g;subst g;have e:zD .u8 (r:Int)=(r:Int):=by rw[JL];omega
   refine⟨?_,by simp;omega⟩;simp only[JC,Cq l,cT,Ac l,p,oB,q,AW (show(a++d).length+1<2147483648 by simp;omega),Aa (show i<1000000 by omega),e,C2,aA],fun b hb=>by cases hb⟩)
  (fun a t=>by simp only[JC,rE,cF]) (a:=[]) (by simp)
 unfold Dy;simp only[nZ]at this;rw[this,NT];simp[SK,RU,H2]
theorem a5E{f:BL}(r:a0b f){body:Nat}(p:body<=1048576):SJ (f,(body:Int))=some (hb f body):=by
 have q:=r;obtain⟨⟨P,Q,K,L,M,N⟩,l1,l2,s1,s2,m1,m2,m3,m4⟩:=q;have k:∀s∈f.2.2.2.1,GX f.2.2.1.2.1 s=true:=fun s B=>lA.1 m4 s B;have z:=bE m2 f.2.2.2.1 m4;have y:=mE r p;have c:Dy [zD .u64 f.1,zD .u64 f.2.1,zD .u64 f.2.2.1.1,zD .u64 f.2.2.1.2.1,zD .u64 f.2.2.1.2.2.1,zD .u64 ((f.2.2.2.1.length:Nat):Int)]=some ([f.1.toNat,f.2.1.toNat,f.2.2.1.1.toNat,f.2.2.1.2.1.toNat,f.2.2.1.2.2.1.toNat,f.2.2.2.1.length].flatMap AS):=by
  rw[<-On (fun n l=>by
   simp only[mC,D4,or_false]at l;omega) (by simp)]
  congr 1;rw[Aw (n:=f.1) (by omega),Aw (n:=f.2.1) (by omega),Aw (n:=f.2.2.1.1) (by omega),Aw (n:=f.2.2.1.2.1) (by omega),Aw (n:=f.2.2.1.2.2.1) (by omega),Aw (by omega)];simp only[RU,D8,List.map_nil,C4 (show 0<=f.1 by omega),C4 (show 0<=f.2.1 by omega),C4 (show 0<=f.2.2.1.1 by omega),C4 (show 0<=f.2.2.1.2.1 by omega),C4 (show 0<=f.2.2.1.2.2.1 by omega)]
 have C:([f.1.toNat,f.2.1.toNat,f.2.2.1.1.toNat,f.2.2.1.2.1.toNat,f.2.2.1.2.2.1.toNat,f.2.2.2.1.length].flatMap AS).length<=600:=by
  have e:(hb f body).length=2+(([f.1.toNat,f.2.1.toNat,f.2.2.1.1.toNat,f.2.2.1.2.1.toNat,f.2.2.1.2.2.1.toNat,f.2.2.2.1.length].flatMap AS).length+((f.2.2.2.1.flatMap IB).length+(AS body).length)):=by
   simp[hb];omega
  omega
 have h:=BH (f:=Nq) (β:=Int×(List Int×Unit)) f.2.2.2.1 (fun i (a:LI)=>((body:Int),(i:Int),a,f,())) (fun a x=>.inl (a++IB x)) (fun i a=>a.length<=600+27*i) (fun a=>((body:Int),a,()))
  (fun i o a w=>⟨fun F j=>by
   simp only[Sum.inl.injEq]at j;subst j;obtain⟨a1,G,t,H,I,u,v⟩:=DS.1 (k _ (C0 o));have E:=a0c m2 (k _ (C0 o));have O:=gI (g:=f.2.2.2.1[i].2.2.1) (m:=1024) ⟨u,v⟩;have A:Dy [zD .u64 f.2.2.2.1[i].1,zD .u64 f.2.2.2.1[i].2.1,((Td f.2.2.2.1[i].2.2.1:Nat):Int)]=some (IB f.2.2.2.1[i]):=by
    have e:=On (ns:=Ib f.2.2.2.1[i]) (fun n l=>by
     simp only[Ib,mC,D4,or_false]at l;omega) (by simp[Ib])
    rw[show IB f.2.2.2.1[i]=(Ib f.2.2.2.1[i]).flatMap AS from by simp[IB,Ib],<-e];congr 1;rw[Aw (n:=f.2.2.2.1[i].1) (by omega),Aw (n:=f.2.2.2.1[i].2.1) (by omega)];simp only[RU,Ib,D8,List.map_nil,C4 a1,C4 t]
   refine⟨?_,by simp;omega⟩;simp only[Nq,Cq o,cT,Ac o,oB,b6O (g:=f.2.2.2.1[i].2.2.1) (by omega),A,AW (show a.length+(IB f.2.2.2.1[i]).length<2147483648 by omega),Aa (show i<1000000 by omega),C2],fun b hb=>by cases hb⟩)
  (fun a w=>by simp only[Nq,rE,cF]) (a:=[f.1.toNat,f.2.1.toNat,f.2.2.1.1.toNat,f.2.2.1.2.1.toNat,f.2.2.1.2.2.1.toNat,f.2.2.2.1.length].flatMap AS) (by omega)
 rw[NT]at h;simp only[SK,nZ]at h;have d:Dy [zD .u64 (body:Int)]=some (AS body):=by
  have e:=On (ns:=[body]) (fun n l=>by simp at l;omega) (by simp);rw[Aw (by omega)];simpa[RU]using e
 have D:=Nu (n:=body) (by omega);unfold SJ;simp only[c,oB];rw[h];simp only[oB,d,C2];rw[AW (by rw[lN];omega),cT,AW (by simp only[lN];omega),cT];simp[hb]
theorem a2w{p:PZ}{n:Int}(hp:a7K n p){L:LI}(o:L.length<50000000):Mw ((L,()),p.1,n)=some (0,L++Rg p.1 p.2,())/\(Rg p.1 p.2).length<=700000:=by
 obtain⟨c,k,a⟩:=hp;obtain⟨j,i,g,l,f,b,m⟩:=a7i c (n:=n) (L:=L) (by omega);obtain⟨rfl,d,rfl,h⟩:=b k;have e:Er p.1 d L=Er p.1 p.2 L:=by
  by_cases hk:p.1.1=0\/p.1.1=1;unfold Er;rw[if_pos hk,if_pos hk];rw[b0y (h (not_or.1 hk)) (a (not_or.1 hk))]
 rw[e,UU (QD k) a]at g f;exact⟨g,by rw[lN]at f;omega⟩
theorem a0q{f:BL}:∀(zG zF:List PZ)(L:LI),(zF++zG).map (·.1)=f.2.2.2.2.1->(∀p∈zG,a7K f.2.1 p)->L.length+700000*zG.length<40000000->(zF++zG).length<=8->
  Al Nr ((zF.length:Int),(L,()),f,())=some ((L++Ay zG,()),f,())
 | [],zF,L,g,_,_,_=>by
  have e:f.2.2.2.2.1.length=zF.length:=by rw[<-g];simp
  rw[Ag (b:=((L,()),f,())) (by simp only[Nr,e,rE,cF])];simp[Ay]
 |p::zG,zF,L,g,h,i,d=>by
  rw[lC]at i;simp only[lN,lC]at d;obtain⟨c,m⟩:=a2w (h p (by simp)) (L:=L) (by omega);have a:zF.length<f.2.2.2.2.1.length:=by rw[<-g];simp
  have j:Az f.2.2.2.2.1 (zF.length:Int)=some p.1:=by rw[Ac a];congr 1;simp[<-g]
  have k:=a0q zG (zF++[p]) (L++Rg p.1 p.2) (by simpa using g) (fun q l=>h q (by simp[l])) (by rw[lN];omega) (by simp;omega);rw[Ai (s':=((((zF++[p]).length:Nat):Int),(L++Rg p.1 p.2,()),f,())) (by
   simp only[Nr,Cq a,cT,j,oB,c,Aa (show zF.length<1000000 by omega)]
   simp)]
  rw[k];simp[Ay]
theorem b6P{f:BL}(k:a0b f){g:List PZ}(d:g.map (·.1)=f.2.2.2.2.1)(hp:∀p∈g,a7K f.2.1 p)(b:(Ay g).length<=5600000)(a:g.length<=8):PC f=some (hb f (IC (Ay g)).length):=by
 have h:=a0q (f:=f) g [] [] (by simpa using d) hp (by simp;omega) (by simpa using a);have c:=RV k b;have e:(wL (Ay g)).1.length=(IC (Ay g)).length:=by rw[(GK _).2,(Vz _).1]
 unfold PC;simp only[B4,nZ,A9]at h;rw[h];simp only[oB,a1W (show(Ay g).length<1000000000 by omega),e,a5E k (show(IC (Ay g)).length<=1048576 by omega)]
theorem b4G{L:LI}(h:CI L):∀c∈(wL L).1,EU c:=fun c g=>by
 obtain⟨i,f,rfl⟩:=M9.1 g
 have:=(a8M h).1 i
 rwa [lD,lG f]at this
theorem Nv{n:Nat}(h:n<9223372036854775808):∀c∈AS n,EU c:=Xj 8 n (by rw[show(128:Nat)^(8+1)=9223372036854775808 from by decide];exact h)
theorem b1k{f:BL}(b:a0b f){n:Nat}(t:n<=1048576):∀c∈BA f n,EU c:=by
 obtain⟨⟨v,w,o,p,q,r⟩,l1,l2,s1,s2,m1,m2,m3,m4⟩:=b;intro c h;simp only[BA,hb,mA,mC,D4,or_false,F8]at h;rcases h with((rfl|rfl)|h|h|h|h|h|h|⟨s,d,h⟩|h)|rfl;exact⟨by decide,by decide⟩;exact⟨by decide,by decide⟩;exact Nv (by omega) c h;exact Nv (by omega) c h;exact Nv (by omega) c h;exact Nv (by omega) c h;exact Nv (by omega) c h;exact Nv (by omega) c h;obtain⟨a1,e,i,j,l,k,a⟩:=DS.1 (lA.1 m4 s d);have u:=gI (g:=s.2.2.1) (m:=1024) ⟨k,a⟩;simp only[IB,mA]at h;rcases h with h|h|h;exact Nv (by omega) c h;exact Nv (by omega) c h;exact Nv (by omega) c h;exact Nv (by omega) c h;exact a7I _
theorem b6Q{f:BL}(k:a0b f){g:List PZ}(a:(Ay g).length<=5600000):∀c∈Ol f (Ay g),EU c:=by
 have b:=RV k a;intro c h;rcases mA.1 h with h|h;exact b1k k (by omega) c h;exact b4G (bG (bF g)) c h
set_option maxRecDepth 100000 in
theorem b6R:Uu ()=some true:=by kernel_rfl
theorem b1l(f:AL)(l:LI)(m:Nat)(v:m<=1000):∃t,SE (f,l,(m:Int))=some t/\(t=true->NU f/\l.length<=m/\l.all (fun x=>Cu x f.2.2.1)=true/\∃ch n:Nat,f.2.1=(ch:Int)/\l.length=n*ch):=by
 unfold SE;simp only[a2s,oB];by_cases hf:NU f
 ·simp only[hf,decide_true,bT,cF];cases hd:A3 (((l.length:Nat):Int) > (m:Int))with
  |true=>exact⟨false,rfl,fun h=>by cases h⟩
  |false=>
   have a:l.length<=m:=by simp at hd;omega
   obtain⟨p,q,r,u,c,d⟩:=id hf;obtain⟨ch,k⟩:∃ch:Nat,f.2.1=(ch:Int):=⟨f.2.1.toNat,by omega⟩;have j:((ch:Int)==0)=false:=by simp;omega
   have o:D3 ((l.length:Nat):Int) (ch:Int)=((l.length%ch:Nat):Int):=rfl;simp only[cF,k,j,o,oB];cases e:(((l.length%ch:Nat):Int) != 0)with
   |true=>exact⟨false,rfl,fun h=>by cases h⟩
   |false=>
    have e:l.length%ch=0:=by simp at e;omega
    have h:=Cb (f:=Ki) l (fun i=>(l,(i:Int),f,())) (fun x=>Cu x f.2.2.1) (bt:=D9 ()) (bf:=F3 (false,()))
     (fun i g b=>by simp only[Ki,Cq g,cT,Ac g,oB,YK ⟨c,d⟩,b,bT,cF,Aa (show i<1000000 by omega)])
     (fun i g b=>by simp only[Ki,Cq g,cT,Ac g,oB,YK ⟨c,d⟩,b,G9])
     (by simp only[Ki,rE,cF])
    simp only[cF];erw[h];cases ha:l.all (fun x=>Cu x f.2.2.1)with
    |true=>exact⟨true,rfl,fun _=>⟨trivial,a,rfl,ch,l.length / ch,rfl,by have:=Nat.div_add_mod l.length ch;rw[J6];omega⟩⟩
    |false=>exact⟨false,rfl,fun h=>by cases h⟩
 simp only[hf,decide_false,G9,cT];exact⟨false,rfl,fun h=>by cases h⟩
theorem b6S{fm:AL}(e:NU fm){ch:Nat}(k:fm.2.1=(ch:Int)){l:LI}{h:Nat}(n:l.length=h*ch)(o:h<=200)(f:l.all (fun x=>Cu x fm.2.2.1)=true)(size effort:Int):
  ∃(sz:Nat)(g:Int)(xs:List Pc),1<=sz/\sz<=64/\zD .i64 (1+bits .i64 .and size 63)=(sz:Int)/\bits .i64 .and effort 3=g/\0<=g/\g<=3/\a8b fm l ch sz h g 0 xs/\Ie fm 0 xs/\Ax xs=h/\Fb xs=l/\xs.length<=256/\
   SF (fm,l,size,effort)=some (DI fm xs,TE fm xs,true):=by
 obtain⟨v,a,b⟩:=b6q 6 (by omega) size;obtain⟨w,c,d⟩:=b6q 2 (by omega) effort;rw[show((2^6-1:Nat):Int)=63 from rfl]at a;rw[show((2^2-1:Nat):Int)=3 from rfl]at c;have p:v<64:=b;have q:w<4:=d;have i:zD .i64 (1+(v:Int))=((v+1:Nat):Int):=by rw[Ae (by omega)];omega
 obtain⟨xs,r,j,t,u,m,y⟩:=b1h e k n o (sz:=v+1) (by omega) f (effort:=(w:Int)) (by omega) (by omega);refine⟨v+1,w,xs,by omega,by omega,by rw[a];exact i,c,by omega,by omega,r,j,t,u,m,?_⟩;unfold SF;simp only[a,c,i,y,oB,a8a e j m,beq_self_eq_true,cT]
theorem nC{α:Type}:∀(l:List α)(j:Nat),j<l.length->∃u a v,l=u++a::v/\u.length=j
 | [],j,h=>by simp at h
 |x::l,0,_=>⟨[],x,l,rfl,rfl⟩
 |x::l,j+1,h=>by
  obtain⟨u,a,v,e,g⟩:=nC l j (by simpa using h);exact⟨x::u,a,v,by rw[e];rfl,by simp[g]⟩
theorem b4H{α:Type}(a:List α)(x y:α)(b:List α):(a++x::b).set a.length y=a++y::b:=by simp
theorem c6P{a b:Int}(i:0<=a/\a<256)(hb:0<=b/\b<256)(h:b≠0):0<=bits .u8 .xor a b/\bits .u8 .xor a b<256/\bits .u8 .xor a b≠a:=by
 have e:bits .u8 .xor a b=(((A4 8 a ^^^ A4 8 b).toNat:Nat):Int):=by
  show zD .u8 (((A4 8 a ^^^ A4 8 b).toNat:Nat):Int)=_
  have:=(A4 8 a ^^^ A4 8 b).isLt
  rw[JL];omega
 have c:=(A4 8 a ^^^ A4 8 b).isLt;rw[e];refine⟨by omega,by omega,fun j=>h ?_⟩;have d:(A4 8 a).toNat=a.toNat:=by rw[B8];omega
 have f:A4 8 a ^^^ A4 8 b=A4 8 a:=I8 (by omega);have k:A4 8 b=0#8:=by
  have:=congrArg (A4 8 a ^^^ ·) f
  simpa[<-C1]using this
 have g:=congrArg P9 k;rw[B8]at g;simp at g;omega
theorem b6T{n:Int}(h:Wf (.int .u8) n):0<=n/\n<256:=by
 have h:(A3 (IntKind.min .u8<=n)&&A3 (n<=IntKind.max .u8))=true:=h;simp only[EV,dT]at h;have g:IntKind.min .u8=0:=rfl;have f:IntKind.max .u8=255:=rfl;omega
def c2y(ch:Nat)(x:Pc):Prop:=x.2.1.2.1=Fa (dX x.2.1) ch/\(dX x.2.1).length=Ba x.2.1*ch
theorem a9c{fm:AL}{ch:Nat}(a:1<=ch){l:LI}{sz h:Nat}(d:l.length=h*ch)(j:1<=sz){k:Int}:∀(xs:List Pc)(st:Nat),a8b fm l ch sz h k st xs->∀x∈xs,c2y ch x
 | [],_,_,x,f=>by simp at f
 |y::m,st,⟨a1,c,n,o,i⟩,x,f=>by
  rcases mC.1 f with rfl|f;have g:=a0l (l:=l) (ch:=ch) (st:=st) (en:=min (st+sz) h) (by rw[d];exact B6 _ (by omega));have e:=a8X (w:=fm.2.2.1) g a;have b:=YN (w:=fm.2.2.1) g a;refine⟨?_,?_⟩;rw[c,e];rfl;rw[c,e,b,g];exact a9c a d j m _ i x f
theorem b9h{b:BI}{ch f t:Nat}(hb:LB b)(k:b.2.1=Fa (dX b) ch)(c:(dX b).length=Ba b*ch)(e:f<t)(g:t<=Ba b):dX (a8c b f t)=Cp (dX b) ch f t:=by
 have h:=b8P (d:=dX b) (ch:=ch) (a:=f) c g;rw[<-k]at h;unfold Cp;rw[<-h];unfold dX;rw[a9b hb e g];rfl
def b6U(a b:Nat):Nat->List (Pc×List Int)->Prop
 |_,[]=>True
 |st,z::zs=>z.2.length=z.1.2.2.length/\(a<b->a<st+Ba z.1.2.1->st<b->z.2=z.1.2.2)/\b6U a b (st+Ba z.1.2.1) zs
def AQ(zs:List (Pc×List Int)):List Pc:=zs.map (·.1)
def LC(zs:List (Pc×List Int)):List Int:=zs.flatMap (·.2)
theorem a0r(h:List (Pc×List Int))(z:Pc×List Int):AQ (h++[z])=AQ h++[z.1]:=by simp[AQ]
theorem Sa{l:LI}{ch a b:Nat}(h:b<=a):Cp l ch a b=[]:=by
 unfold Cp;rw[List.drop_eq_nil_iff,D2];exact Nat.le_trans (Nat.min_le_left _ _) (B6 _ h)
theorem b1m{l:LI}{ch a m b:Nat}(f:a<=m)(g:m<=b)(e:b*ch<=l.length):Cp l ch a m++Cp l ch m b=Cp l ch a b:=by
 have c:a*ch<=m*ch:=B6 _ f;have d:m*ch<=b*ch:=B6 _ g;have h:=a0m (l:=l) (ch:=ch) g;have k:a*ch<=(l.take (m*ch)).length:=by rw[D2];omega
 have h:=congrArg (E4 (a*ch)) h;rw[J1 k]at h;exact h
theorem b4I{A w C:LI}{ch st k f t:Nat}(h:A.length=st*ch)(b:w.length=k*ch)(g:t<=k):Cp (A++(w++C)) ch (st+f) (st+t)=Cp w ch f t:=by
 unfold Cp;have a:t*ch<=k*ch:=B6 _ g;rw[L7,L7,<-h,List.take_length_add_append,List.drop_length_add_append,J4 (by omega)]
theorem bP{ch:Nat}:∀{xs:List Pc},(∀x∈xs,c2y ch x)->(Fb xs).length=Ax xs*ch
 | [],_=>by simp[Fb,Ax]
 |x::xs,h=>by
  have f:=bP (xs:=xs) fun y g=>h y (by simp[g])
  have:=(h x (by simp)).2
  simp only[Fb,Ax,D0,lN,D8,N1,L7]at f|-;omega
theorem bQ{fm:AL}{ch:Nat}(hc:1<=ch/\ch<=8){all:List (Pc×List Int)}(y:all.length<=256){B Hd:LI}(hl:B.length<1000000000){pl:eG}(hp:pl.1=fm)(N:pl.2.1=Cf (AQ all))(k:pl.2.2.1=Ko (AQ all)){a b:Nat}(h0:a<=b)
  {D:LI}(X:D=Fb (AQ all))(l:Ie fm 0 (AQ all))(c:∀x∈AQ all,c2y ch x):∀(zG zF tail:List (Pc×List Int)) (Z:LI),zF++(zG++tail)=all->B=Hd++(LC zF++(LC zG++Z))->Ie fm (Ax (AQ zF)) (AQ zG)->b6U a b (Ax (AQ zF)) zG->
  (LC zF).length=(Au (AQ zF)).length->
  Al Ct (B,((Hd.length+(LC zF).length:Nat):Int),((Ax (AQ zF):Nat):Int),Cf (AQ all),(all.length:Int),(zF.length:Int),Cp D ch a (min b (Ax (AQ zF))),pl,((a:Int),(b:Int),()),()) =
   Al Ct (B,((Hd.length+(LC (zF++zG)).length:Nat):Int),((Ax (AQ (zF++zG)):Nat):Int),Cf (AQ all),(all.length:Int),((zF++zG).length:Int),Cp D ch a (min b (Ax (AQ (zF++zG)))),pl,((a:Int),(b:Int),()),())
 | [],zF,tail,Z,_,_,_,_,_=>by rw[F2]
 |z::zG,zF,tail,Z,S,hB,hr,hok,hlb=>by
  obtain⟨U,g2⟩:=hr;obtain⟨P,g3,g4⟩:=hok;rw[F9]at S;have L:zF.length<all.length:=by rw[<-S];simp
  have g:AQ all=AQ zF++z.1::AQ (zG++tail):=by rw[<-S];simp[AQ]
  have g1:(AQ zF).length=zF.length:=by simp[AQ]
  have T:=YT (zF:=AQ zF) (zG:=AQ (zG++tail)) z.1;have d:=a2r (zF:=AQ zF) (zG:=AQ (zG++tail)) z.1;rw[<-g,g1]at T d;have m:B=(Hd++LC zF)++(z.2++(LC zG++Z)):=by rw[hB];simp[LC]
  have k2:Hd.length+(LC zF).length+z.2.length<=B.length:=by rw[m];simp;omega
  obtain⟨h1,h2,h3,h4,h5,h6,R,h8,h9,k0,k1⟩:=id U;have r:=c z.1 (by rw[g];simp);have k5:=RY l;have g6:(AQ all).length=all.length:=by simp[AQ]
  have g9:Ax (AQ all)=Ax (AQ zF)+(Ba z.1.2.1+Ax (AQ (zG++tail))):=by rw[g];simp[Ax]
  have E:D.length=Ax (AQ all)*ch:=by rw[X];exact bP c
  have g5:D.length<=16384*8:=by rw[E];exact D1 (by omega) hc.2
  have M:∀u v:Nat,u<=v->v<=Ax (AQ all)->v*ch<=D.length:=fun u v _ h=>by rw[E];exact B6 _ h
  have g7:=R.2.2.2.2.1

  have n:Ax (AQ (zF++[z]))=Ax (AQ zF)+Ba z.1.2.1:=by rw[a0r,GR]
  have F:(LC (zF++[z])).length=(LC zF).length+z.2.length:=by simp[LC]
  have w1:zD .i64 (((Ax (AQ zF):Nat):Int)+((Ba z.1.2.1:Nat):Int))=((Ax (AQ zF)+Ba z.1.2.1:Nat):Int):=by rw[Ae (by omega)];omega
  have w2:zD .i64 (((Hd.length+(LC zF).length:Nat):Int)+((z.1.2.2.length:Nat):Int))=((Hd.length+(LC (zF++[z])).length:Nat):Int):=by rw[F,<-P,Ae (by omega)];omega
  have mx:EA (a:Int) ((Ax (AQ zF):Nat):Int)=((max a (Ax (AQ zF)):Nat):Int):=by rw[Vo];omega
  have mn:GZ (b:Int) ((Ax (AQ zF)+Ba z.1.2.1:Nat):Int)=((min b (Ax (AQ zF)+Ba z.1.2.1):Nat):Int):=by rw[Qv];omega
  have Q:Ct (B,((Hd.length+(LC zF).length:Nat):Int),((Ax (AQ zF):Nat):Int),Cf (AQ all),(all.length:Int),(zF.length:Int),Cp D ch a (min b (Ax (AQ zF))),pl,((a:Int),(b:Int),()),()) =
    some (.inl (B,((Hd.length+(LC (zF++[z])).length:Nat):Int),((Ax (AQ (zF++[z])):Nat):Int),Cf (AQ all),(all.length:Int),(((zF++[z]).length:Nat):Int),Cp D ch a (min b (Ax (AQ (zF++[z])))),pl,((a:Int),(b:Int),()),())):=by
   rw[n];by_cases hq:max a (Ax (AQ zF))<min b (Ax (AQ zF)+Ba z.1.2.1);have ez:z.2=z.1.2.2:=g3 (by omega) (by omega) (by omega);have hg:=eI U (by rw[m,ez]) hl hp (i:=(zF.length:Int)) (by rw[N];exact T) (by rw[k];exact d);rw[lN]at hg;obtain⟨f,K⟩:∃f,max a (Ax (AQ zF))=Ax (AQ zF)+f:=⟨max a (Ax (AQ zF))-Ax (AQ zF),by omega⟩;obtain⟨t,O⟩:∃t,min b (Ax (AQ zF)+Ba z.1.2.1)=Ax (AQ zF)+t:=⟨min b (Ax (AQ zF)+Ba z.1.2.1)-Ax (AQ zF),by omega⟩;rw[K,O]at hq;have o:f<t:=by omega
   have j:t<=Ba z.1.2.1:=by omega
   have c1:zD .i64 (((Ax (AQ zF)+f:Nat):Int)-((Ax (AQ zF):Nat):Int))=(f:Int):=by rw[Ae (by omega)];omega
   have c2:zD .i64 (((Ax (AQ zF)+t:Nat):Int)-((Ax (AQ zF):Nat):Int))=(t:Int):=by rw[Ae (by omega)];omega
   have I:=b9f R o j;have q:=a5s (b9g R o j);rw[b9h R r.1 r.2 o j]at q;have Y:D=Fb (AQ zF)++(dX z.1.2.1++Fb (AQ (zG++tail))):=by rw[X,g];simp[Fb]
   have g0:(Fb (AQ zF)).length=Ax (AQ zF)*ch:=bP fun x U=>c x (by rw[g];simp[U]);have H:=b4I (A:=Fb (AQ zF)) (w:=dX z.1.2.1) (C:=Fb (AQ (zG++tail))) (f:=f) g0 r.2 j;rw[<-Y]at H;rw[<-H]at q;have G:Cp D ch a (min b (Ax (AQ zF)))++Cp D ch (Ax (AQ zF)+f) (Ax (AQ zF)+t)=Cp D ch a (Ax (AQ zF)+t):=by
    by_cases ha:a<=Ax (AQ zF);rw[show f=0 from by omega,show min b (Ax (AQ zF))=Ax (AQ zF)+0 from by omega];exact b1m (by omega) (by omega) (M 0 _ (by omega) (by omega));rw[Sa (b:=min b (Ax (AQ zF))) (by omega),show Ax (AQ zF)+f=a from by omega,A9]
   have V:A3 (((Ax (AQ zF)+f:Nat):Int)<((Ax (AQ zF)+t:Nat):Int))=true:=decide_eq_true (by omega);have k3:(Cp D ch a (min b (Ax (AQ zF)))).length<=131072:=by unfold Cp;rw[D5,D2];omega
   have k4:(Cp D ch (Ax (AQ zF)+f) (Ax (AQ zF)+t)).length<=131072:=by unfold Cp;rw[D5,D2];omega
   simp only[Ct,Cq L,cT,T,k,d,oB,w1,mx,mn,K,O,V];erw[hg];simp only[oB,show((0:Int) != 0)=false from rfl,cF,c1,c2,I,q,AW (show(Cp D ch a (min b (Ax (AQ zF)))).length+(Cp D ch (Ax (AQ zF)+f) (Ax (AQ zF)+t)).length<2147483648 by omega),cT,w2,Aa (show zF.length<1000000 by omega)];rw[C2,G]
   simp
   have V:A3 (((max a (Ax (AQ zF)):Nat):Int)<((min b (Ax (AQ zF)+Ba z.1.2.1):Nat):Int))=false:=decide_eq_false (by omega);have p:Cp D ch a (min b (Ax (AQ zF)))=Cp D ch a (min b (Ax (AQ zF)+Ba z.1.2.1)):=by
    by_cases e:min b (Ax (AQ zF))=min b (Ax (AQ zF)+Ba z.1.2.1);rw[e];rw[Sa (by omega),Sa (by omega)]
   simp only[Ct,Cq L,cT,T,k,d,oB,w1,mx,mn,V,cF,w2,Aa (show zF.length<1000000 by omega),p]
   simp
  rw[Ai Q,P1 zF z zG];exact bQ hc y hl hp N k h0 X l c zG (zF++[z]) tail Z (by simpa using S) (by rw[m];simp[LC]) (by rw[n];exact g2) (by rw[n];exact g4) (by rw[F,hlb,a0r,GY,lN,P])
theorem a0s{a b:Nat}:∀(h:List (Pc×List Int)) (st:Nat),b6U a b st h->(LC h).length=(Au (AQ h)).length
 | [],_,_=>rfl
 |z::h,st,⟨f,_,g⟩=>by
  have:=a0s h _ g
  simp only[LC,Au,AQ,D8,D0,lN]at this|-;omega
theorem a9d{fm:AL}(n:NU fm){ch:Nat}(u:1<=ch/\ch<=8){g:List (Pc×List Int)}{xs:List Pc}(w:AQ g=xs)(c:Ie fm 0 xs)(f:xs.length<=256)(l:∀x∈xs,c2y ch x){a b:Nat}(d:a<=b)(hb:b<=Ax xs)(k:b6U a b 0 g):
  Dx (AP fm xs++(GS 4 (CF (AP fm xs))++LC g),(a:Int),(b:Int),())=some (Cp (Fb xs) ch a b,0):=by
 subst w;have m:(AQ g).length=g.length:=by simp[AQ]
 have t:=a0s g 0 k;have r:=KZ c;have y:=Ph n c f;have v:=QK n c f (R:=LC g) (by omega);have i:(AP fm (AQ g)++GS 4 (CF (AP fm (AQ g)))).length=(AP fm (AQ g)).length+4:=by simp[ET]
 have h:=bQ (fm:=fm) u (all:=g) (by omega) (B:=AP fm (AQ g)++(GS 4 (CF (AP fm (AQ g)))++LC g)) (Hd:=AP fm (AQ g)++GS 4 (CF (AP fm (AQ g)))) (by simp only[lN,ET];omega)
  (pl:=RZ fm (AQ g) (Et fm (AQ g)) ((AP fm (AQ g)).length+4)) rfl rfl rfl d rfl c l g [] [] [] (by simp) (by simp[LC]) c k rfl
 have e:Al Ct (AP fm (AQ g)++(GS 4 (CF (AP fm (AQ g)))++LC g),(((AP fm (AQ g)++GS 4 (CF (AP fm (AQ g)))).length+(LC g).length:Nat):Int),((Ax (AQ g):Nat):Int),Cf (AQ g),(g.length:Int),(g.length:Int),Cp (Fb (AQ g)) ch a (min b (Ax (AQ g))),RZ fm (AQ g) (Et fm (AQ g)) ((AP fm (AQ g)).length+4),((a:Int),(b:Int),()),())=some (D9 (Cp (Fb (AQ g)) ch a (min b (Ax (AQ g))),())):=
  Ag (by simp only[Ct,rE,cF])
 rw[A9,e,Sa (b:=min b (Ax (AQ []))) (by simp[AQ,Ax]),L0 hb,i]at h;have j:(Cf (AQ g)).length=g.length:=by simp[Cf,m]
 have o:A3 ((a:Int)<0)=false:=decide_eq_false (by omega);have p:A3 ((a:Int) > (b:Int))=false:=decide_eq_false (by omega);have q:A3 ((b:Int) > (RZ fm (AQ g) (Et fm (AQ g)) ((AP fm (AQ g)).length+4)).2.2.2.1)=false:=decide_eq_false (by show ¬ (b:Int) > ((Ax (AQ g):Nat):Int);omega);unfold Dx;simp only[v,oB,show((0:Int) != 0)=false from rfl,cF,o,p,q];simp only[RZ,j];erw[h];rfl
theorem YW(a b:Nat):∀(xs:List Pc)(st:Nat),b6U a b st (xs.map fun x=>(x,x.2.2))
 | [],_=>trivial
 |x::xs,st=>⟨rfl,fun _ _ _=>rfl,YW a b xs _⟩
theorem a9e{s t:BitVec 16}(h:Wo s=Wo t):s=t:=by
 have e:Wo (s ^^^ t)=0:=by rw[a2t,h];simp
 have:=congrArg (· ^^^ t) (a5z e)
 simpa[C1]using this
theorem b6V{b:Bool}{s t:BitVec 16}(h:pY s b=pY t b):s=t:=by
 have:=congrArg (· ^^^ b4U b) (a9e h)
 simpa[C1]using this
theorem a9f:∀(L:List Bool){s t:BitVec 16},L.foldl pY s=L.foldl pY t->s=t
 | [],_,_,h=>h
 |_::L,_,_,h=>b6V (a9f L h)
theorem a9g:∀(k:Nat){s t:BitVec 16},gJ Wo k s=gJ Wo k t->s=t
 |0,_,_,h=>h
 |k+1,_,_,h=>a9e (a9g k h)
theorem b6W{a y:Int}(f:EU a)(b:EU y)(h:a5A (gL a)=a5A (gL y)):a=y:=by
 have hb:∀t,t<=7->a.toNat.testBit t=y.toNat.testBit t:=fun t k=>by
  have g:=QM (gL a) (t+8);have c:=QM (gL y) (t+8);rw[h,c,decide_eq_true (by omega),E5,E5,YV,YV,decide_eq_true (by omega),E5,E5,show 7-(15-(t+8))=t from by omega]at g;exact g.symm
 have:a.toNat=y.toNat:=by
  apply Nat.eq_of_testBit_eq;intro t;by_cases k:t<=7;exact hb t k;have d:2^8<=2^t:=D6 (by omega) (by omega);rw[L4 (by unfold EU at f;omega),L4 (by unfold EU at b;omega)]
 unfold EU at f b;omega
theorem a8d{p t:LI}{a y:Int}(k:EU a)(b:EU y)(h:y≠a)(f:(NV (p++a::t)).foldl pY 0=0):(NV (p++y::t)).foldl pY 0≠0:=fun e=>by
 unfold NV at f e;rw[G5,D0,C9,C9]at f e;have e:=a9f _ (e.trans f.symm);have g:∀c,(gL c).length=8:=fun c=>by simp[gL]
 rw[b1i (gL y) _ (by rw[g];omega),b1i (gL a) _ (by rw[g];omega),g,g]at e;have e:=a9g 8 e
 have:=congrArg ((p.flatMap gL).foldl pY 0 ^^^ ·) e
 exact h (b6W b k (by simpa[<-C1]using this))
theorem b6X{b:BI}{fm:AL}(g1:Ba b<=64)(P:1<=fm.1/\fm.1<=1048576)(l:fm.2.1=((b.2.1.length:Nat):Int)){st:Nat}(g4:st+Ba b<=4194304){effort:Int}(V:0<=effort)(Z:effort<=3)
  {x:Pc}(hx:b1d fm st x)(E:x.2.1=b)(hm:Ep (b,fm,(st:Int),effort)=some (x.1,0)):
  ∃(O:LI)(H:Nat),PC x.1=some O/\O.length+1=H/\H<x.2.2.length/\(∀c∈x.2.2,EU c)/\∀(u v:LI)(a y:Int),x.2.2=u++a::v->H<=u.length->EU y->y≠a->Cs (u++y::v)=some (Vc,0,5):=by
 obtain⟨h1,h2,g0,h4,L,h6,h7,M,h9,X,Y⟩:=hx;subst E;obtain⟨rate,ch,bits,u⟩:=fm;simp only at P l M;subst l M;obtain⟨g,m1,m2,m3,m4,T,U,m7⟩:=made h7 (by omega) (rate:=rate) (start:=(st:Int)) (effort:=effort) P (by omega) V Z;have r:x.1=((st:Int),g):=by have:=hm.symm.trans m1;simpa using this
 have o:=m7 (st:Int) (by omega);obtain⟨d,l,C⟩:=Tg o;have q:Fx ((st:Int),g)=some true:=by rw[b4d U,o];rfl
 obtain⟨f,S,k2,K,k4,k5⟩:=YJ q d T (fun s Q=>⟨U s Q,C s Q⟩);have I:f.length<=8:=by have:=congrArg A8 S;simp only[C8]at this;rw[this];exact T
 have z:=b6P d S k2 K I;have g2:=RV d K;have j:=b6Q d K;have g3:=QF (Ol ((st:Int),g) (Ay f));have B:x.2.2=Ic ((st:Int),g) (Ay f):=by rw[r,k5]at L;simpa using L.symm
 have i:Ic ((st:Int),g) (Ay f)=Ol ((st:Int),g) (Ay f)++[FJ (Ol ((st:Int),g) (Ay f)) / 256,FJ (Ol ((st:Int),g) (Ay f))%256]:=rfl;have N:EU (FJ (Ol ((st:Int),g) (Ay f)) / 256):=⟨by omega,by omega⟩;have t:EU (FJ (Ol ((st:Int),g) (Ay f))%256):=⟨by omega,by omega⟩;have G:=(a5C j N t).2 (by omega);rw[<-i]at G;have k:∀c∈Ic ((st:Int),g) (Ay f),EU c:=by
  intro c h;rw[i]at h;simp only[mA,mC,D4,or_false]at h;rcases h with h|rfl|rfl;exact j c h;exact N;exact t
 have p:(Ic ((st:Int),g) (Ay f)).length=(BA ((st:Int),g) (IC (Ay f)).length).length+(IC (Ay f)).length+2:=by rw[i];simp[Ol];omega
 have m:(Ic ((st:Int),g) (Ay f)).take (BA ((st:Int),g) (IC (Ay f)).length).length=BA ((st:Int),g) (IC (Ay f)).length:=by
  rw[i];simp only[Ol,aA];exact P6
 have A:(BA ((st:Int),g) (IC (Ay f)).length).length=(Ab.hb ((st:Int),g) (IC (Ay f)).length).length+1:=by simp[BA]
 rw[B];refine⟨_,_,by rw[r];exact z,rfl,by omega,k,fun u v a y e hu R F=>?_⟩;have w:EU a:=k a (by rw[e];simp);rw[e]at G p m;refine a5D d (n:=(IC (Ay f)).length) (by omega) (by simpa using p) ?_ (fun c t=>?_) (a8d w R F G);have D:(BA ((st:Int),g) (IC (Ay f)).length).length<=u.length:=by rw[A];exact hu
 rw[J4 D]at m|-;exact m;rcases mA.1 t with h|h;exact k c (by rw[e];simp[h]);rcases mC.1 h with rfl|h;exact R;exact k c (by rw[e];simp[h])
theorem b4J(a b:List Pc):Ax (a++b)=Ax a+Ax b:=by simp[Ax]
theorem YX{fm:AL}:∀{a b:List Pc}{st:Nat},Ie fm st (a++b)->Ie fm st a/\Ie fm (st+Ax a) b
 | [],_,_,h=>⟨trivial,by simpa[Ax]using h⟩
 |x::a,b,st,h=>by
  obtain⟨g,f⟩:=YX (a:=a) h.2;exact⟨⟨h.1,g⟩,by simpa[Ax,I5]using f⟩
theorem a9h{a b:Nat}:∀{A C:List (Pc×List Int)} {st:Nat},b6U a b st A->b6U a b (st+Ax (AQ A)) C->b6U a b st (A++C)
 | [],_,_,_,h=>by simpa[AQ,Ax]using h
 |z::A,C,st,⟨g,f,k⟩,h=>⟨g,f,a9h k (by simpa[AQ,Ax,I5]using h)⟩
theorem a9i{fm:AL}{ch:Nat}{l:LI}{sz h:Nat}{k:Int}:∀{xs:List Pc}{st:Nat},a8b fm l ch sz h k st xs->∀x∈xs,∃g,g<h/\Ep (x.2.1,fm,(g:Int),k)=some (x.1,0)/\x.1.1=(g:Int)
 | [],_,_,x,f=>by simp at f
 |y::xs,st,⟨a1,d,a,b,c⟩,x,f=>by
  rcases mC.1 f with rfl|f;exact⟨st,a1,a,b.1⟩;exact a9i c x f
def PO(xs:List Pc):List (Pc×List Int):=xs.map fun x=>(x,x.2.2)
def YY(zF:List Pc)(x:Pc)(q:List Int)(zG:List Pc):List (Pc×List Int):=PO zF++(x,q)::PO zG
theorem nD(zF:List Pc)(x:Pc)(q:LI)(zG:List Pc):AQ (YY zF x q zG)=zF++x::zG:=by simp[AQ,YY,PO,Function.comp_def]
theorem b4K(zF:List Pc)(x:Pc)(q:LI)(zG:List Pc):LC (YY zF x q zG)=Au zF++(q++Au zG):=by simp[LC,YY,PO,Au,H2]
theorem b1n{fm:AL}(y:NU fm){xs zF zG:List Pc}{x:Pc}(d:Ie fm 0 xs)(f:xs.length<=256)(a:zF++x::zG=xs){q:LI}(hq:q.length=x.2.2.length)(t:Cs q=some (Vc,0,5)):
  Ek (AP fm xs++(GS 4 (CF (AP fm xs))++(Au zF++(q++Au zG))))=some (mZ,5):=by
 obtain⟨B,k⟩:∃B,AP fm xs++(GS 4 (CF (AP fm xs))++(Au zF++(q++Au zG)))=B:=⟨_,rfl⟩;have D:=KZ d;have F:=Ph y d f;have e:(Au zF++(q++Au zG)).length=(Au xs).length:=by rw[<-a];simp[Au,hq]
 have z:=QK y d f (R:=Au zF++(q++Au zG)) (by omega);have b:(AP fm xs++GS 4 (CF (AP fm xs))).length=(AP fm xs).length+4:=by simp[ET]
 have C:B.length=(AP fm xs).length+4+(Au xs).length:=by rw[<-k,<-e];simp[ET];omega
 obtain⟨pl,g⟩:∃pl,RZ fm xs (Et fm xs) ((AP fm xs).length+4)=pl:=⟨_,rfl⟩;have c:Ie fm 0 (zF++x::zG):=by rw[a];exact d
 obtain⟨E,G⟩:=YX c;have h:=bN (fm:=fm) (tail:=x::zG) f (B:=B) (Hd:=AP fm xs++GS 4 (CF (AP fm xs))) (Z:=q++Au zG) (by omega) (pl:=pl) (by rw[<-g];rfl) (by rw[<-g];rfl) (by rw[<-g];rfl) (by rw[<-g,b];rfl) mZ zF [] (by simpa using a) (by rw[<-k];simp[Au]) E (by simp[Ax]);rw[A9]at h;have v:=YT (zF:=zF) (zG:=zG) x;rw[a,<-hq]at v;obtain⟨u,A⟩:=YS (B:=B) (P:=(AP fm xs++GS 4 (CF (AP fm xs)))++Au zF) (p:=q) (R:=Au zG) (by rw[<-k];simp) (by omega) (pl:=pl) (i:=(zF.length:Int)) (by rw[<-g];exact v) ((Ax zF:Nat):Int) t (by decide);rw[lN]at A;have m:zF.length<xs.length:=by rw[<-a];simp
 have j:Al Dg (B,(((AP fm xs++GS 4 (CF (AP fm xs))).length+(Au zF).length:Nat):Int),Cf xs,(xs.length:Int),(zF.length:Int),mZ,pl,TE fm zF,())=some (F3 (5,mZ,())):=
  Ag (by
   have w:Az (Cf xs) (zF.length:Int)=some ((q.length:Nat):Int):=v;simp only[Dg,Cq m,cT,w,oB,TE];erw[A];rfl)
 rw[j,b]at h;have l:(Cf xs).length=xs.length:=by simp[Cf]
 have n:pl.2.2.2.2.2.1=(((AP fm xs).length+4:Nat):Int):=by rw[<-g];rfl
 have o:pl.2.1=Cf xs:=by rw[<-g];rfl
 have r:pl.1=fm:=by rw[<-g];rfl
 rw[g,k]at z;rw[k];unfold Ek;simp only[z,oB,show((0:Int) != 0)=false from rfl,cF,n,o,r,l];erw[h];rfl
theorem b1o{fm:AL}(K:NU fm){ch:Nat}(X:1<=ch/\ch<=8){xs zF zG:List Pc}{x:Pc}(e:Ie fm 0 xs)(k:xs.length<=256)(E:∀x∈xs,c2y ch x)(c:zF++x::zG=xs){q:LI}(hq:q.length=x.2.2.length)(F:Cs q=some (Vc,0,5)):
  Dx (AP fm xs++(GS 4 (CF (AP fm xs))++(Au zF++(q++Au zG))),((Ax zF:Nat):Int),((Ax zF+1:Nat):Int),())=some ([],5):=by
 obtain⟨B,j⟩:∃B,AP fm xs++(GS 4 (CF (AP fm xs))++(Au zF++(q++Au zG)))=B:=⟨_,rfl⟩;have V:=KZ e;have hT:=Ph K e k;have t:(Au zF++(q++Au zG)).length=(Au xs).length:=by rw[<-c];simp[Au,hq]
 have L:=QK K e k (R:=Au zF++(q++Au zG)) (by omega);have v:(AP fm xs++GS 4 (CF (AP fm xs))).length=(AP fm xs).length+4:=by simp[ET]
 have U:B.length=(AP fm xs).length+4+(Au xs).length:=by rw[<-j,<-t];simp[ET];omega
 obtain⟨pl,g⟩:∃pl,RZ fm xs (Et fm xs) ((AP fm xs).length+4)=pl:=⟨_,rfl⟩;have I:(YY zF x q zG).length=xs.length:=by rw[<-c];simp[YY,PO]
 have f:AQ (YY zF x q zG)=xs:=by rw[nD,c]
 have r:AQ (PO zF)=zF:=by simp[PO,AQ,Function.comp_def]
 have o:LC (PO zF)=Au zF:=by simp[PO,LC,Au,H2]
 have H:(PO zF).length=zF.length:=by simp[PO]
 have m:Ie fm 0 (zF++x::zG):=by rw[c];exact e
 obtain⟨r1,r2⟩:=YX m;have z:pl.2.2.2.2.2.1=(((AP fm xs).length+4:Nat):Int):=by rw[<-g];rfl
 have d:pl.2.1=Cf xs:=by rw[<-g];rfl
 have A:pl.1=fm:=by rw[<-g];rfl
 have l:pl.2.2.1=Ko xs:=by rw[<-g];rfl
 have C:pl.2.2.2.1=((Ax xs:Nat):Int):=by rw[<-g];rfl
 have h:=bQ (fm:=fm) X (all:=YY zF x q zG) (by omega) (B:=B) (Hd:=AP fm xs++GS 4 (CF (AP fm xs))) (by omega)
  (pl:=pl) A (by rw[f];exact d) (by rw[f];exact l) (a:=Ax zF) (b:=Ax zF+1) (by omega) (D:=Fb xs) (by rw[f]) (by rw[f];exact e) (by rw[f];exact E) (PO zF) [] ((x,q)::PO zG) (q++Au zG) rfl (by rw[<-j,o];simp[LC]) (by rw[r];exact r1) (YW _ _ zF 0) rfl
 rw[A9,r,o,H,I,f]at h;have G:=YT (zF:=zF) (zG:=zG) x;have n:=a2r (zF:=zF) (zG:=zG) x;rw[c,<-hq]at G;rw[c]at n;obtain⟨u,N⟩:=YS (B:=B) (P:=(AP fm xs++GS 4 (CF (AP fm xs)))++Au zF) (p:=q) (R:=Au zG) (by rw[<-j];simp) (by omega) (pl:=pl) (i:=(zF.length:Int)) (by rw[d];exact G) ((Ax zF:Nat):Int) F (by decide);rw[lN]at N;have y:zF.length<xs.length:=by rw[<-c];simp
 have Z:=RY e;have M:=r2.1.2.2.2.2.2.2.1.2.2.2.2.1;have Y:Ax zF+Ba x.2.1<=Ax xs:=by rw[<-c,b4J];simp[Ax]
 have w1:zD .i64 (((Ax zF:Nat):Int)+((Ba x.2.1:Nat):Int))=((Ax zF+Ba x.2.1:Nat):Int):=by rw[Ae (by omega)];omega
 have mx:EA ((Ax zF:Nat):Int) ((Ax zF:Nat):Int)=((Ax zF:Nat):Int):=by rw[Vo];omega
 have mn:GZ ((Ax zF+1:Nat):Int) ((Ax zF+Ba x.2.1:Nat):Int)=((Ax zF+1:Nat):Int):=by rw[Qv];omega
 have T:A3 (((Ax zF:Nat):Int)<((Ax zF+1:Nat):Int))=true:=decide_eq_true (by omega);rw[Ag (s:=(B,(((AP fm xs++GS 4 (CF (AP fm xs))).length+(Au zF).length:Nat):Int),((Ax zF:Nat):Int),Cf xs,(xs.length:Int),(zF.length:Int),Cp (Fb xs) ch (Ax zF) (min (Ax zF+1) (Ax zF)),pl,(((Ax zF:Nat):Int),((Ax zF+1:Nat):Int),()),())) (b:=F3 (5,[],())) (by
   simp only[Ct,Cq y,cT,G,l,n,oB,w1,mx,mn,T];erw[N];rfl),v,Sa (b:=min (Ax zF+1) (Ax (AQ []))) (by simp[AQ,Ax])]at h
 have w:(Cf xs).length=xs.length:=by simp[Cf]
 have O:A3 (((Ax zF:Nat):Int)<0)=false:=decide_eq_false (by omega);have Q:A3 (((Ax zF:Nat):Int) > ((Ax zF+1:Nat):Int))=false:=decide_eq_false (by omega);have S:A3 (((Ax zF+1:Nat):Int) > pl.2.2.2.1)=false:=decide_eq_false (by rw[C];omega);rw[g,j]at L;rw[j];unfold Dx;simp only[L,oB,show((0:Int) != 0)=false from rfl,cF,O,Q,S,z,d,w];erw[h];rfl
theorem a5F{xs:List Pc}{fm:AL}(k:xs.length<=256){t:a7X}(a:t=TE fm xs)(b:LI)(c e:Int)(i:LI)(j l:Int)(m:LI)(h:BL)(g:AL):∀(zG zF:List Pc),zF++zG=xs->Ie fm (Ax zF) zG->(Au zF).length<=700800*zF.length->
  Al Ht (b,c,e,i,j,l,(((Au zF).length:Nat):Int),(zF.length:Int),m,t,h,g,())=some (b,c,e,i,j,l,(((Au xs).length:Nat):Int),m,t,h,g,())
 | [],zF,f,_,_=>by
  obtain rfl:zF=xs:=by simpa using f
  have d:A3 ((zF.length:Int)<((A8 t.2.2.2.2.1:Nat):Int))=false:=by rw[a];simp[TE]
  exact Ag (by simp only[Ht,d,cF])
 |x::zG,zF,f,u,hb=>by
  obtain⟨⟨v,y,z,A,p,B,C,D,E,n,o⟩,hr2⟩:=u;have d:A3 ((zF.length:Int)<((A8 t.2.2.2.2.1:Nat):Int))=true:=by rw[a,<-f];simp[TE];omega
  have q:zF.length<xs.length:=by rw[<-f];simp
  have r:Az t.2.2.2.2.1 (zF.length:Int)=some x.1:=by
   have:=QJ (zF.map (·.1)) x.1 (zG.map (·.1))
   rw[C8]at this;rw[a,<-f];show Az ((zF++x::zG).map (·.1)) _=_;rw[pA,D8];exact this
  have w:zD .i64 ((((Au zF).length:Nat):Int)+((x.2.2.length:Nat):Int))=(((Au (zF++[x])).length:Nat):Int):=by rw[GY,lN,Ae (by omega)];omega
  rw[Ai (s':=(b,c,e,i,j,l,(((Au (zF++[x])).length:Nat):Int),(((zF++[x]).length:Nat):Int),m,t,h,g,())) (by
   simp only[Ht,d,cT,r,oB,p,w,Aa (show zF.length<1000000 by omega)]
   simp)]
  exact a5F k a b c e i j l m h g zG (zF++[x]) (by simpa using f) (by rw[GR];exact hr2) (by rw[GY];simp only[lN,I0];omega)
theorem a9j{a b:Nat}{zF zG:List Pc}{x:Pc}{q:LI}(hq:q.length=x.2.2.length)(h:a<b->a<Ax zF+Ba x.2.1->Ax zF<b->False):b6U a b 0 (YY zF x q zG):=
 a9h (YW a b zF 0) ⟨hq,fun c f k=>by
  have g:AQ (PO zF)=zF:=by simp[PO,AQ,Function.comp_def]
  rw[J8,g]at f k;exact(h c f k).elim,YW a b zG _⟩
theorem pZ(x:AL×(List Int×(Int×Int×Int×Int×Int)))(hw:0<=x.2.2.2.2.2.2/\x.2.2.2.2.2.2<256):Oc x=some true:=by
 obtain⟨fm,l,U,m,D,T,e⟩:=x;unfold Oc;simp only[b6R,oB,bT,cF];obtain⟨t,h1,h2⟩:=b1l fm l 120 (by omega);rw[show((120:Nat):Int)=120 from rfl]at h1;simp only[h1,oB];cases t with
 |false=>rfl
 |true=>
  simp only[bT,cF,oB];cases hz:(e==(0:Int))with
  |true=>rfl
  |false=>
   have h0:e≠0:=by simpa using hz
   obtain⟨B,hl,L,f,n,A,F⟩:=h2 rfl;obtain⟨f1,f2,f3,f4,f5,f6⟩:=id B;have E:1<=f/\f<=8:=by omega
   have h9:n<=200:=Nat.le_trans (Nat.le_mul_of_pos_right n E.1) (by omega);obtain⟨sz,a4,h,s1,s2,s3,s4,s5,s6,k1,z,k3,k4,G,k6⟩:=b6S B A F h9 L U m;simp only[cF,k6,oB,bT];have eL:((A8 (TE fm h).2.2.2.2.1:Nat):Int)=((h.length:Nat):Int):=by simp[TE]
   have eS:((A8 (TE fm h).2.2.2.1:Nat):Int)=((h.length:Nat):Int):=by simp[TE,KY]
   simp only[eL,eS];by_cases hx0:h=[];subst hx0;have h6:l=[]:=by rw[<-k4];rfl
   subst h6;rfl;have g9:1<=h.length:=by
    rcases h with-| ⟨y,ys⟩;exact absurd rfl hx0
    simp
   have e0:(((h.length:Nat):Int)==0)=false:=by simp;omega
   have e1:(((h.length:Nat):Int) != ((h.length:Nat):Int))=false:=by simp
   obtain⟨w,S,b3⟩:=b6q 16 (by omega) D;obtain⟨p,hp,a8⟩:=b6q 16 (by omega) T;rw[show((2^16-1:Nat):Int)=65535 from rfl]at S hp;have tw:D3 (w:Int) ((h.length:Nat):Int)=((w%h.length:Nat):Int):=rfl;obtain⟨g,x,zG,d,hd⟩:=nC h (w%h.length) (C3 _ g9);rw[<-hd]at tw;have N:Ie fm 0 (g++x::zG):=by rw[<-d];exact z
   obtain⟨r1,r2⟩:=YX N;rw[J8]at r2;obtain⟨hx,a9⟩:=r2;obtain⟨q1,q2,q3,q4,q5,q6,q7,q8,q9,b4,b5⟩:=id hx;have q:=a9c E.1 F s1 h 0 k1;obtain⟨k7,a2,P,Q⟩:=a9i k1 x (by rw[d];simp);have R:k7=Ax g:=by rw[q1]at Q;omega
   subst R;have a3:Ax h=Ax g+(Ba x.2.1+Ax zG):=by rw[d];simp[Ax]
   have K:fm.2.1=((x.2.1.2.1.length:Nat):Int):=by
    have:=(q x (by rw[d];simp)).1
    rw[this,A];simp[Fa]
   obtain⟨h3,H,g1,g2,g3,g4,g5⟩:=b6X (b:=x.2.1) q9 ⟨f1,f2⟩ K (st:=Ax g) (by omega) s5 s6 hx rfl P

   have hj:=C3 p (show 0<x.2.2.length-H by omega);obtain⟨u,a,v,o,g7⟩:=nC x.2.2 (H+p%(x.2.2.length-H)) (by omega);have X:=g4 a (by rw[o];simp);obtain⟨y1,y2,y3⟩:=c6P X hw h0;obtain⟨y,hy⟩:∃y,bits .u8 .xor a e=y:=⟨_,rfl⟩
   have k0:EU y:=by rw[<-hy];exact⟨y1,y2⟩
   have M:=g5 u v a y o (by omega) k0 (by rw[<-hy];exact y3);have r:(u++y::v).length=x.2.2.length:=by rw[o];simp
   have j:=b1n B z G d.symm r M;have i:=b1o B E z G q d.symm r M;have k:=a9d B E (by rw[nD];exact d.symm) z G q (a:=0) (b:=Ax g) (by omega) (by omega) (a9j (zG:=zG) r (by omega));have c:=a9d B E (by rw[nD];exact d.symm) z G q (a:=Ax g+Ba x.2.1) (b:=Ax h) (by omega) (by omega) (a9j (zG:=zG) r (by omega));rw[b4K]at k c;obtain⟨C,hC⟩:∃C,AP fm h++(GS 4 (CF (AP fm h))++(Au g++((u++y::v)++Au zG)))=C:=⟨_,rfl⟩;rw[hC]at j i k c;have eB:DI fm h=((AP fm h++GS 4 (CF (AP fm h)))++(Au g++u))++a::(v++Au zG):=by
    show AP fm h++(GS 4 (CF (AP fm h))++Au h)=_
    have:Au h=Au g++(x.2.2++Au zG):=by rw[d];simp[Au]
    rw[this,o];simp
   have hb:=KZ z;have hT:=Ph B z G;have a6:(Au h).length=(Au g).length+(x.2.2.length+(Au zG).length):=by rw[d];simp[Au]
   have k8:(DI fm h).length=((AP fm h).length+4)+(Au h).length:=by simp[DI,ET];omega
   obtain⟨I,hI⟩:∃I,((AP fm h++GS 4 (CF (AP fm h)))++(Au g++u)).length=I:=⟨_,rfl⟩;have a5:I=(AP fm h).length+4+(Au g).length+(H+p%(x.2.2.length-H)):=by rw[<-hI];simp[ET,g7];omega
   have O:(DI fm h).set I (bits .u8 .xor ((DI fm h).getD I 0) e)=C:=by
    rw[eB,<-hI,bM,b4H,hy,<-hC];simp
   have h4:Az (TE fm h).2.2.2.2.1 (g.length:Int)=some x.1:=by
    have:=QJ (g.map (·.1)) x.1 (zG.map (·.1))
    rw[C8]at this;rw[d];show Az ((g++x::zG).map (·.1)) _=_;rw[pA,D8];exact this
   have h5:Az (TE fm h).2.2.2.1 (g.length:Int)=some (((Ax g:Nat):Int),(((Au g).length:Nat):Int),()):=by
    have:=QJ (GQ 0 0 g) (((Ax g:Nat):Int),(((Au g).length:Nat):Int),()) (GQ (Ax g+Ba x.2.1) ((Au g).length+x.2.2.length) zG)
    rw[KY]at this;rw[d];show Az (GQ 0 0 (g++x::zG)) _=_;rw[Xq];simp only[GQ,J8];exact this
   have c1:zD .i64 (((h3.length:Nat):Int)+1)=(H:Int):=by rw[Ae (by omega)];omega
   have g6:=a5F (fm:=fm) G (t:=TE fm h) rfl l T e (DI fm h) ((g.length:Nat):Int) (H:Int) x.2.2 x.1 fm h [] rfl z (by simp[Au])
   have d1:A3 ((H:Int)>=((A8 x.2.2:Nat):Int))=false:=decide_eq_false (by omega);have d2:A3 ((((Au h).length:Nat):Int) > ((A8 (DI fm h):Nat):Int))=false:=decide_eq_false (by omega);have d3:A3 ((((Au g).length:Nat):Int)<0)=false:=decide_eq_false (by omega);have c2:zD .i64 ((((Au h).length:Nat):Int)-((A8 x.2.2:Nat):Int))=(((Au h).length-x.2.2.length:Nat):Int):=by rw[Ae (by omega)];omega
   have d4:A3 ((((Au g).length:Nat):Int) > (((Au h).length-x.2.2.length:Nat):Int))=false:=decide_eq_false (by omega);have d5:A3 (((Ax g:Nat):Int)<0)=false:=decide_eq_false (by omega);have d6:A3 (((Ba x.2.1:Nat):Int)<0)=false:=decide_eq_false (by omega);have b0:((f:Int)==0)=false:=by simp;omega
   have c3:zD .i64 (C6 ((l.length:Nat):Int) (f:Int))=(n:Int):=by
    rw[show C6 ((l.length:Nat):Int) (f:Int)=((l.length / f:Nat):Int)from rfl,F,K1 _ E.1,Ae (by omega)]
   have d7:A3 (((Ax g:Nat):Int) > (n:Int))=false:=decide_eq_false (by omega);have c4:zD .i64 ((n:Int)-((Ax g:Nat):Int))=((n-Ax g:Nat):Int):=by rw[Ae (by omega)];omega
   have d8:A3 (((Ba x.2.1:Nat):Int) > ((n-Ax g:Nat):Int))=false:=decide_eq_false (by omega);have c5:zD .i64 (((A8 x.2.2:Nat):Int)-(H:Int))=((x.2.2.length-H:Nat):Int):=by rw[Ae (by omega)];omega
   have b1:(((x.2.2.length-H:Nat):Int)==0)=false:=by simp;omega
   have tp:D3 (p:Int) ((x.2.2.length-H:Nat):Int)=((p%(x.2.2.length-H):Nat):Int):=rfl;have c6:zD .i64 ((zD .i64 ((zD .i64 ((zD .i64 (((A8 (DI fm h):Nat):Int)-(((Au h).length:Nat):Int)))+(((Au g).length:Nat):Int)))+(H:Int)))+((p%(x.2.2.length-H):Nat):Int))=(I:Int):=by
    rw[Ae (n:=((A8 (DI fm h):Nat):Int)-(((Au h).length:Nat):Int)) (by omega)];rw[Ae (n:=((A8 (DI fm h):Nat):Int)-(((Au h).length:Nat):Int)+(((Au g).length:Nat):Int)) (by omega)];rw[Ae (n:=((A8 (DI fm h):Nat):Int)-(((Au h).length:Nat):Int)+(((Au g).length:Nat):Int)+(H:Int)) (by omega)];rw[Ae (by omega)];omega
   have d9:A3 ((0:Int)<=(I:Int))=true:=decide_eq_true (B7 _);have dA:A3 ((I:Int)<((A8 (DI fm h):Nat):Int))=true:=decide_eq_true (by omega);have c7:zD .i64 (((Ax g:Nat):Int)+((Ba x.2.1:Nat):Int))=((Ax g+Ba x.2.1:Nat):Int):=by rw[Ae (by omega)];omega
   have c8:zD .i64 (((Ax g:Nat):Int)+1)=((Ax g+1:Nat):Int):=by rw[Ae (by omega)];omega
   have a7:(Ax g+Ba x.2.1)*f<=l.length:=by rw[F];exact B6 _ (by omega)
   have k9:Ax g*f<=l.length:=by rw[F];exact B6 _ (by omega)
   have c9:zD .i64 (((Ax g:Nat):Int)*(f:Int))=((Ax g*f:Nat):Int):=by rw[<-J2,Ae (by omega)]
   have cA:zD .i64 (((Ax g+Ba x.2.1:Nat):Int)*(f:Int))=(((Ax g+Ba x.2.1)*f:Nat):Int):=by rw[<-J2,Ae (by omega)]
   have dB:A3 ((0:Int)<=((Ax g*f:Nat):Int))=true:=decide_eq_true (B7 _);have dC:A3 (((Ax g*f:Nat):Int)<=((l.length:Nat):Int))=true:=decide_eq_true (by omega);have dD:A3 ((0:Int)<=(((Ax g+Ba x.2.1)*f:Nat):Int))=true:=decide_eq_true (B7 _);have dE:A3 ((((Ax g+Ba x.2.1)*f:Nat):Int)<=((l.length:Nat):Int))=true:=decide_eq_true (by omega);have ek:((TE fm h).2.1)=((Ax h:Nat):Int):=rfl;have Z:Cp l f 0 (Ax g)=l.take (Ax g*f):=by simp[Cp]
   have Y:Cp l f (Ax g+Ba x.2.1) (Ax h)=l.drop ((Ax g+Ba x.2.1)*f):=by unfold Cp;rw[k3,<-F,E7]
   rw[k4,Z]at k;rw[k4,Y]at c;have h7:(l.take (Ax g*f)).length+(l.drop ((Ax g+Ba x.2.1)*f)).length<2147483648:=by rw[D2,D5];omega
   have h8:0+(l.take (Ax g*f)).length<2147483648:=by rw[D2];omega
   have g0:=NO (x:=l.take (Ax g*f)++l.drop ((Ax g+Ba x.2.1)*f)) (y:=l.take (Ax g*f)++l.drop ((Ax g+Ba x.2.1)*f)) (by unfold short;rw[lN,D2,D5];omega);have V:((TE fm h).2.2.2.2.1.length:Int)=((h.length:Nat):Int):=eL;simp only[e0,e1,oB,cF,S,V,tw,h4,q5,show((0:Int) != 0)=false from rfl,g1,c1];erw[g6];simp only[oB,d1,d2,cF,AW (show 0+(DI fm h).length<2147483648 by omega),cT,h5,d3,c2,d4,q1,q2,d5,d6,A,b0,c3,d7,c4,d8,c5,b1,hp,tp,c6,d9,C2,A9,dA,B3,tN,O,j,c7,c8,ek];erw[k];simp only[oB];erw[c];simp only[oB];erw[i];simp only[oB,c9,cA,dB,dC,dD,dE,B3,cT,tN,AW h8,E7,AW h7,beq_self_eq_true,g0,decide_true]
end Go.Ab
namespace Go.Proofs.YtlddggjghmobhabGreatDoor
open Go.Ab Go.ChangeShapes Go.WideShapes Go.ChangeAt Go.RowKit
theorem YZ{α:Type}{f:Nat->Option (α×CK×List Nat)}:∀(L:List α)(i:Nat),(∀(j:Nat) x,L[j]?=some x->f (i+j)=some (x,[],[]))->Ak f L.length i=some (L,[],[])
 | [],_,_=>rfl
 |a::L,i,h=>by
  have g:=h 0 a rfl;have k:=YZ L (i+1) (fun j x b=>by have:=h (j+1) x (by simpa using b);rw[<-this];congr 1;omega);simp only[lC,Ak];simp only[N5]at g;rw[g,k];rfl
section
variable {H:Type} {enc:TypeId×Value->H} {P:Program} {w:World} {base:Nat} {spare:Nat->Bool} {held:Bool}
theorem qA{k:IntKind}{n:Nat}{t e:TypeId}{fuel:Nat}{cs:List Value}{L:List Int}{p:List MemPlace}(C:P.underlying t=some (.array n e))(v:P.underlying e=some (.int k))(u:P.cellsOf e=1)
  (h:DataW.trod enc P w base spare held fuel t cs=some (.agg (L.map fun i=>.lit (.int k i)),p)):L.length=n/\∀(j:Nat) x,L[j]?=some x->cs[j]?=some (.int k x):=by
 obtain⟨D,m,rfl,b,-,B,a⟩:=DataW.trod_array C h;simp only[pJ,DataW.agg.injEq]at b;have A:L.length=n:=by rw[<-B];simpa using congrArg A8 b.1
 refine⟨A,fun j x c=>?_⟩;obtain⟨z,-⟩:=lS.1 c;have g:=a j (by omega);rw[u]at g;obtain⟨y,d⟩:∃y,D[j]?=some y:=⟨_,lG (by omega)⟩;rw[d]at g;obtain⟨i,o,q,-⟩:=DataW.trod_int v g;have f:=congrArg (fun l=>l[j]?) b.1;simp only[O6,c,d,Option.map_some,q]at f;simp only[sj,DataW.lit.injEq,Lit.int.injEq,true_and]at f;subst f;have r:=congrArg (fun l=>l[0]?) o;simpa[J9,List.getElem?_take]using r
end
def a9k : String := (Rows.trackHurtRow.laid.map Prod.fst).headD ""
theorem c6Q:Tryz.prog.globalNamed a9k=some 2:=by kernel_rfl
def b9i:TypeId:=((Tryz.prog.globals[2]?).map (·.type)).getD 0
theorem b6Y:(Tryz.prog.globals[2]?).map (·.type)=some b9i:=by kernel_rfl
def b9j:TypeId:=match Tryz.prog.underlying b9i with
 |some (.array _ e)=>e
 |_=>0
theorem c6R:Tryz.prog.underlying b9i=some (.array 64 b9j):=by kernel_rfl
theorem c2z:Tryz.prog.underlying b9j=some (.int .u8):=by kernel_rfl
theorem c2A:Tryz.prog.cellsOf b9j=1:=by kernel_rfl
@[reducible] def laidTab:List (String×DataW Unit):=[(a9k,Rows.laid_math_bits_deBruijn64tab)]

theorem b9k {g:Nat} {t:Ty} {x:t.sJ} (h:G0 g=some ⟨t,x⟩):g=2/\(⟨t,x⟩:(t:Ty)×t.sJ)=⟨.arr 64 (.int .u8),VV⟩:=by
 by_cases e:g=2
 ·subst e
  exact⟨rfl,(Option.some.inj h).symm⟩
 ·have e2:(2==g)=false:=by rw[beq_eq_false_iff_ne];exact fun h=>e h.symm
  unfold G0 find at h
  rw[e2]at h
  exact absurd h (by simp[find])
theorem a2x{W:World}(h:laidMetH Tryz.prog laidTab W):∀g t x,G0 g=some ⟨t,x⟩->g<W.heap.size/\AO (Ad W none) t ((Src.at g 0).rd (Ad W none))=some (x,[],[]):=by
 rw[MakeChecks.laidMetH_plain _ _ _ (by kernel_rfl)]at h;obtain⟨ps,⟨r,y,m,q,v,w,b,c,d,a,_⟩,_,_⟩:=h;obtain rfl:=Option.some.inj (c6Q.symm.trans b);obtain rfl:=Option.some.inj (b6Y.symm.trans c);have n:(Rows.laid_math_bits_deBruijn64tab:DataW Unit)=.agg (VV.map fun i=>.lit (.int .u8 i)):=rfl;rw[n]at a;obtain⟨u,p⟩:=qA c6R c2z c2A a;have k:∀(j:Nat) x,VV[j]?=some x->W.cell? ⟨2,j,none⟩=some (.int .u8 x):=fun j x l=>by
  rw[World.var?_cell b d j];simpa using p j x l
 intro g t x o;obtain⟨rfl,e⟩:=b9k o;cases e;refine⟨a8w (k 0 0 rfl),?_⟩;exact YZ (f:=fun i=>AO (Ad W none) (.int .u8) fun j=>(Src.at 2 0).rd (Ad W none) (i*1+j)) VV 0 (fun j x l=>by
  have:=k j x l
  simp only[AO,Src.rd,Ad,J8,Nat.mul_one,N5,this,if_true])
set_option maxRecDepth 100000 in
theorem b4L (os:Os) (args:Array Value):laidMetH Tryz.prog laidTab ((World.doorLaid Tryz.prog 400 os).forCall (fun _ _=>0) ⟨#[],args,[]⟩).memory:=
 laidMetH_of_parts3 (fuel:=8) (laidMet_of_run' 8 (by kernel_rfl) (by kernel_rfl)) (by kernel_rfl) (by kernel_rfl)
end Go.Proofs.YtlddggjghmobhabGreatDoor
