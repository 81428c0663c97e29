/- Part of the proof: QUI. Conditions: as each statement tells. -/
import Derived.Test.YtkikcohfbelmeacGreatDoorRows
import Derived.ProofKit
import Derived.LaidMore
import Derived.LaidLaws
import Derived.LaidHandle
import Derived.LaidByTextLater
import Derived.Handed
import Derived.Test.YtkikcohfbelmeacGreatDoorME
noncomputable section
set_option linter.unusedSimpArgs false
set_option linter.unusedVariables false
open BitVec renaming ofInt->A4,toNat_ofInt->E6,toNat_and->H2,eq_of_getLsbD_eq->H7,getLsbD->I8,allOnes_xor->J8
open Bool renaming true->ka,false->kc,and_self->A6,not_false->B4,eq_false_iff->G5,and_false->L7
open Decidable renaming decide->A3
open Int renaming eq_ofNat_of_zero_le->A9,natCast_nonneg->B8,toNat->D0,tmod->D4,tdiv->E1,cast_ofNat_Int->E5,fdiv_eq_ediv_of_nonneg->G3,emod_eq_of_lt->K3
open List renaming length_nil->A7,append_eq->B3,getElem_mem->B6,flatMap_cons->B7,nil_append->C1,append_inj->C3,length->C4,map_cons->C8,replicate->C9,length_singleton->D2,length_map->D5,take->D6,mem_of_mem_drop->D7,mem_of_mem_take->D8,drop->D9,append_nil->E4,mem_map->E7,take_succ_eq_append_getElem->E9,all_cons->F0,take_append_drop->F1,getElem_zip->F3,getD_cons_succ->F6,replicate_succ->F7,range->F8,map_congr_left->F9,foldl_append->G6,sum_cons->G7,drop_eq_getElem_cons->G8,not_mem_nil->G9,mem_flatMap->H0,length_eq_zero_iff->H4,map_map->H8,getD->I4,eq_replicate_iff->I5,mem_append_right->I7,range_add->I9,drop_drop->J0,mem_iff_getElem->J1,flatMap_append->J6,take_length->K5,flatMap_map->K7,ext_getElem->K9,length_drop->L0,append->L3,foldl_cons->L4,range_succ->L6
open Nat renaming mul_le_mul->B9,pow_le_pow_right->C0,lt_trans->C2,mod_lt->C5,zero_add->C7,two_pow_pos->D3,mod_eq_of_lt->E2,le_refl->E3,mul_comm->E8,add_assoc->F2,and_two_pow_sub_one_eq_mod->F4,le_of_lt->F5,mul_mod->G4,div_eq_of_lt->H1,add_zero->I0,div_div_eq_div_mul->I3,add_mul_div_right->I6,mul_le_mul_right->J2,le_sub_one_of_lt->J3,div_lt_of_lt_mul->J4,mul_assoc->J5,lt_of_lt_of_le->J7,pos_of_ne_zero->J9,eq_zero_or_pos->K0,pow_succ->K1,lt_succ_of_lt->K4,zero_le->K8,pow_mul->L1,div_le_self->L5
open Option renaming some->kd,none->ke,bind_eq_some_iff->A8,none->K6
open Sum renaming inl->C6,inr->D1
namespace Go.Ab
def b8C:Option (List (List Int))->List (List Int)×Int|some r=>(r,0)|none=>([],6)
theorem YX(s:AH):∀(l:List AH)(c:List (List Int)),QW (l++[s]) c=(Ta (-1) s c).bind (QW l)|[],c=>(by show Ta (-1) s c=_;cases Ta (-1) s c<;>rfl)|t::l,c=>by simp only[List.cons_append,QW,YX s l];cases Ta (-1) s c<;>rfl
theorem a2C{n N:Nat}(f:n<=5000){l:List AH}(j:l.all (LZ (N:Int))=ka)(z:List (List Int))(e:Int):∀(k:Nat)(c:List (List Int)),k<=l.length->SZ c n->c.length=N->
  match QW (l.take k) c with
  |some r=>PY Jn l k (l,z,e,c,())=kd (.inl (l,z,e,r,()))
  |none=>∃d,PY Jn l k (l,z,e,c,())=kd (.inr (.ret,l,[],6,d,()))
 |0,c,_,_,_=>rfl
 |k+1,c,q,g,hcl=>by
  have m:k<l.length:=by omega
  have a:LZ (c.length:Int) l[k]=ka:=by grind
  obtain⟨b,i,p,h⟩:=b6k g f a (sign:=-1) (.inr rfl);rw[E9 m,YX];cases hst:Ta (-1) l[k] c with
  |none=>
   simp_all[PY,Jn]
  |some r=>
   rw[hst]at h;obtain⟨rfl,rfl⟩:=h;obtain⟨o,v⟩:=YW g a hst;have u:=a2C f j z e k i (by omega) o (by omega);simp_all[PY,Jn]
theorem b8D(c:List (List Int))(l:List AH):Rt (c,l)=kd (if KZ c/\Xz l (c.length:Int)then b8C (QW l c)else([],1)):=by unfold Rt;simp only[b8B,oB];by_cases hq:KZ c;have h:=lY hq;simp only[hq,decide_true,zQ,iO,true_and];by_cases hm:Xz l (c.length:Int);simp[hm];rw[b3f h (by have:=hq.2.2.1;omega) (by have:=hq.2.1;omega)];have:=a2C (N:=c.length) (by have:=hq.2.2.1;omega:(c.headD []).length<=5000) hm.2.2.2 [] 0 l.length c (E3 _) h rfl;(rw[K5]at this;simp[Ay (show l.length<2147483648 by have:=hm.2.2.1;omega)];cases hu:QW l c with|some r=>rw[hu]at this;simp only at this;erw[this];rfl|none=>rw[hu]at this;obtain⟨d,g⟩:=this;erw[g];rfl);simp_all;simp_all
def CF(b:CN):Nat:=(b.2.1.headD []).length
theorem Na(b:CN):Jg b=kd (CF b:Int):=by unfold Jg CF;obtain⟨d,c,u⟩:=b;cases c with|nil=>rfl|cons r c=>rfl
def Kx(b:CN):Prop:=4<=b.1/\b.1<=24/\1<=b.2.1.length/\b.2.1.length<=8/\1<=CF b/\CF b<=4096/\b.2.1.all (λr=>A3 (r.length=CF b)&&r.all λx=>Eo x b.1)=ka
instance (b:CN):Decidable (Kx b):=by unfold Kx;infer_instance
theorem rD{x w:Int}(h:4<=w/\w<=24):GK (x,w)=kd (Eo x w):=by have:=QJ (x:=x) (w:=w.toNat) (by omega);grind
theorem Ur(b:CN):LN b=kd (A3 (Kx b)):=by
 unfold LN KG;by_cases h1:4<=b.1;rotate_left;rw[dF (show ¬ Kx b from λh=>h1 h.1),dF h1];rfl;by_cases h2:b.1<=24;rotate_left;rw[dF (show ¬ Kx b from λh=>h2 h.2.1),dE h1,dF h2];rfl;by_cases h3:((b.2.1.length:Nat):Int)<1;rw[dF (show ¬ Kx b from λh=>by have:=h.2.2.1;omega),dE h1,dE h2,dE h3];rfl;by_cases h4:((b.2.1.length:Nat):Int) > 8;rw[dF (show ¬ Kx b from λh=>by have:=h.2.2.2.1;omega),dE h1,dE h2,dF h3,dE h4];rfl;have d:A3 (((b.2.1.length:Nat):Int)<1)=kc:=by simp_all
 have l:A3 (((b.2.1.length:Nat):Int) > 8)=kc:=by simp_all
 simp only[dE h1,dE h2,d,l,cT,cF,oB,bT,Na];by_cases h5:((CF b:Nat):Int)<1;rw[dF (show ¬ Kx b from λh=>by have:=h.2.2.2.2.1;omega),dE h5];rfl;by_cases h6:((CF b:Nat):Int) > 4096;rw[dF (show ¬ Kx b from λh=>by have:=h.2.2.2.2.2.1;omega),dF h5,dE h6];rfl;have m:A3 (((CF b:Nat):Int)<1)=kc:=by simp_all
 have o:A3 (((CF b:Nat):Int) > 4096)=kc:=by simp_all
 simp[m,o];have g:∀(i:Nat)(r:LI),short r->Al Hi (b.2.1,(b.2.1.length:Int),(i:Int),r,(r.length:Int),(0:Int),b,())=kd (bif r.all (λx=>Eo x b.1)then C6 (b.2.1,(b.2.1.length:Int),(i:Int),b,())else D1 (kc,())):=λi r p=>by
  have:=Bp (f:=Hi) r (λj=>(b.2.1,(b.2.1.length:Int),(i:Int),r,(r.length:Int),(j:Int),b,())) (λx=>Eo x b.1) (bt:=C6 (b.2.1,(b.2.1.length:Int),(i:Int),b,())) (bf:=D1 (kc,()))
   (λj h a=>by simp only[Hi,Cn h,cT,Ad h,oB,rD ⟨h1,h2⟩,a,bT,cF,Aa (C2 h p)])
   (λj h a=>by simp_all[Hi,Ad,rD])
   (by simp_all[Hi])
  omega
 have k:=Bp (f:=Hj) b.2.1 (λi=>(b.2.1,(b.2.1.length:Int),(i:Int),b,())) (λr=>A3 (r.length=CF b)&&r.all λx=>Eo x b.1) (bt:=C6 ()) (bf:=D1 (kc,()))
  (λi h a=>by
   simp only[HC,dT]at a;have e:((((b.2.1[i]).length:Nat):Int) != ((CF b:Nat):Int))=kc:=by simp_all
   have c:=g i b.2.1[i] (by unfold short;omega);rw[a.2,cT]at c;simp only[Hj,Cn h,cT,Ad h,oB,Na,e,cF,c,Aa (show i<1000000 by omega)])
  (λi h a=>by
   by_cases hl:(b.2.1[i]).length=CF b;have e:((((b.2.1[i]).length:Nat):Int) != ((CF b:Nat):Int))=kc:=by simp_all
   have c:=g i b.2.1[i] (by unfold short;omega);rw[dE hl,Bool.true_and]at a;rw[a,cF]at c;simp_all[Hj,Ad,Na];have e:((((b.2.1[i]).length:Nat):Int) != ((CF b:Nat):Int))=ka:=by grind
   simp only[Hj,Cn h,cT,Ad h,oB,Na,e])
  (by simp_all[Hj])
 simp at k;rw[k];by_cases hA:b.2.1.all (λr=>A3 (r.length=CF b)&&r.all λx=>Eo x b.1)=ka;rw[hA,dE (show Kx b from⟨h1,h2,by omega,by omega,by omega,by omega,hA⟩)];rfl;rw[G5.2 hA,dF (show ¬ Kx b from λh=>hA h.2.2.2.2.2.2)];rfl
def UU{α β:Type}(g:α->Option β):List α->Option (List β)|[]=>kd []|a::l=>(g a).bind λb=>(UU g l).bind λr=>kd (b::r)
theorem a7j{α β:Type}{g:α->Option β}:∀{l:List α}{r:List β},UU g l=kd r->r.length=l.length|[],r,h=>(by cases h;rfl)|a::l,r,h=>by simp only[UU,A8]at h;obtain⟨b,-,c,f,k⟩:=h;cases k;simp[a7j f]
theorem a2D{α β:Type}{g:α->Option β}:∀{l:List α}{r:List β},UU g l=kd r->∀a∈l,(g a).isSome=true|[],r,h,a,d=>(by cases d)|a::l,r,h,x,f=>by simp only[UU,A8]at h;obtain⟨b,k,i,c,e⟩:=h;rcases mC.1 f with rfl|f;rw[k];rfl;exact a2D c x f
def DY(f:AQ):Option CN:=
 if dB f/\((f.2.2.2.2.1.length:Nat):Int)=f.2.2.1.2.1 then
  (UU (λs=>FY s f.2.1) f.2.2.2.2.1).bind λrs=>
   if KZ rs/\Xz f.2.2.2.1 (rs.length:Int)then
    (QW f.2.2.2.1 rs).bind λch=>if Kx (f.2.2.1.2.2.1,ch,())then Option.some (f.2.2.1.2.2.1,ch,())else K6
   else K6
 else K6
def OV:CN:=(0,[],())
def d1l:Option CN->CN×Int|some b=>(b,0)|none=>(OV,1)
theorem iR(f:AQ)(all:List CP)(m:all.length<=8):∀(zO a:List CP)(g:List (List Int)),a++zO=all->g.length=a.length->(∀s∈zO,sM s)->Al Hq (all,(all.length:Int),(a.length:Int),g,OV,f,())=kd (match UU (λs=>FY s f.2.1) zO with|some rs=>C6 (g++rs,OV,f,())|none=>D1 (1,OV,()))|[],a,g,d,j,_=>by(have e:a=all:=by simpa using d);subst e;rw[Ae (b:=C6 (g,OV,f,())) (by simp only[Hq,a6C,cF])];simp[UU]|s::zO,a,g,d,j,h=>by(have o:=h s (by simp);have c:a.length<all.length:=by rw[<-d];simp);(have i:Ax all (a.length:Int)=kd s:=by rw[Ad c];subst d;simp);have k:=qE o f.2.1;simp only[UU];cases ho:FY s f.2.1 with|none=>rw[ho]at k;have b1:((1:Int) != 0)=ka:=rfl;exact Ae (by simp only[Hq,Cn c,cT,i,oB,k,b1];rfl)|some r=>rw[ho]at k;have l:((0:Int) != 0)=kc:=rfl;rw[Af (s':=(all,(all.length:Int),(((a++[s]).length:Nat):Int),g++[r],OV,f,())) (by simp only[Hq,Cn c,cT,i,oB,k,l,cF,Ay (show g.length+1<2147483648 by omega),Aa (show a.length<1000000 by omega)];simp)];rw[iR f all m zO (a++[s]) (g++[r]) (by simpa using d) (by simp[j]) (λt p=>h t (by simp[p]))];simp only[oB];cases UU (λs=>FY s f.2.1) zO<;>simp
theorem a7k{f:AQ}(d:∀s∈f.2.2.2.2.1,sM s):Ed f=kd (d1l (DY f)):=by
 unfold Ed DY;simp only[QS,oB];by_cases hf:dB f;rotate_left;simp only[hf,decide_false,B4,cT,oB,false_and,if_false];rfl;by_cases hl:((f.2.2.2.2.1.length:Nat):Int)=f.2.2.1.2.1;rotate_left;have e:(((f.2.2.2.2.1.length:Nat):Int) != f.2.2.1.2.1)=ka:=by simpa using hl
 simp only[hf,decide_true,bT,cF,oB,e,cT,hl,and_false,if_false];rfl;have e:(((f.2.2.2.2.1.length:Nat):Int) != f.2.2.1.2.1)=kc:=by simpa using hl
 have c:f.2.2.2.2.1.length<=8:=by have:=hf.1.2.2.2.1;omega
 have b:A3 ((0:Int)<=((f.2.2.2.2.1.length:Nat):Int))=ka:=by simp
 have h:=iR f f.2.2.2.2.1 c f.2.2.2.2.1 [] [] rfl rfl d;rw[A7]at h;rw[if_pos ⟨hf,hl⟩];simp only[hf,decide_true,bT,cF,oB,e,b,tN,Ay (show f.2.2.2.2.1.length<2147483648 by omega),A6,cT];erw[h];cases hm:UU (λs=>FY s f.2.1) f.2.2.2.2.1 with
 |none=>rfl
 |some g=>
  simp only[oB,C1,b8D];by_cases hq:KZ g/\Xz f.2.2.2.1 (g.length:Int)
  ·simp only[if_pos hq];cases hu:QW f.2.2.2.1 g with
   |none=>rfl
   |some a=>
    have k:((0:Int) != 0)=kc:=rfl;simp only[b8C,k,cF,Ur,oB];by_cases hb:Kx (f.2.2.1.2.2.1,a,());simp only[hb,decide_true,bT,cF,if_true];rfl;simp only[hb,decide_false,B4,cT,if_false];rfl
  simp only[if_neg hq];rfl
theorem rE{f:AQ}(h:∀s∈f.2.2.2.2.1,sM s):Fi f=kd (DY f).isSome:=by unfold Fi;rw[a7k h];cases DY f<;>rfl
theorem Ff{f:AQ}{b:CN}(h:DY f=kd b):dB f/\(f.2.2.2.2.1.length:Int)=f.2.2.1.2.1/\∀s∈f.2.2.2.2.1,(FY s f.2.1).isSome=ka:=by unfold DY at h;split at h;rename_i g;simp only[A8]at h;obtain⟨a,k,-⟩:=h;exact⟨g.1,g.2,a2D k⟩;cases h
theorem rF(x:AH):Xm (.pair (.int .i64) (.pair (.int .i64) (.pair (.int .i64) .unit))) x x=ka:=by(show((x.1==x.1)&&((x.2.1==x.2.1)&&((x.2.2.1==x.2.2.1)&&ka)))=ka);simp
theorem rG{x:List AH}(g:x.length<1000000):Gi (x,x)=kd ka:=by unfold Gi;have:=Bp (f:=CC) (β:=Unit ⊕ (Bool×Unit)) x (λi=>(x,x,(i:Int),())) (λ_=>ka) (bt:=C6 ()) (bf:=D1 (kc,())) (λi h _=>by simp only[CC,Cn h,cT,Ad h,oB,rF,bT,cF,Aa (show i<1000000 by omega)]) (λi h k=>by grind) (by simp_all[CC]);grind
theorem rH{f:AQ}(k:∀s∈f.2.2.2.2.1,sM s)(g:f.2.2.2.1.length<1000000)(a:f.2.2.2.2.1.length<1000000):DM (f,f)=kd ka:=by unfold DM;have:=Bp (f:=CD) (β:=Unit ⊕ (Bool×Unit)) f.2.2.2.2.1 (λi=>((i:Int),f,f,())) (λ_=>ka) (bt:=C6 ()) (bf:=D1 (kc,())) (λi h _=>by simp only[CD,Cn h,cT,Ad h,oB,Ud (k _ (B6 h)),decide_true,bT,cF,Aa (show i<1000000 by omega)]) (λi h b=>by grind) (by simp_all[CD]);simp at this;simp[rF,rG g];grind
theorem a7l{c:List (List Int)}:Oz c=kd (A3 (1<=c.length/\c.length<=8/\c.all (λr=>A3 (r.length=(c.headD []).length))=ka)):=by
 unfold Oz;by_cases h1:((c.length:Nat):Int)<1;grind;by_cases h2:((c.length:Nat):Int) > 8;grind;have k:0<c.length:=by omega
 have a:Ax c 0=kd (c.headD []):=by rw[show(0:Int)=((0:Nat):Int)from rfl,Ad k,Xi (d:=[]) k]
 have:=Bp (f:=Jw) (β:=Unit ⊕ (Bool×Unit)) c (λi=>(c,(i:Int),())) (λr=>A3 (r.length=(c.headD []).length)) (bt:=C6 ()) (bf:=D1 (kc,()))
  (λi h g=>by
   simp only[dT]at g;have e:((((c[i]).length:Nat):Int) != (((c.headD []).length:Nat):Int))=kc:=by simp_all
   simp only[Jw,Cn h,cT,Ad h,oB,a,e,cF,Aa (show i<1000000 by omega)])
  (λi h g=>by
   simp only[decide_eq_false_iff_not]at g;have e:((((c[i]).length:Nat):Int) != (((c.headD []).length:Nat):Int))=ka:=by grind
   simp only[Jw,Cn h,cT,Ad h,oB,a,e]) (by simp_all[Jw])
 grind
theorem Us{x w:Int}(h:4<=w/\w<=24):Nv (x,w)=kd (Eo x w):=by have:=Wi (x:=x) (w:=w.toNat) (by omega);grind
theorem UN(b:CN):Jy b=kd (A3 (Kx b)):=by
 unfold Jy;by_cases h1:b.1<4;rw[dE h1,dF (λh:Kx b=>by have:=h.1;omega)];rfl;by_cases h2:b.1 > 24;rw[dF h1,dE h2,dF (λh:Kx b=>by have:=h.2.1;omega)];rfl;simp only[dF h1,dF h2,cF,a7l,oB];by_cases h3:1<=b.2.1.length/\b.2.1.length<=8/\b.2.1.all (λr=>A3 (r.length=(b.2.1.headD []).length))=ka;rotate_left;rw[dF h3,dF (λh:Kx b=>h3 ⟨h.2.2.1,h.2.2.2.1,lA.2 λr e=>by
  have:=lA.1 h.2.2.2.2.2.2 r e
  simp only[HC]at this;exact this.1⟩)];rfl
 have l:0<b.2.1.length:=by omega
 have m:Ax b.2.1 0=kd (b.2.1.headD []):=by rw[show(0:Int)=((0:Nat):Int)from rfl,Ad l,Xi (d:=[]) l]
 simp only[dE h3,bT,cF,m,oB];by_cases h4:(((b.2.1.headD []).length:Nat):Int)<1;rw[dE h4,dF (λh:Kx b=>by have:=h.2.2.2.2.1;grind[CF])];rfl;by_cases h5:(((b.2.1.headD []).length:Nat):Int) > 4096;rw[dF h4,dE h5,dF (λh:Kx b=>by have:=h.2.2.2.2.2.1;grind[CF])];rfl;simp only[dF h4,dF h5,cF,oB];have hb:4<=b.1/\b.1<=24:=by omega
 have g:∀(i:Nat)(a:i<b.2.1.length),Al ED ((i:Int),(0:Int),b,())=kd (bif (b.2.1[i]).all (λx=>Eo x b.1)then C6 ((i:Int),b,())else D1 (kc,())):=λi a=>by
  have u:(b.2.1[i]).length=(b.2.1.headD []).length:=by simp_all
  have:=Bp (f:=ED) (β:=(Int×CN×Unit) ⊕ (Bool×Unit)) b.2.1[i] (λj=>((i:Int),(j:Int),b,())) (λx=>Eo x b.1) (bt:=C6 ((i:Int),b,())) (bf:=D1 (kc,()))
   (λj h c=>by simp only[ED,Ad a,oB,Cn h,cT,Ad h,Us hb,c,bT,cF,Aa (show j<1000000 by omega)])
   (λj h c=>by simp only[ED,Ad a,oB,Cn h,cT,Ad h,Us hb,c,B4])
   (by simp_all[ED,Ad])
  omega
 have k:=Bp (f:=Gz) (β:=Unit ⊕ (Bool×Unit)) b.2.1 (λi=>((i:Int),b,())) (λr=>r.all λx=>Eo x b.1) (bt:=C6 ()) (bf:=D1 (kc,()))
  (λi h c=>by
   have a:=g i h;rw[c,cT]at a;simp only[Gz,Cn h,cT];grind[Aa])
  (λi h c=>by
   have a:=g i h;rw[c,cF]at a;simp_all[Gz])
  (by simp_all[Gz])
 simp at k;rw[k];by_cases hA:b.2.1.all (λr=>r.all λx=>Eo x b.1)=ka;rw[hA,dE (p:=Kx b) (⟨hb.1,hb.2,h3.1,h3.2.1,by unfold CF;omega,by unfold CF;omega,lA.2 λr e=>by
  have o:=lA.1 h3.2.2 r e;have q:=lA.1 hA r e;simp_all[CF]⟩:Kx b)]
 rfl;rw[G5.2 hA,dF (p:=Kx b) (λh=>hA (lA.2 λr e=>by
  have:=lA.1 h.2.2.2.2.2.2 r e
  simp_all))]
 rfl
open IntKind renaming wrap->zN
theorem Ut(f:AH):LR f=kd (A3 (OD f)):=by unfold LR OD;grind
theorem Ws(l:List AH)(n:Int):KR (l,n)=kd (A3 (Xz l n)):=by
 unfold KR Xz;by_cases h1:n<1;grind;by_cases h2:n > 8;grind;by_cases h3:((l.length:Nat):Int) > 16;grind;have g:=Bp (f:=Ht) (β:=Unit ⊕ (Bool×Unit)) l (λi=>(l,n,(i:Int),())) (LZ n) (bt:=C6 ()) (bf:=D1 (kc,()))
  (λi h k=>by
   obtain⟨a1,o,p,q,r,u,v⟩:=HA.1 k;have a:A3 (l[i].1<0)=kc:=by simp_all
   have b:A3 (l[i].1>=n)=kc:=by simp_all
   have c:A3 (l[i].2.1<0)=kc:=by simp_all
   have d:A3 (l[i].2.1>=n)=kc:=by simp_all
   have e:(l[i].1==l[i].2.1)=kc:=by simp_all
   have j:A3 (l[i].2.2.1 < -1024)=kc:=by simp_all
   have m:A3 (l[i].2.2.1 > 1024)=kc:=by simp_all
   simp only[Ht,Cn h,cT,Ad h,oB,a,b,c,d,e,j,m,cF,Aa (show i<1000000 by omega)])
  (λi h k=>by
   simp only[Ht,Cn h,cT,Ad h,oB];grind[LZ])
  (by simp[Ht])
 grind
theorem a7m(c:List (List Int))(l:List AH):TR (c,l)=kd (A3 (KZ c/\Xz l (c.length:Int))):=by
 unfold TR;simp only[a7l,oB];by_cases hl:1<=c.length/\c.length<=8/\c.all (λr=>A3 (r.length=(c.headD []).length))=ka;rotate_left;rw[dF hl,dF (λh:KZ c/\_=>hl ⟨h.1.1,h.1.2.1,lA.2 λr a=>by
  have:=lA.1 h.1.2.2.2 r a
  simp_all⟩)]
 rfl;have e:Ax c 0=kd (c.headD []):=by rw[show(0:Int)=((0:Nat):Int)from rfl,Ad (show 0<c.length by omega),Xi (d:=[]) (by omega)]
 rw[dE hl];simp only[bT,cF,e,oB];by_cases h3:(((c.headD []).length:Nat):Int) > 4096;rw[dE h3,dF (λh:KZ c/\_=>by have:=h.1.2.2.1;omega)];rfl;rw[dF h3];simp only[cF,Ws,oB];by_cases hm:Xz l (c.length:Int);rotate_left;simp_all;rw[dE hm];simp only[bT,cF];have k:∀r∈c,r.length=(c.headD []).length:=λr a=>by simp_all
 have g:=Bp (f:=KV) c (λi=>(c,(i:Int),())) (λr=>r.all Aq) (bt:=C6 ()) (bf:=D1 (kc,()))
  (λi h b=>by
   have:=k c[i] (B6 h)
   simp only[KV,Cn h,cT,Ad h,oB,Ci (show short c[i]by unfold short;omega),b,bT,cF,Aa (show i<1000000 by omega)])
  (λi h b=>by
   have:=k c[i] (B6 h)
   simp only[KV,Cn h,cT,Ad h,oB,Ci (show short c[i]by unfold short;omega),b,B4])
  (by simp_all[KV])
 simp at g;rw[g];by_cases hA:c.all (λr=>r.all Aq)=ka;rw[hA,dE (⟨⟨hl.1,hl.2.1,by omega,lA.2 λr a=>by grind⟩,hm⟩:KZ c/\_)];rfl;rw[G5.2 hA,dF (λh:KZ c/\_=>hA (lA.2 λr a=>by
  have:=lA.1 h.1.2.2.2 r a
  simp_all))];rfl
theorem a1x{c:List (List Int)}{n:Nat}(h:SZ c n)(m:n<=5000)(l:c.length<=100):Pq c=kd c:=by
 have:=Cm (f:=Lv) (β:=List (List Int)×Unit) c (λi (a:List (List Int))=>(c,(i:Int),a,())) (λa x=>.inl (a++[x])) (λi a=>a.length=i) (λa=>(a,()))
  (λi k a d=>⟨λj g=>by
   simp at g;subst g;have o:=(h _ (B6 k)).1;have e:∀y:List Int,List.set ([([]:List Int)]:List (List Int)) 0 y=[y]:=λ_=>rfl;refine⟨?_,by grind⟩;simp only[Lv,Cn k,cT,Ad k,oB,e,B3,C1,D2];rw[Ay (by omega),cT,Ay (by omega),cT,Aa (show i<1000000 by omega)],λb hb=>by grind⟩)
  (λa d=>by simp_all[Lv]) (a:=[]) rfl
 simp_all[QQ,Pq,kM]
theorem b6l{c:List (List Int)}{n:Nat}(X:SZ c n)(Y:n<=5000){s:AH}{sign:Int}(u:sign=1\/sign=-1)(H:-1024<=s.2.2.1/\s.2.2.1<=1024)(a0:0<=s.1)(a1:s.1<(c.length:Int))(O:0<=s.2.1)(b1:s.2.1<(c.length:Int))(G:s.1.toNat≠s.2.1.toNat)
  {l:LI}(M:c.getD s.1.toNat []=l)(L:l.length=n):∀(k g j h:LI),j++k=l->j.length=h.length->k.length=g.length->k.all Aq=ka->g.all Aq=ka->
  if(fL sign s.2.2.1 k g).all Aq=ka then
   Al Ka (sign,(h.length:Int),c.set s.2.1.toNat (h++g),s,())=kd (.inl (c.set s.2.1.toNat (h++fL sign s.2.2.1 k g),()))
  else ∃B,Al Ka (sign,(h.length:Int),c.set s.2.1.toNat (h++g),s,())=kd (.inr (kc,B,())):=by
 have hb:s.2.1.toNat<c.length:=by omega
 have K:∀r,(c.set s.2.1.toNat r).getD s.2.1.toNat []=r:=λr=>iQ _ hb _ _;have I:∀r,(c.set s.2.1.toNat r).getD s.1.toNat []=l:=λr=>by grind
 have d:∀r,r.length=n->((c.set s.2.1.toNat r).getD 0 []).length=n:=λr Z=>by
  by_cases m:s.2.1.toNat=0;grind;rw[a7i _ (Ne.symm m)];grind[NB]
 have C:A3 ((0:Int)<(c.length:Int))=ka:=by grind
 have R:A3 ((0:Int)<=s.1)=ka:=by simp_all
 have D:A3 (s.1<(c.length:Int))=ka:=by simp_all
 have S:A3 ((0:Int)<=s.2.1)=ka:=by simp_all
 have E:A3 (s.2.1<(c.length:Int))=ka:=by simp_all
 intro k
 induction k with
 |nil=>
  intro g j h z q v _ _;have e:g=[]:=H4.1 v.symm;subst e;have F:h.length=n:=by simp_all
  have m:=d (h++[]) (by simp_all);rw[if_pos (by rfl)];refine Ae ?_
  simp only[Ka,List.length_set,C,zQ,m,F,a6C];rfl
 |cons x k A=>
  intro g j h z q v a b;cases g with
  |nil=>simp_all
  |cons y g=>
   simp only[F0,HC]at a b;have i:(h++y::g).length=n:=by grind
   have p:h.length<n:=by grind
   have T:I4 l (D0 (h.length:Int)) 0=x:=by rw[tN,<-q,<-z];simp
   have U:I4 (h++y::g) (D0 (h.length:Int)) 0=y:=by simp
   have P:A3 ((0:Int)<=(h.length:Int))=ka:=by simp
   have Q:A3 ((h.length:Int)<(n:Int))=ka:=Cn p;have m:=d _ i;have hv:=a7h u H a.1 b.1;have hw:zN .i64 ((h.length:Int)+1)=((h.length+1:Nat):Int):=Aa (by omega);have N:fL sign s.2.2.1 (x::k) (y::g)=La sign s.2.2.1 x y::fL sign s.2.2.1 k g:=rfl;have w:List.set (c.set s.2.1.toNat (h++y::g)) s.2.1.toNat (List.set (h++y::g) (D0 (h.length:Int)) (La sign s.2.2.1 x y))=c.set s.2.1.toNat (h++La sign s.2.2.1 x y::g):=by
    simp
   have o:(h++La sign s.2.2.1 x y::g).length=n:=by simp_all
   have V:I4 (h++La sign s.2.2.1 x y::g) (D0 (h.length:Int)) 0=La sign s.2.2.1 x y:=by simp
   have f:Ka (sign,(h.length:Int),c.set s.2.1.toNat (h++y::g),s,()) =
     bif !(Aq (La sign s.2.2.1 x y))then kd (.inr (D1 (kc,c.set s.2.1.toNat (h++La sign s.2.2.1 x y::g),())))
     else kd (.inl (sign,((h.length+1:Nat):Int),c.set s.2.1.toNat (h++La sign s.2.2.1 x y::g),s,())):=by
    simp_all[Ka,DN]
   cases hwv:Aq (La sign s.2.2.1 x y)with
   |false=>
    simp_all[Ae]
   |true=>
    rw[hwv]at f;have A:=A g (j++[x]) (h++[La sign s.2.2.1 x y]) (by simp_all) (by simp[q]) (by simp_all) a.2 b.2;rw[Af f,N];simp_all
theorem a9J{c:List (List Int)}{n:Nat}(k:SZ c n)(p:n<=5000){s:AH}(q:LZ (c.length:Int) s=ka){sign:Int}(a:sign=1\/sign=-1):∃b f,WZ (c,s,sign)=kd (b,f)/\match Ta sign s c with|some r=>b=ka/\f=r|none=>b=kc:=by(obtain⟨a1,e,j,l,v,m,o⟩:=HA.1 q;have d:=NB k (i:=s.1.toNat) (by omega);have u:=NB k (i:=s.2.1.toNat) (by omega);have hb:s.2.1.toNat<c.length:=by omega);(have g:c.set s.2.1.toNat (c.getD s.2.1.toNat [])=c:=by simp_all);have:=b6l k p a ⟨m,o⟩ a1 e j l (by omega) (rfl:c.getD s.1.toNat []=_) d.1 (c.getD s.1.toNat []) (c.getD s.2.1.toNat []) [] [] rfl rfl (by omega) d.2 u.2;rw[C1,g]at this;simp only[A7,nZ,C1,E5]at this;unfold WZ Ta;by_cases hA:(fL sign s.2.2.1 (c.getD s.1.toNat []) (c.getD s.2.1.toNat [])).all Aq=ka;simp_all;rw[if_neg hA]at this|-;obtain⟨f,h⟩:=this;simp_all
theorem cK{n N:Nat}(a:n<=5000){l:List AH}(m:l.length<=16)(i:l.all (LZ (N:Int))=ka):∀(k:Nat)(c:List (List Int)),k<=l.length->SZ c n->c.length=N->Al IT (l,(k:Int)-1,c,())=kd (match QW (l.take k) c with|some r=>C6 (r,())|none=>D1 ([],6,()))|0,c,_,_,_=>Ae rfl|k+1,c,q,f,hcl=>by(have j:k<l.length:=by omega);(have e:LZ (c.length:Int) l[k]=ka:=by grind);(obtain⟨b,h,p,g⟩:=a9J f a e (sign:=-1) (.inr rfl);rw[E9 j,YX];rw[show((k+1:Nat):Int)-1=(k:Int)from by omega];have d:A3 ((k:Int)>=0)=ka:=by simp);have w:zN .i64 ((k:Int)-1)=(k:Int)-1:=Ac (by omega);cases hst:Ta (-1) l[k] c with|none=>simp_all[Ae,IT,Ad]|some r=>rw[hst]at g;obtain⟨rfl,rfl⟩:=g;obtain⟨o,u⟩:=YW f e hst;rw[Af (s':=(l,(k:Int)-1,h,())) (by simp_all[IT,Ad])];rw[cK a m i k h (by omega) o (by omega)];rfl
theorem kZ(c:List (List Int))(l:List AH):MK (c,l)=kd (if KZ c/\Xz l (c.length:Int)then b8C (QW l c)else([],1)):=by unfold MK;simp only[a7m,oB];by_cases hq:KZ c/\Xz l (c.length:Int);have g:=lY hq.1;have h:=hq.2;rw[dE hq,if_pos hq];simp;rw[a1x g (by have:=hq.1.2.2.1;omega) (by have:=hq.1.2.1;omega)];have:=cK (N:=c.length) (by have:=hq.1.2.2.1;omega:(c.headD []).length<=5000) h.2.2.1 h.2.2.2 l.length c (E3 _) g rfl;rw[K5]at this;simp;rw[Ac (n:=(l.length:Int)-1) (by have:=h.2.2.1;omega),this];cases QW l c<;>rfl;grind
theorem Wt(f:AQ):KS f=kd (A3 (dB f)):=by
 unfold KS;simp only[Ut,Ws,oB];by_cases h0:OD f.2.2.1;rotate_left;rw[dF h0,dF (λh:dB f=>h0 h.1)];rfl;by_cases h1:1<=f.2.1;rotate_left;rw[dE h0,dF (λh:f.2.1>=1=>h1 h),dF (λh:dB f=>h1 h.2.1)];rfl;by_cases h2:f.2.1<=4096;rotate_left;rw[dE h0,dE (show f.2.1>=1 from h1),dF h2,dF (λh:dB f=>h2 h.2.2.1)];rfl;by_cases h3:0<=f.1;rotate_left;rw[dE h0,dE (show f.2.1>=1 from h1),dE h2,dF (λh:f.1>=0=>h3 h),dF (λh:dB f=>h3 h.2.2.2.1)];rfl;rw[Ac (n:=4194304-f.2.1) (by omega)];by_cases h4:f.1<=4194304-f.2.1;rotate_left;rw[dE h0,dE (show f.2.1>=1 from h1),dE h2,dE (show f.1>=0 from h3),dF h4,dF (λh:dB f=>h4 h.2.2.2.2.1)];rfl;rw[dE h0,dE (show f.2.1>=1 from h1),dE h2,dE (show f.1>=0 from h3),dE h4];simp only[cT];congr 1;exact decide_eq_decide.2 ⟨λh=>⟨h0,h1,h2,h3,h4,h⟩,λh=>h.2.2.2.2.2⟩
theorem Wu(f:AQ)(l:f.2.2.2.2.1.length<=8):∀(zO a:List CP)(g:List (List Int)),a++zO=f.2.2.2.2.1->g.length=a.length->(∀s∈zO,sM s)->Al EX ((a.length:Int),g,OV,f,())=kd (match UU (λs=>FY s f.2.1) zO with|some rs=>C6 (g++rs,OV,f,())|none=>D1 (kc,OV,()))|[],a,g,d,j,_=>by(have e:f.2.2.2.2.1.length=a.length:=by rw[<-d];simp);rw[Ae (b:=C6 (g,OV,f,())) (by simp only[EX,e,a6C,cF])];simp[UU]|s::zO,a,g,d,j,h=>by(have m:=h s (by simp);have c:a.length<f.2.2.2.2.1.length:=by rw[<-d];simp);(have i:Ax f.2.2.2.2.1 (a.length:Int)=kd s:=by rw[Ad c];congr 1;simp[<-d]);have k:=XV m f.2.1;simp only[UU];cases ho:FY s f.2.1 with|none=>rw[ho]at k;exact Ae (by simp only[EX,Cn c,cT,i,oB,k,B4];rfl)|some r=>rw[ho]at k;rw[Af (s':=((((a++[s]).length:Nat):Int),g++[r],OV,f,())) (by simp only[EX,Cn c,cT,i,oB,k,bT,cF,Ay (show g.length+1<2147483648 by omega),Aa (show a.length<1000000 by omega)];simp)];rw[Wu f l zO (a++[s]) (g++[r]) (by simpa using d) (by simp[j]) (λt o=>h t (by simp[o]))];simp only[oB];cases UU (λs=>FY s f.2.1) zO<;>simp
def c6n:Option CN->CN×Bool|some b=>(b,ka)|none=>(OV,kc)
theorem cL{f:AQ}(c:∀s∈f.2.2.2.2.1,sM s):DV f=kd (c6n (DY f)):=by
 unfold DV DY;simp only[Wt,oB];by_cases hf:dB f;rotate_left;simp only[hf,decide_false,B4,cT,oB,false_and,if_false];rfl;by_cases hl:((f.2.2.2.2.1.length:Nat):Int)=f.2.2.1.2.1;rotate_left;have e:(((f.2.2.2.2.1.length:Nat):Int) != f.2.2.1.2.1)=ka:=by simpa using hl
 simp only[hf,decide_true,bT,cF,oB,e,cT,hl,and_false,if_false];rfl;have e:(((f.2.2.2.2.1.length:Nat):Int) != f.2.2.1.2.1)=kc:=by simpa using hl
 have b:f.2.2.2.2.1.length<=8:=by have:=hf.1.2.2.2.1;omega
 have h:=Wu f b f.2.2.2.2.1 [] [] rfl rfl c;rw[A7]at h;rw[if_pos ⟨hf,hl⟩];simp only[hf,decide_true,bT,cF,oB,e];erw[h];cases hm:UU (λs=>FY s f.2.1) f.2.2.2.2.1 with
 |none=>rfl
 |some g=>
  simp only[oB,C1,kZ];by_cases hq:KZ g/\Xz f.2.2.2.1 (g.length:Int)
  ·simp only[if_pos hq];cases hu:QW f.2.2.2.1 g with
   |none=>rfl
   |some a=>
    have k:((0:Int) != 0)=kc:=rfl;simp only[b8C,k,cF,UN,oB];by_cases hb:Kx (f.2.2.1.2.2.1,a,());simp only[hb,decide_true,bT,cF,if_true];rfl;simp only[hb,decide_false,B4,cT,if_false];rfl
  simp only[if_neg hq];rfl
theorem rI{f:AQ}(h:∀s∈f.2.2.2.2.1,sM s):Hw f=kd (DY f).isSome:=by unfold Hw;rw[cL h];cases DY f<;>rfl
def a0t(s:BitVec 16):BitVec 16:=bif s.msb then(s <<< 1) ^^^ 32773#16 else s <<< 1
theorem b0U(s t:BitVec 16):a0t (s ^^^ t)=a0t s ^^^ a0t t:=by unfold a0t;grind
theorem b6m{s:BitVec 16}(h:a0t s=0):s=0:=by unfold a0t at h;cases hm:s.msb with|true=>rw[hm,cT]at h;have:=cG (λx=>I8 x 0) h;grind|false=>(rw[hm,cF]at h;refine H7 λi g=>?_);by_cases h15:i=15;grind;have:=cG (λx=>I8 x (i+1)) h;grind
theorem c6o:a0t 0=0:=by rfl
theorem rJ{s:BitVec 16}:∀{n:Nat},a1u a0t n s=0->s=0|0,h=>h|n+1,h=>b6m (rJ (n:=n) h)
theorem c0u:∀n:Nat,a1u a0t n 0=0|0=>rfl|n+1=>by show a1u a0t n (a0t 0)=0;rw[c6o,c0u n]
def b8E(b:Bool):BitVec 16:=bif b then 32768#16 else 0#16
def b8F(s:BitVec 16)(b:Bool):BitVec 16:=a0t (s ^^^ b8E b)
def b3H:List Bool->BitVec 16|[]=>0#16|b::w=>b8E b ^^^ (b3H w >>> 1)
theorem b8G(b:Bool)(j:Nat):(b8E b).getLsbD j=(b&&A3 (j=15)):=by cases b with|false=>simp[b8E]|true=>simp[b8E];rw[show(32768#16)=BitVec.ofNat 16 (2^15)from rfl,BitVec.getLsbD_ofNat,Nat.testBit_two_pow];grind
theorem a4G:∀(w:List Bool)(j:Nat),(b3H w).getLsbD j=(A3 (j<16)&&w.getD (15-j) kc)|[],j=>by simp[b3H]|b::w,j=>by rw[b3H,BitVec.getLsbD_xor,b8G,BitVec.getLsbD_ushiftRight,a4G w];by_cases h:j=15;subst h;simp;by_cases h2:j<16;rw[show 15-j=(15-(1+j))+1 from by omega,F6];simp[h,h2,show 1+j<16 from by omega];simp[h,h2,show ¬ (1+j<16)from by omega]
theorem b6n{w:List Bool}(h:w.length<=15):a0t (b3H w >>> 1)=b3H w:=by(have g:(b3H w >>> 1).msb=kc:=by simp);(unfold a0t;rw[g,cF];refine H7 λi f=>?_);grind[a4G]
theorem c6p:∀(w:List Bool)(s:BitVec 16),w.length<=16->w.foldl b8F s=a1u a0t w.length (s ^^^ b3H w)|[],s,_=>by simp[b3H,a1u]|b::w,s,h=>by rw[lC]at h;rw[L4,c6p w _ (by omega),b3H,<-BitVec.xor_assoc];show _=a1u a0t w.length (a0t (s ^^^ b8E b ^^^ (b3H w >>> 1)));rw[b0U,b6n (by omega)];rfl
theorem a7n{α:Type}(f g:α->Bool):∀(L:List α)(s t:BitVec 16),(L.map λj=>xor (f j) (g j)).foldl b8F (s ^^^ t)=(L.map f).foldl b8F s ^^^ (L.map g).foldl b8F t|[],_,_=>rfl|a::L,s,t=>by simp;rw[<-a7n f g L];congr 1;unfold b8F;rw[<-b0U];congr 1;(have:b8E (xor (f a) (g a))=b8E (f a) ^^^ b8E (g a):=by cases f a<;>cases g a<;>rfl);grind
theorem YY:∀(n:Nat)(s:BitVec 16),(C9 n kc).foldl b8F s=a1u a0t n s|0,_=>rfl|n+1,s=>by rw[F7,L4,YY n];show a1u a0t n (a0t (s ^^^ 0#16))=a1u a0t n (a0t s);rw[BitVec.xor_zero]
theorem c6q{w:List Bool}(h:w.length<=16)(g:ka∈w)(k m:Nat):(C9 k kc++(w++C9 m kc)).foldl b8F 0≠0:=by(rw[G6,G6,YY,YY,c0u,c6p w _ h];intro e;have e:=rJ (rJ e);have e:b3H w=0:=by simp_all);obtain⟨i,a,f⟩:=J1.1 g;have:=a4G w (15-i);grind
def d1Y(c:Int):List Bool:=[7,6,5,4,3,2,1,0].map λi=>c.toNat.testBit i
theorem a4H(a b:Int):0<=bits .u16 .xor a b/\bits .u16 .xor a b<65536:=by grind[bits,Up]
def a2E(p:List Int):List Bool:=p.flatMap d1Y
def FZ:AQ:=(0,0,(0,0,0,()),[],[],())
def rK(c:Int):Prop:=0<=c/\c<256
def RR(p:List Int)(j:Nat):Bool:=(p.getD (j / 8) 0).toNat.testBit (7-j%8)
theorem rL:∀p:List Int,a2E p=(F8 (8*p.length)).map (RR p)|[]=>rfl|c::p=>by(have e:a2E (c::p)=d1Y c++a2E p:=rfl;rw[e,rL p,lC,show 8*(p.length+1)=8+8*p.length from by omega,I9,WK,H8];congr 1;refine F9 λj _=>?_);show RR p j=RR (c::p) (8+j);unfold RR;rw[show(8+j) / 8=j / 8+1 from by omega,F6,show(8+j)%8=j%8 from by omega]
structure zH (b k i:Nat) (p0 p:List Int) (sm:Bool):Prop where
 len:p.length=p0.length
 ok:∀c∈p,rK c
 bit:∀j,RR p j=xor (RR p0 j) (decide (k<=j/\j<k+i)&&b.testBit (j-k))
 smk:sm=ka↔∃t,t<i/\b.testBit t=ka
 pre:p.take (k / 8)=p0.take (k / 8)
 same:sm=kc->p=p0
theorem turned{b k:Nat}{p0 q:LI}{s:Bool}(w:k<8*p0.length)(i:(a2E p0).foldl b8F 0=0)(g:zH b k (min 16 (8*p0.length-k)) p0 q s)(u:s=ka):(a2E q).foldl b8F 0≠0:=by
 obtain⟨n,r⟩:∃n,min 16 (8*p0.length-k)=n:=⟨_,rfl⟩;rw[r]at g;have e:a2E q=(F8 (8*p0.length)).map λj=>xor (RR p0 j) (A3 (k<=j/\j<k+n)&&b.testBit (j-k)):=by rw[rL,g.len];exact F9 λj _=>g.bit j
 have h:=a7n (RR p0) (λj=>A3 (k<=j/\j<k+n)&&b.testBit (j-k)) (F8 (8*p0.length)) 0 0;have a:∀x:BitVec 16,(0:BitVec 16) ^^^ x=x:=λ_=>BitVec.zero_xor;rw[a,<-e,<-rL,i,a]at h;rw[h];obtain⟨m,p⟩:∃m,8*p0.length=k+(n+m):=⟨8*p0.length-k-n,by omega⟩;rw[p,I9,I9,WK,WK,WK,H8,H8,H8];have c:(F8 k).map (λj=>A3 (k<=j/\j<k+n)&&b.testBit (j-k))=C9 k kc:=by rw[I5];refine⟨by simp,λx f=>?_⟩;obtain⟨j,o,rfl⟩:=E7.1 f;grind
 have d:(F8 m).map (((λj=>A3 (k<=j/\j<k+n)&&b.testBit (j-k))∘(k+·))∘(n+·))=C9 m kc:=by rw[I5];refine⟨by simp,λx f=>?_⟩;obtain⟨j,o,rfl⟩:=E7.1 f;grind
 rw[c,d];refine c6q (by simp;omega) ?_ k m;obtain⟨t,l,v⟩:=g.smk.1 u;refine E7.2 ⟨t,List.mem_range.2 l,?_⟩;simp_all
theorem b8H{g:Int}(h:-100000<=g/\g<=100000):SI g=kd (Px g:Int):=by
 unfold SI Px;by_cases hg:0<=g;have d:A3 (g<0)=kc:=by simp_all
 have e:AO .u64 (zN .u64 g) 1=2*g:=by show zN .u64 (zN .u64 g*2)=_;grind[Au]
 grind;have d:A3 (g<0)=ka:=by simp_all
 have e:AO .u64 (zN .u64 g) 1=((18446744073709551615-(-2*g-1).toNat:Nat):Int):=by show zN .u64 (zN .u64 g*2)=_;grind[zN,IntKind.bits,IntKind.signed]
 rw[d,cT,e,if_neg hg,b0M (by omega)];grind
theorem iS(a:LI)(i:Int):∀(k n:Nat)(out:LI),n<128^(k+1)->k<=8->out.length+k<1000000->∃r g,Al Kb (a,i,(n:Int),out,())=kd (a,i,((r:Nat):Int),out++g,())/\Be n=g++[(r:Int)]/\r<128|k,n,out,h,q,u=>by by_cases hn:n<128;refine⟨n,[],?_,by rw[Pw hn];rfl,hn⟩;rw[Ae (b:=(a,i,(n:Int),out,())) (by(have d:A3 ((n:Int)>=128)=kc:=by grind);simp only[Kb,d,cF])];simp;cases k with|zero=>omega|succ k=>(have p:n / 128<128^(k+1):=by omega);(have f:n<18446744073709551616:=by have:128^(k+1+1)<=128^9:=C0 (by omega) (by omega);omega);(obtain⟨r,g,c,l,m⟩:=iS a i k (n / 128) (out++[((n%128+128:Nat):Int)]) p (by omega) (by grind);refine⟨r,((n%128+128:Nat):Int)::g,?_,by rw[RP hn,l];rfl,m⟩;have d:A3 ((n:Int)>=128)=ka:=by grind);(have e:AR .u64 (n:Int) 7=((n / 128:Nat):Int):=EI (o:=7) (by omega);have j:zN .u8 (bits .u64 .or (bits .u64 .and (n:Int) 127) 128)=((n%128+128:Nat):Int):=by have c:bits .u64 .and (n:Int) 127=((n%2^7:Nat):Int):=Wk (k:=7) f (by omega);rw[c,show((128:Int))=((1*2^7:Nat):Int)from rfl,c6k (C5 _ (by omega)) (by omega),GR];omega);rw[Af (s':=(a,i,((n / 128:Nat):Int),out++[((n%128+128:Nat):Int)],())) (by simp only[Kb,d,cT,Ay (show out.length+1<2147483648 by omega),e,j,B3])];simp_all
theorem Ip{ns:List Nat}(h:∀n∈ns,n<9223372036854775808)(y:ns.length<=1000):CY (RQ ns)=kd (ns.flatMap Be):=by
 have m:(RQ ns).length=ns.length:=by simp[RQ]
 have:=Cm (f:=Kc) (RQ ns) (λi (a:LI)=>(RQ ns,(i:Int),a,())) (λa x=>.inl (a++Be x.toNat)) (λi a=>a.length<=10*i) (λa=>(a,()))
  (λi l a u=>⟨λv g=>by
   have c:i<ns.length:=by omega
   have p:(RQ ns)[i]=((ns[i]:Nat):Int):=by simp[RQ]
   have hb:=h ns[i] (B6 c);have k:ns[i]<128^(8+1):=by omega
   obtain⟨r,d,q,j,w⟩:=iS (RQ ns) (i:Int) 8 ns[i] a k (E3 _) (by omega);have o:=cH 8 ns[i] k;rw[j]at o;simp only[lN,lC,A7]at o;simp[p,j]at g;subst g;have e:zN .u8 (r:Int)=(r:Int):=by rw[GR];omega
   refine⟨?_,by grind⟩;simp only[Kc,Cn l,cT,Ad l,p,oB,q,Ay (show(a++d).length+1<2147483648 by grind),Aa (show i<1000000 by omega),e,B3,aA],λb hb=>by grind⟩)
  (λa u=>by simp_all[Kc]) (a:=[]) (by simp)
 simp_all[CY,QQ,kM,RQ,K7]
theorem a7o{f:AQ}(r:dB f){body:Nat}(o:body<=1048576):TS (f,(body:Int))=kd (hb f body):=by
 have p:=r;obtain⟨⟨Q,R,L,M,N,O⟩,l1,l2,s1,s2,m1,m2,m3,m4⟩:=p;have k:∀s∈f.2.2.2.1,LZ f.2.2.1.2.1 s=ka:=λs B=>lA.1 m4 s B;have z:=fJ m2 f.2.2.2.1 m4;have y:=qY r o;have c:CY [zN .u64 f.1,zN .u64 f.2.1,zN .u64 f.2.2.1.1,zN .u64 f.2.2.1.2.1,zN .u64 f.2.2.1.2.2.1,zN .u64 ((f.2.2.2.1.length:Nat):Int)]=kd ([f.1.toNat,f.2.1.toNat,f.2.2.1.1.toNat,f.2.2.1.2.1.toNat,f.2.2.1.2.2.1.toNat,f.2.2.2.1.length].flatMap Be):=by
  rw[<-Ip (λn q=>by
   grind) (by simp)]
  grind[Au,RQ]
 have C:([f.1.toNat,f.2.1.toNat,f.2.2.1.1.toNat,f.2.2.1.2.1.toNat,f.2.2.1.2.2.1.toNat,f.2.2.2.1.length].flatMap Be).length<=600:=by
  have e:(hb f body).length=2+(([f.1.toNat,f.2.1.toNat,f.2.2.1.1.toNat,f.2.2.1.2.1.toNat,f.2.2.1.2.2.1.toNat,f.2.2.2.1.length].flatMap Be).length+((f.2.2.2.1.flatMap Io).length+(Be body).length)):=by
   simp[hb];omega
  omega
 have h:=Cm (f:=NU) (β:=Int×(List Int×Unit)) f.2.2.2.1 (λi (a:LI)=>((body:Int),(i:Int),a,f,())) (λa x=>.inl (a++Io x)) (λi a=>a.length<=600+27*i) (λa=>((body:Int),a,()))
  (λi l a w=>⟨λF j=>by
   simp at j;subst j;obtain⟨a1,G,H,I,K,u,v⟩:=HA.1 (k _ (B6 l));have E:=a2A m2 (k _ (B6 l));have P:=lX (g:=f.2.2.2.1[i].2.2.1) (m:=1024) ⟨u,v⟩;have A:CY [zN .u64 f.2.2.2.1[i].1,zN .u64 f.2.2.2.1[i].2.1,((Px f.2.2.2.1[i].2.2.1:Nat):Int)]=kd (Io f.2.2.2.1[i]):=by
    have e:=Ip (ns:=Kv f.2.2.2.1[i]) (λn q=>by
     simp[Kv]at q;omega) (by simp[Kv])
    grind[Io,Kv,Au,RQ,Int.toNat_of_nonneg]
   refine⟨?_,by grind⟩;simp only[NU,Cn l,cT,Ad l,oB,b8H (g:=f.2.2.2.1[i].2.2.1) (by omega),A,Ay (show a.length+(Io f.2.2.2.1[i]).length<2147483648 by omega),Aa (show i<1000000 by omega),B3],λb hb=>by grind⟩)
  (λa w=>by simp_all[NU]) (a:=[f.1.toNat,f.2.1.toNat,f.2.2.1.1.toNat,f.2.2.1.2.1.toNat,f.2.2.1.2.2.1.toNat,f.2.2.2.1.length].flatMap Be) (by omega)
 rw[QQ]at h;simp only[kM,nZ]at h;have d:CY [zN .u64 (body:Int)]=kd (Be body):=by
  have e:=Ip (ns:=[body]) (λn q=>by grind) (by simp);grind[Au,RQ]
 have D:=Od (n:=body) (by omega);unfold TS;simp only[c,oB];rw[h];simp only[oB,d,B3];rw[Ay (by grind),cT,Ay (by grind),cT];simp[hb]
theorem a4I{p:PZ}{n:Int}(hp:a1v n p){L:LI}(o:L.length<50000000):Ee ((L,()),p.1,n)=kd (0,L++GU p.1 p.2,())/\(GU p.1 p.2).length<=700000:=by(obtain⟨c,k,a⟩:=hp;obtain⟨j,i,g,l,f,b,m⟩:=qM c (n:=n) (L:=L) (by omega);obtain⟨rfl,d,rfl,h⟩:=b k;have e:GG p.1 d L=GG p.1 p.2 L:=by by_cases hk:p.1.1=0\/p.1.1=1;unfold GG;rw[if_pos hk,if_pos hk];rw[fF (h (not_or.1 hk)) (a (not_or.1 hk))]);rw[e,RO (RM k) a]at g f;exact⟨g,by rw[lN]at f;omega⟩
theorem b6o{L:LI}(h:BL L):∀c∈(wL L).1,rK c:=λc g=>by obtain⟨i,f,rfl⟩:=J1.1 g;have:=(lV h).1 i;rwa [lD,lG f]at this
theorem Oe{n:Nat}(h:n<9223372036854775808):∀c∈Be n,rK c:=YU 8 n (by rw[show(128:Nat)^(8+1)=9223372036854775808 from by decide];exact h)
theorem b3g{f:AQ}(b:dB f){n:Nat}(u:n<=1048576):∀c∈Du f n,rK c:=by obtain⟨⟨w,x,o,p,q,r⟩,l1,l2,s1,s2,m1,m2,m3,m4⟩:=b;intro c h;simp only[Du,hb,mA,mC,G9,or_false,H0]at h;rcases h with((rfl|rfl)|h|h|h|h|h|h|⟨s,d,h⟩|h)|rfl;exact⟨by decide,by decide⟩;exact⟨by decide,by decide⟩;exact Oe (by omega) c h;exact Oe (by omega) c h;exact Oe (by omega) c h;exact Oe (by omega) c h;exact Oe (by omega) c h;exact Oe (by omega) c h;obtain⟨a1,e,i,j,l,k,a⟩:=HA.1 (lA.1 m4 s d);have v:=lX (g:=s.2.2.1) (m:=1024) ⟨k,a⟩;simp only[Io,mA]at h;rcases h with h|h|h;exact Oe (by omega) c h;exact Oe (by omega) c h;exact Oe (by omega) c h;exact Oe (by omega) c h;exact a9F _
theorem b8I{f:AQ}(k:dB f){g:List PZ}(a:(Az g).length<=5600000):∀c∈QT f (Az g),rK c:=by have b:=Wq k a;intro c h;rcases mA.1 h with h|h;exact b3g k (by omega) c h;exact b6o (fK (Xg g)) c h
theorem Wv(l:LI)(i:Int):∀(j k:Nat)(s:Int),k+j=8->0<=s/\s<256->Al Si (l,s,i,(k:Int),())=kd (l,a1u e8 j s,i,())|0,k,s,h,_=>by(obtain rfl:k=8:=by omega);rfl|j+1,k,s,h,g=>by(have d:A3 ((k:Int)<8)=ka:=by grind);(have e:A3 (s>=128)=(AR .u8 s 7==(1:Int)):=by(obtain⟨n,rfl⟩:=A9 g.1;have e:AR .u8 (n:Int) 7=((n / 128:Nat):Int):=by show Int.fdiv (n:Int) ((128:Nat):Int)=_;grind);grind);rw[Af (s':=(l,e8 s,i,((k+1:Nat):Int),())) (by simp only[Si,d,cT,Aa (show k<1000000 by omega),e8,e];grind)];exact Wv l i j (k+1) (e8 s) (by omega) (a7g s)
theorem Tb(l:LI)(i:Int):∀(j k:Nat)(s:Int),k+j=8->0<=s/\s<65536->Al OQ (l,s,i,(k:Int),())=kd (l,a1u b3G j s,i,())|0,k,s,h,_=>by(obtain rfl:k=8:=by omega);rfl|j+1,k,s,h,g=>by(have d:A3 ((k:Int)<8)=ka:=by grind);(have e:A3 (s>=32768)=(AR .u16 s 15==(1:Int)):=by(obtain⟨n,rfl⟩:=A9 g.1;have e:AR .u16 (n:Int) 15=((n / 32768:Nat):Int):=by show Int.fdiv (n:Int) ((32768:Nat):Int)=_;grind);grind);rw[Af (s':=(l,b3G s,i,((k+1:Nat):Int),())) (by simp only[OQ,d,cT,Aa (show k<1000000 by omega),b3G,e];grind)];exact Tb l i j (k+1) (b3G s) (by omega) (a2z s)
theorem a7p(a b:Int):0<=bits .u8 .xor a b/\bits .u8 .xor a b<256:=by grind[bits,GR]
theorem cM{l:LI}(h:short l):Qv l=kd (Uo l):=by
 have:=Cm (f:=NV) (β:=Int×Unit) l (λi (a:Int)=>(l,a,(i:Int),())) (λa x=>.inl (g8 a x)) (λ_ _=>True) (λa=>(a,()))
  (λi k a _=>⟨λc g=>by
   simp at g;subst g
   have:=Wv l (i:Int) 8 0 (bits .u8 .xor a l[i]) rfl (a7p _ _)
   simp at this;refine⟨?_,trivial⟩;simp only[NV,Cn k,cT,Ad k,oB,this,Aa (C2 k h),g8],λb hb=>by grind⟩)
  (λa d=>by grind[NV]) (a:=0) trivial
 unfold Qv;simp at this;rw[this,Wn];rfl
theorem Ww{l:LI}(h:short l):MM l=kd (Im l):=by
 have:=Cm (f:=Ly) (β:=Int×Unit) l (λi (a:Int)=>(l,a,(i:Int),())) (λa x=>.inl (c6l a x)) (λ_ _=>True) (λa=>(a,()))
  (λi k a _=>⟨λc g=>by
   simp at g;subst g
   have:=Tb l (i:Int) 8 0 (bits .u16 .xor a (AO .u16 (zN .u16 l[i]) 8)) rfl (a4H _ _)
   simp at this;refine⟨?_,trivial⟩;simp only[Ly,Cn k,cT,Ad k,oB,this,Aa (C2 k h),c6l],λb hb=>by grind⟩)
  (λa d=>by grind[Ly]) (a:=0) trivial
 unfold MM;simp at this;rw[this,Wn];rfl
theorem a7q{v:Int}(h:0<=v/\v<65536):Jt (v,2)=kd [v / 256,v%256]:=by
 obtain⟨n,rfl⟩:=A9 h.1;have g:zN .u8 (AR .u64 (n:Int) 8)=(n:Int) / 256:=by grind[AR,EI,GR]
 have f:zN .u8 (AR .u64 (n:Int) 0)=(n:Int)%256:=by simp_all[AR,GR]
 have k:Js ((n:Int),(1:Int),([]:List Int),())=kd (.inl ((n:Int),(0:Int),[(n:Int) / 256],())):=by simp only[Js,show A3 ((1:Int)>=0)=ka from rfl,zQ,show zN .u64 (zN .i64 (8*1))=8 from rfl,show A3 ((8:Int)<0)=kc from rfl,Ay (show([]:List Int).length+1<2147483648 by simp),g];rfl
 have a:Js ((n:Int),(0:Int),[(n:Int) / 256],())=kd (.inl ((n:Int),(-1:Int),[(n:Int) / 256,(n:Int)%256],())):=by simp only[Js,show A3 ((0:Int)>=0)=ka from rfl,zQ,show zN .u64 (zN .i64 (8*0))=0 from rfl,show A3 ((0:Int)<0)=kc from rfl,Ay (show([(n:Int) / 256]:List Int).length+1<2147483648 by simp),f];rfl
 unfold Jt;rw[show zN .i64 (Fk (OH (2:Int) 8) 0-1)=1 from rfl,Af k,Af a,Ae (b:=([(n:Int) / 256,(n:Int)%256],())) rfl];rfl
theorem b8J{L:LI}(h:BL L)(c:L.length%8≠0):(wL (L++[0])).1=(wL L).1:=by(obtain⟨k,b⟩:=EZ L;have f:=(lV h).1 (L.length / 8);rw[bW];unfold a6U;simp only[];rw[k,if_neg (by omega),show((L.length:Int) / 8).toNat=L.length / 8 from by rfl];have a:AO .u8 0 (7-(L.length:Int)%8)=0:=by unfold AO;rw[Int.zero_mul];rfl);(rw[a];generalize hx:(wL L).1.getD (L.length / 8) 0=x at f|-;have g:bits .u8 .or x 0=x:=by obtain⟨n,rfl⟩:=A9 f.1;grind[d1W]);rw[g,<-hx];apply List.ext_getElem?;grind
theorem a7r:∀(k:Nat){L:LI},BL L->OE L.length=k->(wL (L++C9 k 0)).1=(wL L).1|0,L,_,_=>by simp|k+1,L,h,g=>by(have f:L.length%8≠0:=by intro e;unfold OE at g;omega);have hb:BL (L++[0]):=h.app λb hb=>.inl (by simpa using hb);have a:=a7r k (L:=L++[0]) hb (by unfold OE at g|-;rw[lN,D2];omega);rw[F7,show L++(0:Int)::C9 k 0=(L++[0])++C9 k 0 from by simp,a];exact b8J h f
theorem b6p{L:LI}(h:BL L):KY L=(wL L).1:=a7r _ h rfl
theorem iT{f:AQ}:∀(zO g:List PZ)(L:LI),(g++zO).map (·.1)=f.2.2.2.2.1->(∀p∈zO,a1v f.2.1 p)->L.length+700000*zO.length<40000000->(g++zO).length<=8->Al IX ((g.length:Int),(L,()),f,())=kd ((L++Az zO,()),f,())|[],g,L,e,_,_,_=>by grind[Ae,IX,Az]|p::zO,g,L,e,h,d,c=>by(rw[lC]at d;simp at c;obtain⟨b,j⟩:=a4I (h p (by simp)) (L:=L) (by omega);have a:g.length<f.2.2.2.2.1.length:=by grind);(have i:Ax f.2.2.2.2.1 (g.length:Int)=kd p.1:=by grind[Ad]);have k:=iT zO (g++[p]) (L++GU p.1 p.2) (by grind) (λq l=>h q (by grind)) (by grind) (by grind);rw[Af (s':=((((g++[p]).length:Nat):Int),(L++GU p.1 p.2,()),f,())) (by simp only[IX,Cn a,cT,i,oB,b,Aa (show g.length<1000000 by omega)];simp)];rw[k];simp[Az]
theorem a1y{f:AQ}(a:∀s∈f.2.2.2.2.1,sM s):∃p e,Ej f=kd (p,e)/\En f=kd (p,e):=by have l:=rE a;have m:=rI a;cases hb:DY f with|none=>simp_all[Ej,En]|some b=>(rw[hb]at l m;obtain⟨k,v,j⟩:=Ff hb;have q:f.2.2.2.2.1.length<=8:=by have:=k.1.2.2.2.1;omega);(obtain⟨g,A,x,y,B,z⟩:=Py l k q (λs o=>⟨a s o,j s o⟩);have w:g.length<=8:=by grind);refine⟨_,_,z,?_⟩;have h:=iT (f:=f) g [] [] (by grind) x (by grind) (by grind);have r:=Wq k y;have c:=b6p (Xg g);simp at h;have u:=qY k (body:=(KY (Az g)).length) (by omega);have i:=OC (QT f (Az g));have d:(Ab.hb f (KY (Az g)).length++[Uo (Ab.hb f (KY (Az g)).length)])++KY (Az g)=QT f (Az g):=rfl;unfold En;rw[m];simp only[Option.isSome_some,zQ];rw[h];simp only[oB,a4y (show(Az g).length<1000000000 by omega),<-c,a7o k (show(KY (Az g)).length<=1048576 by omega),cM (show short (Ab.hb f (KY (Az g)).length)by unfold short;omega),B3];rw[Ay (by omega),cT,Ay (by grind),cT,d,Ww (show short (QT f (Az g))by unfold short;omega)];simp only[oB,Au (n:=Im (QT f (Az g))) (by omega),a7q i];rw[Ay (by grind),cT];rfl
theorem b3h(l:LI):Nw (l,l)=kd ka:=by grind[Nw]
theorem b3i{v i m:Nat}(c:Nat)(hi:i<m)(h:v+c*2^m<18446744073709551616)(g:m<=63):HF ((v+c*2^m:Nat):Int) i=HF (v:Int) i:=by(rw[Nz h (by omega),Nz (by omega) (by omega)];have e:c*2^m=(c*2^(m-i-1)*2)*2^i:=by rw[J5,J5,E8 2,<-K1,<-Nat.pow_add];grind);simp_all[I6,D3]
theorem b6q{v m:Nat}(c:Nat)(h:v+c*2^m<18446744073709551616)(g:m<=63):∀k,k<=m->pb ((v+c*2^m:Nat):Int) k=pb (v:Int) k|0,_=>rfl|k+1,f=>by simp only[pb];rw[b3i c (by omega) h g,b6q c h g k (by omega)]
theorem b6r:∀(n:Nat)(B:LI),BL B->B.length=n->n<=62->∃v:Nat,v<2^n/\B=pb (v:Int) n|0,B,_,h,_=>⟨0,by simp,by rw[H4.1 h];rfl⟩|n+1,[],_,h,_=>by grind|n+1,b::B,hb,h,i=>by(obtain⟨v,l,e⟩:=b6r n B (λx o=>hb x (by grind)) (by simp_all) (by omega);have g:b=0\/b=1:=hb b (by simp);have m:2^(n+1)<=2^62:=C0 (by simp) i;have j:2^(n+1)=2^n+2^n:=by omega);(obtain⟨c,k,a⟩:∃c:Nat,b=(c:Int)/\c<=1:=by rcases g with rfl|rfl;grind;exact⟨1,rfl,by simp⟩);(have d:c*2^n<=2^n:=by grind);(refine⟨v+c*2^n,by omega,?_⟩;have f:v+c*2^n<18446744073709551616:=by omega);simp only[pb];rw[b6q c f (by omega) n (E3 _),<-e,Nz f (by omega),I6 _ _ (D3 n),H1 l,k];grind
structure vW (L:List Int):Prop where
 bits:BL L
 len:L.length<1000000
 eight:L.length%8=0
def St(L:List Int)(r:Rd):Prop:=r.2.2.1≠0\/∃P R,P++R=L/\r=Bm P R
def NC(L:List Int)(r r':Rd)(A:List Int):Prop:=r'.2.2.1=0->∃P R,P++(A++R)=L/\r=Bm P (A++R)/\r'=Bm (P++A) R
theorem a4J{P R g f:LI}(h:P++R=g++f)(e:Bm P R=Bm g f):P=g/\R=f:=by(have:P.length=g.length:=by have:=cG (λx:Rd=>x.2.1) e;grind[Bm]);grind[C3]
theorem NC.trans{L:LI}{r a g:Rd}{A B:LI}(h:NC L r a A)(b:NC L a g B):NC L r g (A++B):=λc=>by obtain⟨d,e,i,f,j⟩:=b c;obtain⟨P,R,l,m,k⟩:=h (by rw[f];rfl);rw[f]at k;obtain⟨rfl,rfl⟩:=a4J (by simp_all) k;grind
theorem NC.ok{L:LI}{r g:Rd}{A:LI}(h:NC L r g A)(f:g.2.2.1=0):r.2.2.1=0:=by obtain⟨P,R,-,e,-⟩:=h f;rw[e];rfl
theorem NC.refl{L:LI}{r:Rd}(h:St L r):NC L r r []:=λg=>by rcases h with h|⟨P,R,e,rfl⟩;omega;exact⟨P,R,by simp_all,rfl,by simp⟩
theorem vW.zC{L P R:LI}(h:vW L)(e:P++R=L):dA P R:=⟨by rw[e];exact h.bits,by rw[e];have:=h.len;omega⟩
theorem vW.left{L P R:LI}(h:vW L)(e:P++R=L):(wL (P++R)).1.length*8=P.length+R.length:=by obtain⟨-,f⟩:=EZ (P++R);have g:=h.eight;grind
theorem HY{r:Rd}(h:r.2.2.1≠0):(r.2.2.1 != (0:Int))=ka:=by simp_all
theorem b0V{r:Rd}(h:r.2.2.1≠0)(n:Int):Ak (r,n)=kd (0,r):=by simp_all[Ak,HY]
theorem rM{r:Rd}(h:r.2.2.1≠0)(n:Int):AB (r,n)=kd (0,r):=by simp_all[AB,HY]
theorem a7s(x y:Int):zN .u64 (bits .u8 .and x y)=bits .u8 .and x y:=by show zN .u64 (zN .u8 _)=zN .u8 _;grind[GR,Au]
theorem Xj(r:Rd)(i:Nat):Gg (r,(i:Int))=Bd (r,(i:Int)):=by(unfold Gg Bd;have f:D4 (i:Int) 8=((i%8:Nat):Int):=by rfl);have h:zN .i64 (7-((i%8:Nat):Int))=7-((i%8:Nat):Int):=Ac (by omega);have g:zN .u64 (7-((i%8:Nat):Int))=7-((i%8:Nat):Int):=Au (by omega);simp_all[a7s]
theorem a2F{v:Nat}(hv:v<9223372036854775808){n:Nat}(e:n<=62){p0:Nat}:∀(m:Nat)(P R:LI),m<=n->p0+(n-m)=P.length->BL (P++(pb (v:Int) m++R))->(P++(pb (v:Int) m++R)).length<1000000000->Al HU ((n:Int),((v / 2^m:Nat):Int),((n-m:Nat):Int),((wL (P++(pb (v:Int) m++R))).1,(p0:Int),(0:Int),()),())=kd ((n:Int),(v:Int),((wL (P++(pb (v:Int) m++R))).1,(p0:Int),(0:Int),()),())|0,P,R,_,_,_,_=>by simp_all[Ae,HU]|m+1,P,R,q,r,hok,hlen=>by(have p:A3 (((n-(m+1):Nat):Int)<(n:Int))=ka:=by grind);(have k:=Um hok hlen (i:=P.length) (by simp[pb]) ((p0:Int),(0:Int),());rw[show(P++(pb (v:Int) (m+1)++R)).getD P.length 0=HF v m from by simp_all[pb]]at k;have c:zN .i64 ((p0:Int)+((n-(m+1):Nat):Int))=(P.length:Int):=by grind[Ac]);(have g:=Nz (v:=v) (by omega) (i:=m) (by omega);have a:v / 2^m%2<2:=C5 _ (by simp);have f:v / 2^(m+1)=v / 2^m / 2:=by grind[I3]);(have d:v / 2^m<=v:=L5 _ _;have j:AO .u64 ((v / 2^(m+1):Nat):Int) 1=((v / 2^(m+1)*2^1:Nat):Int):=LX (o:=1) (by omega) (by omega);have b:bits .u64 .or ((v / 2^(m+1)*2^1:Nat):Int) (HF (v:Int) m)=((v / 2^m:Nat):Int):=by rw[g,d1X (by omega) a (by omega),f];omega);(have l:zN .i64 (((n-(m+1):Nat):Int)+1)=((n-m:Nat):Int):=by grind[Ac]);(have h:P++(pb (v:Int) (m+1)++R)=(P++[HF v m])++(pb (v:Int) m++R):=by simp[pb]);rw[Af (s':=((n:Int),((v / 2^m:Nat):Int),((n-m:Nat):Int),((wL (P++(pb (v:Int) (m+1)++R))).1,(p0:Int),(0:Int),()),())) (by simp_all[HU,Xj])];rw[h];rw[a2F hv e m (P++[HF v m]) R (by omega) (by grind) (by simp_all) (by simp_all)]
theorem b8K{v n:Nat}(b:n<=62)(hv:v<2^n){P R:LI}(h:dA P (pb (v:Int) n++R)):AB (Bm P (pb (v:Int) n++R),(n:Int))=kd ((v:Int),Bm (P++pb (v:Int) n) R):=by
 obtain⟨f,a⟩:=h;have g:v<9223372036854775808:=J7 hv (Nat.le_trans (C0 (by simp) b) (by simp));have k:=a2F g b (p0:=P.length) n P R (by omega) (by omega) f (by omega);rw[H1 hv,Nat.sub_self]at k;simp at k;obtain⟨-,j⟩:=EZ (P++(pb (v:Int) n++R));have l:(P++(pb (v:Int) n++R)).length=P.length+n+R.length:=by simp[LW];omega
 have i:zN .i64 (zN .i64 ((8:Int)*(((wL (P++(pb (v:Int) n++R))).1.length:Nat):Int))-(P.length:Int))=(8:Int)*(((wL (P++(pb (v:Int) n++R))).1.length:Nat):Int)-(P.length:Int):=by grind[Ac]
 have c:A3 ((n:Int)<0)=kc:=by simp
 have d:A3 ((n:Int) > 64)=kc:=by grind
 have e:A3 ((n:Int) > (8:Int)*(((wL (P++(pb (v:Int) n++R))).1.length:Nat):Int)-(P.length:Int))=kc:=by grind
 have m:zN .i64 ((P.length:Int)+(n:Int))=(((P++pb (v:Int) n).length:Nat):Int):=by grind[Ac]
 unfold AB BX;simp only[Bm,bN,cF,c,d,oB,i,e];simp_all
theorem b3j{P R:LI}{n:Nat}(d:n<=62){L:LI}(b:vW L)(e:P++R=L)(i:R.length<n):Ak (Bm P R,(n:Int))=kd (0,(wL (P++R)).1,(P.length:Int),(3:Int),())/\AB (Bm P R,(n:Int))=kd (0,(wL (P++R)).1,(P.length:Int),(3:Int),()):=by
 have c:=b.left e;have a:=b.len;rw[<-e]at a;simp at a;have k:zN .i64 (zN .i64 ((8:Int)*(((wL (P++R)).1.length:Nat):Int))-(P.length:Int))=(R.length:Int):=by grind[Ac]
 have h:A3 ((n:Int)<0)=kc:=by simp
 have g:A3 ((n:Int) > 64)=kc:=by grind
 have f:A3 ((n:Int) > (R.length:Int))=ka:=by simp_all
 constructor;unfold Ak Cz;simp only[Bm,bN,cF,h,g,oB,k,f,cT];unfold AB BX;simp only[Bm,bN,cF,h,g,oB,k,f,cT]
theorem Ep{L:LI}(c:vW L){r:Rd}(g:St L r){n:Nat}(k:n<=62):∃(v:Nat)(a:Rd),v<2^n/\Ak (r,(n:Int))=kd ((v:Int),a)/\AB (r,(n:Int))=kd ((v:Int),a)/\St L a/\NC L r a (pb (v:Int) n):=by(rcases g with g|⟨P,R,e,rfl⟩;exact⟨0,r,D3 n,b0V g _,rM g _,.inl g,λi=>absurd i g⟩;by_cases h:n<=R.length;have hb:BL (R.take n):=λb hb=>c.bits b (by grind);obtain⟨v,d,o⟩:=b6r n (R.take n) hb (by simp_all) k;have j:R=pb (v:Int) n++R.drop n:=by grind[F1]);have f:=c.zC e;generalize R.drop n=R' at j;subst j;exact⟨v,_,d,Hz k d f,b8K k d f,.inr ⟨_,_,by simp_all,rfl⟩,λ_=>⟨P,R',e,rfl,rfl⟩⟩;obtain⟨l,m⟩:=b3j k c e (by omega:R.length<n);exact⟨0,_,D3 n,l,m,.inl (show(3:Int)≠0 by simp),λi=>by grind⟩
theorem b8L{n:Nat}{v:Nat}(hv:v<2^n)(k:n<=62):∃x,Xx n x/\BQ x n=(v:Int):=by have b:=D3 n;by_cases h:2*v<2^n;refine⟨(v:Int),⟨by omega,by omega⟩,?_⟩;obtain⟨w,g,a,f⟩:=Xe k (v:Int);rw[g,f,K3 (by omega) (by omega)];refine⟨(v:Int)-((2^n:Nat):Int),⟨by omega,by omega⟩,?_⟩;obtain⟨w,g,a,f⟩:=Xe k ((v:Int)-((2^n:Nat):Int));rw[g,f,Int.sub_emod_right,K3 (by omega) (by omega)]
theorem a9K{r h:Rd}{n:Nat}(b:n<=62){v:Int}(k:Ak (r,(n:Int))=kd (v,h))(a:AB (r,(n:Int))=kd (v,h)):DW (r,(n:Int))=AG (r,(n:Int)):=by have g:zN .i64 (64-(n:Int))=64-(n:Int):=Ac (by omega);have f:zN .u64 (64-(n:Int))=64-(n:Int):=Au (by omega);unfold DW AG;grind
theorem a9L{r:Rd}(h:r.2.2.1≠0)(n:Int):AG (r,n)=kd (0,r):=by simp_all[AG,b0V,HY]
theorem a7t{L:LI}(b:vW L){r:Rd}(o:St L r){n:Nat}(f:n<=62):∃(x:Int)(g:Rd),Xx n x/\AG (r,(n:Int))=kd (x,g)/\DW (r,(n:Int))=kd (x,g)/\St L g/\NC L r g (pb (BQ x n) n):=by(obtain⟨v,g,p,e,i,j,a⟩:=Ep b o f;have l:=a9K f e i;have z0:Xx n 0:=by have:=D3 n;exact⟨by omega,by omega⟩);rw[l];by_cases h0:g.2.2.1=0;obtain⟨P,R,k,c,d⟩:=a h0;obtain⟨x,q,m⟩:=b8L p f;rw[<-m]at k c d a;have:=NA f q (b.zC k);grind;(have:AG (r,(n:Int))=kd (0,g):=by simp_all[AG,HY]);exact⟨0,g,z0,this,this,j,λh=>absurd h h0⟩
theorem Wx:∀(R:LI),BL R->∃c R2,R=C9 c 0++R2/\(R2=[]\/∃g,R2=1::g)|[],_=>⟨0,[],rfl,.inl rfl⟩|b::R,h=>by rcases h b (by simp)with rfl|rfl;obtain⟨c,R2,e,f⟩:=Wx R λx k=>h x (by simp[k]);exact⟨c+1,R2,by rw[e,F7];rfl,f⟩;exact⟨0,_,rfl,.inr ⟨R,rfl⟩⟩
theorem a2G(P R:LI)(i:Nat):(P++R).getD (P.length+i) 0=R.getD i 0:=by grind
theorem b6s{c i:Nat}(h:i<c)(R:LI):(C9 c (0:Int)++R).getD i 0=0:=by grind
theorem a9M{L:LI}(C:vW L){r:Rd}(z:St L r):
  ∃(v:Nat)(g:Rd),v<=32/\BR (r,(32:Int))=kd ((v:Int),g)/\EF (r,(32:Int))=kd ((v:Int),g)/\St L g/\NC L r g (a2t v)/\(g.2.2.1≠0->v=0):=by
 rcases z with z|⟨P,R,e,rfl⟩
 ·refine⟨0,r,by simp,?_,?_,.inl z,λq=>absurd q z,λ_=>rfl⟩;all_goals simp_all[BR,HY,EF]
 have hl:=C.left e;have H:=C.len;obtain⟨u,K⟩:=C.zC e;rw[<-e]at H;simp at H;obtain⟨c,Q,I,D⟩:=Wx R λb hb=>u b (I7 _ hb);have S:R.length=c+Q.length:=by simp_all
 have l:∀i,i<R.length->∀t,Bd (((wL (P++R)).1,t),((P.length+i:Nat):Int))=kd (R.getD i 0,(wL (P++R)).1,t):=λi y t=>by
  rw[<-a2G P R i];exact Um u (by omega) (by grind) t
 have e8:zN .i64 ((8:Int)*(((wL (P++R)).1.length:Nat):Int))=((P.length+R.length:Nat):Int):=by grind[Ac]
 have x:zN .i64 (((P.length+R.length:Nat):Int)-(P.length:Int))=(R.length:Int):=by grind[Ac]
 have M:Fk (32:Int) (0:Int)=32:=rfl

 have Z:∀i,i<c->i<32->AX ((32:Int),(i:Int),((P.length+i:Nat):Int),Bm P R,())=kd (.inl ((32:Int),((i+1:Nat):Int),((P.length+(i+1):Nat):Int),Bm P R,())):=λi y B=>by
  have k:(((P.length+i:Nat):Int)==((P.length+R.length:Nat):Int))=kc:=by grind
  have N:((i:Int)==32)=kc:=by grind
  have A:R.getD i 0=0:=by grind
  have O:zN .i64 ((i:Int)+1)=((i+1:Nat):Int):=Aa (by omega);have F:zN .i64 (((P.length+i:Nat):Int)+1)=((P.length+(i+1):Nat):Int):=by grind[Ac]
  simp only[AX,Bm,e8,k,cF];grind
 have q1:∀i,i<c->i<32->Cc ((32:Int),(i:Int),Bm P R,())=kd (.inl ((32:Int),((i+1:Nat):Int),Bm P R,())):=λi y B=>by
  have k:A3 ((i:Int)<(R.length:Int))=ka:=by grind
  have N:A3 ((i:Int)>=32)=kc:=by grind
  have A:R.getD i 0=0:=by grind
  have O:zN .i64 ((i:Int)+1)=((i+1:Nat):Int):=Aa (by omega);have F:zN .i64 ((P.length:Int)+(i:Int))=((P.length+i:Nat):Int):=by rw[Ac (by omega)];rfl
  simp only[Cc,BX,Bm,e8,x,k,cT,oB,F,Xj];rw[l i (by omega)];simp only[oB,A,N,O];rfl
 have X:(P.length:Int)=((P.length+0:Nat):Int):=rfl;have j:∀(m:Nat)(v:Int)(g:Rd)(w:(Rd×Unit) ⊕ (Int×Rd×Unit)),m<=c->m<=32->
   AX ((32:Int),(m:Int),((P.length+m:Nat):Int),Bm P R,())=kd (.inr (v,g,()))->
   Cc ((32:Int),(m:Int),Bm P R,())=kd (.inr w)->
   (match w with|.inl a=>(0,a.1.1,a.1.2.1,(3:Int),a.1.2.2.2)|.inr b=>(b.1,b.2.1))=(v,g)->
   BR (Bm P R,(32:Int))=kd (v,g)/\EF (Bm P R,(32:Int))=kd (v,g):=λm v g w hm T U V hw=>by
  have Y:=Bo (f:=AX) (λi=>((32:Int),(i:Int),((P.length+i:Nat):Int),Bm P R,())) m (λi y=>Z i (by omega) (by omega)) U;have i2:=Bo (f:=Cc) (λi=>((32:Int),(i:Int),Bm P R,())) m (λi y=>q1 i (by omega) (by omega)) V;constructor;unfold BR;simp[show(Bm P R).2.2.1=0 from rfl,M];erw[Y];rfl;unfold EF;simp[show(Bm P R).2.2.1=0 from rfl,M];grind
 by_cases hc:c<=32;rcases D with rfl|⟨p,rfl⟩
 
 have E:R.length=c:=by omega
 have h:=j c 0 ((wL (P++R)).1,(P.length:Int),(3:Int),()) (.inl (Bm P R,())) (E3 _) hc
  (by
   simp_all[AX,Bm])
  (by
   have k:A3 ((c:Int)<(R.length:Int))=kc:=by simp_all
   simp only[Cc,BX,Bm,e8,x,k,cF,oB])
  rfl
 exact⟨0,_,by simp,h.1,h.2,.inl (show(3:Int)≠0 by simp),(λq=>by grind),λ_=>rfl⟩;have E:c<R.length:=by simp_all
 have b1:R.getD c 0=1:=by simp_all
 have k:(((P.length+c:Nat):Int)==((P.length+R.length:Nat):Int))=kc:=by grind
 have o:A3 ((c:Int)<(R.length:Int))=ka:=by grind
 have F:zN .i64 (((P.length+c:Nat):Int)+1)=((P.length+c+1:Nat):Int):=by rw[Ac (by omega)];rfl
 have G:zN .i64 ((P.length:Int)+(c:Int))=((P.length+c:Nat):Int):=by rw[Ac (by omega)];rfl
 have d:((wL (P++R)).1,((P.length+c+1:Nat):Int),(0:Int),())=Bm (P++a2t c) p:=by
  unfold Bm a2t;rw[I]
  simp
  rfl
 have h:=j c (c:Int) (Bm (P++a2t c) p) (.inr ((c:Int),Bm (P++a2t c) p,())) (E3 _) hc
  (by
   rw[<-d];simp only[AX,Bm,e8,k,cF];simp_all)
  (by
   rw[<-d];simp only[Cc,BX,Bm,e8,x,o,cT,oB,G,Xj];simp_all)
  rfl
 have eR:R=a2t c++p:=by rw[I];simp[a2t]
 refine⟨c,_,hc,h.1,h.2,.inr ⟨P++a2t c,p,by simp_all,rfl⟩,λ_=>⟨P,p,by simp_all,by simp_all,rfl⟩,λq=>absurd rfl q⟩;have A:R.getD 32 0=0:=by grind
 have k:(((P.length+32:Nat):Int)==((P.length+R.length:Nat):Int))=kc:=by grind
 have o:A3 (((32:Nat):Int)<(R.length:Int))=ka:=by grind
 have G:zN .i64 ((P.length:Int)+((32:Nat):Int))=((P.length+32:Nat):Int):=by rw[Ac (by omega)];rfl
 have h:=j 32 0 ((wL (P++R)).1,(P.length:Int),(2:Int),()) (.inr (0,((wL (P++R)).1,(P.length:Int),(2:Int),()),())) (by omega) (E3 _)
  (by
   simp only[AX,Bm,e8,k,cF];rw[l 32 (by omega)];simp_all)
  (by
   simp only[Cc,BX,Bm,e8,x,o,cT,oB,G,Xj];rw[l 32 (by omega)];simp_all)
  rfl
 exact⟨0,_,by simp,h.1,h.2,.inl (show(2:Int)≠0 by simp),(λq=>by grind),λ_=>rfl⟩
inductive xI (n:Nat):Rd->List Int->Rd->Prop
 |nil (r:Rd):xI n r [] r
 |cons {r r1 r2:Rd} {x:Int} {l:List Int} (h1:AG (r,(n:Int))=kd (x,r1)) (h2:r.2.2.1=0->DW (r,(n:Int))=kd (x,r1)) (h:xI n r1 l r2):xI n r (x::l) r2
theorem rN{L:LI}(f:vW L){n:Nat}(k:n<=62):∀(m:Nat){r:Rd},St L r->∃l h,xI n r l h/\l.length=m/\(∀x∈l,Xx n x)/\St L h/\NC L r h (sB n l)|0,r,g=>⟨[],r,.nil r,rfl,by simp,g,NC.refl g⟩|m+1,r,g=>by obtain⟨x,v,o,a,b,c,d⟩:=a7t f g k;obtain⟨l,h,e,q,u,i,j⟩:=rN f k m c;refine⟨x::l,h,.cons a (λ_=>b) e,by grind,λy p=>?_,i,?_⟩;grind;exact NC.trans d j
theorem b0W{n:Nat}{r g:Rd}{l:LI}(h:xI n r l g)(f:r.2.2.1≠0):g=r:=by induction h with|nil=>rfl|cons k _ _ a=>rw[a9L f]at k;simp_all
theorem b3k{n:Nat}{N:Nat}(j:N<1000000){r f:Rd}{l:LI}(h:xI n r l f):∀(d:LI),d.length+l.length=N->∃l',Al Cb ((N:Int),(n:Int),(d.length:Int),d,r,())=kd (d++l',f,())/\(f.2.2.1=0->l'=l):=by induction h with|nil r=>intro d a;(have:d.length=N:=by omega);refine⟨[],?_,λ_=>rfl⟩;simp_all[Ae,Cb]|@cons r i p x l c k h e=>(intro d a;rw[lC]at a;by_cases h0:r.2.2.1=0;obtain⟨l',m,o⟩:=e (d++[x]) (by grind);refine⟨x::l',?_,λb=>by simp_all⟩;have g:(r.2.2.1==(0:Int))=ka:=by simp_all);rw[Af (s':=((N:Int),(n:Int),(((d++[x]).length:Nat):Int),d++[x],i,())) (by simp only[Cb,Cn (show d.length<N by omega),cT,g,k h0,oB,Ay (show d.length+1<2147483648 by omega),Aa (show d.length<1000000 by omega)];simp)];(simp_all;have hb:=b0W (xI.cons c k h) h0;refine⟨[],?_,λb=>absurd b (by simp_all)⟩;have g:(r.2.2.1==(0:Int))=kc:=by simp_all);rw[hb,E4];exact Ae (by simp only[Cb,Cn (show d.length<N by omega),cT,g,cF])
theorem lZ{n:Nat}{r g:Rd}{l:LI}(f:l.length<1000000)(h:xI n r l g):∃l',BY (r,(l.length:Int),(n:Int))=kd (l',g)/\(g.2.2.1=0->l'=l):=by obtain⟨l',k,a⟩:=b3k f h [] (by simp);simp_all[BY]
theorem c6r(u:Nat)(h:u<18446744073709551616):bits .u64 .and (u:Int) 1=((u%2:Nat):Int):=by show zN .u64 (((A4 64 (u:Int)) &&& (A4 64 1)).toNat:Int)=_;grind[Au]
theorem d1m{y:Nat}(g:y<9223372036854775808):bits .i64 .xor (-1) (y:Int)=-(y:Int)-1:=by(show zN .i64 (((A4 64 (-1)) ^^^ (A4 64 (y:Int))).toNat:Int)=_;have h:((A4 64 (-1)) ^^^ (A4 64 (y:Int))).toNat=18446744073709551615-y:=by rw[show A4 64 (-1)=BitVec.allOnes 64 from by rfl,J8,BitVec.toNat_not,BitVec.ofInt_natCast,BitVec.toNat_ofNat,E2 (by omega)]);grind[zN,IntKind.bits,IntKind.signed]
theorem b0X{u:Nat}(b:u<18446744073709551616):VV (u:Int)=Fj (u:Int):=by(have a:D4 (u:Int) 2=((u%2:Nat):Int):=rfl;have f:E1 (u:Int) 2=((u / 2:Nat):Int):=rfl;have k:AR .u64 (u:Int) 1=((u / 2:Nat):Int):=EI (N:=u) (o:=1) (by omega);have c:zN .u64 ((u / 2:Nat):Int)=((u / 2:Nat):Int):=Au (by omega);have d:zN .i64 ((u / 2:Nat):Int)=((u / 2:Nat):Int):=Ac (by omega);unfold VV Fj;simp only[a,f,k,c,d,c6r u b];have g:u%2=0\/u%2=1:=by omega);rcases g with h|h;simp_all;rw[h,d1m (by omega),Ac (n:=0-((u / 2:Nat):Int)) (by omega),Ac (n:=0-((u / 2:Nat):Int)-1) (by omega)];simp
theorem rO{u:Nat}(h:u<18446744073709551616):RF (u:Int)=GP (u:Int):=by simp_all[RF,GP,b0X,Fj]
theorem a2H{u:Nat}(g:u<2147483648):∃x,Aq x=ka/\AN x=u:=by by_cases h:u%2=0;refine⟨((u / 2:Nat):Int),EG.2 (by omega),?_⟩;unfold AN;grind;refine⟨-((u / 2:Nat):Int)-1,EG.2 (by omega),?_⟩;unfold AN;grind
theorem b3l{L:LI}(Y:vW L){r:Rd}(hr:St L r){k:Nat}(hk:k<=25){N i:Nat}(hi:i<N)(hN:N<1000000){acc:LI}(ha:acc.length<1000000):
  (∃x H,Aq x=ka/\H.2.2.1=0/\St L H/\NC L r H (OB k x)/\
   BC ((k:Int),(N:Int),(i:Int),acc,r,())=kd (.inl ((k:Int),(N:Int),((i+1:Nat):Int),acc++[x],H,()))/\
   BE ((k:Int),(N:Int),(i:Int),acc,r,())=kd (.inl ((k:Int),(N:Int),((i+1:Nat):Int),acc++[x],H,())))\/
  ∃(e:Int)(H:Rd),e≠0/\BC ((k:Int),(N:Int),(i:Int),acc,r,())=kd (.inr (.inr (e,[],H,())))/\
   BE ((k:Int),(N:Int),(i:Int),acc,r,())=kd (.inr (.inr (e,[],H,()))):=by
 obtain⟨q,V,hq,O,K,h3,h4,h5⟩:=a9M Y hr;have F:2^k<=33554432:=Nat.le_trans (C0 (by simp) hk) (by simp);have Z:=D3 k;have I:zN .u64 (q:Int)=(q:Int):=Au (by omega);have T:zN .u64 (k:Int)=(k:Int):=Au (by omega);have w:A3 ((k:Int)<0)=kc:=by simp
 have h:=Cn hi;have z:=Ay (show acc.length+1<2147483648 by omega);have C:=Aa (show i<1000000 by omega);by_cases e1:V.2.2.1=0;rotate_left
 
 have q0:=h5 e1;subst q0;refine .inr ⟨V.2.2.1,V,e1,?_,?_⟩;simp_all[BC,FA,Ai,HY];have d:A3 (((0:Nat):Int)<32)=ka:=by rfl
 simp only[BE,h,cT,K,d,T,w,cF,rM e1,oB,HY e1];have o:(V.2.2.1 != (0:Int))=kc:=by simp_all
 have h7:∀(c:Nat)(n:Nat),c<=62->(c:Int)=(n:Int)->c=n:=by omega
 by_cases hq32:q<32;have d:A3 ((q:Int)<32)=ka:=by grind
 obtain⟨v,m,U,D,E,X,g4⟩:=Ep Y h3 (n:=k) (by omega);have A:AO .u64 (q:Int) (k:Int)=((q*2^k:Nat):Int):=LX (by omega) (by
  have:q*2^k<=31*33554432:=B9 (by omega) F
  omega)
 have h8:q*2^k<=31*33554432:=B9 (by omega) F;have G:zN .u64 (((q*2^k:Nat):Int)+(v:Int))=((q*2^k+v:Nat):Int):=by rw[Au (by omega)];rfl
 have R:bits .u64 .or ((q*2^k:Nat):Int) (v:Int)=((q*2^k+v:Nat):Int):=by
  have:=c6k (a:=v) (b:=q) (k:=k) U (by omega)
  rw[Nat.add_comm,<-this];show zN .u64 (((A4 64 _ ||| A4 64 _).toNat:Nat):Int)=zN .u64 (((A4 64 _ ||| A4 64 _).toNat:Nat):Int);grind
 have h0:q*2^k+v<2147483648:=by omega
 obtain⟨x,S,y⟩:=a2H h0;have j:=fG S;rw[y]at j;have f:=rO (u:=q*2^k+v) (by omega);rw[j]at f;by_cases e2:m.2.2.1=0;have l:(m.2.2.1 != (0:Int))=kc:=by grind
 refine .inl ⟨x,m,S,e2,X,?_,?_,?_⟩;have hb:OB k x=a2t q++pb (v:Int) k:=by
  have P:AN x / 2^k=q:=by rw[y,E8,Nat.mul_add_div Z,H1 U];rfl
  have Q:AN x%2^k=v:=by grind[E8,Nat.mul_add_mod,E2]
  unfold OB;rw[P,if_pos hq32,Q]
 grind[NC.trans];simp only[BC,FA,Ai,h,cT,O,oB,o,cF,I,d,D,w,A,G,j,l,z,C,B3];simp only[BE,h,cT,K,d,T,I,w,cF,E,oB,A,R,l,f,z,C,B3];refine .inr ⟨m.2.2.1,m,e2,?_,?_⟩;simp only[BC,FA,Ai,h,cT,O,oB,o,cF,I,d,D,w,A,G,j,HY e2];simp only[BE,h,cT,K,d,T,I,w,cF,E,oB,A,R,HY e2]
 ·have h6:q=32:=by omega
  subst h6;have d:A3 (((32:Nat):Int)<32)=kc:=by rfl
  obtain⟨v,m,U,D,E,X,g4⟩:=Ep Y h3 (n:=32) (by omega);rw[show((32:Nat):Int)=32 from rfl]at D E;by_cases e2:m.2.2.1=0;rotate_left;have g:(m.2.2.1==(0:Int))=kc:=by simp_all
  refine .inr ⟨m.2.2.1,m,e2,?_,?_⟩;simp only[BC,FA,Ai,h,cT,O,oB,o,cF,I,d,D,HY e2];simp only[BE,h,cT,K,d,cF,E,oB,g,HY e2];have l:(m.2.2.1 != (0:Int))=kc:=by simp_all
  have g:(m.2.2.1==(0:Int))=ka:=by simp_all
  have B:AR .u64 (v:Int) (k:Int)=((v / 2^k:Nat):Int):=EI (by omega);have h9:v<4294967296:=U;by_cases hbig:v<2147483648/\32<=v / 2^k;have p:A3 ((v:Int)>=2147483648)=kc:=by grind
  have M:A3 (((v / 2^k:Nat):Int)<32)=kc:=by grind
  obtain⟨x,S,y⟩:=a2H hbig.1;have j:=fG S;rw[y]at j;have f:=rO (u:=v) (by omega);rw[j]at f;refine .inl ⟨x,m,S,e2,X,?_,?_,?_⟩;have hb:OB k x=a2t 32++pb (v:Int) 32:=by
   unfold OB;grind
  grind[NC.trans];simp only[BC,FA,Ai,h,cT,O,oB,o,cF,I,d,D,l,p,w,B,M,j,z,C,B3]
  simp
  simp only[BE,h,cT,K,d,T,cF,E,oB,g,p,w,B,M,l,f,z,C,B3];refine .inr ⟨2,m,by simp,?_,?_⟩;by_cases hb1:v<2147483648;have p:A3 ((v:Int)>=2147483648)=kc:=by grind
  have M:A3 (((v / 2^k:Nat):Int)<32)=ka:=by grind
  simp only[BC,FA,Ai,h,cT,O,oB,o,cF,I,d,D,l,p,w,B,M]
  simp
  have p:A3 ((v:Int)>=2147483648)=ka:=by grind
  simp only[BC,FA,Ai,h,cT,O,oB,o,cF,I,d,D,l,p]
  simp
  by_cases hb1:v<2147483648;have p:A3 ((v:Int)>=2147483648)=kc:=by grind
  have M:A3 (((v / 2^k:Nat):Int)<32)=ka:=by grind
  simp only[BE,h,cT,K,d,T,cF,E,oB,g,p,w,B,M];have p:A3 ((v:Int)>=2147483648)=ka:=by grind
  simp only[BE,h,cT,K,d,cF,E,oB,g,p]
theorem a2I{L:LI}(a:vW L){k:Nat}(c:k<=25){N:Nat}(b:N<1000000):∀(m:Nat)(acc:LI)(r:Rd),acc.length+m=N->St L r->r.2.2.1=0->
  (∃l h,l.length=m/\l.all Aq=ka/\h.2.2.1=0/\St L h/\NC L r h (HX k l)/\
   Al BC ((k:Int),(N:Int),(acc.length:Int),acc,r,())=kd (.inl (acc++l,h,()))/\
   Al BE ((k:Int),(N:Int),(acc.length:Int),acc,r,())=kd (.inl (acc++l,h,())))\/
  ∃(e:Int)(h:Rd),e≠0/\Al BC ((k:Int),(N:Int),(acc.length:Int),acc,r,())=kd (.inr (e,[],h,()))/\
   Al BE ((k:Int),(N:Int),(acc.length:Int),acc,r,())=kd (.inr (e,[],h,()))
 |0,acc,r,u,g,f=>by
  have:acc.length=N:=by omega
  refine .inl ⟨[],r,rfl,rfl,f,g,NC.refl g,?_,?_⟩;all_goals simp_all[Ae,BC,BE]
 |m+1,acc,r,u,g,f=>by
  rcases b3l a g c (N:=N) (i:=acc.length) (by omega) b (acc:=acc) (by omega)with⟨x,B,E,d,C,D,p,q⟩|⟨e,h,j,p,q⟩
  ·have o:(acc++[x]).length=acc.length+1:=by simp
   rw[Af p,Af q,<-o];rcases a2I a c b m (acc++[x]) B (by omega) C d with⟨l,h,F,G,v,w,y,z,A⟩|⟨e,h,j,z,A⟩
   ·refine .inl ⟨x::l,h,by grind,by simp_all,v,w,?_,?_,?_⟩;exact NC.trans D y;all_goals simp_all
   simp_all
  simp_all[Ae]
theorem b3m{L:LI}(b:vW L){k:Nat}(d:k<=25){m:Nat}(i:m<1000000){r:Rd}(j:St L r)(a:r.2.2.1=0):(∃l h,l.length=m/\l.all Aq=ka/\h.2.2.1=0/\St L h/\NC L r h (HX k l)/\Jp (r,(k:Int),(m:Int))=kd (l,0,h)/\Ke (r,(k:Int),(m:Int))=kd (l,0,h))\/∃(e:Int)(h:Rd),e≠0/\Jp (r,(k:Int),(m:Int))=kd ([],e,h)/\Ke (r,(k:Int),(m:Int))=kd ([],e,h):=by
 have z:Cl (k:Int)=kd ka:=by grind[Cl]
 have A:BW (k:Int)=kd ka:=by grind[BW]
 have w:A3 ((m:Int)<0)=kc:=by simp
 have x:A3 ((m:Int) > 4194304)=kc:=by grind
 have y:(r.2.2.1 != (0:Int))=kc:=by simp_all
 rcases a2I b d i m [] r (by simp) j a with⟨l,h,o,p,q,u,v,g,f⟩|⟨e,h,c,g,f⟩;simp only[A7,nZ,E5]at g f;refine .inl ⟨l,h,o,p,q,u,v,?_,?_⟩;unfold Jp Ai;grind;unfold Ke;grind;simp at g f;refine .inr ⟨e,h,c,?_,?_⟩;unfold Jp Ai;grind;unfold Ke;grind
def Iq(x:List Int):Prop:=∀b∈x,0<=b/\b<256
theorem c1r{c:Int}(h:0<=c/\c<256):bits .u8 .and c 127=c%128:=by(have g:∀k:Fin 256,bits .u8 .and (k.1:Int) 127=((k.1%128:Nat):Int):=by decide +kernel);obtain⟨n,rfl⟩:=A9 h.1;have:=g ⟨n,by omega⟩;simp_all
def lB(n c:Int)(i:Nat):Int:=bits .u64 .or n (AO .u64 (c%128) ((7*i:Nat):Int))
def a7u(c:Int)(i:Nat):Bool:=(A3 (i=9)&&A3 (c > 1)) || (A3 (0<i)&&A3 (c=0))
theorem c1s{t:LI}(hb:Iq t)(m:t.length<1000000000){i:Nat}(hi:i<t.length)(l:i<=9)(n:Int):
  Ca (n,t,(t.length:Int),(i:Int),())=bif a7u t[i] i then kd (.inr (.inr (0,0,2,())))else
   bif A3 (t[i]<128)then kd (.inr (.inr (lB n t[i] i,((i+1:Nat):Int),0,())))else kd (.inl (lB n t[i] i,t,(t.length:Int),((i+1:Nat):Int),())):=by
 have g:=hb t[i] (B6 hi);have j:zN .i64 (7*(i:Int))=((7*i:Nat):Int):=by grind[Ac]
 have a:A3 (((7*i:Nat):Int)<0)=kc:=dF (by omega);have f:D4 t[i] 128=t[i]%128:=Int.tmod_eq_emod_of_nonneg g.1;have k:zN .u64 (t[i]%128)=t[i]%128:=Au (by omega);have h:=Aa (show i<1000000 by omega);simp only[Ca,Cn hi,cT,Ad hi,oB];generalize t[i]=c at g f k|-;have b:((i:Int)==9)=A3 (i=9):=by grind
 have d:A3 ((i:Int) > 0)=A3 (0<i):=by simp
 have e:(c==0)=A3 (c=0):=rfl;simp only[b,d,e,a7u];generalize A3 (i=9)=b1;generalize A3 (c > 1)=b2;generalize A3 (0<i)=b3;generalize A3 (c=0)=b4;cases b1<;>cases b2<;>cases b3<;>cases b4 <;>
  simp only[cT,cF,Bool.and_true,L7,Bool.or_true,Bool.or_false,oB,j,a,f,k,h,lB]
theorem b8M{x:LI}(hb:Iq x)(u:x.length<1000000000){p i:Nat}(hi:p+i<x.length)(r:i<=9)(most n:Int):
  Df (most,n,(i:Int),(x,(p:Int),(0:Int),()),())=bif a7u x[p+i] i then kd (.inr (.inr (0,(x,(p:Int),(2:Int),()),())))else
   bif A3 (x[p+i]<128)then(bif A3 (lB n x[p+i] i > most)then kd (.inr (.inr (0,(x,(p:Int),(4:Int),()),())))else kd (.inr (.inr (lB n x[p+i] i,(x,((p+(i+1):Nat):Int),(0:Int),()),()))))
   else kd (.inl (most,lB n x[p+i] i,((i+1:Nat):Int),(x,(p:Int),(0:Int),()),())):=by
 have a:=hb x[p+i] (B6 hi);have e:zN .i64 ((p:Int)+(i:Int))=((p+i:Nat):Int):=by grind[Ac]
 have q:zN .i64 (7*(i:Int))=((7*i:Nat):Int):=by grind[Ac]
 have k:zN .u64 ((7*i:Nat):Int)=((7*i:Nat):Int):=Au (by omega);have j:A3 (((7*i:Nat):Int)<0)=kc:=dF (by omega);have b:=c1r a;have d:zN .u64 (x[p+i]%128)=x[p+i]%128:=Au (by omega);have f:=Aa (show i<1000000 by omega);have g:zN .i64 (((p+i:Nat):Int)+1)=((p+(i+1):Nat):Int):=by grind[Ac]
 simp only[Df,e,Cn hi,cT,Ad hi,oB];generalize x[p+i]=c at a b d|-;have h:A3 (c>=128)=!A3 (c<128):=by
  grind
 have l:((i:Int)==9)=A3 (i=9):=by grind
 have m:A3 ((i:Int) > 0)=A3 (0<i):=by simp
 have o:(c==0)=A3 (c=0):=rfl;simp only[l,m,o,a7u];generalize A3 (i=9)=b1;generalize A3 (c > 1)=b2;generalize A3 (0<i)=b3;generalize A3 (c=0)=b4;cases b1<;>cases b2<;>cases b3<;>cases b4 <;>
  simp only[cT,cF,Bool.and_true,L7,Bool.or_true,Bool.or_false,oB,e,q,k,j,b,d,f,g,h,lB] <;>
  (try (cases A3 (c<128)<;>(try simp only[bT,B4,cT,cF])<;>rfl))
theorem a7v(n c:Int)(i:Nat):0<=lB n c i:=by show 0<=zN .u64 _;grind[zN,IntKind.signed]
theorem b0Y{N i:Nat}{c:Int}(e:0<=c/\c<256)(f:N<2^(7*i))(h:i<=8\/(i=9/\c=1)):lB (N:Int) c i=((N+(c%128).toNat*2^(7*i):Nat):Int)/\N+(c%128).toNat*2^(7*i)<2^(7*(i+1)):=by
 obtain⟨b,hb⟩:=A9 (show 0<=c%128 by omega);have k:b<128:=by omega
 have a:N+b*2^(7*i)<2^(7*(i+1)):=by rw[show 7*(i+1)=7*i+7 from by rfl,Nat.pow_add];have:b*2^(7*i)<=127*2^(7*i):=J2 _ (by omega);omega
 have g:AO .u64 (b:Int) ((7*i:Nat):Int)=((b*2^(7*i):Nat):Int)/\b*2^(7*i)+N<18446744073709551616:=by(rcases h with h|⟨rfl,rfl⟩;have d:2^(7*i)<=2^56:=C0 (by simp) (by omega);have j:b*2^(7*i)<=127*2^56:=B9 (by omega) d;exact⟨LX (by omega) (by omega),by omega⟩;obtain rfl:b=1:=by omega);exact⟨rfl,by omega⟩
 unfold lB;rw[hb,g.1,c6k f g.2];simp_all
theorem a2J{x:LI}(hb:Iq x)(o:x.length<1000000000){p:Nat}(hp:p<=x.length)(most:Int):∀(m i:Nat)(n:Int),p+i+m=x.length->i<=9->(Al Ca (n,x.drop p,((x.drop p).length:Int),(i:Int),())=kd (.inl ())/\Al Df (most,n,(i:Int),(x,(p:Int),(0:Int),()),())=kd (.inl ((x,(p:Int),(0:Int),()),())))\/(Al Ca (n,x.drop p,((x.drop p).length:Int),(i:Int),())=kd (.inr (0,0,2,()))/\Al Df (most,n,(i:Int),(x,(p:Int),(0:Int),()),())=kd (.inr (0,(x,(p:Int),(2:Int),()),())))\/∃(v:Int)(z:Nat),0<=v/\(∀N:Nat,n=(N:Int)->N<2^(7*i)->∃w:Nat,v=((N+w*2^(7*i):Nat):Int)/\z=i+(Be w).length/\(0<i->1<=w))/\p+z<=x.length/\Al Ca (n,x.drop p,((x.drop p).length:Int),(i:Int),())=kd (.inr (v,(z:Int),0,()))/\Al Df (most,n,(i:Int),(x,(p:Int),(0:Int),()),())=bif A3 (v > most)then kd (.inr (0,(x,(p:Int),(4:Int),()),()))else kd (.inr (v,(x,((p+z:Nat):Int),(0:Int),()),()))|0,i,n,D,a=>by(have M:(x.drop p).length=i:=by grind);(have O:zN .i64 ((p:Int)+(i:Int))=(x.length:Int):=by grind[Ac]);simp_all[Ae,Ca,Df]|m+1,i,n,D,a=>by(have l:p+i<x.length:=by omega);(have d:i<(x.drop p).length:=by grind);(have c:Iq (x.drop p):=λb h=>hb b (D7 h);have F:(x.drop p)[i]=x[p+i]:=by simp);have g:=c1s c (by grind) d a n;have f:=b8M hb o l a most n;rw[F]at g;have B:=hb x[p+i] (B6 l);cases hv:a7u x[p+i] i with|true=>simp_all[Ae]|false=>(rw[hv]at g f;simp only[cF]at g f;have u:i<=8\/(i=9/\(x[p+i]<128->x[p+i]=1)):=by(by_cases e:i<=8;omega;obtain rfl:i=9:=by omega);refine .inr ⟨rfl,λ_=>?_⟩;grind[a7u]);(by_cases h128:x[p+i]<128;rw[dE h128]at g f;simp only[cT]at g f;refine .inr (.inr ⟨lB n x[p+i] i,i+1,a7v _ _ _,λN y k=>?_,by omega,Ae g,?_⟩);grind[Pw,b0Y,a7u];grind[Ae];rw[dF h128]at g f;simp only[cF]at g f;have C:i≠9:=λh=>by grind[a7u]);(rw[Af g,Af f];rcases a2J hb o hp most m (i+1) (lB n x[p+i] i) (by omega) (by omega)with h|h|⟨v,z,G,H,I⟩;simp_all;simp_all;refine .inr (.inr ⟨v,z,G,λN y k=>?_,I⟩);obtain⟨L,r⟩:=b0Y (N:=N) B k (.inl (by omega));obtain⟨w,K,q,j⟩:=H _ (by simp_all) r;have j:=j (by omega);obtain⟨b,hb⟩:=A9 (show 0<=x[p+i]%128 by omega);have A:(x[p+i]%128).toNat=b:=by omega);(have E:(b+128*w) / 128=w:=by omega);refine⟨b+128*w,?_,?_,λ_=>by omega⟩;grind;rw[q,RP (show ¬ b+128*w<128 by omega),lC,E];omega
@[reducible] def oP(x:List Int)(k p:Nat)(e:Int):Rd:=(x.drop k,((p:Int),(e,())))
@[reducible] def oR(x:List Int)(k p:Nat)(e:Int):Rd:=(x,(((p+k:Nat):Int),(e,())))
theorem Fa{x:LI}(hb:Iq x)(l:x.length<1000000000){k p:Nat}(hp:p+k<=x.length)(e:Int)(most:Nat):
  ∃(v p':Nat)(b:Int),v<=most/\p'+k<=x.length/\(b=0->e=0/\p'=p+(Be v).length)/\AF (oP x k p e,(most:Int))=kd ((v:Int),oP x k p' b)/\AS (oR x k p e,(most:Int))=kd ((v:Int),oR x k p' b):=by
 by_cases he:e=0;rotate_left
 ·have hb:(e != (0:Int))=ka:=by simp_all
  refine⟨0,p,e,K8 _,hp,λh=>absurd h he,?_,?_⟩;all_goals simp[AF,hb,AS]
 subst he;have i:A3 ((0:Int)<=(p:Int))=ka:=by simp
 have j:A3 ((p:Int)<=((x.drop k).length:Int))=ka:=by grind
 have c:D9 (D0 (p:Int)) (D6 (x.drop k).length (x.drop k))=x.drop (p+k):=by
  grind[J0]
 have z0:((0:Int) != 0)=kc:=rfl;unfold AF AS oP oR Jj;simp only[z0,zQ,i,j,A6,c];have d:=a2J hb l (p:=p+k) (by omega) (most:Int) (x.length-(p+k)) 0 0 (by omega) (by omega);simp only[nZ]at d;rcases d with⟨g,f⟩|⟨g,f⟩|⟨v,z,m,a,y,g,f⟩;erw[g,f];exact⟨0,p,3,K8 _,hp,λh=>(by omega),rfl,rfl⟩;erw[g,f];exact⟨0,p,2,K8 _,hp,λh=>(by omega),rfl,rfl⟩;erw[g,f];obtain⟨u,rfl⟩:=A9 m;by_cases hgt:(u:Int) > (most:Int);grind;simp only[dF hgt,cF];obtain⟨w,q,r,-⟩:=a 0 rfl (by simp);have o:w=u:=by omega
 refine⟨u,p+z,0,by omega,by omega,λ_=>⟨trivial,by simp_all⟩,?_,?_⟩;have w:zN .i64 ((p:Int)+(z:Int))=((p+z:Nat):Int):=by grind[Ac]
 grind;grind
theorem b6t{k:Int}{n N:Nat}(e:N<1000000){r g:Rd}{l:LI}(h:xI n r l g):∀(d:LI),d.length+l.length=N->Al FB (k,(n:Int),(N:Int),(d.length:Int),d,r,())=kd (k,(n:Int),d++l,g,()):=by induction h with|nil r=>simp_all[Ae,FB]|@cons r b j x l f c h i=>intro d a;rw[lC]at a;rw[Af (s':=(k,(n:Int),(N:Int),((d++[x]).length:Int),d++[x],b,())) (by simp only[FB,Cn (show d.length<N by omega),zQ,f,Ay (show d.length+1<2147483648 by omega),Aa (show d.length<1000000 by omega)];simp)];grind
theorem a2K{n:Nat}(g:n<=31){l:LI}(h:∀x∈l,Xx n x):l.all Aq=ka:=lA.2 λx f=>by have k:2^n<=2^31:=C0 (by simp) g;have:=h x f;unfold Xx at this;grind[EG]
theorem b6u{L:LI}(A:vW L){r:Rd}(V:St L r){m:Nat}(hm:m<=5000):
  (∃(k:Nat)(l:LI)(b:Rd),kB (k:Int)=ka/\l.length=m/\l.all Aq=ka/\b.2.2.1=0/\St L b/\NC L r b (RN (k:Int) l)/\Dm (r,(m:Int))=kd ((k:Int),l,0,b)/\
   ∃h,AB (r,(5:Int))=kd ((k:Int),h)/\h.2.2.1=0/\IB (h,(k:Int),(m:Int))=kd (l,0,b))\/
  ∃(e:Int)(b:Rd)(X:Int)(Y:LI)(v:Nat)(h:Rd),e≠0/\v<32/\Dm (r,(m:Int))=kd (X,Y,e,b)/\AB (r,(5:Int))=kd ((v:Int),h)/\
   (h.2.2.1≠0\/(h.2.2.1=0/\∃(l1:LI)(a:Int)(r2:Rd),a≠0/\IB (h,(v:Int),(m:Int))=kd (l1,a,r2))):=by
 obtain⟨k,h,i,z,c,H,I⟩:=Ep A V (n:=5) (by omega);have i:k<32:=i;rw[show((5:Nat):Int)=5 from rfl]at z c;by_cases a:h.2.2.1=0;rotate_left;refine .inr ⟨h.2.2.1,h,0,[],k,h,a,i,?_,c,.inl a⟩;simp_all[Dm,Ai,HY];have o:(h.2.2.1 != (0:Int))=kc:=by simp_all
 have F:zN .i64 (k:Int)=(k:Int):=Ac (by omega);have g:BW (k:Int)=kd (A3 ((k:Int)<=25)):=by
  rfl
 by_cases hk25:k<=25;have j:A3 ((k:Int)<=25)=ka:=by grind
 have f:((k:Int) != 31)=ka:=by grind
 rw[j]at g;rcases b3m A hk25 (show m<1000000 by omega) H a with⟨l,b,x,y,C,G,T,U,D⟩|⟨e,b,K,U,D⟩;refine .inl ⟨k,l,b,?_,x,y,C,G,?_,?_,h,c,a,?_⟩;simp[kB];omega;unfold RN;rw[if_neg (by omega),tN];exact NC.trans I T;simp_all[Dm,Ai];simp only[IB,f,cT,g,oB,bT,cF,D];refine .inr ⟨e,b,(k:Int),[],k,h,K,i,?_,c,.inr ⟨a,[],e,b,K,?_⟩⟩;simp_all[Dm,Ai];simp only[IB,f,cT,g,oB,bT,cF,D];have j:A3 ((k:Int)<=25)=kc:=by grind
 rw[j]at g;by_cases hk31:k=31;rotate_left;have f:((k:Int) != 31)=ka:=by grind
 refine .inr ⟨2,h,0,[],k,h,by simp,i,?_,c,.inr ⟨a,[],2,h,by simp,?_⟩⟩;simp only[Dm,Ai,z,oB,o,cF,F,j,f,cT];simp only[IB,f,cT,g,oB,B4];subst hk31;have q:((31:Nat):Int)=31:=rfl;rw[q]at z c I F j g;have f:((31:Int) != 31)=kc:=by rfl
 obtain⟨w,r2,M,x,y,C,G⟩:=Ep A H (n:=5) (by omega);have M:w<32:=M;rw[show((5:Nat):Int)=5 from rfl]at x y;have S:zN .i64 (w:Int)=(w:Int):=Ac (by omega);obtain⟨l,d,O,P,Z,q4,q5⟩:=rN A (n:=w) (by omega) m C;have Q:=b6t (k:=(31:Int)) (N:=m) (by omega) O [] (by simp_all);obtain⟨B,R,q8⟩:=lZ (by omega) O;simp at Q;rw[P]at R;have u:short l:=by unfold short;omega
 by_cases e3:d.2.2.1=0;rotate_left
 ·refine .inr ⟨d.2.2.1,d,0,[],31,h,e3,i,?_,c,.inr ⟨a,[],d.2.2.1,d,e3,?_⟩⟩;all_goals simp_all[Dm,Ai,HY,IB]
 have p:(d.2.2.1 != (0:Int))=kc:=by simp_all
 obtain rfl:=q8 e3;by_cases hwd:Ap B=w
 ·have E:(((Ap B:Nat):Int) != (w:Int))=kc:=by simp_all
  refine .inl ⟨31,B,d,by rfl,P,a2K (by omega) Z,e3,q4,?_,?_,h,c,a,?_⟩;unfold RN;rw[if_pos (show((31:Nat):Int)=31 from rfl),hwd];grind[NC.trans];all_goals simp_all[Dm,Ai,BU,IB,Km]
 have E:(((Ap B:Nat):Int) != (w:Int))=ka:=by grind
 refine .inr ⟨2,d,0,[],31,h,by simp,i,?_,c,.inr ⟨a,[],2,d,by simp,?_⟩⟩;simp[Dm,Ai,z,o,F,x,S];erw[Q];simp only[oB,p,cF,BU u,E,cT];rw[q];simp only[IB,f,cF,y,S,oB,R,p,Km u,E,cT]
def rP:YN:=(0,[],())
theorem UO{L:LI}(P:vW L){o:Int}{z0:YN}{all:List Nat}(u:all.length<=256):∀(c h:List Nat)(g acc:LI)(r:Rd),h++c=all->g.length=h.length->acc.length+c.sum<=5000->St L r->r.2.2.1=0->
  (∃(d l:LI)(a:Rd),d.length=c.length/\d.all kB=ka/\l.length=c.sum/\l.all Aq=ka/\a.2.2.1=0/\St L a/\NC L r a (DQ c d l)/\
   Al CA (((Cq all).length:Int),(h.length:Int),acc,Cq all,r,z0,(o,g,()),())=kd (.inl (acc++l,z0,(o,g++d,()),a,()))/\
   Al Dq ((h.length:Int),Cq all,acc,r,z0,(o,g,()),())=kd (.inl (acc++l,z0,(o,g++d,()),a,())))\/
  ∃(e F:Int)(a B:Rd),e≠0/\F≠0/\
   Al CA (((Cq all).length:Int),(h.length:Int),acc,Cq all,r,z0,(o,g,()),())=kd (.inr (e,[],rP,a,()))/\
   Al Dq ((h.length:Int),Cq all,acc,r,z0,(o,g,()),())=kd (.inr (F,[],rP,B,()))
 | [],h,g,acc,r,X,Z,R,D,O=>by
  have hl:(Cq all).length=h.length:=by simp_all[Cu]
  refine .inl ⟨[],[],r,rfl,rfl,rfl,rfl,O,D,NC.refl D,?_,?_⟩;all_goals simp_all[Ae,CA,Dq]
 |z::c,h,g,acc,r,X,Z,R,D,O=>by
  rw[G7]at R;have h2:(Cq all).length=all.length:=Cu all;have V:all.length=h.length+1+c.length:=by grind
  have b:h.length<(Cq all).length:=by omega
  have C:A3 ((0:Int)<=(h.length:Int))=ka:=by simp
  have E:I4 (Cq all) h.length 0=(z:Int):=by grind[a2w]
  have i:BM (g.length+1)=ka:=Ay (by omega);have y:zN .i64 ((h.length:Int)+1)=(((h++[z]).length:Nat):Int):=by grind[Ac]
  rcases b6u P D (m:=z) (by omega)with⟨k,l,j,k1,k2,k3,k4,k5,k6,p,ra,qa,qb,qc⟩|⟨e,a,k0,l0,v,j,I,hv,p,q,Y⟩
  ·have wk:zN .i64 (k:Int)=(k:Int):=by
    have:(k:Int)<=31:=by
     simp only[kB,Bool.or_eq_true,HC,dT,beq_iff_eq]at k1;omega
    exact Ac (by omega)
   have A:BM (acc.length+l.length)=ka:=Ay (by omega);have M:(ra.2.2.1 != (0:Int))=kc:=by simp_all
   rw[Af (f:=CA) (s':=(((Cq all).length:Int),(((h++[z]).length:Nat):Int),acc++l,Cq all,j,z0,(o,g++[(k:Int)],()),())) (by
    simp only[CA,Cn b,C,A6,cT,tN,E,p,oB,bN,cF,i,A,y,B3])]
   rw[Af (f:=Dq) (s':=((((h++[z]).length:Nat):Int),Cq all,acc++l,j,z0,(o,g++[(k:Int)],()),())) (by
    simp only[Dq,Cn b,C,A6,cT,tN,E,qa,oB,M,wk,qc,bN,cF,i,A,y,B3])]
   rcases UO P (o:=o) (z0:=z0) u c (h++[z]) (g++[(k:Int)]) (acc++l) j (by simp_all) (by grind) (by grind) k5 k4 with⟨d,l2,a,g1,g2,g3,g4,S,T,g7,g8,U⟩|⟨e,F,a,B,I,w,g8,U⟩
   ·refine .inl ⟨(k:Int)::d,l++l2,a,by grind,by simp_all,by simp_all,by simp_all,S,T,?_,?_,?_⟩;all_goals grind[DQ,NC.trans]
   simp_all
  have wv:zN .i64 (v:Int)=(v:Int):=Ac (by omega);have w:(e != (0:Int))=ka:=by simp_all
  have Q:Al CA (((Cq all).length:Int),(h.length:Int),acc,Cq all,r,z0,(o,g,()),())=kd (.inr (e,[],rP,a,())):=
   Ae (by simp only[CA,Cn b,C,A6,cT,tN,E,p,oB,w];rfl)
  rcases Y with G|⟨G,l1,N,r2,K,hq⟩;exact .inr ⟨e,j.2.2.1,a,j,I,G,Q,Ae (by simp only[Dq,Cn b,cT,q,oB,HY G];rfl)⟩;have H:(j.2.2.1 != (0:Int))=kc:=by simp_all
  have x:(N != (0:Int))=ka:=by simp_all
  exact .inr ⟨e,N,a,r2,I,K,Q,Ae (by simp only[Dq,Cn b,C,A6,cT,tN,E,q,oB,H,wv,cF,i,hq,x];rfl)⟩
theorem a9N{L:LI}(x:vW L){r:Rd}(E:St L r){n sF:Int}(g:SP n sF=ka):
  (∃(p:YN)(l:LI)(b:List Nat)(h:Rd),sS p n sF l b/\h.2.2.1=0/\St L h/\NC L r h (EJ p b l)/\
   Jq (r,n,sF)=kd (p,l,0,h)/\IC (r,n,sF)=kd (p,l,0,h))\/
  ∃(e d:Int)(p p':YN)(l l':LI)(h a:Rd),e≠0/\d≠0/\Jq (r,n,sF)=kd (p,l,e,h)/\IC (r,n,sF)=kd (p',l',d,a):=by
 obtain⟨o,u,y,v,w,C,M⟩:=Ep x E (n:=4) (by omega);have y:o<16:=y;rw[show((4:Nat):Int)=4 from rfl]at v w;have I:zN .i64 (o:Int)=(o:Int):=Ac (by omega);unfold Jq IC Ai;simp only[Pv,qB,g,oB,bT,cF,v,w,I,JF,Ja];by_cases e1:u.2.2.1=0;rotate_left;simp only[HY e1,cT];simp_all;have i:(u.2.2.1 != (0:Int))=kc:=by simp_all
 simp only[i,cF];by_cases hz:(ES (o:Int) n sF).length=0;simp_all;have j:((((ES (o:Int) n sF).length:Nat):Int)==0)=kc:=by simp_all
 simp only[j,cF];obtain⟨b,A,K,B⟩:=iG hz;have f:=g;simp[SP]at f;rw[A];rcases UO x (o:=(o:Int)) (z0:=rP) B b [] [] [] u rfl rfl (by grind) C e1 with⟨z,l,h,O,P,Q,F,G,H,R,m,q⟩|⟨e,d,h,a,N,D,m,q⟩;simp at m q;have hb:MY ((o:Int),z,()) n sF=ka:=by
  simp_all[MY,Cu]
 obtain⟨c,k⟩:=sS.of (p:=((o:Int),z,())) (n:=n) (sF:=sF) (l:=l) hb (by omega) F (by omega);have e:c=b:=by
  have:=k.sizes
  grind[RL]
 subst e;refine .inl ⟨_,l,c,h,k,G,H,?_,?_,?_⟩;grind[EJ,NC.trans];erw[m];rfl;erw[q];rfl;simp_all[rP]
theorem b6v{n:Nat}{N:Nat}(i:N<1000000){r k:Rd}{l:LI}(h:xI n r l k):∀(d:LI),d.length+l.length=N->∃l',Al Cb ((N:Int),(n:Int),(d.length:Int),d,r,())=kd (d++l',k,())/\l'.length<=l.length:=by induction h with|nil r=>simp_all[Ae,Cb]|@cons r e o x l a f h c=>(intro d b;rw[lC]at b;by_cases h0:r.2.2.1=0;obtain⟨l',j,m⟩:=c (d++[x]) (by grind);refine⟨x::l',?_,by simp_all⟩;have g:(r.2.2.1==(0:Int))=ka:=by simp_all);rw[Af (s':=((N:Int),(n:Int),(((d++[x]).length:Nat):Int),d++[x],e,())) (by simp only[Cb,Cn (show d.length<N by omega),cT,g,f h0,oB,Ay (show d.length+1<2147483648 by omega),Aa (show d.length<1000000 by omega)];simp)];(simp_all;have hb:=b0W (xI.cons a f h) h0;refine⟨[],?_,by simp⟩;have g:(r.2.2.1==(0:Int))=kc:=by simp_all);rw[hb,E4];exact Ae (by simp only[Cb,Cn (show d.length<N by omega),cT,g,cF])
theorem b3n{n:Nat}{r g:Rd}{l:LI}(f:l.length<1000000)(h:xI n r l g):∃l',BY (r,(l.length:Int),(n:Int))=kd (l',g)/\(g.2.2.1=0->l'=l)/\l'.length<=l.length:=by obtain⟨l',k,a⟩:=lZ f h;grind[b6v,BY,A7]
theorem b3o{n:Nat}{N:Nat}(e:N<1000000)(s:CP){r g:Rd}{l:LI}(h:xI n r l g):∀(d:LI),d.length+l.length=N->Al DD ((n:Int),(N:Int),(d.length:Int),r,Un s d,())=kd ((n:Int),Un s (d++l),g,()):=by induction h with|nil r=>simp_all[Ae,DD]|@cons r b i x l f c h a=>intro d k;rw[lC]at k;rw[Af (s':=((n:Int),(N:Int),((d++[x]).length:Int),b,Un s (d++[x]),())) (by simp only[DD,Cn (show d.length<N by omega),zQ,f,Un,Ay (show d.length+1<2147483648 by omega),Aa (show d.length<1000000 by omega)];simp)];rw[a (d++[x]) (by simp;omega)];simp
def Wy(v:Nat)(c:List Int)(t:Int):List Int:=pb ((c.length-1:Nat):Int) 5++(pb t 4++(pb (v:Int) 5++sB v c))
theorem YZ{L:LI}(b:vW L){r:Rd}(C:St L r)(s:CP)(K:s.2.2.2.2.2.1=[]):∃(c:LI)(t v:Nat)(h:Rd),1<=c.length/\c.length<=32/\t<16/\v<32/\St L h/\NC L r h (Wy v c (t:Int))/\Hr (r,s)=kd (((Ap c:Int)==(v:Int)),h,Un (fI s (t:Int)) c)/\∃k,DL (r,s)=kd (h,Un (fI s (t:Int)) k)/\(h.2.2.1=0->k=c):=by(obtain⟨a,Q,o,l,m,B,I⟩:=Ep b C (n:=5) (by omega);obtain⟨t,R,d,i,j,A,H⟩:=Ep b B (n:=4) (by omega);obtain⟨v,S,e,p,q,D,M⟩:=Ep b A (n:=5) (by omega);have o:a<32:=o;have d:t<16:=d;have e:v<32:=e;rw[show((5:Nat):Int)=5 from rfl]at l m p q;rw[show((4:Nat):Int)=4 from rfl]at i j;obtain⟨c,h,u,E,O,F,P⟩:=rN b (n:=v) (by omega) (a+1) D;have y:zN .i64 (a:Int)=(a:Int):=Ac (by omega);have f:zN .i64 ((a:Int)+1)=((a+1:Nat):Int):=Aa (by omega);have z:zN .i64 (t:Int)=(t:Int):=Ac (by omega);have wv:zN .i64 (v:Int)=(v:Int):=Ac (by omega);have w:=b3o (N:=a+1) (by omega) (fI s (t:Int)) u [] (by simp_all);obtain⟨k,x,G⟩:=lZ (by omega) u;rw[E]at x;simp only[A7,nZ,E5,C1]at w;have g:((s.1,s.2.1,s.2.2.1,(t:Int),s.2.2.2.2):CP)=Un (fI s (t:Int)) []:=by grind[Un,fI]);refine⟨c,t,v,h,by omega,by omega,d,e,F,?_,?_,k,?_,G⟩;grind[Wy,NC.trans];simp only[Hr,l,i,p,oB,y,f,z,wv];erw[g,w];simp;rw[show(Un (fI s (t:Int)) c).2.2.2.2.2.1=c from rfl,BU (show short c by unfold short;omega)];rfl;simp only[DL,m,j,q,oB,y,f,z,wv,x];rfl
def UP(s:CP)(t:List Int):CP:=(s.1,s.2.1,s.2.2.1,s.2.2.2.1,s.2.2.2.2.1,s.2.2.2.2.2.1,t,s.2.2.2.2.2.2.2)
theorem b6w{L:LI}(I:vW L){r:Rd}(K:St L r)(w:Int)(s:CP)(j:s.2.2.2.2.2.2.1=[0,0,0])(n e b:Int)(z:CP):∃(a c d:Int)(g:Rd),St L g/\NC L r g (sB 8 [a,c,d])/\Al Ck (w,(0:Int),r,s,())=kd (w,g,UP s [a,c,d],())/\∃(l:LI),BY (r,(3:Int),(8:Int))=kd (l,g)/\∃t,t.length=3/\Al ER (n,e,b,(0:Int),l,g,z,s,())=kd (n,e,b,g,z,UP s t,())/\(g.2.2.1=0->t=[a,c,d]):=by obtain⟨l,g,k,D,U,N,O⟩:=rN I (n:=8) (by omega) 3 K;obtain⟨m,E,P,F⟩:=b3n (by omega) k;rw[D]at E F;match l,D with|[a,c,d],_=>(have o:zN .i64 ((0:Int)+1)=1:=by rfl);(have Q:zN .i64 ((1:Int)+1)=2:=by rfl);(have R:zN .i64 ((2:Int)+1)=3:=by rfl);(have i:A3 ((0:Int)<3)=ka:=by rfl);(have f:A3 ((0:Int)<=0)=ka:=by rfl);(have G:A3 ((1:Int)<3)=ka:=by rfl);(have p:A3 ((0:Int)<=1)=ka:=by rfl);(have H:A3 ((2:Int)<3)=ka:=by rfl);(have q:A3 ((0:Int)<=2)=ka:=by rfl);(have S:A3 ((3:Int)<3)=kc:=by rfl);refine⟨a,c,d,g,N,O,?_,m,E,?_⟩;(cases k with|cons A _ k=>cases k with|cons B _ k=>cases k with|cons C _ k=>cases k;rw[show((8:Nat):Int)=8 from rfl]at A B C;rw[Af (s':=(w,(1:Int),_,UP s [a,0,0],())) (by simp only[Ck,i,f,A6,zQ,A,o,j];rfl)];rw[Af (s':=(w,(2:Int),_,UP s [a,c,0],())) (by simp only[Ck,G,p,A6,zQ,B,Q];rfl)];rw[Af (s':=(w,(3:Int),_,UP s [a,c,d],())) (by simp only[Ck,H,q,A6,zQ,C,R];rfl)];rfl);(have T:∀(t:LI),Al ER (n,e,b,(m.length:Int),m,g,z,UP s t,())=kd (n,e,b,g,z,UP s t,()):=λt=>Ae (by simp_all[ER]));(have M:s=UP s [0,0,0]:=by grind[UP]);(have z0:A3 ((0:Int)<0)=kc:=by rfl);match m,F with|[],_=>exact⟨[0,0,0],rfl,by grind,λh=>by grind⟩|[x],_=>refine⟨[x,0,0],rfl,?_,λh=>by grind⟩;rw[Af (s':=(n,e,b,(1:Int),[x],g,z,UP s [x,0,0],())) (by simp only[ER,D2,Int.natCast_one,show A3 ((0:Int)<1)=ka from rfl,i,f,A6,cT,o,j];rfl)];rfl|[x,y],_=>refine⟨[x,y,0],rfl,?_,λh=>by grind⟩;have v:(([x,y]:List Int).length:Int)=2:=rfl;rw[Af (s':=(n,e,b,(1:Int),[x,y],g,z,UP s [x,0,0],())) (by simp only[ER,v,show A3 ((0:Int)<2)=ka from rfl,i,f,A6,cT,o,j];rfl)];rfl|[x,y,u],_=>refine⟨[x,y,u],rfl,?_,λh=>P h⟩;have v:(([x,y,u]:List Int).length:Int)=3:=rfl;rw[Af (s':=(n,e,b,(1:Int),[x,y,u],g,z,UP s [x,0,0],())) (by simp only[ER,v,i,f,A6,cT,o,j];rfl)];rfl|_::_::_::_::_,h=>simp at h
def a7w(s:CP)(g:List UY):CP:=(s.1,s.2.1,s.2.2.1,s.2.2.2.1,s.2.2.2.2.1,s.2.2.2.2.2.1,s.2.2.2.2.2.2.1,g,s.2.2.2.2.2.2.2.2)
theorem rQ{L:LI}(c:vW L)(w:Int)(ok:Bool)(s:CP)(n f b:Int)(z:CP){N:Nat}(y:N<1000):∀(m:Nat)(d:List UY)(r:Rd),d.length+m=N->St L r->∃(g:List UY)(h:Rd),g.length=m/\St L h/\NC L r h (So g)/\Al DU (w,ok,(N:Int),(d.length:Int),r,a7w s d,())=kd (w,ok,a7w s (d++g),h,())/\Al Lz (n,f,b,(N:Int),(d.length:Int),r,z,a7w s d,())=kd (n,f,b,h,z,a7w s (d++g),())|0,d,r,C,k=>by(have:d.length=N:=by omega);refine⟨[],r,rfl,k,NC.refl k,?_,?_⟩;all_goals simp_all[Ae,DU,Lz]|m+1,d,r,C,k=>by(obtain⟨a,P,i,u,v,x,H⟩:=Ep c k (n:=5) (by omega);obtain⟨t,e,l,o,p,q,G⟩:=Ep c x (n:=4) (by omega);have i:a<32:=i;have l:t<16:=l;rw[show((5:Nat):Int)=5 from rfl]at u v;rw[show((4:Nat):Int)=4 from rfl]at o p;have Q:zN .i64 (a:Int)=(a:Int):=Ac (by omega);have F:zN .i64 ((a:Int)+1)=(a:Int)+1:=Ac (by omega);have R:zN .i64 (t:Int)=(t:Int):=Ac (by omega);have B:=Cn (show d.length<N by omega);have A:=Ay (show d.length+1<2147483648 by omega);have D:zN .i64 ((d.length:Int)+1)=((d++[((a:Int)+1,(t:Int),())]).length:Int):=by grind[Ac]);(have j:zN .u64 ((d.length:Int)+1)=((d++[((a:Int)+1,(t:Int),())]).length:Int):=by grind[Au]);obtain⟨g,h,I,E,K,M,O⟩:=rQ c w ok s n f b z y m (d++[((a:Int)+1,(t:Int),())]) e (by grind) q;refine⟨((a:Int)+1,(t:Int),())::g,h,by grind,E,?_,?_,?_⟩;grind[So,NC.trans];rw[Af (s':=(w,ok,(N:Int),((d++[((a:Int)+1,(t:Int),())]).length:Int),e,a7w s (d++[((a:Int)+1,(t:Int),())]),())) (by simp_all[DU,a7w])];simp_all;rw[Af (s':=(n,f,b,(N:Int),((d++[((a:Int)+1,(t:Int),())]).length:Int),e,z,a7w s (d++[((a:Int)+1,(t:Int),())]),())) (by simp_all[Lz,a7w])];simp_all
def b0Z(z15:Int×(Int×Int×Rd×CP×CP×Unit)):Option (CP×Int×Rd):=
 bif z15.2.2.2.1.2.2.1 != (0:Int)then kd ((SX 0),z15.2.2.2.1.2.2.1,z15.2.2.2.1)
 else(
 (LS (z15.2.2.2.2.2.1,z15.1)).bind λb=>
 bif A3 (b<(0:Int))then kd ((SX 0),(2:Int),z15.2.2.2.1)
 else(
 (BY (z15.2.2.2.1,b,z15.2.2.1)).bind λg=>
 bif g.2.2.2.1 != (0:Int)then kd ((SX 0),g.2.2.2.1,g.2)
 else(
 (show Option ((Int×Int×Rd×CP×CP×Unit) ⊕ (Int×CP×Rd×Unit))from
 (GQ z15.2.2.2.2.2.1.1).bind λe=>
 bif e then(
 (IC (g.2,z15.1,b)).bind λf=>
 bif f.2.2.1 != (0:Int)then kd (D1 ((f.2.2.1,(SX 0),f.2.2.2,())))
 else kd (C6 (z15.1,z15.2.1,f.2.2.2,z15.2.2.2.2.1,(z15.2.2.2.2.2.1.1,z15.2.2.2.2.2.1.2.1,z15.2.2.2.2.2.1.2.2.1,z15.2.2.2.2.2.1.2.2.2.1,z15.2.2.2.2.2.1.2.2.2.2.1,z15.2.2.2.2.2.1.2.2.2.2.2.1,z15.2.2.2.2.2.1.2.2.2.2.2.2.1,z15.2.2.2.2.2.1.2.2.2.2.2.2.2.1,g.1,f.1,f.2.1,z15.2.2.2.2.2.1.2.2.2.2.2.2.2.2.2.2.2),())))
 else kd (C6 (z15.1,z15.2.1,g.2,z15.2.2.2.2.1,(z15.2.2.2.2.2.1.1,z15.2.2.2.2.2.1.2.1,z15.2.2.2.2.2.1.2.2.1,z15.2.2.2.2.2.1.2.2.2.1,z15.2.2.2.2.2.1.2.2.2.2.1,z15.2.2.2.2.2.1.2.2.2.2.2.1,z15.2.2.2.2.2.1.2.2.2.2.2.2.1,z15.2.2.2.2.2.1.2.2.2.2.2.2.2.1,g.1,z15.2.2.2.2.2.1.2.2.2.2.2.2.2.2.2),()))).bind λi=>
 match i with
 |.inl h=>(
 (show Option (Bool×CP×CP×Rd×Unit)from
 (Ee ((([]:(List Int)),()),h.2.2.2.2.1,h.1)).bind λc=>
 bif c.1 != (0:Int)then kd (ka,h.2.2.2.1,h.2.2.2.2.1,h.2.2.1,())
 else(
 (Hx (c.2,h.2.2.1,h.2.1)).bind λd=>
 kd (!d.1,h.2.2.2.1,h.2.2.2.2.1,d.2.2,()))).bind λk=>
 bif k.1 then kd ((SX 0),(2:Int),k.2.2.2.1)
 else kd (k.2.2.1,(0:Int),k.2.2.2.1))
 |.inr a=>kd (a.2.1,a.1,a.2.2.1))))
def Rc(k w o t g:Int)(c p:List Int)(st:List UY):CP:=(k,w,o,t,g,c,p,st,[],(0,[],()),[],())
def RS(v:Nat)(s:CP):List Int:=
 if s.1=2 then pb s.2.2.1 3
 else if s.1=3 then Wy v s.2.2.2.2.2.1 s.2.2.2.1
 else if s.1=4 then pb (s.2.2.2.2.1-1) 10++(sB 8 s.2.2.2.2.2.2.1++Wy v s.2.2.2.2.2.1 s.2.2.2.1)
 else if s.1=5 then pb ((s.2.2.2.2.2.2.2.1.length:Nat):Int) 2++So s.2.2.2.2.2.2.2.1
 else[]
structure yE (s:CP) (w v:Nat):Prop where
 width:w<32
 cw:v<32
 same:s.1≠3/\s.1≠4->v=Ap s.2.2.2.2.2.1
 bare:s=Ab.bare s
 small:sM s
 uJ:s.2.2.2.2.2.1.length<=32
theorem b3p{L:LI}(a:vW L){r:Rd}(hr:St L r){n:Int}(n1:1<=n)(n2:n<=4096):∃(s s':CP)(w v:Nat)(k:Rd),yE s w v/\St L k/\NC L r k (pb s.1 3++(pb s.2.1 5++(pb (w:Int) 5++RS v s)))/\Dx r=kd (s,(w:Int),(((Ap s.2.2.2.2.2.1:Nat):Int)==(v:Int)),k)/\Ef (r,n)=b0Z (n,r.2.1,(w:Int),k,SX 0,s',())/\(k.2.2.1=0->s'=s):=by
 obtain⟨K,r1,hK,a1,D,a3,G⟩:=Ep a hr (n:=3) (by omega);obtain⟨W,r2,hW,b1,b2,b3,H⟩:=Ep a a3 (n:=5) (by omega);obtain⟨B,r3,C,E,F,I,M⟩:=Ep a b3 (n:=5) (by omega);have hK:K<8:=hK;have hW:W<32:=hW;have C:B<32:=C;rw[show((3:Nat):Int)=3 from rfl]at a1 D;rw[show((5:Nat):Int)=5 from rfl]at b1 b2 E F;have m:zN .i64 (K:Int)=(K:Int):=Ac (by omega);have o:zN .i64 (W:Int)=(W:Int):=Ac (by omega);have j:zN .i64 (B:Int)=(B:Int):=Ac (by omega);have P:A3 (n<1)=kc:=by simp_all
 have Q:A3 (n > 4096)=kc:=by simp_all
 have hk:K=2\/K=3\/K=4\/K=5\/(K≠2/\K≠3/\K≠4/\K≠5):=by omega
 rcases hk with rfl|rfl|rfl|rfl|⟨k2,k3,k4,k5⟩;obtain⟨O,X,hO,p,q,S,T⟩:=Ep a I (n:=3) (by omega);have hO:O<8:=hO;rw[show((3:Nat):Int)=3 from rfl]at p q;have wO:zN .i64 (O:Int)=(O:Int):=Ac (by omega);have f:(((2:Nat):Int)==2)=ka:=rfl;refine⟨Rc 2 (W:Int) (O:Int) 0 0 [] [0,0,0] [],_,B,0,X,⟨C,by simp,λ_=>rfl,rfl,⟨by simp[Rc],rfl,by simp[Rc],by simp[Rc],by simp[Rc],by simp[Rc]⟩,by simp[Rc]⟩,S,?_,?_,?_,λ_=>rfl⟩;exact NC.trans G (NC.trans H (NC.trans M T));simp only[Dx,a1,b1,E,oB,m,o,j,f,cT,p,wO];rfl;simp only[Ef,P,Q,cF,D,b2,F,oB,m,o,j,f,cT,q,wO];rfl;have f:(((3:Nat):Int)==2)=kc:=rfl;have d:(((3:Nat):Int)==3)=ka:=rfl;have i:(((3:Nat):Int)==4)=kc:=rfl;obtain⟨c,t,v,k,q1,q2,q3,q4,q5,q6,q7,c',q8,q9⟩:=YZ a I (Rc ((3:Nat):Int) (W:Int) 0 0 0 [] [0,0,0] []) rfl;refine⟨Rc 3 (W:Int) 0 (t:Int) 0 c [0,0,0] [],Rc 3 (W:Int) 0 (t:Int) 0 c' [0,0,0] [],B,v,k,⟨C,q4,λh=>absurd rfl h.1,rfl,⟨by simp[Rc];omega,rfl,by simp[Rc],by simp[Rc],by simp[Rc],by simp[Rc]⟩,q2⟩,q5,?_,?_,?_,λh=>by grind⟩;exact NC.trans G (NC.trans H (NC.trans M q6));simp only[Dx,a1,b1,E,oB,m,o,j,f,d,i,cT,cF];erw[q7];rfl;simp only[Ef,P,Q,cF,D,b2,F,oB,m,o,j,f,d,cT];erw[q8];rfl;have f:(((4:Nat):Int)==2)=kc:=rfl;have d:(((4:Nat):Int)==3)=kc:=rfl;have i:(((4:Nat):Int)==4)=ka:=rfl;obtain⟨A,X,hA,p,q,S,T⟩:=Ep a I (n:=10) (by omega);have hA:A<1024:=hA;rw[show((10:Nat):Int)=10 from rfl]at p q;have wA:zN .i64 (A:Int)=(A:Int):=Ac (by omega);have V:zN .i64 ((A:Int)+1)=(A:Int)+1:=Ac (by omega);obtain⟨x,y,z,u,Y,t2,t3,l,Z,tl,t5,t6,t7⟩:=b6w a S (B:Int) (Rc ((4:Nat):Int) (W:Int) 0 0 ((A:Int)+1) [] [0,0,0] []) rfl n r.2.1 (B:Int) (SX 0);obtain⟨c,t,v,k,q1,q2,q3,q4,q5,q6,q7,c',q8,q9⟩:=YZ a Y (Rc ((4:Nat):Int) (W:Int) 0 0 ((A:Int)+1) [] [x,y,z] []) rfl;obtain⟨c0,t0,v0,r0,u1,u2,u3,u4,u5,u6,u7,u8,u9,h4⟩:=YZ a Y (Rc ((4:Nat):Int) (W:Int) 0 0 ((A:Int)+1) [] tl []) rfl;have U:∃s',DL (u,Rc ((4:Nat):Int) (W:Int) 0 0 ((A:Int)+1) [] tl [])=kd (k,s')/\(k.2.2.1=0->s'=Rc 4 (W:Int) 0 (t:Int) ((A:Int)+1) c [x,y,z] []):=by(by_cases h0:u.2.2.1=0;rw[t7 h0];exact⟨_,q8,λh=>by rw[q9 h];rfl⟩;have hb:∀s0:CP,DL (u,s0)=kd (u,Un (fI s0 0) []):=λs0=>by(have h1:BY (u,zN .i64 (zN .i64 0+1),zN .i64 0)=kd ([],u):=by(have e0:(u.2.2.1==(0:Int))=kc:=by simp_all);unfold BY;rw[Ae (b:=([],u,())) (by simp only[Cb,show A3 ((0:Int)<zN .i64 (zN .i64 0+1))=ka from by rfl,cT,e0,cF])];rfl);simp only[DL,rM h0,oB,h1];rfl);simp_all
 obtain⟨s',h2,h3⟩:=U;refine⟨Rc 4 (W:Int) 0 (t:Int) ((A:Int)+1) c [x,y,z] [],s',B,v,k,⟨C,q4,λh=>absurd rfl h.2,rfl,⟨by simp[Rc];omega,rfl,by simp[Rc],by simp[Rc],by simp[Rc],by simp[Rc]⟩,q2⟩,q5,?_,?_,?_,h3⟩;have e:RS v (Rc 4 (W:Int) 0 (t:Int) ((A:Int)+1) c [x,y,z] [])=pb (A:Int) 10++(sB 8 [x,y,z]++Wy v c (t:Int)):=by show pb ((A:Int)+1-1) 10++_=_;rw[show(A:Int)+1-1=(A:Int)from by omega];rfl
 rw[e];exact NC.trans G (NC.trans H (NC.trans M (NC.trans T (NC.trans t2 q6))));simp only[Dx,a1,b1,E,oB,m,o,j,f,i,cT,cF,p,wA,V];erw[t3];simp only[oB];erw[q7];rfl;simp only[Ef,P,Q,cF,D,b2,F,oB,m,o,j,f,d,i,cT,q,wA,V,Z];erw[t6];simp only[oB];erw[h2];rfl;have f:(((5:Nat):Int)==2)=kc:=rfl;have d:(((5:Nat):Int)==3)=kc:=rfl;have i:(((5:Nat):Int)==4)=kc:=rfl;have R:(((5:Nat):Int)==5)=ka:=rfl;obtain⟨N,X,hN,p,q,S,T⟩:=Ep a I (n:=2) (by omega);have hN:N<4:=hN;rw[show((2:Nat):Int)=2 from rfl]at p q;have wN:zN .i64 (N:Int)=(N:Int):=Ac (by omega);obtain⟨g,k,Y,t2,t3,Z,t5⟩:=rQ a (B:Int) ka (Rc ((5:Nat):Int) (W:Int) 0 0 0 [] [0,0,0] []) n r.2.1 (B:Int) (SX 0) (N:=N) (by omega) N [] X (by simp) S;simp at Z t5;refine⟨Rc 5 (W:Int) 0 0 0 [] [0,0,0] g,_,B,0,k,⟨C,by simp,λ_=>rfl,rfl,⟨by simp[Rc],rfl,by simp[Rc];omega,by simp[Rc],by simp[Rc],by simp[Rc]⟩,by simp[Rc]⟩,t2,?_,?_,?_,λ_=>rfl⟩;have e:RS 0 (Rc 5 (W:Int) 0 0 0 [] [0,0,0] g)=pb (N:Int) 2++So g:=by show pb ((g.length:Nat):Int) 2++_=_;rw[Y];rfl
 rw[e];exact NC.trans G (NC.trans H (NC.trans M (NC.trans T t3)));simp only[Dx,a1,b1,E,oB,m,o,j,f,d,i,R,cT,cF,p];erw[Z];rfl;simp only[Ef,P,Q,cF,D,b2,F,oB,m,o,j,f,d,i,R,cT,q,wN];erw[t5];rfl;have f:((K:Int)==2)=kc:=by grind
 have d:((K:Int)==3)=kc:=by grind
 have i:((K:Int)==4)=kc:=by grind
 have R:((K:Int)==5)=kc:=by grind
 refine⟨Rc (K:Int) (W:Int) 0 0 0 [] [0,0,0] [],_,B,0,r3,⟨C,by simp,λ_=>rfl,rfl,⟨by simp[Rc],rfl,by simp[Rc],by simp[Rc],by simp[Rc],by simp[Rc]⟩,by simp[Rc]⟩,I,?_,?_,?_,λ_=>rfl⟩;have e:RS 0 (Rc (K:Int) (W:Int) 0 0 0 [] [0,0,0] [])=[]:=by simp_all[RS,Rc]
 rw[e,E4];exact NC.trans G (NC.trans H M);simp only[Dx,a1,b1,E,oB,m,o,j,f,d,i,R,cF];rfl;simp only[Ef,P,Q,cF,D,b2,F,oB,m,o,j,f,d,i,R];rfl
theorem a9O{n v w:Nat}(g:n<=62)(hv:v<2^n)(c:w<2^n)(h:pb (v:Int) n=pb (w:Int) n):v=w:=by have a:2^n<=2^62:=C0 (by simp) g;have f:∀u:Nat,u<2^n->dA [] (pb (u:Int) n++[]):=λu b=>⟨by grind[b5Z],by simp[LW];omega⟩;have k:=Hz g hv (f v hv);grind[Hz]
theorem c0v{s:CP}{w v:Nat}(b:w<32)(hv:v<32)(k:Ap s.2.2.2.2.2.2.2.2.1<32)(g:Ap s.2.2.2.2.2.1<32)(d:s.1≠3/\s.1≠4->v=Ap s.2.2.2.2.2.1)(X:LI):((SY s++Il s)++(sB (Ap s.2.2.2.2.2.2.2.2.1) s.2.2.2.2.2.2.2.2.1++X)=(pb s.1 3++(pb s.2.1 5++(pb (w:Int) 5++RS v s)))++(sB w s.2.2.2.2.2.2.2.2.1++X))↔(Ap s.2.2.2.2.2.2.2.2.1=w/\Ap s.2.2.2.2.2.1=v):=by(have c:∀u,Ap s.2.2.2.2.2.1=u->RS u s=Il s:=λu e=>by simp_all[RS,Il,LJ,Wy]);constructor;intro h;unfold SY at h;simp only[aA]at h;obtain⟨-,h⟩:=C3 h rfl;obtain⟨-,h⟩:=C3 h rfl;obtain⟨f,h⟩:=C3 h (by rfl);have a:=a9O (n:=5) (by omega) k b f;refine⟨a,?_⟩;by_cases h3:s.1=3;unfold Il RS LJ Wy at h;rw[if_neg (by omega),if_pos h3,if_neg (by omega),if_pos h3]at h;simp only[aA]at h;obtain⟨-,h⟩:=C3 h rfl;obtain⟨-,h⟩:=C3 h rfl;obtain⟨f,h⟩:=C3 h (by rfl);exact a9O (n:=5) (by omega) g hv f;by_cases h4:s.1=4;unfold Il RS LJ Wy at h;rw[if_neg (by omega),if_neg (by omega),if_pos h4,if_neg (by omega),if_neg (by omega),if_pos h4]at h;simp only[aA]at h;obtain⟨-,h⟩:=C3 h rfl;obtain⟨-,h⟩:=C3 h rfl;obtain⟨-,h⟩:=C3 h rfl;obtain⟨-,h⟩:=C3 h rfl;obtain⟨f,h⟩:=C3 h (by rfl);exact a9O (n:=5) (by omega) g hv f;omega;grind[SY]
theorem b8N{L:LI}(f:BL L)(k:L.length<1000000000){i:Nat}(hi:i<L.length):∃x,Ax (wL L).1 (zN .i64 (E1 (i:Int) 8))=kd x/\bits .u8 .and (AR .u8 x (zN .i64 (7-D4 (i:Int) 8))) 1=L.getD i 0:=by(have h:=Um f k hi ((0:Int),(0:Int),());have a:D4 (i:Int) 8=((i%8:Nat):Int):=by rfl);(have g:A3 (zN .i64 (7-D4 (i:Int) 8)<0)=kc:=by grind[Ac]);unfold Bd at h;simp only[g,cF]at h;cases hx:Ax (wL L).1 (zN .i64 (E1 (i:Int) 8))with|none=>simp_all|some x=>simp_all
theorem Ya{L P A R B:LI}(d:vW L)(e:P++(A++R)=L)(z:B.length=A.length)(k:Rd)(F:k=Bm (P++A) R):∀(m i:Nat),i+m=B.length->(∀j,j<i->B.getD j 0=A.getD j 0)->Al GC ((P.length:Int),(i:Int),(B,()),k,())=kd (if B=A then .inl ((B,()),k,())else .inr (kc,(B,()),k,()))|0,i,E,D=>by(have C:i=B.length:=by omega);(subst C;have e:B=A:=by grind[K9]);simp_all[Ae,GC]|m+1,i,E,D=>by(have l:i<B.length:=by omega);(have v:A3 ((0:Int)<=(i:Int))=ka:=by simp);(have H:=d.len;have b:P.length+i<L.length:=by grind);(have G:zN .i64 ((P.length:Int)+(i:Int))=((P.length+i:Nat):Int):=by grind[Ac]);(obtain⟨x,q,c⟩:=b8N d.bits (by omega) b;have o:k.1=(wL L).1:=by simp_all[Bm]);(have u:D4 ((P.length+i:Nat):Int) 8=(((P.length+i)%8:Nat):Int):=by rfl);(have r:zN .i64 (7-(((P.length+i)%8:Nat):Int))=7-(((P.length+i)%8:Nat):Int):=Ac (by omega);have w:zN .u64 (7-(((P.length+i)%8:Nat):Int))=7-(((P.length+i)%8:Nat):Int):=Au (by omega);have g:A3 (7-(((P.length+i)%8:Nat):Int)<0)=kc:=by grind);(have y:L.getD (P.length+i) 0=A.getD i 0:=by grind);(rw[u,r,y]at c;have f:GC ((P.length:Int),(i:Int),(B,()),k,())=bif (B.getD i 0 != A.getD i 0)then kd (.inr (.inr (kc,(B,()),k,())))else kd (.inl ((P.length:Int),((i+1:Nat):Int),(B,()),k,())):=by(have p:zN .i64 ((i:Int)+1)=((i+1:Nat):Int):=by grind[Ac]);simp only[GC,Cn l,v,A6,cT,G,o,q,oB,u,r,w,g,cF,tN,c,p]);(by_cases hb:B.getD i 0=A.getD i 0;have a:(B.getD i 0 != A.getD i 0)=kc:=by simp_all);(rw[a]at f;rw[Af f];exact Ya d e z k F m (i+1) (by omega) λj h=>by grind);(have a:(B.getD i 0 != A.getD i 0)=ka:=by simp_all);rw[a]at f;(have:B≠A:=λh=>hb (by rw[h]));simp_all[Ae]
theorem a7x{L P A R B:LI}(f:vW L)(e:P++(A++R)=L)(a:B.length<1000000000):Hx ((B,()),Bm (P++A) R,(P.length:Int))=kd (A3 (B=A),(B,()),Bm (P++A) R):=by
 have d:=f.len;have k:P.length+A.length<=L.length:=by grind
 have c:zN .i64 ((Bm (P++A) R).2.1-(P.length:Int))=(A.length:Int):=by show zN .i64 (((P++A).length:Int)-(P.length:Int))=_;grind[Ac]
 unfold Hx OR;simp[c];by_cases hB:B.length=A.length;have g:((B.length:Int) != (A.length:Int))=kc:=by simp_all
 have b:=Ya f e hB _ rfl B.length 0 (by omega) (λj h=>by omega);grind;have g:((B.length:Int) != (A.length:Int))=ka:=by grind
 have:B≠A:=λh=>hB (by rw[h])
 grind
theorem b6x{wd:Nat}{N:Nat}(e:N<1000000)(n:Int)(ok:Bool)(z s:CP){r g:Rd}{l:LI}(h:xI wd r l g):∀(d:LI),d.length+l.length=N->Al HL (n,(wd:Int),ok,(N:Int),(d.length:Int),r,z,Dr s d,())=kd (n,(wd:Int),ok,g,z,Dr s (d++l),()):=by induction h with|nil r=>simp_all[Ae,HL]|@cons r b i x l f c h a=>intro d k;rw[lC]at k;rw[Af (s':=(n,(wd:Int),ok,(N:Int),((d++[x]).length:Int),b,z,Dr s (d++[x]),())) (by simp only[HL,Cn (show d.length<N by omega),zQ,f,Dr,Ay (show d.length+1<2147483648 by omega),Aa (show d.length<1000000 by omega)];simp)];rw[a (d++[x]) (by simp;omega)];simp
def UV(s:CP)(p:YN)(l:List Int):CP:=(s.1,s.2.1,s.2.2.1,s.2.2.2.1,s.2.2.2.2.1,s.2.2.2.2.2.1,s.2.2.2.2.2.2.1,s.2.2.2.2.2.2.2.1,s.2.2.2.2.2.2.2.2.1,p,l,s.2.2.2.2.2.2.2.2.2.2.2)
theorem a2L{L P A R:LI}(r:vW L)(e:P++(A++R)=L){s:CP}(h:sM s)(n:Int){f:List Nat}(j:s.1≠0/\s.1≠1->sS s.2.2.2.2.2.2.2.2.2.1 n (s.2.2.2.2.2.2.2.2.1.length:Int) s.2.2.2.2.2.2.2.2.2.2.1 f):∃(q:Int)(B:LI),Ee ((([]:List Int),()),s,n)=kd (q,B,())/\((FY s n).isSome=kc->q=1)/\((FY s n).isSome=ka->q=0/\Hx ((B,()),Bm (P++A) R,(P.length:Int))=kd (A3 (GU s f=A),(B,()),Bm (P++A) R)):=by(obtain⟨q,B,a,o,p,b,c⟩:=qM h (n:=n) (L:=[]) (by simp);refine⟨q,B,a,λh=>(c h).1,λk=>?_⟩;obtain⟨rfl,l,d,g⟩:=b k;have i:=RM k;have m:B=GU s f:=by rw[d,RO i g];by_cases hk:s.1=0\/s.1=1;simp_all[GU];rw[fF (g (not_or.1 hk)) (j (not_or.1 hk))];rfl);refine⟨rfl,?_⟩;grind[a7x]
theorem c6s(b1 b2:Bool){α:Type}(E:α):(bif !b1 then E else bif b2 then E else E)=E:=by simp
theorem c0w{b1 b2:Bool}(h:¬ (b1=ka/\b2=kc)){α:Type}(E F:α):(bif !b1 then E else bif b2 then E else F)=E:=by grind
theorem rR{l:LI}(h:l.all Aq=ka):Ap l<32:=by grind[GH]
theorem a7y{L P R:LI}(H:vW L)(e:P++R=L){n:Int}(n1:1<=n)(n2:n<=4096):
  (∃(s:CP)(d:List Nat)(Y:LI),sM s/\(FY s n).isSome=ka/\(s.1≠0/\s.1≠1->sS s.2.2.2.2.2.2.2.2.2.1 n ((s.2.2.2.2.2.2.2.2.1.length:Nat):Int) s.2.2.2.2.2.2.2.2.2.2.1 d)/\R=GU s d++Y/\
   LP (Bm P R,n)=kd (s,(0:Int),Bm (P++GU s d) Y)/\Ef (Bm P R,n)=kd (s,(0:Int),Bm (P++GU s d) Y))\/
  ∃(s s':CP)(q X:Int)(r' h8:Rd),q≠0/\X≠0/\LP (Bm P R,n)=kd (s,q,r')/\Ef (Bm P R,n)=kd (s',X,h8):=by
 obtain⟨s,s',w,v,r1,a,h7,S,hp,hq,h5⟩:=b3p H (r:=Bm P R) (.inr ⟨P,R,e,rfl⟩) n1 n2;have hw:=a.width;have hv:=a.cw;have d1:A3 (n<1)=kc:=by simp_all
 have d2:A3 (n > 4096)=kc:=by simp_all
 have z0:((Bm P R).2.2.1 != (0:Int))=kc:=rfl;have zz:(Bm P R).2.1=(P.length:Int):=rfl;rw[hq];unfold LP Ai b0Z;simp only[d1,d2,cF,z0,hp,oB];by_cases e1:r1.2.2.1=0;rotate_left;simp only[HY e1,cT];grind;have h0:(r1.2.2.1 != (0:Int))=kc:=by simp_all
 have h6:=h5 e1;subst h6;simp only[h0,cF,qD a.small,a6O,a6Q a.small,YQ,oB];by_cases hf:Wg s'.1 s' n;rotate_left;simp only[hf,decide_false,B4,cT,if_false,show A3 ((-1:Int)<0)=ka from rfl];grind;obtain⟨m0,m1⟩:=Wh a.small n1 n2 hf;obtain⟨m,hm⟩:=A9 m0;have g4:(m:Int)<=n:=by
  rw[<-hm];unfold Cp;rcases hf with k|k|⟨k,y⟩|⟨k,y⟩|⟨k,y⟩|⟨k,y⟩<;>simp[k]<;>omega
 have m2:m<=4096:=by omega
 have dm:A3 ((m:Int)<0)=kc:=by simp
 simp only[hf,decide_true,bT,cF,if_true,fB,oB,hm,dm];obtain⟨l,r2,q1,q2,q3,q4,q5⟩:=rN H (n:=w) (by omega) m h7;have hW:=b6x (N:=m) (by omega) n (((Ap s'.2.2.2.2.2.1:Nat):Int)==(v:Int)) (SX 0) s' q1 [] (by simp_all);obtain⟨g,q7,q8⟩:=lZ (by omega) q1;rw[q2]at q7;have hb:Dr s' []=s':=by rw[a.bare];rfl
 simp[hb]at hW;erw[hW];simp only[q7,oB];by_cases e2:r2.2.2.1=0;rotate_left;simp only[HY e2,cT];grind;have h1:(r2.2.2.1 != (0:Int))=kc:=by simp_all
 have h2:=q8 e2;subst h2;have h4:=a2K (n:=w) (by omega) q3;have T:=rR h4;have c:short g:=by unfold short;omega
 have g0:Ap s'.2.2.2.2.2.1<33:=by grind[Hy]
 have g3:=YS hf;simp only[h1,cF,Kj,JG,oB]

 have K:Ap s'.2.2.2.2.2.1<32:=by
  by_cases h34:s'.1≠3/\s'.1≠4;rw[<-a.same h34];omega
  ·have:UT s'.2.2.2.2.2.1 s'.2.2.2.1=ka:=by
    rcases hf with k|k|⟨k,y⟩|⟨k,y⟩|⟨k,y⟩|⟨k,y⟩;omega;omega;all_goals simp_all
   exact rR (fH this).2.2.2.2
 have G:=NC.trans S q5;by_cases hk:s'.1=0\/s'.1=1
 ·have dk:A3 (s'.1≠0/\s'.1≠1)=kc:=by grind
  have Z:A3 (2<=s'.1/\s'.1<=5)=kc:=by grind
  have x:A3 ((Dr s' g).1≠0/\(Dr s' g).1≠1)=kc:=dk;obtain⟨P0,R0,f1,f2,f3⟩:=G e2;obtain⟨rfl,rfl⟩:=a4J (by simp_all) f2;have I:sM (Dr s' g):=⟨a.small.uJ,a.small.taps,a.small.stages,by show g.length<=5000;omega,a.small.rest,a.small.ks⟩;have hz:(Dr s' g).1≠0/\(Dr s' g).1≠1->sS (Dr s' g).2.2.2.2.2.2.2.2.2.1 n (((Dr s' g).2.2.2.2.2.2.2.2.1.length:Nat):Int) (Dr s' g).2.2.2.2.2.2.2.2.2.2.1 []:=λh=>by
   simp_all
  obtain⟨q,B,p1,U,V⟩:=a2L H f1 I n hz;have f:=c0v (s:=Dr s' g) (w:=w) (v:=v) hw hv T K a.same [];have i:=Ue I n;have E:GU (Dr s' g) []=(SY (Dr s' g)++Il (Dr s' g))++(sB (Ap (Dr s' g).2.2.2.2.2.2.2.2.1) (Dr s' g).2.2.2.2.2.2.2.2.1++[]):=by
   simp_all[GU]
  rw[<-E,E4]at f;have f:GU (Dr s' g) []=(pb s'.1 3++(pb s'.2.1 5++(pb (w:Int) 5++RS v s')))++sB w g↔(Ap g=w/\Ap s'.2.2.2.2.2.1=v):=f;simp only[x,Z,cF];rw[show(Dr s' g).2.2.2.2.2.2.2.2.1=g from rfl,BU c];simp only[oB,i];have C:Ee ((([]:List Int),()),(s'.1,s'.2.1,s'.2.2.1,s'.2.2.2.1,s'.2.2.2.2.1,s'.2.2.2.2.2.1,s'.2.2.2.2.2.2.1,s'.2.2.2.2.2.2.2.1,g,s'.2.2.2.2.2.2.2.2.2),n)=kd (q,B,()):=p1;simp only[C,oB];cases o:(FY (Dr s' g) n).isSome with
  |false=>
   obtain rfl:=U o;simp only[B4,cT,c6s,show((1:Int) != 0)=ka from rfl,oB];grind
  |true=>
   obtain⟨rfl,p4⟩:=V o;rw[f3,zz];simp only[bT,cF,show((0:Int) != 0)=kc from rfl,p4,oB];by_cases hc:Ap g=w/\Ap s'.2.2.2.2.2.1=v;have b1:((((Ap s'.2.2.2.2.2.1:Nat):Int))==(v:Int))=ka:=by simp_all
   have b2:((((Ap g:Nat):Int)) != (w:Int))=kc:=by simp_all
   have z:=f.2 hc;simp only[b1,b2,bT,cF,dE z];grind[Dr];have A:¬ (((((Ap s'.2.2.2.2.2.1:Nat):Int))==(v:Int))=ka/\((((Ap g:Nat):Int)) != (w:Int))=kc):=by
    grind
   have z:¬ GU (Dr s' g) []=(pb s'.1 3++(pb s'.2.1 5++(pb (w:Int) 5++RS v s')))++sB w g:=λh=>hc (f.1 h);simp only[c0w A,dF z,B4,cT];grind
 ·have dk:A3 (s'.1≠0/\s'.1≠1)=ka:=by simp_all
  have Z:A3 (2<=s'.1/\s'.1<=5)=ka:=by grind
  have x:A3 ((Dr s' g).1≠0/\(Dr s' g).1≠1)=ka:=dk;have Q:SP n (m:Int)=ka:=by
   simp_all[SP]
  simp only[x,Z,cT];rw[show(Dr s' g).2.2.2.2.2.2.2.2.1=g from rfl,q2];rcases a9N H q4 Q with⟨p,u,d,r3,D,e3,h9,F,g1,g2⟩|⟨q,X,p,p',u,u',r3,r4,g5,g6,g1,g2⟩;rotate_left;have M:(q != (0:Int))=ka:=by simp_all
  have O:(X != (0:Int))=ka:=by simp_all
  simp only[g1,g2,oB,M,O,cT];grind;simp only[g1,g2,oB,show((0:Int) != 0)=kc from rfl,cF];obtain⟨P0,R0,f1,f2,f3⟩:=(NC.trans G F) e3;obtain⟨rfl,rfl⟩:=a4J (by simp_all) f2;have I:sM (UV (Dr s' g) p u):=⟨a.small.uJ,a.small.taps,a.small.stages,by show g.length<=5000;omega,D.short,by show p.2.1.length<=300;have:=D.ks;have:=D.len;omega⟩;have hz:(UV (Dr s' g) p u).1≠0/\(UV (Dr s' g) p u).1≠1->sS (UV (Dr s' g) p u).2.2.2.2.2.2.2.2.2.1 n (((UV (Dr s' g) p u).2.2.2.2.2.2.2.2.1.length:Nat):Int) (UV (Dr s' g) p u).2.2.2.2.2.2.2.2.2.2.1 d:=λ_=>by
   show sS p n ((g.length:Nat):Int) u d;simp_all
  obtain⟨q,B,p1,U,V⟩:=a2L H f1 I n hz;have f:=c0v (s:=UV (Dr s' g) p u) (w:=w) (v:=v) hw hv T K a.same (EJ p d u);have i:=Ue I n;have E:GU (UV (Dr s' g) p u) d=(SY (UV (Dr s' g) p u)++Il (UV (Dr s' g) p u))++(sB (Ap (UV (Dr s' g) p u).2.2.2.2.2.2.2.2.1) (UV (Dr s' g) p u).2.2.2.2.2.2.2.2.1++EJ p d u):=by
   simp_all[GU,UV]
  rw[<-E]at f;have f:GU (UV (Dr s' g) p u) d=(pb s'.1 3++(pb s'.2.1 5++(pb (w:Int) 5++RS v s')))++sB w g++EJ p d u↔(Ap g=w/\Ap s'.2.2.2.2.2.1=v):=by
   rw[aA];exact f
  have j:Nu ((s'.1,s'.2.1,s'.2.2.1,s'.2.2.2.1,s'.2.2.2.2.1,s'.2.2.2.2.2.1,s'.2.2.2.2.2.2.1,s'.2.2.2.2.2.2.2.1,g,p,u,s'.2.2.2.2.2.2.2.2.2.2.2),n)=kd (FY (UV (Dr s' g) p u) n).isSome:=i;have C:Ee ((([]:List Int),()),(s'.1,s'.2.1,s'.2.2.1,s'.2.2.2.1,s'.2.2.2.2.1,s'.2.2.2.2.2.1,s'.2.2.2.2.2.2.1,s'.2.2.2.2.2.2.2.1,g,p,u,s'.2.2.2.2.2.2.2.2.2.2.2),n)=kd (q,B,()):=p1;obtain⟨bm,o⟩:∃b,(FY (UV (Dr s' g) p u) n).isSome=b:=⟨_,rfl⟩;rw[o]at j U V;simp only[Dr,BU c,oB,j,C];cases bm with
  |false=>
   obtain rfl:=U rfl;simp only[B4,cT,c6s,show((1:Int) != 0)=ka from rfl,oB];grind
  |true=>
   obtain⟨rfl,p4⟩:=V rfl;rw[f3,zz];simp only[bT,cF,show((0:Int) != 0)=kc from rfl,p4,oB];by_cases hc:Ap g=w/\Ap s'.2.2.2.2.2.1=v;have b1:((((Ap s'.2.2.2.2.2.1:Nat):Int))==(v:Int))=ka:=by simp_all
   have b2:((((Ap g:Nat):Int)) != (w:Int))=kc:=by simp_all
   have z:=f.2 hc;simp only[b1,b2,bT,cF,dE z];grind[UV,Dr];have A:¬ (((((Ap s'.2.2.2.2.2.1:Nat):Int))==(v:Int))=ka/\((((Ap g:Nat):Int)) != (w:Int))=kc):=by
    grind
   have z:¬ GU (UV (Dr s' g) p u) d=(pb s'.1 3++(pb s'.2.1 5++(pb (w:Int) 5++RS v s')))++sB w g++EJ p d u:=λh=>hc (f.1 h);simp only[c0w A,dF z,B4,cT];grind
def Er(bs:List Int):List Int:=bs.flatMap λb=>pb b 8
theorem Nb:∀(h:LI),(Er h).length=h.length*8|[]=>rfl|b::h=>by have:=Nb h;unfold Er at this|-;rw[B7,lN,LW,this,lC];omega
theorem Wz:∀(g:LI),Iq g->BL (Er g)|[],_=>(λb hb=>by cases hb)|b::g,h=>by obtain⟨n,k⟩:=A9 (h b (by simp)).1;have a:=(h b (by simp)).2;unfold Er;rw[B7,k];exact BL.app (b5Z (by omega) 8 (by omega)) (Wz g λc f=>h c (by simp[f]))
theorem b1a(v:Int):∀(n i:Nat),i<n->(pb v n).getD i 0=HF v (n-1-i)|0,_,h=>by omega|n+1,0,_=>rfl|n+1,i+1,h=>by have:=b1a v n i (by omega);simp only[pb,F6,this];congr 1;omega
theorem Yb:∀(g:LI)(j k:Nat),j<g.length->k<8->(Er g).getD (8*j+k) 0=HF (g.getD j 0) (7-k)|[],_,_,h,_=>by grind|b::g,0,k,_,f=>by unfold Er;rw[B7,lD,List.getElem?_append_left (by rw[LW];omega),<-lD];grind[b1a]|b::g,j+1,k,h,f=>by have:=Yb g j k (by simp_all) f;grind[Er,LW]
theorem iU{g:LI}(hb:Iq g):(wL (Er g)).1=g:=by
 obtain⟨b,m⟩:=lV (Wz g hb);obtain⟨-,o⟩:=EZ (Er g);rw[Nb]at o;have r:(wL (Er g)).1.length=g.length:=by omega
 apply K9 r;intro j u k;obtain⟨a,p⟩:=A9 (b j).1;have q:=(b j).2;have f:=hb g[j] (B6 k);obtain⟨c,d⟩:=A9 f.1;have e:(wL (Er g)).1[j]=(wL (Er g)).1.getD j 0:=by grind
 have l:g.getD j 0=g[j]:=by grind
 rw[e,p,d];have:a=c:=by apply Nat.eq_of_testBit_eq;intro i;by_cases hi:i<8;have h:=m (8*j+(7-i));rw[Yb g j (7-i) k (by omega),l,d,Nz (by omega) (by omega)]at h;unfold Ul at h;grind;have v:2^8<=2^i:=C0 (by simp) (by omega);grind[Nat.testBit_lt_two_pow]
 omega
theorem a4K{h:LI}(hb:Iq h)(g:h.length<100000):vW (Er h):=⟨Wz h hb,by rw[Nb];omega,by rw[Nb];omega⟩
theorem a9P{L P R:LI}(q:vW L)(e:P++R=L):
  ∃j:Rd,CS (Bm P R)=kd j/\GD (Bm P R)=kd j/\(j.2.2.1≠0\/(j.2.2.1=0/\j.1=(wL L).1/\j.2.1=(((P.length+7) / 8*8:Nat):Int))):=by
 have K:=q.eight;have I:=q.len;obtain⟨m,y⟩:=q.zC e;obtain⟨c,v,M,r⟩:=Wx R λb hb=>m b (I7 _ hb);have E:R.length=c+v.length:=by simp_all
 have D:P.length+R.length=L.length:=by grind
 have l:∀i,i<R.length->∀t,Bd (((wL (P++R)).1,t),((P.length+i:Nat):Int))=kd (R.getD i 0,(wL (P++R)).1,t):=λi g t=>by
  rw[<-a2G P R i];exact Um m (by omega) (by grind) t
 obtain⟨k,N⟩:∃k,(P.length+7) / 8*8=P.length+k:=⟨(P.length+7) / 8*8-P.length,by omega⟩;have G:k<=R.length:=by omega
 have F:k<8:=by omega
 have d:zN .i64 (zN .i64 (E1 (zN .i64 ((P.length:Int)+7)) 8)*8)=((P.length+k:Nat):Int):=by
  rw[Ac (n:=(P.length:Int)+7) (by omega),Int.tdiv_eq_ediv_of_nonneg (by omega),Ac (n:=((P.length:Int)+7) / 8) (by omega),Ac (by omega)];omega
 have z0:((Bm P R).2.2.1 != (0:Int))=kc:=rfl;have C:∀i,D4 ((P.length+i:Nat):Int) 8=(((P.length+i)%8:Nat):Int):=λi=>by rfl
 have x:∀i,i<c->R.getD i 0=0:=λi g=>by grind[b6s]
 have p:∀i,i<100->zN .i64 (((P.length+i:Nat):Int)+1)=((P.length+(i+1):Nat):Int):=λi g=>by rw[Ac (by omega)];rfl

 have A:∀i,i<k->i<c->Bf (((P.length+k:Nat):Int),((P.length+i:Nat):Int),Bm P R,())=kd (.inl (((P.length+k:Nat):Int),((P.length+(i+1):Nat):Int),Bm P R,())):=λi g u=>by
  simp only[Bf,Cn (show P.length+i<P.length+k by omega),cT,Bm];rw[l i (by omega)];simp only[oB,x i u,p i (by omega)];rfl
 have B:∀i,i<k->i<c->CB (((P.length+i:Nat):Int),Bm P R,())=kd (.inl (((P.length+(i+1):Nat):Int),Bm P R,())):=λi g u=>by
  have a:((((P.length+i)%8:Nat):Int) != 0)=ka:=by grind
  simp only[CB,C,a,cT,Xj,Bm];rw[l i (by omega)];simp only[oB,x i u,p i (by omega)];rfl
 by_cases hkc:k<=c;have H:=Bo (f:=Bf) (λi=>(((P.length+k:Nat):Int),((P.length+i:Nat):Int),Bm P R,())) k (b:=.inl (((P.length+k:Nat):Int),Bm P R,())) (λi g=>A i g (by omega))
  (by simp_all[Bf])
 have z:=Bo (f:=CB) (λi=>(((P.length+i:Nat):Int),Bm P R,())) k (b:=.inl (((P.length+k:Nat):Int),Bm P R,())) (λi g=>B i g (by omega))
  (by
   have a:((((P.length+k)%8:Nat):Int) != 0)=kc:=by grind
   simp_all[CB])
 refine⟨((wL L).1,((P.length+k:Nat):Int),(0:Int),()),?_,?_,.inr ⟨rfl,rfl,by grind⟩⟩;unfold CS;simp only[z0,cF];rw[show(Bm P R).2.1=(P.length:Int)from rfl,d];simp_all[Bm];simp_all[GD,Bm]
 ·have o:∃w,v=1::w:=by
   rcases r with rfl|h;all_goals simp_all
  obtain⟨w,rfl⟩:=o;have b1:R.getD c 0=1:=by simp_all
  have H:=Bo (f:=Bf) (λi=>(((P.length+k:Nat):Int),((P.length+i:Nat):Int),Bm P R,())) c (b:=.inr (((wL (P++R)).1,(P.length:Int),(2:Int),()),())) (λi g=>A i (by omega) g)
   (by
    simp_all[Bf,Bm])
  have z:=Bo (f:=CB) (λi=>(((P.length+i:Nat):Int),Bm P R,())) c (b:=.inr (((wL (P++R)).1,(P.length:Int),(2:Int),()),())) (λi g=>B i (by omega) g)
   (by
    have a:((((P.length+c)%8:Nat):Int) != 0)=ka:=by grind
    simp only[CB,C,a,cT,Xj,Bm];simp_all)
  refine⟨((wL (P++R)).1,(P.length:Int),(2:Int),()),?_,?_,.inl (show(2:Int)≠0 by simp)⟩;unfold CS;simp[z0];rw[show(Bm P R).2.1=(P.length:Int)from rfl,d];simp_all;unfold GD;simp[z0];erw[z];rfl
def rS(f:AQ)(l:List AH):AQ:=(f.1,f.2.1,f.2.2.1,l,f.2.2.2.2)
theorem b6y(u:Int):∃g,Fj u=kd g:=by unfold Fj;cases (D4 u 2==0)<;>exact⟨_,rfl⟩
theorem c1t{c:Nat}(k:c<=100000){g:Int}(h:Fj (c:Int)=kd g):Px g=c:=by
 by_cases e:c%2=0;have f:Px ((c / 2:Nat):Int)=c:=by unfold Px;grind
 grind[a9E];have f:Px (-(((c+1) / 2:Nat):Int))=c:=by unfold Px;grind
 grind[a9E]
theorem rT{x:LI}(hb:Iq x)(j:x.length<1000000000)(f z:AQ){N:Nat}(H:N<=16):∀(m:Nat)(d:List AH)(p:Nat)(e:Int),d.length+m=N->p+2<=x.length->∃(k:List AH)(p':Nat)(i:Int),k.length=m/\p'+2<=x.length/\(i=0->e=0/\p'=p+(k.flatMap Io).length)/\Al De (x,(N:Int),(d.length:Int),rS f d,oP x 2 p e,())=kd (x,rS f (d++k),oP x 2 p' i,())/\Al Oa (x,(N:Int),(d.length:Int),z,oR x 2 p e,rS f d,())=kd (x,z,oR x 2 p' i,rS f (d++k),())|0,d,p,e,M,q=>by(have:d.length=N:=by omega);refine⟨[],p,e,rfl,q,λh=>⟨h,rfl⟩,?_,?_⟩;all_goals simp_all[Ae,De,Oa]|m+1,d,p,e,M,q=>by(obtain⟨a,p1,F,ha,r,U,a1,C⟩:=Fa hb j q e 7;obtain⟨b,p2,G,I,v,V,b1,b2⟩:=Fa hb j r F 7;obtain⟨c,y,l,hc,w,X,D,E⟩:=Fa hb j v G 2048;rw[show((7:Nat):Int)=7 from rfl]at a1 C b1 b2;rw[show((2048:Nat):Int)=2048 from rfl]at D E;obtain⟨g,A⟩:=b6y (c:Int);have o:=b0X (u:=c) (by omega);rw[A]at o;have L:=Cn (show d.length<N by omega);have K:=Ay (show d.length+1<2147483648 by omega);have O:zN .i64 ((d.length:Int)+1)=((d++[(zN .i64 (a:Int),zN .i64 (b:Int),g,())]).length:Int):=by grind[Ac]);(have B:zN .u64 ((d.length:Int)+1)=((d++[(zN .i64 (a:Int),zN .i64 (b:Int),g,())]).length:Int):=by grind[Au]);(obtain⟨k,p',i,k1,P,Y,k3,k4⟩:=rT hb j f z H m (d++[(zN .i64 (a:Int),zN .i64 (b:Int),g,())]) y l (by grind) w;refine⟨(zN .i64 (a:Int),zN .i64 (b:Int),g,())::k,p',i,by grind,P,λh=>?_,?_,?_⟩;obtain⟨T,t3⟩:=Y h;obtain⟨S,t2⟩:=X T;obtain⟨R,t1⟩:=V S;obtain⟨Q,t0⟩:=U R;refine⟨Q,?_⟩;have Z:(zN .i64 (a:Int)).toNat=a:=by grind[Ac]);(have wb:(zN .i64 (b:Int)).toNat=b:=by grind[Ac]);rw[B7,lN];simp only[Io,Z,wb,c1t (by omega) A,lN];omega;rw[Af (s':=(x,(N:Int),((d++[(zN .i64 (a:Int),zN .i64 (b:Int),g,())]).length:Int),rS f (d++[(zN .i64 (a:Int),zN .i64 (b:Int),g,())]),oP x 2 y l,())) (by simp_all[De,rS])];simp_all;rw[Af (s':=(x,(N:Int),((d++[(zN .i64 (a:Int),zN .i64 (b:Int),g,())]).length:Int),z,oR x 2 y l,rS f (d++[(zN .i64 (a:Int),zN .i64 (b:Int),g,())]),())) (by simp_all[Oa,rS])];simp_all
theorem b8O{x:LI}{i:Nat}(h:i<x.length):D9 i (D6 (i+1) x)=[x.getD i 0]:=by grind[G8]
theorem b8P{x:LI}{i:Nat}(h:i+1<x.length):D9 i (D6 (i+2) x)=[x.getD i 0,x.getD (i+1) 0]:=by grind[G8]
theorem OF{x:LI}{i:Nat}(h:i<x.length):Ax x (i:Int)=kd (x.getD i 0):=by simp_all[Ad]
theorem a9Q{x:LI}(hb:Iq x)(hl:x.length<1000000):
  ∃(f:AQ)(j body:Nat)(e:Int),Gc x=kd (f,(j:Int),(body:Int),e)/\TV x=kd (f,(body:Int),(j:Int),e)/\
   (e=0->dB f/\f.2.2.2.2.1=[]/\j<=x.length/\body<=1048576/\3<=j/\j=(Du f body).length)/\(e≠0->f=FZ/\j=0/\body=0):=by
 unfold Gc TV;by_cases h2:x.length<2;have d:A3 (((x.length:Nat):Int)<2)=ka:=by grind
 simp only[d,cT];exact⟨FZ,0,0,3,rfl,rfl,λh=>(by omega),λ_=>⟨rfl,rfl,rfl⟩⟩;have d:A3 (((x.length:Nat):Int)<2)=kc:=by grind
 have g0:Ax x (0:Int)=kd (x.getD 0 0):=OF (i:=0) (by omega);have g1:Ax x (1:Int)=kd (x.getD 1 0):=OF (i:=1) (by omega);have Y:A3 ((2:Int)<=((x.length:Nat):Int))=ka:=by simp_all
 simp only[d,cF,g0,g1,oB];cases hm0:(x.getD 0 0 != (245:Int))with
 |true=>
  simp only[cT,oB];exact⟨FZ,0,0,2,rfl,rfl,λh=>(by omega),λ_=>⟨rfl,rfl,rfl⟩⟩
 |false=>
 simp only[cF,oB];cases hm1:(x.getD 1 0 != (75:Int))with
 |true=>
  simp only[cT];exact⟨FZ,0,0,2,rfl,rfl,λh=>(by omega),λ_=>⟨rfl,rfl,rfl⟩⟩
 |false=>
 simp only[cF,Y,cT];have q:Gq (D9 2 (D6 x.length x))=kd (oP x 2 0 0):=by
  unfold Gq oP;grind[Ay]
 have a:AT ((x,(0:Int),(0:Int),()),(2:Int))=kd (x.take 2,oR x 2 0 0):=by
  have G:zN .i64 (((x.length:Nat):Int)-0)=(x.length:Int):=by grind[Ac]
  have I:Fk (2:Int) (0:Int)=2:=rfl;have l:A3 ((2:Int) > (x.length:Int))=kc:=by omega
  have L:zN .i64 ((0:Int)+2)=2:=rfl;have C:A3 ((0:Int)<=2)=ka:=rfl;have E:A3 ((0:Int)<=((D0 2:Nat):Int))=ka:=rfl;have F:A3 ((0:Int)<=0)=ka:=rfl;unfold AT Dp oR;simp only[bN,cF,oB,G,I,l,L,C,Y,E,F,A6,cT];simp_all[Ay]
 unfold JC;simp only[q,a,oB];obtain⟨w,p1,G,l1,q1,t1,a1,r1⟩:=Fa hb (by omega) (k:=2) (p:=0) (by omega) 0 4194304;obtain⟨y,p2,e2,l2,q2,t2,P,r2⟩:=Fa hb (by omega) q1 G 4096;obtain⟨z,p3,e3,l3,q3,t3,Q,r3⟩:=Fa hb (by omega) q2 e2 1048576;obtain⟨A,p4,e4,l4,q4,t4,R,r4⟩:=Fa hb (by omega) q3 e3 8;obtain⟨B,p5,e5,l5,q5,t5,S,r5⟩:=Fa hb (by omega) q4 e4 24;obtain⟨D,p6,e6,l6,q6,t6,T,r6⟩:=Fa hb (by omega) q5 e5 16;rw[show((4194304:Nat):Int)=4194304 from rfl]at a1 r1;rw[show((4096:Nat):Int)=4096 from rfl]at P r2;rw[show((1048576:Nat):Int)=1048576 from rfl]at Q r3;rw[show((8:Nat):Int)=8 from rfl]at R r4;rw[show((24:Nat):Int)=24 from rfl]at S r5;rw[show((16:Nat):Int)=16 from rfl]at T r6;have w1:zN .i64 (w:Int)=(w:Int):=Ac (by omega);have L:zN .i64 (y:Int)=(y:Int):=Ac (by omega);have w3:zN .i64 (z:Int)=(z:Int):=Ac (by omega);have w4:zN .i64 (A:Int)=(A:Int):=Ac (by omega);have w5:zN .i64 (B:Int)=(B:Int):=Ac (by omega);have w6:zN .i64 (D:Int)=(D:Int):=Ac (by omega);simp only[a1,P,Q,R,S,T,r1,r2,r3,r4,r5,r6,w1,L,w3,w4,w5,w6,oB];obtain⟨ls,p7,e7,k1,q7,t7,U,r7⟩:=rT hb (by omega) ((w:Int),(y:Int),((z:Int),(A:Int),(B:Int),()),[],[],()) FZ (N:=D) l6 D [] p6 e6 (by simp) q6;simp at U r7;erw[U,r7];simp only[oB];obtain⟨K,g,e8,l8,q8,t8,V,r8⟩:=Fa hb (by omega) q7 e7 1048576;rw[show((1048576:Nat):Int)=1048576 from rfl]at V r8;have w8:zN .i64 (K:Int)=(K:Int):=Ac (by omega);simp only[V,r8,w8,oB,DS,Co,Ey];by_cases he:e8=0;rotate_left;have m:(e8 != (0:Int))=ka:=by simp_all
 have v:AT (oR x 2 g e8,(1:Int))=kd ([],oR x 2 g e8):=by
  unfold AT oR;grind
 simp only[v,oB];simp only[oP,oR,m,cT];exact⟨FZ,0,0,e8,rfl,rfl,λh=>absurd h he,λ_=>⟨rfl,rfl,rfl⟩⟩;subst he;have h0:(x.drop 2).length=x.length-2:=L0;have Z:zN .i64 ((((x.drop 2).length:Nat):Int)-(g:Int))=((x.length-2-g:Nat):Int):=by grind[Ac]
 have eR:zN .i64 (((x.length:Nat):Int)-((g+2:Nat):Int))=((x.length-2-g:Nat):Int):=by grind
 have I:Fk (1:Int) (0:Int)=1:=rfl;by_cases hlast:x.length-2-g<1;have l:A3 (((x.length-2-g:Nat):Int)<1)=ka:=by simp_all
 have X:A3 ((1:Int) > ((x.length-2-g:Nat):Int))=ka:=by omega
 have v:AT (oR x 2 g 0,(1:Int))=kd ([],oR x 2 g 3):=by
  simp_all[AT,Dp]
 simp only[v,oB];simp only[oP,oR,bN,cF,Z,l,cT,show((3:Int) != 0)=ka from rfl];exact⟨FZ,0,0,3,rfl,rfl,λh=>(by omega),λ_=>⟨rfl,rfl,rfl⟩⟩;have l:A3 (((x.length-2-g:Nat):Int)<1)=kc:=by grind
 have X:A3 ((1:Int) > ((x.length-2-g:Nat):Int))=kc:=by omega
 have r:g+2<x.length:=by omega
 have M:zN .i64 (((g+2:Nat):Int)+1)=((g+2+1:Nat):Int):=by grind[Ac]
 have O:zN .i64 ((2:Int)+(g:Int))=((g+2:Nat):Int):=by grind[Ac]
 have C:A3 ((0:Int)<=((g+2:Nat):Int))=ka:=dE (B8 _);have E:A3 (((g+2:Nat):Int)<=((x.length:Nat):Int))=ka:=by grind
 have F:A3 ((0:Int)<=((g+2+1:Nat):Int))=ka:=dE (B8 _);have c6:A3 (((g+2+1:Nat):Int)<=((x.length:Nat):Int))=ka:=by grind
 have c7:A3 (((g+2:Nat):Int)<=((g+2+1:Nat):Int))=ka:=by grind
 have o:D9 (g+2) (D6 (g+2+1) x)=[x.getD (g+2) 0]:=b8O r;have v:AT (oR x 2 g 0,(1:Int))=kd ([x.getD (g+2) 0],oR x 2 (g+1) 0):=by
  unfold AT Dp oR;simp only[bN,cF,oB,eR,I,X,M,F,c6,C,c7,A6,cT,tN,o,Ay (show 0+[x.getD (g+2) 0].length<2147483648 by simp),B3,C1];try rw[show g+2+1=g+1+2 from by omega]
 have g8:=OF r;have u:short (x.take (g+2)):=by unfold short;grind
 have c8:A3 ((0:Int)<(([x.getD (g+2) 0].length:Nat):Int))=ka:=rfl;have H:I4 [x.getD (g+2) 0] 0 (0:Int)=x.getD (g+2) 0:=rfl;simp only[v,oB];simp only[oP,oR,bN,cF,Z,l,O,C,E,A6,cT,tN,qX u,cM u,g8,c8,H];by_cases hsum:Uo (x.take (g+2))=x.getD (g+2) 0;rotate_left;have b:(Uo (x.take (g+2)) != x.getD (g+2) 0)=ka:=by simp_all
 have c:(x.getD (g+2) 0 != Uo (x.take (g+2)))=ka:=by grind
 simp only[oB,b,c,cT];exact⟨FZ,0,0,5,rfl,rfl,λh=>(by omega),λ_=>⟨rfl,rfl,rfl⟩⟩;have b:(Uo (x.take (g+2)) != x.getD (g+2) 0)=kc:=by simp_all
 have c:(x.getD (g+2) 0 != Uo (x.take (g+2)))=kc:=by simp_all
 simp only[oB,b,c,cF,QS,Wt,oB];by_cases hf:dB (rS ((w:Int),(y:Int),((z:Int),(A:Int),(B:Int),()),[],[],()) ls)
 ·rw[dE hf];refine⟨rS ((w:Int),(y:Int),((z:Int),(A:Int),(B:Int),()),[],[],()) ls,g+3,K,0,?_,?_,λ_=>⟨hf,rfl,by omega,l8,by omega,?_⟩,λh=>absurd rfl h⟩;grind;rotate_left;obtain⟨s7,u8⟩:=t8 rfl;grind[Du,Go.Ab.hb,rS,lN,lC,tN];grind
 rw[dF hf];exact⟨FZ,0,0,2,rfl,rfl,λh=>(by omega),λ_=>⟨rfl,rfl,rfl⟩⟩
theorem iV{n:Int}:∀{f ys:List PZ},f.map (·.1)=ys.map (·.1)->(∀p∈f,a1v n p)->(∀p∈ys,a1v n p)->Az f=Az ys|[],[],_,_,_=>rfl|[],_::_,h,_,_=>(by cases h)|_::_,[],h,_,_=>(by cases h)|(s,z)::f,(i,a)::ys,h,b,c=>by(simp only[C8,List.cons.injEq]at h;obtain⟨rfl,h⟩:=h;have d:=iV h (λp k=>b p (by simp[k])) (λp k=>c p (by simp[k]));have e:GU s z=GU s a:=by(unfold GU;by_cases hk:s.1=0\/s.1=1;simp only[if_pos hk];have g:s.1≠0/\s.1≠1:=by omega);obtain rfl:z=a:=fF ((b (s,z) (by simp)).2.2 g) ((c (s,a) (by simp)).2.2 g);rfl);unfold Az at d|-;rw[B7,B7,d,e]
theorem a2M{L:LI}(B:vW L)(h:Int)(z f:AQ)(x:1<=f.2.1)(A:f.2.1<=4096){k:Nat}(j:f.2.2.1.2.1=(k:Int))(F:k<=8):∀(m:Nat)(d:List CP)(P R:LI),d.length+m=k->P++R=L->
  (∃(c:List PZ)(i g:LI),(∀p∈c,a1v f.2.1 p)/\c.length=m/\i++g=L/\i=P++Az c/\
   Al CH (h,(k:Int),(d.length:Int),z,FQ f d,Bm P R,())=kd (.inl (h,z,FQ f (d++c.map (·.1)),Bm i g,()))/\
   Al Dg (h,(d.length:Int),z,FQ f d,Bm P R,())=kd (.inl (h,z,FQ f (d++c.map (·.1)),Bm i g,())))\/
  (Al CH (h,(k:Int),(d.length:Int),z,FQ f d,Bm P R,())=kd (.inr (0,2,FZ,()))/\
   Al Dg (h,(d.length:Int),z,FQ f d,Bm P R,())=kd (.inr (0,2,FZ,())))
 |0,d,P,R,I,e=>by
  have V:(k:Int)=(d.length:Int):=by omega
  refine .inl ⟨[],P,R,(λs X=>by grind),rfl,e,by simp[Az],?_,?_⟩;all_goals simp_all[Ae,CH,Dg,FQ]
 |m+1,d,P,R,I,e=>by
  have l:=Cn (show d.length<k by omega);have H:=Ay (show d.length+1<2147483648 by omega);rcases a7y B e x A with⟨s,o,g,G,r,u,T,p,q⟩|⟨s,s',a,b,r',S,U,hb,p,q⟩
  ·have K:zN .i64 ((d.length:Int)+1)=(((d++[s]).length:Nat):Int):=by grind[Ac]
   have E:(P++GU s o)++g=L:=by simp_all
   rw[Af (f:=CH) (s':=(h,(k:Int),(((d++[s]).length:Nat):Int),z,FQ f (d++[s]),Bm (P++GU s o) g,())) (by
    simp_all[CH,FQ])]
   rw[Af (f:=Dg) (s':=(h,(((d++[s]).length:Nat):Int),z,FQ f (d++[s]),Bm (P++GU s o) g,())) (by
    simp_all[Dg,FQ])]
   rcases a2M B h z f x A j F m (d++[s]) (P++GU s o) g (by grind) E with⟨c,i,D,Y,Z,M,Q,N,O⟩|⟨N,O⟩
   ·refine .inl ⟨(s,o)::c,i,D,λy C=>?_,by grind,M,by rw[Q];simp[Az],?_,?_⟩;rcases mC.1 C with rfl|C;exact⟨G,r,u⟩;simp_all;all_goals simp_all
   simp_all
  have v:(a != (0:Int))=ka:=by simp_all
  have w:(b != (0:Int))=ka:=by simp_all
  refine .inr ⟨Ae ?_,Ae ?_⟩;simp only[CH,l,cT,FQ,p,oB,v];rfl;simp only[Dg,FQ,j,l,cT,q,oB,w];rfl
theorem b6z{s c d:Int}(k:0<=s/\s<65536)(g:0<=c/\c<256)(f:0<=d/\d<256):(s != bits .u16 .or (AO .u16 (zN .u16 c) 8) (zN .u16 d))=!A3 (s / 256=c/\s%256=d)/\Nw ([s / 256,s%256],[c,d])=kd (A3 (s / 256=c/\s%256=d)):=by have h:=c6m (v:=256*c+d) (by omega);rw[show(256*c+d) / 256=c from by omega,show(256*c+d)%256=d from by omega]at h;rw[h];constructor;grind;unfold Nw a4V;simp only[C8,List.map_nil];congr 1;grind
theorem b3q{x:LI}(hb:Iq x)(hl:x.length<100000):
  ∃(f:AQ)(n e:Int),HM x=kd (f,n,e)/\LA x=kd (f,n,e)/\(∀s∈f.2.2.2.2.1,sM s)/\f.2.2.2.1.length<=16/\f.2.2.2.2.1.length<=8/\
   (e=0->(DY f).isSome=ka/\dB f/\5<=n/\n<=(x.length:Int)/\∃c:List PZ,c.map (·.1)=f.2.2.2.2.1/\(∀p∈c,a1v f.2.1 p)/\n=((Kw f (Az c)).length:Int))/\(e≠0->f=FZ/\n=0):=by
 have c:∀s∈FZ.2.2.2.2.1,sM s:=λs m=>by cases m
 obtain⟨f,k,g,e,h1,h2,h3,h4⟩:=a9Q hb (by omega);unfold HM LA;simp only[h1,h2,oB];by_cases he:e=0;rotate_left;have T:(e != (0:Int))=ka:=by simp_all
 simp only[T,cT];exact⟨FZ,0,e,rfl,rfl,c,by decide,by decide,λh=>absurd h he,λ_=>⟨rfl,rfl⟩⟩;subst he;obtain⟨hf,h6,g6,S,g5,G⟩:=h3 rfl;have w1:zN .i64 ((k:Int)+(g:Int))=((k+g:Nat):Int):=by grind[Ac]
 have w2:zN .i64 (((k+g:Nat):Int)+2)=((k+g+2:Nat):Int):=by grind[Ac]
 have w3:zN .i64 (((k+g:Nat):Int)+1)=((k+g+1:Nat):Int):=by grind[Ac]
 simp only[bN,cF,w1,w2,w3];by_cases hsh:x.length<k+g+2;have d:A3 (((x.length:Nat):Int)<((k+g+2:Nat):Int))=ka:=by grind
 simp only[d,cT];exact⟨FZ,0,3,rfl,rfl,c,by decide,by decide,λh=>(by omega),λ_=>⟨rfl,rfl⟩⟩;have d:A3 (((x.length:Nat):Int)<((k+g+2:Nat):Int))=kc:=by grind
 have c1:A3 ((0:Int)<=((k+g:Nat):Int))=ka:=dE (B8 _);have c2:A3 (((k+g:Nat):Int)<=((x.length:Nat):Int))=ka:=by grind
 have c3:A3 ((0:Int)<=(k:Int))=ka:=dE (B8 _);have c4:A3 ((k:Int)<=((k+g:Nat):Int))=ka:=by grind
 have c5:A3 ((0:Int)<=((k+g+2:Nat):Int))=ka:=dE (B8 _);have c6:A3 (((k+g+2:Nat):Int)<=((x.length:Nat):Int))=ka:=by simp_all
 have c7:A3 (((k+g:Nat):Int)<=((k+g+2:Nat):Int))=ka:=by grind
 have g1:=OF (x:=x) (i:=k+g) (by omega);have g2:=OF (x:=x) (i:=k+g+1) (by omega);have o:short (x.take (k+g)):=by unfold short;grind
 have hr:=OC (x.take (k+g));have wu:zN .u64 (Im (x.take (k+g)))=Im (x.take (k+g)):=Au (by omega);have H:D9 (k+g) (D6 (k+g+2) x)=[x.getD (k+g) 0,x.getD (k+g+1) 0]:=b8P (by omega);have F:∀i,i<x.length->0<=x.getD i 0/\x.getD i 0<256:=λi hi=>by
  have:x.getD i 0=x[i]:=by simp_all
  rw[this];exact hb _ (B6 hi)
 obtain⟨t1,t2⟩:=b6z hr (F (k+g) (by omega)) (F (k+g+1) (by omega));simp only[d,cF,c1,c2,A6,cT,tN,YV o,Ww o,oB,g1,g2,wu,a7q hr,c3,c4,c5,c6,c7,H,t1,t2];by_cases hsum:Im (x.take (k+g)) / 256=x.getD (k+g) 0/\Im (x.take (k+g))%256=x.getD (k+g+1) 0;rotate_left;rw[dF hsum];simp only[B4,cT];exact⟨FZ,0,5,rfl,rfl,c,by decide,by decide,λh=>(by omega),λ_=>⟨rfl,rfl⟩⟩;rw[dE hsum];simp only[bT,cF]

 obtain⟨B,hB⟩:∃B,D9 k (D6 (k+g) x)=B:=⟨_,rfl⟩;have D:Iq B:=λb h=>by rw[<-hB]at h;exact hb b (D8 (D7 h))
 have h7:B.length=g:=by grind
 have E:=a4K D (by omega);have L:Nt B=kd (Bm [] (Er B)):=by
  unfold Nt Bm;rw[Ay (by omega),cT,C1,iU D];rfl
 have v:MT B=kd (Bm [] (Er B)):=by
  simp_all[MT,Bm,iU]
 rw[hB];simp only[L,v,oB];obtain⟨q1,q2,q3,q4,q5,q6⟩:=id hf;obtain⟨f1,f2,f3,f4,f5,f6⟩:=q1;obtain⟨M,r⟩:∃M:Nat,f.2.2.1.2.1=(M:Int):=⟨f.2.2.1.2.1.toNat,by omega⟩;have V:FQ f []=f:=by grind[FQ]
 have w:=a2M E ((k+g:Nat):Int) FZ f q2 q3 r (by omega) M [] [] (Er B) (by simp) rfl;rw[V]at w;simp only[A7,nZ,E5,C1]at w;have I:=q6.2.2.1;rcases w with⟨qs,A,j,kz,k2,N,kb,k4,k5⟩|⟨k4,k5⟩;rotate_left;rw[r];erw[k4,k5];exact⟨FZ,0,2,rfl,rfl,c,by decide,by decide,λh=>(by omega),λ_=>⟨rfl,rfl⟩⟩;rw[r];erw[k4,k5];obtain⟨a,y⟩:∃a,qs.map (·.1)=a:=⟨_,rfl⟩;rw[y];have Z:∀s∈a,sM s:=λs m=>by
  rw[<-y]at m;obtain⟨p,hp,rfl⟩:=E7.1 m;exact(kz p hp).1
 have k2:a.length=M:=by grind
 have U:=E.left N;have h8:=E.eight;have h5:=E.len;have g0:A.length+j.length=(Er B).length:=by grind
 obtain⟨C,a1,a2,l⟩:=a9P E N;have K:Fi (FQ f a)=kd (DY (FQ f a)).isSome:=rE (λs m=>Z s m);have u:Hw (FQ f a)=kd (DY (FQ f a)).isSome:=rI (λs m=>Z s m);have wl:zN .i64 (zN .i64 ((8:Int)*(((Bm A j).1.length:Nat):Int))-(Bm A j).2.1)=(j.length:Int):=by
  show zN .i64 (zN .i64 ((8:Int)*(((wL (A++j)).1.length:Nat):Int))-(A.length:Int))=_;rw[Ac (n:=(8:Int)*_) (by omega),Ac (by omega)];omega
 simp only[oB,Cz,BX,Ai,wl,a1,a2];have h0:∀{b:Bool}{X Y:Option (AQ×Int×Int)},b=ka->X=Y->(bif b then X else Y)=Y:=λ_ h=>by grind
 by_cases hR8:j.length<8
 ·have Q:A3 ((j.length:Int)>=8)=kc:=by grind
  simp only[Q,cF];rcases l with l|⟨l,O,P⟩;simp only[HY l,cT];exact⟨FZ,0,2,rfl,rfl,c,by decide,by decide,λh=>(by omega),λ_=>⟨rfl,rfl⟩⟩
  ·have q:(C.2.2.1 != (0:Int))=kc:=by grind
   have z:zN .i64 (zN .i64 ((8:Int)*((C.1.length:Nat):Int))-C.2.1)=0:=by
    rw[O,P,<-N,Ac (n:=(8:Int)*_) (by omega),Ac (by omega)];omega
   simp only[q,cF,z,show A3 ((0:Int) > 0)=kc from rfl,K,u,oB];cases hbo:(DY (FQ f a)).isSome with
   |false=>
    simp only[B4,cT];exact⟨FZ,0,2,rfl,rfl,c,by decide,by decide,λh=>(by omega),λ_=>⟨rfl,rfl⟩⟩
   |true=>
    simp only[bT,cF,w2];refine⟨FQ f a,_,0,rfl,rfl,Z,I,by show a.length<=8;omega,λ_=>⟨hbo,hf,by omega,by omega,qs,y,kz,?_⟩,λh=>absurd rfl h⟩;have g3:=(Xh (Az qs)).1;have h9:A.length=(Az qs).length:=by grind
    have g4:=Nb B;have R:(KY (Az qs)).length=g:=by omega
    simp only[Kw,QT,lN,lC,A7,R]
    have:(Du (FQ f a) g).length=k:=G.symm
    omega
 have Q:A3 ((j.length:Int)>=8)=ka:=by grind
 simp only[Q,cT];rcases l with l|⟨l,O,P⟩;simp only[HY l,cT];exact⟨FZ,0,2,rfl,rfl,c,by decide,by decide,λh=>(by omega),λ_=>⟨rfl,rfl⟩⟩;have q:(C.2.2.1 != (0:Int))=kc:=by grind
 have z:A3 (zN .i64 (zN .i64 ((8:Int)*((C.1.length:Nat):Int))-C.2.1) > 0)=ka:=by
  rw[O,P,<-N,Ac (n:=(8:Int)*_) (by omega),Ac (by omega),dT];omega
 simp only[q,cF,z,cT];exact⟨FZ,0,2,rfl,rfl,c,by decide,by decide,λh=>(by omega),λ_=>⟨rfl,rfl⟩⟩
theorem a7z{n:Int}(h:Wf (.int .u8) n):0<=n/\n<256:=by have h:(A3 (IntKind.min .u8<=n)&&A3 (n<=IntKind.max .u8))=ka:=h;simp at h;have g:IntKind.min .u8=0:=rfl;have f:IntKind.max .u8=255:=rfl;omega
theorem b8Q(y:Int):bits .i64 .and y 255=y%256:=by(have h:((A4 64 y) &&& (A4 64 255)).toNat=(y%18446744073709551616).toNat%256:=by(rw[H2,E6];have e:(A4 64 255).toNat=2^8-1:=by rfl);rw[e,F4];rfl);show zN .i64 (((A4 64 y) &&& (A4 64 255)).toNat:Int)=_;grind[Ac]
theorem d1n(x:Int){j:Nat}(g:j<8):AR .i64 x ((8*j:Nat):Int)=x.fdiv (256^j):=by(have h:min (D0 ((8*j:Nat):Int)) (IntKind.bits .i64)=8*j:=by grind[IntKind.bits]);unfold AR;rw[h,show(256:Int)=2^8 from rfl,<-Int.pow_mul]
def a7A(k:Nat)(x:Int):List Int:=lT k (x%18446744073709551616).toNat
theorem c0x(x:Int):zN .u64 x=((x%18446744073709551616).toNat:Int):=by grind[zN,IntKind.bits,IntKind.signed]
theorem b8R(x:Int)(j:Nat)(g:j<8):((((x%18446744073709551616).toNat) / 256^j%256:Nat):Int)=x.fdiv (256^j)%256:=by(have h:j=0\/j=1\/j=2\/j=3\/j=4\/j=5\/j=6\/j=7:=by omega);rcases h with rfl|rfl|rfl|rfl|rfl|rfl|rfl|rfl<;>rw[G3 _ (by decide)]<;>simp only[Nat.reducePow,Int.reducePow]<;>omega
theorem QX(k:Nat)(x:Int):(a7A k x).length=k:=Nx _ _
theorem b6A(k:Nat)(h:k<8)(x:Int):a7A (k+1) x=a7A k x++[x.fdiv (256^k)%256]:=by grind[a7A,VW,b8R]
theorem fN:∀(k n:Nat),∀b∈lT k n,0<=b/\b<256|0,_=>by simp[lT]|k+1,n=>λb hb=>by rcases mC.1 hb with rfl|hb;omega;exact fN k _ b hb
def Cf(w:Int)(l:List Int):List Int:=l.flatMap (a7A ((w+7) / 8).toNat)
theorem a7B{k:Nat}{g:Int->List Int}(h:∀x,(g x).length=k):∀(l:LI),(l.flatMap g).length=l.length*k|[]=>by simp|x::l=>by rw[B7,lN,h,a7B h l,lC,Nat.add_mul];omega
theorem Za{w:Int}(h:4<=w/\w<=24)(l:LI):(Cf w l).length<=3*l.length:=by unfold Cf;rw[a7B (QX _)];(have:((w+7) / 8).toNat<=3:=by omega);simp_all[Nat.mul_le_mul_left,E8]
theorem rU(w:Int)(a b:LI):Cf w (a++b)=Cf w a++Cf w b:=J6
theorem Uu(w:Int)(l:LI):∀b∈Cf w l,0<=b/\b<256:=λb hb=>by obtain⟨x,-,h⟩:=H0.1 hb;exact fN _ _ b h
theorem b8S(b x n:Int)(i:Int)(l:LI){k:Nat}(d:k<=8)(out:LI)(e:out.length<100000000):Al Hk (b,(k:Int),x,l,n,i,(k:Int),(0:Int),out,())=kd (b,(k:Int),l,n,i,out++a7A k x,()):=by have g:=Bo (f:=Hk) (λj=>(b,(k:Int),x,l,n,i,(k:Int),(j:Int),out++a7A j x,())) k (b:=(b,(k:Int),l,n,i,out++a7A k x,())) (λj c=>by(have a:zN .i64 ((8:Int)*(j:Int))=((8*j:Nat):Int):=by grind[Ac]);(have h:A3 (((8*j:Nat):Int)<0)=kc:=by rfl);simp only[Hk];rw[Cn c,Ay (show(out++a7A j x).length+1<2147483648 by grind[QX]),a,h,Aa (show j<1000000 by omega),b8Q,d1n x (by omega),GR,Int.emod_emod_of_dvd _ (by simp),b6A j (by omega),<-aA];rfl) (by simp_all[Hk]);simp_all[a7A,lT]
theorem b6B{w:Int}(h:4<=w/\w<=24):zN .i64 (E1 (zN .i64 (w+(7:Int))) (8:Int))=(((w+7) / 8).toNat:Int):=by grind[Ac]
theorem a2N{w:Int}(b:4<=w/\w<=24)(l:LI)(e:l.length<=1000000){k:Nat}(d:k<=3):∀(zO h out:LI),h++zO=l->zO.all (λx=>Eo x w)=ka->out.length+3*zO.length<100000000->Al JQ (w,(k:Int),l,(l.length:Int),(h.length:Int),out,())=kd (.inl (out++zO.flatMap (a7A k),()))|[],h,out,a,_,_=>by(obtain rfl:h=l:=by simp_all);simp_all[Ae,JQ]|x::zO,h,out,a,g,i=>by(have f:h.length<l.length:=by grind);(have c:Ax l (h.length:Int)=kd x:=by grind[Ad]);simp only[F0,HC]at g;simp at i;rw[Af (s':=(w,(k:Int),l,(l.length:Int),(((h++[x]).length:Nat):Int),out++a7A k x,())) (by simp only[JQ,Cn f,cT,c,oB,rD b,g.1,bT,cF,b8S w x _ _ l (show k<=8 by omega) out (by omega),Aa (show h.length<1000000 by omega)];simp)];rw[a2N b l e d zO (h++[x]) (out++a7A k x) (by simpa using a) g.2 (by rw[lN,QX];omega)];simp
theorem rV{w:Int}(g:4<=w/\w<=24){l:LI}(c:l.length<=1000000)(b:l.all (λx=>Eo x w)=ka):NI (l,w)=kd (Cf w l,0):=by
 have f:A3 (w<(4:Int))=kc:=by simp_all
 have a:A3 (w > (24:Int))=kc:=by simp_all
 have h:=a2N g l c (k:=((w+7) / 8).toNat) (by omega) l [] [] rfl b (by grind);rw[A7]at h;simp only[NI,f,cF,oB,a,b6B g];erw[h];rfl
theorem a4L{n k:Nat}(m:k<=8):Qw ((n:Int),(k:Int))=kd (lT k n):=by simp[Qw];have h:=Bo (f:=NW) (λi=>((n:Int),(k:Int),(i:Int),lT i n,())) k (b:=(lT k n,())) (λi j=>by(have g:A3 ((i:Int)<(8:Int))=ka:=by grind);(have c:zN .u64 (zN .i64 ((8:Int)*(i:Int)))=((8*i:Nat):Int):=by grind[Ac,Au]);(have a:A3 (((8*i:Nat):Int)<0)=kc:=by rfl);(have d:zN .u8 (AR .u64 (n:Int) ((8*i:Nat):Int))=((n / 256^i%256:Nat):Int):=by(have e:AR .u64 (n:Int) ((8*i:Nat):Int)=((n / 256^i:Nat):Int):=by(have l:min (D0 ((8*i:Nat):Int)) (IntKind.bits .u64)=8*i:=by grind[IntKind.bits]);unfold AR;rw[l,show(256:Nat)=2^8 from rfl,<-L1];grind);rw[e,GR];rfl);simp only[NW];rw[Cn j,g,Ay (show(lT i n).length+1<2147483648 by rw[Nx];omega),c,a,Aa (show i<1000000 by omega),d,VW];rfl) (by simp_all[NW]);simp only[lT]at h;simp_all
theorem rW{i:Nat}(h:i<1000000000):zN .i64 ((i:Int)+1)=((i+1:Nat):Int):=by grind[Ac]
theorem Yc{w:Int}(k:4<=w/\w<=24)(l:LI)(c:l.length<=30000000):∀(zO h out:LI),h++zO=l->zO.all (λx=>Eo x w)=ka->out.length+3*zO.length<100000000->Al Pu (l,w,(h.length:Int),out,())=kd (.inl (out++Cf w zO,()))|[],h,out,a,_,_=>by(obtain rfl:h=l:=by simp_all);simp_all[Ae,Pu,Cf]|x::zO,h,out,a,g,d=>by(have f:h.length<l.length:=by grind);(have b:Ax l (h.length:Int)=kd x:=by grind[Ad]);(simp only[F0,HC]at g;simp at d;have e:Qw (zN .u64 x,((((w+7) / 8).toNat:Nat):Int))=kd (a7A ((w+7) / 8).toNat x):=by rw[c0x];exact a4L (by omega));rw[Af (s':=(l,w,(((h++[x]).length:Nat):Int),out++a7A ((w+7) / 8).toNat x,())) (by simp only[Pu,Cn f,cT,b,oB,Us k,g.1,bT,cF,b6B k,e,Ay (show out.length+(a7A ((w+7) / 8).toNat x).length<2147483648 by rw[QX];omega),rW (show h.length<1000000000 by omega)];simp)];rw[Yc k l c zO (h++[x]) (out++a7A ((w+7) / 8).toNat x) (by simp_all) g.2 (by grind[QX])];simp[Cf]
theorem a7C{w:Int}(k:4<=w/\w<=24){l:LI}(f:l.length<=30000000)(g:l.all (λx=>Eo x w)=ka):Xa (l,w)=kd (Cf w l,0):=by(have a:TT w=kd ka:=by grind[TT]);have h:=Yc k l f l [] [] rfl g (by grind);simp_all[Xa]
def wv(n:Nat)(rows:List (List Int)):List Int:=(F8 n).flatMap λi=>rows.map λr=>r.getD i 0
def FN:Nat:=2305843009213693951
def a7D(h:Nat)(l:List Nat):Nat:=l.foldl (λh c=>(h*1000003+(c+1))%FN) h
theorem b8T(h:Nat):a7D h []=h:=rfl
theorem a7E(h c:Nat)(l:List Nat):a7D h (c::l)=a7D ((h*1000003+(c+1))%FN) l:=rfl
theorem a9R(h:Nat)(a b:List Nat):a7D h (a++b)=a7D (a7D h a) b:=G6 ..
theorem a9S{h:Nat}(g:h<FN)(l:List Nat):a7D h l<FN:=by induction l generalizing h with|nil=>exact g|cons c l f=>exact f (C5 _ (by decide))
theorem cN(a b c:Nat):(a%FN*b+c)%FN=(a*b+c)%FN:=by simp_all[Nat.add_mod]
theorem WA(a b:Nat):(a+b%FN)%FN=(a+b)%FN:=by simp
theorem b6C(l:List Nat)(h:Nat):a7D h l%FN=(h*1000003^l.length+a7D 0 l)%FN:=by induction l generalizing h with|nil=>simp[b8T]|cons c l g=>rw[a7E,a7E,g,cN,<-WA (h*_),g ((0*1000003+(c+1))%FN),cN,WA,lC,K1];grind
theorem b6D(a b:List Nat):a7D 0 (a++b)=(a7D 0 a*(1000003^b.length%FN)+a7D 0 b)%FN:=by rw[a9R,<-E2 (a9S (a9S (by decide) a) b),b6C,E8 (a7D 0 a) (_%FN),cN,E8 (a7D 0 a)]
def c2c:Nat->Nat->Nat->Nat->Nat|0,_,p,_=>p|k+1,n,p,s=>if n=0 then p else c2c k (n / 2) (if n%2=1 then p*s%FN else p) (s*s%FN)
theorem b6E(a b:Nat):a%FN*b%FN=a*b%FN:=cN a b 0
theorem a7F(a n:Nat):(a%FN)^n%FN=a^n%FN:=by rw[<-Nat.pow_mod]
theorem c1u(k n p s:Nat)(h:n<2^k)(hp:p<FN):c2c k n p s=p*s^n%FN:=by induction k generalizing n p s with|zero=>simp_all[c2c,E2]|succ k a=>(rw[c2c];by_cases h0:n=0;simp_all[E2];rw[if_neg h0];have g:n / 2<2^k:=by omega);(have f:(s*s)^(n / 2)=s^(2*(n / 2)):=by grind[L1]);by_cases h1:n%2=1;rw[if_pos h1,a _ _ _ g (C5 _ (by decide)),G4,a7F,f,<-G4,b6E,J5,<-Nat.pow_succ'];grind;rw[if_neg h1,a _ _ _ g hp,G4,a7F,f,<-G4];grind
theorem b6F{u d f g q r:Nat}(k:u=q*f+r)(h:q*g<=4294967296*r+d):q*(f*4294967296+g)<=u*4294967296+d:=by grind
theorem b8U(u d e y:Nat):((u*4294967296+d)%y*4294967296+e)%y=((u*4294967296+d)*4294967296+e)%y:=by simp_all[Nat.add_mod,G4]
theorem b3r(n k y:Nat)(h:0<k):n*k%(y*k) / k=n%y:=by simp_all[Nat.mul_mod_mul_right]
abbrev Pc:Type:=AQ×(CN×List Int)
def DZ:Nat->Nat->List Pc->List (Int×Int×Unit)|_,_,[]=>[]|st,off,x::xs=>((st:Int),(off:Int),())::DZ (st+CF x.2.1) (off+x.2.2.length) xs
def Jc(xs:List Pc):Nat:=(xs.map λx=>CF x.2.1).sum
def CG(xs:List Pc):List Int:=xs.flatMap λx=>x.2.2
def UW(b:CN):List Int:=wv (CF b) b.2.1
def GS(xs:List Pc):List Int:=xs.flatMap λx=>UW x.2.1
def mB(l:List Int):Nat:=a7D 0 (l.map D0)
def Ga(fm:AH)(xs:List Pc):Nat:=mB (Cf fm.2.2.1 (GS xs))
theorem rX(l:LI):mB l<FN:=a9S (by decide) _
theorem b1b(a b:LI):mB (a++b)=(mB a*(1000003^b.length%FN)+mB b)%FN:=by simp_all[mB,b6D]
theorem Xk(h:List Pc)(x:Pc):Jc (h++[x])=Jc h+CF x.2.1:=by simp[Jc]
theorem WB(h:List Pc)(x:Pc):CG (h++[x])=CG h++x.2.2:=by simp[CG]
theorem a9T(h:List Pc)(x:Pc):GS (h++[x])=GS h++UW x.2.1:=by simp[GS]
theorem a9U{h:List (List Int)}:∀n,(wv n h).length=n*h.length:=λn=>by simp_all[wv,List.map_const']
theorem iW:∀(h:List Pc)(st off:Nat)(x:Pc),DZ st off (h++[x])=DZ st off h++[(((st+Jc h:Nat):Int),((off+(CG h).length:Nat):Int),())]|[],st,off,x=>by rfl|y::h,st,off,x=>by simp_all[DZ,iW,Jc,CG,F2]
theorem QY:∀(h:List Pc)(st off:Nat),(DZ st off h).length=h.length|[],_,_=>rfl|_::h,_,_=>cG (·+1) (QY h _ _)
def a0a(n:Nat)(l:List Int):Nat:=l.foldl (λn c=>n*256+c.toNat) n
def WC(k n:Nat):List Int:=(lT k n).reverse
theorem WD(k n:Nat):(WC k n).length=k:=by simp[WC,Nx]
theorem a9V(k n:Nat):∀b∈WC k n,0<=b/\b<256:=λb hb=>fN k n b (List.mem_reverse.1 hb)
theorem a0b{n k:Nat}(l:n<18446744073709551616)(j:k<=8):Ix ((n:Int),(k:Int))=kd (lT k n):=by(have c:GM (k:Int)=kd (k:Int):=by grind[GM,bI,lU]);simp[Ix,c];have h:=Bo (f:=Dn) (λi=>(((n / 256^i:Nat):Int),(k:Int),(i:Int),lT i n,())) k (b:=(lT k n,())) (λi d=>by(have g:zN .u64 (E1 ((n / 256^i:Nat):Int) 256)=((n / 256^(i+1):Nat):Int):=by have e:E1 ((n / 256^i:Nat):Int) 256=((n / 256^i / 256:Nat):Int):=rfl;rw[e,I3,<-K1];have:=L5 n (256^(i+1));grind[Au]);(have a:zN .u8 (D4 ((n / 256^i:Nat):Int) 256)=((n / 256^i%256:Nat):Int):=by have e:D4 ((n / 256^i:Nat):Int) 256=((n / 256^i%256:Nat):Int):=rfl;rw[e,GR];omega);simp only[Dn];rw[Cn d,Ay (show(lT i n).length+1<2147483648 by rw[Nx];omega),g,Aa (show i<1000000 by omega),a,VW];rfl) (by simp_all[Dn]);simp only[Nat.pow_zero,Nat.div_one,lT]at h;simp_all
theorem cO{n k:Nat}(g:n<18446744073709551616)(h:k<=8):HE ((n:Int),(k:Int))=kd (WC k n):=by unfold HE CU;simp only[a0b g h,oB];rw[dE (by rw[Nx];omega)];rfl
def d1o(s:BitVec 32):BitVec 32:=bif s.getLsbD 0 then(s >>> 1) ^^^ 0xedb88320#32 else s >>> 1
def c1v:Nat->BitVec 32->BitVec 32|0,s=>s|k+1,s=>c1v k (d1o s)
def b6G(s x:BitVec 32):BitVec 32:=c1v 8 (s ^^^ x)
def c1w(s:BitVec 32)(l:List (BitVec 32)):BitVec 32:=l.foldl b6G s
theorem c1x(s:BitVec 32):A4 32 (s.toNat:Int)=s:=by simp
theorem c6t(s:BitVec 32):zN .u32 (s.toNat:Int)=(s.toNat:Int):=by have:=s.isLt;grind[zN,IntKind.bits,IntKind.signed]
theorem a7G(s t:BitVec 32):bits .u32 .xor (s.toNat:Int) (t.toNat:Int)=((s ^^^ t).toNat:Int):=by show zN .u32 ((A4 32 _ ^^^ A4 32 _).toNat:Int)=_;rw[c1x,c1x,c6t]
theorem c6u(s:BitVec 32):(bits .u32 .and (s.toNat:Int) 1==(1:Int))=s.getLsbD 0:=by(have h:bits .u32 .and (s.toNat:Int) 1=((s &&& 1#32).toNat:Int):=by show zN .u32 ((A4 32 _ &&& A4 32 1).toNat:Int)=_;rw[c1x,show A4 32 1=1#32 from rfl,c6t]);rw[h,H2,show(1#32).toNat=1 from rfl,Nat.and_one_is_mod,I8,Nat.testBit_zero];grind
theorem c6v(s:BitVec 32):AR .u32 (s.toNat:Int) 1=((s >>> 1).toNat:Int):=by unfold AR;rw[show min (D0 1) (IntKind.bits .u32)=1 from rfl,G3 _ (by simp),BitVec.toNat_ushiftRight,Nat.shiftRight_eq_div_pow];rfl
def b1c(s:Int):Int:=bif (bits .u32 .and s 1)==(1:Int)then bits .u32 .xor (AR .u32 s 1) 3988292384 else AR .u32 s 1
theorem c1y(s:BitVec 32):b1c (s.toNat:Int)=((d1o s).toNat:Int):=by unfold b1c d1o;rw[c6u,c6v,show(3988292384:Int)=(((0xedb88320#32).toNat:Nat):Int)from rfl,a7G];grind
theorem a0c:∀(k:Nat)(s:BitVec 32),a1u b1c k (s.toNat:Int)=((c1v k s).toNat:Int)|0,_=>rfl|k+1,s=>by rw[show a1u b1c (k+1) (s.toNat:Int)=a1u b1c k (b1c (s.toNat:Int))from rfl,c1y,a0c k];rfl
def c1z(l:List Int):BitVec 32:=c1w 0xffffffff#32 (l.map (A4 32))
def Ma(l:List Int):Nat:=(~~~ c1z l).toNat
theorem cP(l:LI):Ma l<4294967296:=(~~~ c1z l).isLt
abbrev a4M:Type:=AH×(Int×(Int×(List (Int×(Int×Unit))×(List AQ×Unit))))
def Sp(fm:AH)(xs:List Pc):a4M:=(fm,((Jc xs:Nat):Int),((Ga fm xs:Nat):Int),DZ 0 0 xs,xs.map (·.1),())
def a4U(xs:List Pc):List Nat:=xs.flatMap λx=>[x.2.2.length,CF x.2.1]
def RT(fm:AH)(xs:List Pc):List Nat:=[fm.1.toNat,fm.2.1.toNat,fm.2.2.1.toNat,xs.length]++a4U xs
def b3s:List Int:=[75,78,83,68]
def Kn(fm:AH)(xs:List Pc):List Int:=b3s++((RT fm xs).flatMap Be++WC 8 (Ga fm xs))
def Zb(fm:AH)(xs:List Pc):List Int:=Kn fm xs++(WC 4 (Ma (Kn fm xs))++CG xs)
theorem cQ(h:List Pc):(a4U h).length=2*h.length:=by induction h with|nil=>rfl|cons x h g=>grind[a4U]
theorem b6H(h:List Pc)(x:Pc):a4U (h++[x])=a4U h++[x.2.2.length,CF x.2.1]:=by simp[a4U]
theorem PJ:∀(l:List Nat),(∀n∈l,n<9223372036854775808)->(l.flatMap Be).length<=9*l.length|[],_=>by simp|n::l,h=>by have:=(Od (h n (by simp))).2;(have:=PJ l λm g=>h m (by simp[g]));simp only[B7,lN,lC];omega
def Zc(y0 d q r:Nat):Prop:=4294967296<=q\/4294967296*r+d<q*y0
instance (y0 d q r:Nat):Decidable (Zc y0 d q r):=inferInstanceAs (Decidable (_\/_))
def a7H(u d y1 y0:Nat):Nat:=
 if Zc y0 d (u / y1) (u%y1)then
  if 4294967296<=u%y1+y1 then u / y1-1
  else if Zc y0 d (u / y1-1) (u%y1+y1)then u / y1-2 else u / y1-1
 else u / y1
theorem b8V{u d g f:Nat}(D:2147483648<=g)(A:f<4294967296)(F:u<g*4294967296+f)(E:d<4294967296):a7H u d g f=(u*4294967296+d) / (g*4294967296+f):=by
 have p:0<g:=by omega
 have e:u=u / g*g+u%g:=(Nat.div_add_mod' u g).symm;have B:=C5 u p;have v:u / g<=4294967297:=by have:u / g<4294967298:=(Nat.div_lt_iff_lt_mul p).2 (by omega);omega
 have I:u*4294967296+d<(u / g+1)*(g*4294967296+f):=by grind
 have over:∀{q r:Nat},u=q*g+r->Zc f d q r->u*4294967296+d<q*(g*4294967296+f):=by intro q r i j;rcases j with j|j;have:=J2 (g*4294967296+f) j;omega;grind
 have fits:∀{q r:Nat},u=q*g+r->¬ Zc f d q r->q*(g*4294967296+f)<=u*4294967296+d:=λi j=>b6F i (Nat.le_of_not_lt λh=>j (.inr h))
 have l:∀{q r:Nat},u=q*g+r->q<=4294967296->4294967296<=r->q*(g*4294967296+f)<=u*4294967296+d:=by intro q r i v B;refine b6F i ?_;have a:=B9 v (F5 A);omega
 unfold a7H;generalize u / g=q at *;generalize u%g=r at *;have w:∀{m:Nat},m*(g*4294967296+f)<=u*4294967296+d->u*4294967296+d<(m+1)*(g*4294967296+f)->m=(u*4294967296+d) / (g*4294967296+f):=λa b=>(Nat.div_eq_of_lt_le a b).symm
 by_cases c:Zc f d q r;rw[if_pos c];have o:=over e c;have G:1<=q:=J9 λz=>by grind
 obtain⟨q,rfl⟩:∃k,q=k+1:=⟨q-1,by omega⟩;rw[Nat.add_sub_cancel];have x:u=q*g+(r+g):=by grind
 by_cases c1:4294967296<=r+g;grind;rw[if_neg c1];by_cases c2:Zc f d q (r+g);rw[if_pos c2];have C:=over x c2;have H:1<=q:=J9 λz=>by grind
 obtain⟨q,rfl⟩:∃k,q=k+1:=⟨q-1,by omega⟩;have y:u=q*g+(r+g+g):=by grind
 exact w (m:=q) (l y (by omega) (by omega)) C;grind;grind
theorem c1A(hi lo:Nat):(((hi*8+lo / 2305843009213693952)*4294967296+lo*8%18446744073709551616 / 4294967296)%18446744073709551608*4294967296+lo*8%18446744073709551616%4294967296)%18446744073709551608 / 8= (hi*18446744073709551616+lo)%FN:=by(have e:((hi*8+lo / 2305843009213693952)*4294967296+lo*8%18446744073709551616 / 4294967296)*4294967296+lo*8%18446744073709551616%4294967296=(hi*18446744073709551616+lo)*8:=by omega);rw[b8U,e];exact b3r _ 8 FN (by simp)
theorem b6I{hi lo:Nat}(h:hi<FN)(g:lo<18446744073709551616):hi*8+lo / 2305843009213693952<4294967295*4294967296+4294967288:=by unfold FN at h;omega
theorem b3t{a b c:Nat}(h:a<FN)(hb:b<FN)(g:c<=FN):(a*b+c) / 18446744073709551616<FN:=by have:=B9 (J3 h) (J3 hb);unfold FN at *;omega
theorem c1B{a b h k g f t:Nat}(j:h=a%4294967296)(l:k=a / 4294967296)(o:g=b%4294967296)(r:f=b / 4294967296)(z:t=k*g+h*g / 4294967296) (w:a<18446744073709551616)(hb:b<18446744073709551616):k*f+t / 4294967296+(t%4294967296+h*f) / 4294967296=a*b / 18446744073709551616/\h*g<18446744073709551616/\t<18446744073709551616/\t%4294967296+h*f<18446744073709551616:=by
 have u:a=k*4294967296+h:=by omega
 have v:b=f*4294967296+g:=by omega
 have e:a*b=k*f*18446744073709551616+(k*g+h*f)*4294967296+h*g:=by grind
 have m:∀{p q:Nat},p<4294967296->q<4294967296->p*q<=4294967295*4294967295:=λx y=>B9 (by omega) (by omega);have c:=m (show h<4294967296 by omega) (show g<4294967296 by omega);have i:=m (show k<4294967296 by omega) (show g<4294967296 by omega);have d:=m (show h<4294967296 by omega) (show f<4294967296 by omega);omega
theorem b6J(n:Nat):zN .u64 (n:Int)=((n%18446744073709551616:Nat):Int):=by rfl
theorem a9W{n k:Nat}(h:k<=64):AR .u64 (n:Int) (k:Int)=((n / 2^k:Nat):Int):=by(have g:min (D0 (k:Int)) (IntKind.bits .u64)=k:=by simp_all[IntKind.bits]);unfold AR;grind
theorem b6K(n:Nat):AR .u64 (n:Int) 32=((n / 4294967296:Nat):Int):=a9W (k:=32) (by omega)
theorem c0y(n:Nat):bits .u64 .and (n:Int) 4294967295=((n%4294967296:Nat):Int):=by(show zN .u64 ((A4 64 (n:Int) &&& A4 64 4294967295).toNat:Int)=_;have g:(A4 64 4294967295).toNat=4294967295:=rfl;have h:(A4 64 (n:Int)).toNat=n%18446744073709551616:=by rfl);rw[H2,h,g,show 4294967295=2^32-1 from rfl,F4,b6J];omega
theorem d1p{a b:Nat}(f:a<2305843009213693952)(hb:b<8):bits .u64 .or ((a*8:Nat):Int) (b:Int)=((a*8+b:Nat):Int):=by
 show zN .u64 ((A4 64 ((a*8:Nat):Int) ||| A4 64 (b:Int)).toNat:Int)=_;have h:(A4 64 ((a*8:Nat):Int)).toNat=2^3*a:=by grind[E6]
 have g:(A4 64 (b:Int)).toNat=b:=by grind
 rw[BitVec.toNat_or,h,g,<-Nat.two_pow_add_eq_or_of_lt (i:=3) hb a,b6J];omega
theorem b6L{a b:Nat}(f:a<18446744073709551616)(hb:b<18446744073709551616):IJ ((a:Int),(b:Int))=kd (((a*b / 18446744073709551616:Nat):Int),((a*b%18446744073709551616:Nat):Int)):=by obtain⟨k,c,d,e⟩:=c1B (a:=a) (b:=b) rfl rfl rfl rfl rfl f hb;unfold IJ;simp only[b6K,c0y,<-Int.natCast_mul,<-Int.natCast_add,b6J,sj,pJ,Int.natCast_inj];refine⟨?_,trivial⟩;revert k c d e;generalize a%4294967296*(b%4294967296)=p00;generalize a / 4294967296*(b%4294967296)=p10;generalize a%4294967296*(b / 4294967296)=p01;have i:a*b / 18446744073709551616<18446744073709551616:=J4 (Nat.lt_of_le_of_lt (B9 (F5 f) (F5 hb)) (by omega:18446744073709551616*18446744073709551616<18446744073709551616*18446744073709551616+1) |> λh=>by rcases Nat.lt_or_ge (a*b) (18446744073709551616*18446744073709551616)with g|g;omega;have:=Nat.mul_lt_mul_of_lt_of_le f (F5 hb) (by omega);omega);omega
theorem iX{α:Type}(p:Prop)[Decidable p](a b:α):(bif decide p then a else b)=if p then a else b:=by simp
theorem c1C:Fv 2305843009213693951=kd 3:=by rfl
theorem b8W{u d q:Nat}(h:q=a7H u d 4294967295 4294967288)(f:u<4294967295*4294967296+4294967288)(g:d<4294967296):q*18446744073709551608<=u*4294967296+d/\u*4294967296+d<q*18446744073709551608+18446744073709551608/\q<4294967296:=by grind[b8V]
theorem iY{u d u0 q r:Nat}{s:Int}(i:d<4294967296)(hq:q<=4294967297)(j:r<4294967296):Dj ((18446744073709551608:Int),s,(4294967295:Int),(4294967288:Int),(u:Int),(d:Int),(u0:Int),(q:Int),(r:Int),()) =if Zc 4294967288 d q r then(if 4294967296<=r+4294967295 then kd (.inr ((18446744073709551608:Int),s,(4294967295:Int),(4294967288:Int),(u:Int),(d:Int),(u0:Int),((q-1:Nat):Int),()))else kd (.inl ((18446744073709551608:Int),s,(4294967295:Int),(4294967288:Int),(u:Int),(d:Int),(u0:Int),((q-1:Nat):Int),((r+4294967295:Nat):Int),())))else kd (.inr ((18446744073709551608:Int),s,(4294967295:Int),(4294967288:Int),(u:Int),(d:Int),(u0:Int),(q:Int),())):=by
 have c:zN .u64 ((q:Int)-1)=(((q-1:Nat)):Int)\/q=0:=by rcases K0 q with h|h;exact .inr h;left;rw[Au (by omega)];omega
 have a:zN .u64 ((r:Int)+4294967295)=((r+4294967295:Nat):Int):=by rw[Au (by omega)];omega
 have b:A3 (zN .u64 ((r:Int)+4294967295)>=(4294967296:Int))=A3 (4294967296<=r+4294967295):=by rw[a];exact decide_eq_decide.2 (by omega)
 have g:q≠0->(bif A3 (zN .u64 ((r:Int)+4294967295)>=(4294967296:Int))then(kd (.inr ((18446744073709551608:Int),s,(4294967295:Int),(4294967288:Int),(u:Int),(d:Int),(u0:Int),(zN .u64 ((q:Int)-1)),())):Option (_ ⊕ (Int×Int×Int×Int×Int×Int×Int×Int×Unit)))else kd (.inl ((18446744073709551608:Int),s,(4294967295:Int),(4294967288:Int),(u:Int),(d:Int),(u0:Int),(zN .u64 ((q:Int)-1)),(zN .u64 ((r:Int)+4294967295)),()))) =(if 4294967296<=r+4294967295 then kd (.inr ((18446744073709551608:Int),s,(4294967295:Int),(4294967288:Int),(u:Int),(d:Int),(u0:Int),((q-1:Nat):Int),()))else kd (.inl ((18446744073709551608:Int),s,(4294967295:Int),(4294967288:Int),(u:Int),(d:Int),(u0:Int),((q-1:Nat):Int),((r+4294967295:Nat):Int),()))):=λe=>by rw[b,c.resolve_right e,a];exact iX ..
 by_cases h1:4294967296<=q;have f:A3 ((q:Int)>=(4294967296:Int))=ka:=dE (by omega);rw[if_pos (.inl h1),<-g (by omega)];unfold Dj;dsimp only;rw[f,cT,oB];have f:A3 ((q:Int)>=(4294967296:Int))=kc:=dF (by omega);have l:zN .u64 ((q:Int)*4294967288)=((q*4294967288:Nat):Int):=by rw[Au (by omega)];omega
 have m:zN .u64 (zN .u64 ((4294967296:Int)*(r:Int))+(d:Int))=((4294967296*r+d:Nat):Int):=by rw[Au (n:=4294967296*(r:Int)) (by omega),Au (by omega)];omega
 by_cases h2:4294967296*r+d<q*4294967288;have k:A3 (zN .u64 ((q:Int)*4294967288) > zN .u64 (zN .u64 ((4294967296:Int)*(r:Int))+(d:Int)))=ka:=dE (by omega);rw[if_pos (.inr h2),<-g (by omega)];unfold Dj;dsimp only;rw[f,cF,k,cT,oB];have k:A3 (zN .u64 ((q:Int)*4294967288) > zN .u64 (zN .u64 ((4294967296:Int)*(r:Int))+(d:Int)))=kc:=dF (by omega);rw[if_neg (by unfold Zc;omega)];unfold Dj;dsimp only;rw[f,cF,k,cF,oB]
theorem c1D{u d u0:Nat}{s:Int}(a:u<4294967295*4294967296+4294967288)(k:d<4294967296):
  Al Dj ((18446744073709551608:Int),s,(4294967295:Int),(4294967288:Int),(u:Int),(d:Int),(u0:Int),((u / 4294967295:Nat):Int),((u%4294967295:Nat):Int),())=kd ((18446744073709551608:Int),s,(4294967295:Int),(4294967288:Int),(u:Int),(d:Int),(u0:Int),(a7H u d 4294967295 4294967288:Int),()):=by
 have h:u / 4294967295<=4294967297:=by omega
 have g:u%4294967295<4294967295:=C5 _ (by omega);unfold a7H;revert h g;generalize u / 4294967295=q;generalize u%4294967295=r;intro h g;have f:=iY (u0:=u0) (s:=s) (u:=u) k h (K4 g);by_cases c1:Zc 4294967288 d q r
 ·rw[if_pos c1]at f|-;by_cases c2:4294967296<=r+4294967295;simp_all[Ae]
  ·rw[if_neg c2]at f|-;rw[Af f];have b:=iY (u0:=u0) (s:=s) (u:=u) (q:=q-1) (r:=r+4294967295) k (by omega) (by omega);by_cases c3:Zc 4294967288 d (q-1) (r+4294967295);all_goals simp_all[Nat.sub_sub,Ae]
 simp_all[Ae]
theorem iZ{u d q r:Nat}{s q1:Int}(i:d<4294967296)(hq:q<=4294967297)(j:r<4294967296):Dk ((18446744073709551608:Int),s,(4294967295:Int),(4294967288:Int),(d:Int),q1,(r:Int),(u:Int),(q:Int),()) =if Zc 4294967288 d q r then(if 4294967296<=r+4294967295 then kd (.inr ((18446744073709551608:Int),s,(d:Int),q1,(u:Int),((q-1:Nat):Int),()))else kd (.inl ((18446744073709551608:Int),s,(4294967295:Int),(4294967288:Int),(d:Int),q1,((r+4294967295:Nat):Int),(u:Int),((q-1:Nat):Int),())))else kd (.inr ((18446744073709551608:Int),s,(d:Int),q1,(u:Int),(q:Int),())):=by
 have c:zN .u64 ((q:Int)-1)=(((q-1:Nat)):Int)\/q=0:=by rcases K0 q with h|h;exact .inr h;left;rw[Au (by omega)];omega
 have a:zN .u64 ((r:Int)+4294967295)=((r+4294967295:Nat):Int):=by rw[Au (by omega)];omega
 have b:A3 (zN .u64 ((r:Int)+4294967295)>=(4294967296:Int))=A3 (4294967296<=r+4294967295):=by rw[a];exact decide_eq_decide.2 (by omega)
 have g:q≠0->(bif A3 (zN .u64 ((r:Int)+4294967295)>=(4294967296:Int))then(kd (.inr ((18446744073709551608:Int),s,(d:Int),q1,(u:Int),(zN .u64 ((q:Int)-1)),())):Option (_ ⊕ (Int×Int×Int×Int×Int×Int×Unit)))else kd (.inl ((18446744073709551608:Int),s,(4294967295:Int),(4294967288:Int),(d:Int),q1,(zN .u64 ((r:Int)+4294967295)),(u:Int),(zN .u64 ((q:Int)-1)),()))) =(if 4294967296<=r+4294967295 then kd (.inr ((18446744073709551608:Int),s,(d:Int),q1,(u:Int),((q-1:Nat):Int),()))else kd (.inl ((18446744073709551608:Int),s,(4294967295:Int),(4294967288:Int),(d:Int),q1,((r+4294967295:Nat):Int),(u:Int),((q-1:Nat):Int),()))):=λe=>by rw[b,c.resolve_right e,a];exact iX ..
 by_cases h1:4294967296<=q;have f:A3 ((q:Int)>=(4294967296:Int))=ka:=dE (by omega);rw[if_pos (.inl h1),<-g (by omega)];unfold Dk;dsimp only;rw[f,cT,oB];have f:A3 ((q:Int)>=(4294967296:Int))=kc:=dF (by omega);have l:zN .u64 ((q:Int)*4294967288)=((q*4294967288:Nat):Int):=by rw[Au (by omega)];omega
 have m:zN .u64 (zN .u64 ((4294967296:Int)*(r:Int))+(d:Int))=((4294967296*r+d:Nat):Int):=by rw[Au (n:=4294967296*(r:Int)) (by omega),Au (by omega)];omega
 by_cases h2:4294967296*r+d<q*4294967288;have k:A3 (zN .u64 ((q:Int)*4294967288) > zN .u64 (zN .u64 ((4294967296:Int)*(r:Int))+(d:Int)))=ka:=dE (by omega);rw[if_pos (.inr h2),<-g (by omega)];unfold Dk;dsimp only;rw[f,cF,k,cT,oB];have k:A3 (zN .u64 ((q:Int)*4294967288) > zN .u64 (zN .u64 ((4294967296:Int)*(r:Int))+(d:Int)))=kc:=dF (by omega);rw[if_neg (by unfold Zc;omega)];unfold Dk;dsimp only;rw[f,cF,k,cF,oB]
theorem c1E{u d:Nat}{s q1:Int}(a:u<4294967295*4294967296+4294967288)(k:d<4294967296):
  Al Dk ((18446744073709551608:Int),s,(4294967295:Int),(4294967288:Int),(d:Int),q1,((u%4294967295:Nat):Int),(u:Int),((u / 4294967295:Nat):Int),())=kd ((18446744073709551608:Int),s,(d:Int),q1,(u:Int),(a7H u d 4294967295 4294967288:Int),()):=by
 have h:u / 4294967295<=4294967297:=by omega
 have g:u%4294967295<4294967295:=C5 _ (by omega);unfold a7H;revert h g;generalize u / 4294967295=q;generalize u%4294967295=r;intro h g;have f:=iZ (s:=s) (q1:=q1) (u:=u) k h (K4 g);by_cases c1:Zc 4294967288 d q r
 ·rw[if_pos c1]at f|-;by_cases c2:4294967296<=r+4294967295;simp_all[Ae]
  ·rw[if_neg c2]at f|-;rw[Af f];have b:=iZ (s:=s) (q1:=q1) (u:=u) (q:=q-1) (r:=r+4294967295) k (by omega) (by omega);by_cases c3:Zc 4294967288 d (q-1) (r+4294967295);all_goals simp_all[Nat.sub_sub,Ae]
 simp_all[Ae]
theorem c6w(n:Int):zN .u64 n=n%18446744073709551616:=by rfl
theorem b8X{u d Q:Nat}(h:Q*18446744073709551608<=u*4294967296+d)(g:u*4294967296+d<Q*18446744073709551608+18446744073709551608):zN .u64 (zN .u64 (zN .u64 ((u:Int)*4294967296)+(d:Int))-zN .u64 ((Q:Int)*18446744073709551608))=(((u*4294967296+d)%18446744073709551608:Nat):Int):=by grind[c6w]
theorem b1d{u:Nat}(h:u<18446744073709551616):zN .u64 ((u:Int)-zN .u64 (((u / 4294967295:Nat):Int)*4294967295))=((u%4294967295:Nat):Int):=by grind[Au]
theorem d1Z(n:Nat):AO .u64 (n:Int) 3=((n*8%18446744073709551616:Nat):Int):=by rfl
theorem b6M(lo:Nat):Ew (0,(lo:Int),(2305843009213693951:Int))=kd (zN .u64 (E1 (lo:Int) 2305843009213693951),((lo%2305843009213693951:Nat):Int)):=by rfl
theorem c6x:zN .u64 3=3:=by rfl
theorem c1F:zN .u64 (64-3)=((61:Nat):Int):=by rfl
theorem c6y:AO .u64 2305843009213693951 3=18446744073709551608:=by rfl
theorem c6z:AR .u64 18446744073709551608 32=4294967295:=by rfl
theorem c6A:bits .u64 .and 18446744073709551608 4294967295=4294967288:=by rfl
theorem c6B:((2305843009213693951:Int)==0)=kc:=by rfl
theorem c6C:A3 ((3:Int)<0)=kc:=by rfl
theorem c6D:A3 (((61:Nat):Int)<0)=kc:=by rfl
theorem c6E:((4294967295:Int)==0)=kc:=by rfl
theorem b6N{u d Q v:Nat}(hv:(u*4294967296+d)%18446744073709551608=v)(h:Q*18446744073709551608<=u*4294967296+d)(g:u*4294967296+d<Q*18446744073709551608+18446744073709551608):zN .u64 (zN .u64 (zN .u64 ((u:Int)*4294967296)+(d:Int))-zN .u64 ((Q:Int)*18446744073709551608))=(v:Int):=by simp_all[b8X]
theorem c0z{u:Nat}(h:u<18446744073709551616):zN .u64 ((u / 4294967295:Nat):Int)=((u / 4294967295:Nat):Int):=Au (by omega)
theorem b8Y{hi lo u d e v r:Nat}(hv:(u*4294967296+d)%18446744073709551608=v)(o:(v*4294967296+e)%18446744073709551608=r)(A:hi≠0)(B:hi<2305843009213693951)(p:hi*8+lo / 2305843009213693952=u)(j:lo*8%18446744073709551616 / 4294967296=d)(l:lo*8%18446744073709551616%4294967296=e)(C:lo<18446744073709551616) (h:u<4294967295*4294967296+4294967288)(f:d<4294967296)(a:e<4294967296):∃q:Int,Ew ((hi:Int),(lo:Int),(2305843009213693951:Int))=kd (q,((r / 8:Nat):Int)):=by
 have b:((hi:Int)==0)=kc:=by simp_all
 have c:A3 ((2305843009213693951:Int)<=(hi:Int))=kc:=dF (by omega);have i:hi*8%18446744073709551616=hi*8:=by omega
 have m:bits .u64 .or ((hi*8:Nat):Int) (AR .u64 (lo:Int) ((61:Nat):Int))=(u:Int):=by rw[a9W (k:=61) (by omega),show 2^61=2305843009213693952 from rfl,d1p (by omega) (by omega),p]
 have w:=c1D (u0:=e) (s:=3) h f;have E:=b6N hv (b8W rfl h f).1 (b8W rfl h f).2.1;have g:v<4294967295*4294967296+4294967288:=by grind
 have D:=c1E (s:=3) (q1:=(a7H u d 4294967295 4294967288:Int)) g a;have F:=b6N o (b8W rfl g a).1 (b8W rfl g a).2.1;have x:=b1d (u:=u) (C2 h (by simp));have H:=b1d (u:=v) (C2 g (by simp));have y:zN .u64 ((u / 4294967295:Nat):Int)=((u / 4294967295:Nat):Int):=c0z (C2 h (by simp));have z:zN .u64 ((v / 4294967295:Nat):Int)=((v / 4294967295:Nat):Int):=c0z (C2 g (by simp));have q1:E1 (u:Int) 4294967295=((u / 4294967295:Nat):Int):=rfl;have G:E1 (v:Int) 4294967295=((v / 4294967295:Nat):Int):=rfl;have g8:∀n:Nat,AR .u64 (n:Int) 3=((n / 8:Nat):Int):=λn=>a9W (k:=3) (by omega);unfold Ew;dsimp only;rw[c6B,cF,c,cF,b,cF,c1C,oB,c6x,c6C,cF,cF,c1F,c6D,cF,cF,c6y,c6z,c6E,cF,c6A,d1Z hi,i,m,d1Z lo,b6K,j,c0y,l,q1,y,x,w,oB];simp_all
theorem b8Z{hi lo:Nat}(h:hi<FN)(g:lo<18446744073709551616):∃q:Int,Ew ((hi:Int),(lo:Int),(2305843009213693951:Int))=kd (q,(((hi*18446744073709551616+lo)%FN:Nat):Int)):=by by_cases h0:hi=0;subst h0;rw[Nat.zero_mul,C7];exact⟨_,b6M lo⟩;rw[<-c1A hi lo];exact b8Y rfl rfl h0 h rfl rfl rfl g (b6I h g) (J4 (J7 (C5 _ (by omega)) (by omega))) (C5 _ (by omega))
theorem mD{a b c:Nat}(g:a<FN)(hb:b<FN)(f:c<=FN):Jh ((a:Int),(b:Int),(c:Int))=kd (((a*b+c)%FN:Nat):Int):=by
 have k:=b3t g hb f;unfold FN at g hb f k;have l:=b6L (a:=a) (b:=b) (by omega) (by omega);have j:Mq (((a*b%18446744073709551616:Nat):Int),(c:Int),(0:Int))=kd ((((a*b%18446744073709551616+c)%18446744073709551616:Nat):Int),(((a*b%18446744073709551616+c) / 18446744073709551616:Nat):Int)):=rfl;obtain⟨hi,h⟩:∃hi,(a*b+c) / 18446744073709551616=hi:=⟨_,rfl⟩;rw[h]at k;have i:zN .u64 (((a*b / 18446744073709551616:Nat):Int)+((a*b%18446744073709551616+c) / 18446744073709551616:Nat))=(hi:Int):=by grind[Au]
 obtain⟨q,d⟩:=b8Z (hi:=hi) (lo:=(a*b%18446744073709551616+c)%18446744073709551616) (by unfold FN;omega) (by omega);have e:hi*18446744073709551616+(a*b%18446744073709551616+c)%18446744073709551616=a*b+c:=by omega
 rw[e]at d;have t:D4 (hi:Int) 2305843009213693951=(hi:Int):=by grind
 unfold Jh Mr;simp_all
theorem jA(l:LI)(n i:Int):∀(j k:Nat)(s:Int),k+j=8->Al Kq (s,l,n,i,(k:Int),())=kd (a1u b1c j s,l,n,i,())|0,k,s,h=>by(obtain rfl:k=8:=by omega);rfl|j+1,k,s,h=>by(have d:A3 ((k:Int)<8)=ka:=by grind);rw[Af (s':=(b1c s,l,n,i,((k+1:Nat):Int),())) (by simp only[Kq,d,cT,Aa (show k<1000000 by omega),b1c];grind)];exact jA l n i j (k+1) (b1c s) (by omega)
theorem a0d{l:LI}(a:short l):∀(zO g:LI)(s:BitVec 32),g++zO=l->(∀b∈zO,0<=b/\b<256)->Al GX (((s.toNat:Nat):Int),l,(l.length:Int),(g.length:Int),())=kd ((((c1w s (zO.map (A4 32))).toNat:Nat):Int),())|[],g,s,c,_=>by(obtain rfl:g=l:=by simp_all);exact Ae (by simp only[GX,a6C,cF];rfl)|x::zO,g,s,c,hb=>by(have f:g.length<l.length:=by grind);(have d:Ax l (g.length:Int)=kd x:=by grind[Ad]);(have i:=hb x (by simp);have e:bits .u32 .xor ((s.toNat:Nat):Int) (zN .u32 x)=(((s ^^^ A4 32 x).toNat:Nat):Int):=by rw[<-a7G];grind[E6,zN,IntKind.bits]);have k:=jA l (l.length:Int) (g.length:Int) 8 0 (bits .u32 .xor ((s.toNat:Nat):Int) (zN .u32 x)) rfl;rw[e,a0c]at k;rw[Af (s':=((((b6G s (A4 32 x)).toNat:Nat):Int),l,(l.length:Int),(((g++[x]).length:Nat):Int),())) (by simp only[GX,Cn f,cT,d,oB,e];erw[k];simp only[oB,Aa (C2 f a)];simp[b6G])];exact a0d a zO (g++[x]) _ (by simp_all) (λb h=>hb b (by grind))
theorem cR{l:LI}(g:short l)(hb:∀b∈l,0<=b/\b<256):Hl l=kd (Ma l:Int):=by have h:=a0d g l [] 0xffffffff#32 rfl hb;rw[A7]at h;unfold Hl;erw[h];simp only[oB];rw[show IntKind.max .u32=(((0xffffffff#32).toNat:Nat):Int)from rfl,a7G];rfl
theorem a0e{l:LI}(d:short l):∀(zO g:LI)(h:Nat),g++zO=l->h<FN->(∀b∈zO,0<=b/\b<256)->Al Lg ((h:Int),l,(l.length:Int),(g.length:Int),())=kd (((a7D h (zO.map D0):Nat):Int),())|[],g,h,i,_,_=>by(obtain rfl:g=l:=by simp_all);exact Ae (by simp only[Lg,a6C,cF];rfl)|x::zO,g,h,i,m,hb=>by(have f:g.length<l.length:=by grind);(have j:Ax l (g.length:Int)=kd x:=by grind[Ad]);(have o:=hb x (by simp);have e:zN .u64 ((zN .u64 x)+(1:Int))=((x.toNat+1:Nat):Int):=by grind[Au]);have k:=mD (a:=h) (b:=1000003) (c:=x.toNat+1) m (by decide) (by unfold FN;omega);rw[Af (s':=((((h*1000003+(x.toNat+1))%FN:Nat):Int),l,(l.length:Int),(((g++[x]).length:Nat):Int),())) (by simp only[Lg,Cn f,cT,j,oB,e];erw[k];simp[Aa (C2 f d)])];exact a0e d zO (g++[x]) _ (by simp_all) (C5 _ (by decide)) (λb h=>hb b (by grind))
theorem a7I{l:LI}(g:short l)(hb:∀b∈l,0<=b/\b<256):Ms l=kd (mB l:Int):=by have h:=a0e g l [] 0 rfl (by decide) hb;unfold Ms;erw[h];rfl
theorem Zd:∀(k n p s:Nat),n<2^k->n<4611686018427387904->p<FN->s<FN->Al Lf ((n:Int),(p:Int),(s:Int),())=kd ((c2c k n p s:Int),())|0,n,p,s,j,_,_,_=>by(obtain rfl:n=0:=by omega);rfl|k+1,n,p,s,j,hn2,e,g=>by(by_cases h0:n=0;subst h0;rfl;have d:A3 ((n:Int) > 0)=ka:=by grind);(have a:D4 (n:Int) 2=((n%2:Nat):Int):=rfl;have l:zN .i64 (E1 (n:Int) 2)=((n / 2:Nat):Int):=by rw[show E1 (n:Int) 2=((n / 2:Nat):Int)from rfl,Ac (by omega)]);(have f:=mD (c:=0) g g (by simp);have h:=mD (c:=0) e g (by simp);have b:n / 2<2^k:=by omega);simp only[I0,nZ]at f h;have m:=C5 (s*s) (show 0<FN by decide);rw[c2c,if_neg h0];by_cases h1:n%2=1;rw[if_pos h1,Af (s':=(((n / 2:Nat):Int),((p*s%FN:Nat):Int),((s*s%FN:Nat):Int),())) (by simp only[Lf,d,cT,a,h1,show(((1:Nat):Int)==1)=ka from rfl];simp_all)];(exact Zd k _ _ _ b (by omega) (C5 _ (by decide)) m;have i:n%2=0:=by omega);rw[if_neg h1,Af (s':=(((n / 2:Nat):Int),(p:Int),((s*s%FN:Nat):Int),())) (by simp only[Lf,d,zQ,a,i,show(((0:Nat):Int)==1)=kc from rfl];simp_all)];exact Zd k _ _ _ b (by omega) e m
theorem b1e{a b n:Nat}(f:a<FN)(hb:b<FN)(h:n<4611686018427387904):Oj ((a:Int),(b:Int),(n:Int))=kd ((((a*(1000003^n%FN)+b)%FN:Nat):Int),ka):=by
 have i:=Zd 62 n 1 1000003 h h (by decide) (by decide);rw[c1u 62 n 1 1000003 h (by decide),Nat.one_mul]at i;have l:=mD (c:=b) f (C5 (1000003^n) (show 0<FN by decide)) (F5 hb);unfold FN at f hb;have k:A3 ((a:Int)>=(2305843009213693951:Int))=kc:=by grind
 have d:A3 ((b:Int)>=(2305843009213693951:Int))=kc:=by grind
 have e:A3 ((n:Int)<(0:Int))=kc:=by simp
 have j:Fk (n:Int) 0=(n:Int):=by rfl
 have g:Pf (n:Int)=kd ((1000003^n%FN:Nat):Int):=by simp_all[Pf]
 simp only[Oj,k,d,e,zQ,g];simp_all
theorem a7J(b:CN)(N:Int){i:Nat}:∀(zO h:List (List Int)) (out:LI),h++zO=b.2.1->b.2.1.length<=8->(∀r∈zO,i<r.length)->out.length+zO.length<1000000->Al JO ((i:Int),N,(i:Int),b.2.1,(b.2.1.length:Int),(h.length:Int),out,b,())=kd (N,(i:Int),out++zO.map (λr=>r.getD i 0),b,())|[],h,out,c,_,_,_=>by simp_all[Ae,JO]|r::zO,h,out,c,a,k,j=>by(have f:h.length<b.2.1.length:=by grind);(have d:Ax b.2.1 (h.length:Int)=kd r:=by grind[Ad]);(have e:=k r (by simp);have g:Ax r (i:Int)=kd (r.getD i 0):=by simp_all[Ad]);simp at j;rw[Af (s':=((i:Int),N,(i:Int),b.2.1,(b.2.1.length:Int),(((h++[r]).length:Nat):Int),out++[r.getD i 0],b,())) (by simp only[JO,Cn f,cT,d,g,oB,Ay (show out.length+1<2147483648 by omega),Aa (show h.length<1000000 by omega)];simp)];rw[a7J b N zO (h++[r]) _ (by simp_all) a (λq l=>k q (by grind)) (by grind)];simp
theorem a7K{b:CN}(hb:Kx b):KH b=kd (UW b):=by
 obtain⟨g1,g2,g3,g4,g5,g6,g7⟩:=id hb;have hlen:∀r∈b.2.1,r.length=CF b:=λr hr=>by
  simp_all
 have hw:∀i,i<=4096->(wv i b.2.1).length<=32768:=λi hi=>by
  rw[a9U]
  calc i*b.2.1.length<=4096*8:=B9 hi g4
   _=32768:=rfl
 have h:=Bo (f:=JP) (λi=>((CF b:Int),(i:Int),wv i b.2.1,b,())) (CF b) (b:=(wv (CF b) b.2.1,())) (λi hi=>by
  have h0:=a7J b (CF b:Int) (i:=i) b.2.1 [] (wv i b.2.1) rfl g4 (λr hr=>by simp_all) (by grind);rw[A7]at h0;simp only[JP,Cn hi,cT];grind[Aa,wv,L6]) (by simp_all[JP])
 unfold KH;simp[Ur,hb,Na];erw[h];rfl
theorem Uv{b:CN}:(UW b).length=CF b*b.2.1.length:=a9U _
theorem b1f{b:CN}(hb:Kx b):(UW b).all (λx=>Eo x b.1)=ka:=by(obtain⟨g,f,k,a,c,d,e⟩:=hb;refine lA.2 λx h=>?_);unfold UW wv at h;grind
theorem b1g{b:CN}(hb:Kx b):Mp b=kd (Cf b.1 (UW b),0):=by
 have hl:(UW b).length<=1000000:=by
  rw[Uv]
  calc CF b*b.2.1.length<=4096*8:=B9 hb.2.2.2.2.2.1 hb.2.2.2.1
   _<=1000000:=by simp
 unfold Mp;simp only[Ur,hb,decide_true,oB,bT,cF,a7K hb,rV ⟨hb.1,hb.2.1⟩ hl (b1f hb)]
theorem a2O{b:CN}(hb:Kx b){w:Int}(h:b.1=w)(d:LI):Ji (((mB (Cf w d):Nat):Int),b)=kd (((mB (Cf w (d++UW b)):Nat):Int),ka):=by(subst h;have g:=Za ⟨hb.1,hb.2.1⟩ (UW b);have f:(UW b).length<=4096*8:=by rw[Uv];exact B9 hb.2.2.2.2.2.1 hb.2.2.2.1);have k:=b1e (rX (Cf b.1 d)) (rX (Cf b.1 (UW b))) (n:=(Cf b.1 (UW b)).length) (by omega);unfold Ji;simp only[b1g hb,oB,show((0:Int) != 0)=kc from rfl,cF,a7I (show short (Cf b.1 (UW b))by unfold short;omega) (Uu _ _),rU,b1b];simp_all
theorem Nc{α:Type}(a:List α)(x:α)(b:List α):Ax (a++x::b) (a.length:Int)=kd x:=by simp_all[Ad]
theorem a0f:∀(a b:List Pc)(st off:Nat),DZ st off (a++b)=DZ st off a++DZ (st+Jc a) (off+(CG a).length) b|[],b,st,off=>by rfl|y::a,b,st,off=>by simp_all[DZ,a0f,Jc,CG,F2]
theorem a2P{α:Type}(a:List α)(x d:α)(b:List α):(a++x::b).getD a.length d=x:=by rw[lD];simp
theorem a2Q{all:List (List Int)}(k:all.length<=256)(g:∀p∈all,p.length<=700800):∀(zO h:List (List Int)) (out:LI),h++zO=all->out.length+700800*zO.length<=190000000->Al MH ((all.length:Int),(h.length:Int),out,all,())=kd (out++zO.flatten,())|[],h,out,f,_=>by(obtain rfl:h=all:=by simpa using f);rw[Ae (b:=(out,())) (by simp only[MH,a6C,cF])];simp|p::zO,h,out,f,d=>by(have a:h.length<all.length:=by rw[<-f];simp);(have e:all.getD h.length []=p:=by rw[<-f];exact a2P h p [] zO);have i:=g p (by rw[<-f];simp);have c:A3 ((0:Int)<=(h.length:Int))=ka:=dE (B8 _);simp only[lC]at d;rw[Af (s':=((all.length:Int),((h++[p]).length:Int),out++p,all,())) (by simp only[MH,Cn a,c,A6,cT,tN,e,Ay (show out.length+p.length<2147483648 by omega),Aa (show h.length<1000000 by omega)];simp)];rw[a2Q k g zO (h++[p]) (out++p) (by simpa using f) (by simp only[lN];omega)];simp
theorem a7L:∀(l:List Nat),(∀n∈l,n<9223372036854775808)->∀b∈l.flatMap Be,0<=b/\b<256:=λl h b hb=>by obtain⟨n,g,hb⟩:=H0.1 hb;exact YU 8 n (by rw[show(128:Nat)^(8+1)=9223372036854775808 from by decide];exact h n g) b hb
theorem cS{all:List CN}(k:all.length<=256):∀(zO g:List CN)(out:LI),g++zO=all->(∀b∈zO,Kx b)->out.length+32768*zO.length<=9000000->Al HO ((all.length:Int),(g.length:Int),out,all,())=kd (out++zO.flatMap UW,())|[],g,out,a,_,_=>by(obtain rfl:g=all:=by simpa using a);rw[Ae (b:=(out,())) (by simp only[HO,a6C,cF])];simp|p::zO,g,out,a,hb,e=>by(have c:g.length<all.length:=by rw[<-a];simp);(have i:all.getD g.length ((0:Int),([]:List (List Int)),())=p:=by rw[<-a];exact a2P g p _ zO);(have f:=hb p (by simp);have j:(UW p).length<=4096*8:=by rw[Uv];exact B9 f.2.2.2.2.2.1 f.2.2.2.1);have d:A3 ((0:Int)<=(g.length:Int))=ka:=dE (B8 _);simp only[lC]at e;rw[Af (s':=((all.length:Int),(((g++[p]).length:Nat):Int),out++UW p,all,())) (by simp only[HO,Cn c,d,A6,cT,tN,i,a7K f,oB,Ay (show out.length+(UW p).length<2147483648 by omega),Aa (show g.length<1000000 by omega)];simp)];rw[cS k zO (g++[p]) (out++UW p) (by simpa using a) (λb h=>hb b (by simp[h])) (by simp only[lN];omega)];simp
theorem b9a{P A R:LI}(b:(P++(A++R)).length<1000000000):GY (Xy P (A++R),(A.length:Int))=kd (A,Xy (P++A) R):=by
 simp at b;have c:Fk (A.length:Int) 0=(A.length:Int):=by rfl
 have d:zN .i64 (((P++(A++R)).length:Int)-(P.length:Int))=((A++R).length:Int):=by grind[Ac]
 have h:A3 ((A.length:Int) > ((A++R).length:Int))=kc:=by grind
 have i:zN .i64 ((P.length:Int)+(A.length:Int))=(((P++A).length:Nat):Int):=by grind[Ac]
 have g:A3 ((0:Int)<=(((P++A).length:Nat):Int))=ka:=by rfl
 have f:A3 ((((P++A).length:Nat):Int)<=((P++(A++R)).length:Int))=ka:=by simp_all
 have k:A3 ((0:Int)<=(P.length:Int))=ka:=by simp
 have a:A3 ((P.length:Int)<=(((P++A).length:Nat):Int))=ka:=by grind
 have e:D9 P.length (D6 (P++A).length (P++(A++R)))=A:=by grind
 unfold GY Co Xy;simp only[show((0:Int) != 0)=kc from rfl,cF,oB,c,d,h,i,g,f,k,a,A6,cT,tN,e,Ay (show A.length<2147483648 by omega),aA]
theorem a7M{all:LI}(c:all.length<=8)(z:List Int×(Int×Int×Unit)):∀(zO g:LI)(n:Nat),g++zO=all->(∀b∈zO,0<=b/\b<256)->n<256^g.length->Al FI ((n:Int),(all.length:Int),(g.length:Int),all,z,())=kd ((a0a n zO:Int),z,())|[],g,n,d,_,_=>by(obtain rfl:g=all:=by simp_all);exact Ae (by simp only[FI,a6C,cF];rfl)|x::zO,g,n,d,hb,j=>by(have f:g.length<all.length:=by grind);(have e:all.getD g.length 0=x:=by grind);(have l:=hb x (by simp);have k:A3 ((0:Int)<=(g.length:Int))=ka:=dE (B8 _);have i:256^g.length<=256^7:=C0 (by omega) (by omega);have a:(256:Nat)^7=72057594037927936:=by rfl);(have w:zN .u64 ((zN .u64 ((n:Int)*(256:Int)))+(zN .u64 x))=((n*256+x.toNat:Nat):Int):=by grind[Au]);rw[Af (s':=(((n*256+x.toNat:Nat):Int),(all.length:Int),((g++[x]).length:Int),all,z,())) (by simp only[FI,Cn f,k,A6,cT,tN,e,w,Aa (show g.length<1000000 by omega)];simp)];exact a7M c z zO (g++[x]) _ (by simp_all) (λb h=>hb b (by grind)) (by grind)
theorem b1h{P A R:LI}{k:Nat}(f:A.length=k)(g:k<=8)(hb:∀b∈A,0<=b/\b<256)(a:(P++(A++R)).length<1000000000):Fw (Xy P (A++R),(k:Int))=kd ((a0a 0 A:Int),Xy (P++A) R):=by subst f;have h:=a7M g (Xy (P++A) R) A [] 0 rfl hb (by simp);grind[GM,bI,lU,Fw,b9a]
abbrev b1i:Type:=AH×(List Int×(List Int×(Int×(Int×(Int×Unit)))))
def a0g:b1i:=((0,0,0,()),[],[],0,0,0,())
theorem a7N(a b:Nat):(a%FN+b)%FN=(a+b)%FN:=by simp
theorem c1G(n:Nat):(n%2305843009213693952+n / 2305843009213693952)%FN=n%FN:=by grind[FN]
theorem b9b(a:Nat):(a%1099511627776*1000003%FN+(a / 1099511627776*1000003*1099511627776%2305843009213693952+a / 1099511627776*1000003 / 2097152)%FN)%FN=a*1000003%FN:=by(rw[a7N,WA];have h:a / 1099511627776*1000003 / 2097152=a / 1099511627776*1000003*1099511627776 / 2305843009213693952:=by omega);rw[h,<-WA,c1G,WA,show a%1099511627776*1000003+a / 1099511627776*1000003*1099511627776=a*1000003 by omega]
theorem a7O{α β:Type}{g:α->Option β}:∀{l:List α}{r:List β},UU g l=kd r->∀b∈r,∃a∈l,g a=kd b|[],r,h,b,hb=>(by cases h;cases hb)|a::l,r,h,b,hb=>by simp only[UU,A8]at h;obtain⟨c,k,m,d,e⟩:=h;cases e;rcases mC.1 hb with rfl|hb;exact⟨a,by simp,k⟩;obtain⟨f,i,j⟩:=a7O d b hb;exact⟨f,by simp[i],j⟩
theorem a9X:∀(k:Int)(l:LI){r},b2J k l=kd r->r.length=l.length:=λk l r h=>by unfold b2J at h;cases hc:l.all (λx=>Aq x&&Aq (AO .i64 x k))with|false=>(rw[hc]at h;cases h)|true=>rw[hc]at h;cases h;simp
theorem a7P{s:CP}(w:sM s){n:Int}{r:LI}(h:FY s n=kd r):(r.length:Int)=n:=by unfold FY at h;split at h;rename_i p;obtain⟨x,y,z,A,B,C,D,a,E,u,v,b⟩:=p;unfold b2Q at h;split at h;cases h;simp;omega;rename_i c;obtain⟨l,g,q⟩:=A8.1 h;rw[a9X _ _ q];unfold uG at g;unfold Cp at a b;split at g;rename_i k;cases g;simp only[k]at a;simpa using a;rename_i d;obtain⟨f,-⟩:=b ⟨c,d⟩;split at g;rename_i k;rw[iF g];simp[k]at a f;omega;rename_i e;split at g;rename_i k;rw[LV g];simp[k]at a f;omega;rename_i i;split at g;rename_i k;obtain⟨m,o,g⟩:=A8.1 g;rw[bU g,LV o];simp[k]at a f;omega;rename_i j;rw[XU g];simp only[c,d,e,i,j,if_false,or_self]at f;omega;cases h
theorem Ze{f:AQ}(p:∀s∈f.2.2.2.2.1,sM s){b:CN}(h:DY f=kd b):Kx b/\b.1=f.2.2.1.2.2.1/\f.2.1=(CF b:Int):=by
 obtain⟨v,q,-⟩:=Ff h;unfold DY at h;split at h;obtain⟨k,w,h⟩:=A8.1 h;split at h;rename_i e;obtain⟨g,x,h⟩:=A8.1 h;split at h;rename_i hb;cases h;refine⟨hb,rfl,?_⟩;have o:=lY e.1;have i:∀r∈k,(r.length:Int)=f.2.1:=λr i=>by obtain⟨s,j,m⟩:=a7O w r i;exact a7P (p s j) m
 have u:k.headD []∈k:=by have:=e.1.1;cases k with|nil=>simp at this|cons a l=>simp
 obtain⟨y,z⟩:=fM f.2.2.2.1 o rfl e.2.2.2.2 x;have c:1<=g.length:=hb.2.2.1;have d:g.headD []∈g:=by cases g with|nil=>simp at c|cons a l=>simp
 have:=(y _ d).1;show f.2.1=((g.headD []).length:Int);rw[this];exact(i _ u).symm
 cases h;cases h;cases h
theorem jB{a b:Nat}(h:a+b<18446744073709551616):SL ((a:Int),(b:Int))=kd (((a+b)%FN:Nat):Int):=by unfold SL;simp only[];rw[show((a:Int)+(b:Int))=((a+b:Nat):Int)from rfl,Au (by omega)];rfl
theorem b6O(a:Nat):D4 (a:Int) (2305843009213693951:Int)=((a%FN:Nat):Int):=by rw[show(2305843009213693951:Int)=(FN:Int)from rfl,Int.ofNat_tmod]
theorem c1H(M:Nat):AO .u64 (M:Int) (40:Int)=((M*1099511627776%18446744073709551616:Nat):Int):=by(unfold AO;show zN .u64 ((M:Int)*2^(min (((40:Nat):Int)).toNat 64))=_;rw[tN,Nat.min_eq_left (by omega),c0x];have e:(M:Int)*2^40=((M*1099511627776:Nat):Int):=by omega);rw[e];generalize M*1099511627776=K;omega
theorem a7Q{a:Nat}(h:a<FN):Xb (a:Int)=kd ((a*1000003%FN:Nat):Int):=by
 have m:a<2305843009213693951:=h;have c:bits .u64 .and (a:Int) (1099511627775:Int)=((a%1099511627776:Nat):Int):=by have:=Wk (y:=a) (k:=40) (by omega) (by omega);rw[show zN .u64 (AO .u64 1 ((40:Nat):Int)-1)=(1099511627775:Int)from by kernel_rfl]at this;exact this
 have d:AR .u64 (a:Int) (40:Int)=((a / 1099511627776:Nat):Int):=EI (o:=40) (by omega);have e:zN .u64 (((a%1099511627776:Nat):Int)*(1000003:Int))=((a%1099511627776*1000003:Nat):Int):=by rw[Au (by omega)];omega
 have g:zN .u64 (((a / 1099511627776:Nat):Int)*(1000003:Int))=((a / 1099511627776*1000003:Nat):Int):=by rw[Au (by omega)];omega
 obtain⟨M,f⟩:∃M:Nat,M=a / 1099511627776*1000003:=⟨_,rfl⟩;have p:M<2097158291456:=by omega
 have g:zN .u64 (((a / 1099511627776:Nat):Int)*(1000003:Int))=(M:Int):=by rw[f];exact g
 have i:AO .u64 (M:Int) (40:Int)=((M*1099511627776%18446744073709551616:Nat):Int):=c1H M;have j:bits .u64 .and ((M*1099511627776%18446744073709551616:Nat):Int) (2305843009213693951:Int)=((M*1099511627776%2305843009213693952:Nat):Int):=by have:=Wk (y:=M*1099511627776%18446744073709551616) (k:=61) (by omega) (by omega);rw[show zN .u64 (AO .u64 1 ((61:Nat):Int)-1)=(2305843009213693951:Int)from by kernel_rfl]at this;rw[this];(have:M*1099511627776%18446744073709551616%2^61=M*1099511627776%2305843009213693952:=by omega);rw[this]
 have l:AR .u64 (M:Int) (21:Int)=((M / 2097152:Nat):Int):=EI (o:=21) (by omega);have e8:zN .u64 (((M*1099511627776%2305843009213693952:Nat):Int)+((M / 2097152:Nat):Int))=((M*1099511627776%2305843009213693952+M / 2097152:Nat):Int):=by rw[Au (by omega)];omega
 have r:a%1099511627776*1000003%FN<FN:=C5 _ (by decide);have u:(M*1099511627776%2305843009213693952+M / 2097152)%FN<FN:=C5 _ (by decide);have q:FN=2305843009213693951:=rfl;have k:=jB (a:=a%1099511627776*1000003%FN) (b:=(M*1099511627776%2305843009213693952+M / 2097152)%FN) (by omega);unfold Xb;simp only[c,d,e,g,i,j,l,e8,b6O,k,oB];subst f;exact cG (λn:Nat=>kd (n:Int)) (b9b a)
theorem WE{l:LI}(d:l.length<1000000000):∀(zO g:LI)(h:Nat),g++zO=l->h<FN->(∀b∈zO,0<=b/\b<256)->Al NX (l,(h:Int),(g.length:Int),())=kd (((a7D h (zO.map D0):Nat):Int),())|[],g,h,k,_,_=>by(obtain rfl:g=l:=by simpa using k);exact Ae (by simp only[NX,a6C,cF];rfl)|x::zO,g,h,k,j,hb=>by(have f:g.length<l.length:=by rw[<-k];simp);(have i:Ax l (g.length:Int)=kd x:=by rw[Ad f];subst k;simp);(have p:=hb x (by simp);have e:zN .u64 ((zN .u64 x)+(1:Int))=((x.toNat+1:Nat):Int):=by rw[Au (n:=x) (by omega),Au (by omega)];omega);have m:h*1000003%FN<FN:=C5 _ (by decide);have o:FN=2305843009213693951:=rfl;have c:=jB (a:=h*1000003%FN) (b:=x.toNat+1) (by omega);rw[a7N]at c;rw[Af (s':=(l,(((h*1000003+(x.toNat+1))%FN:Nat):Int),(((g++[x]).length:Nat):Int),())) (by simp only[NX,Cn f,cT,i,oB,e,a7Q j];rw[c];simp[rW (C2 f d)])];exact WE d zO (g++[x]) _ (by simpa using k) (C5 _ (by decide)) (λb h=>hb b (by simp[h]))
theorem a4N{l:LI}(g:l.length<1000000000)(hb:∀b∈l,0<=b/\b<256):TU l=kd (mB l:Int):=by have h:=WE g l [] 0 rfl (by decide) hb;unfold TU;erw[h];rfl
theorem UQ(l:LI)(i:Int):∀(j k:Nat)(s:Int),k+j=8->Al MS (l,s,i,(k:Int),())=kd (l,a1u b1c j s,i,())|0,k,s,h=>by(obtain rfl:k=8:=by omega);exact Ae rfl|j+1,k,s,h=>by(have d:A3 ((k:Int)<8)=ka:=by simp;omega);rw[Af (s':=(l,b1c s,i,((k+1:Nat):Int),())) (by simp only[MS,d,cT,Aa (show k<1000000 by omega),b1c];cases (bits .u32 .and s 1==1:Bool)<;>rfl)];exact UQ l i j (k+1) (b1c s) (by omega)
theorem WF{l:LI}(c:short l):∀(zO g:LI)(s:BitVec 32),g++zO=l->(∀b∈zO,0<=b/\b<256)->Al IY (l,((s.toNat:Nat):Int),(g.length:Int),())=kd ((((c1w s (zO.map (A4 32))).toNat:Nat):Int),())|[],g,s,k,_=>by(obtain rfl:g=l:=by simpa using k);exact Ae (by simp only[IY,a6C,cF];rfl)|x::zO,g,s,k,hb=>by(have f:g.length<l.length:=by rw[<-k];simp);(have d:Ax l (g.length:Int)=kd x:=by rw[Ad f];subst k;simp);(have i:=hb x (by simp);have e:bits .u32 .xor ((s.toNat:Nat):Int) (zN .u32 x)=(((s ^^^ A4 32 x).toNat:Nat):Int):=by rw[<-a7G];congr 1;rw[E6];simp[zN,IntKind.bits,IntKind.signed];omega);have a:=UQ l (g.length:Int) 8 0 (bits .u32 .xor ((s.toNat:Nat):Int) (zN .u32 x)) rfl;rw[e,a0c]at a;rw[Af (s':=(l,(((b6G s (A4 32 x)).toNat:Nat):Int),(((g++[x]).length:Nat):Int),())) (by simp only[IY,Cn f,cT,d,oB,e];erw[a];simp only[oB,Aa (C2 f c)];simp[b6G])];exact WF c zO (g++[x]) _ (by simpa using k) (λb h=>hb b (by simp[h]))
theorem Tc{l:LI}(g:short l)(hb:∀b∈l,0<=b/\b<256):JB l=kd (Ma l:Int):=by have h:=WF g l [] 0xffffffff#32 rfl hb;rw[A7]at h;unfold JB;erw[h];simp only[oB];rw[show IntKind.max .u32=(((0xffffffff#32).toNat:Nat):Int)from rfl,a7G];unfold Ma c1z;rw[<-J8];rfl
theorem cU(n:Nat):∀(j:Nat)(out:LI),j<=8->out.length+j<=8->Al Js ((n:Int),(j:Int)-1,out,())=kd (out++WC j n,())|0,out,_,_=>by rw[Ae (b:=(out,())) rfl];simp[WC,lT]|j+1,out,h,a=>by(have f:zN .u64 (zN .i64 ((8:Int)*(j:Int)))=((8*j:Nat):Int):=by rw[Ac (by omega),Au (by omega)];omega);(have g:A3 (((8*j:Nat):Int)<0)=kc:=by simp;omega);(have d:A3 ((j:Int)>=0)=ka:=by simp);(have k:zN .u8 (AR .u64 (n:Int) ((8*j:Nat):Int))=((n / 256^j%256:Nat):Int):=by rw[EI (by omega),GR,show(256:Nat)=2^8 from rfl,<-L1];omega);rw[show((j+1:Nat):Int)-1=(j:Int)by omega,Af (s':=((n:Int),(j:Int)-1,out++[((n / 256^j%256:Nat):Int)],())) (by simp only[Js,d,cT,f,g,cF,Ay (show out.length+1<2147483648 by omega),k,Ac (n:=(j:Int)-1) (by omega),B3])];rw[cU n j _ (by omega) (by rw[lN,D2];omega)];unfold WC;rw[VW];simp
theorem a0h{n k:Nat}(g:k=8\/k=4):Jt ((n:Int),(k:Int))=kd (WC k n):=by have h:=cU n k [] (by omega) (by simp;omega);unfold Jt;rw[show zN .i64 (Fk (OH (k:Int) 8) 0-1)=(k:Int)-1 from by rcases g with rfl|rfl<;>rfl,h];rfl
theorem jC(b:CN):MN b=kd ((CF b:Nat):Int):=by unfold MN CF;cases hc:b.2.1 with|nil=>rfl|cons r c=>(have d:((((r::c).length:Nat):Int)==0)=kc:=by simp;omega);simp only[d,cF,show Ax (r::c) (0:Int)=kd r from rfl,oB,List.headD_cons]
theorem cV(b:CN){i:Nat}:∀(zO h:List (List Int)) (out:LI),h++zO=b.2.1->b.2.1.length<=8->(∀r∈zO,i<r.length)->out.length+zO.length<1000000->Al MO ((i:Int),(h.length:Int),out,b,())=kd ((i:Int),out++zO.map (λr=>r.getD i 0),b,())|[],h,out,g,_,_,_=>by(have e:h=b.2.1:=by simpa using g);rw[Ae (b:=((i:Int),out,b,())) (by rw[e];simp only[MO,a6C,cF])];simp|r::zO,h,out,g,d,c,l=>by(have k:h.length<b.2.1.length:=by rw[<-g];simp);(have j:Ax b.2.1 (h.length:Int)=kd r:=by rw[Ad k];simp[<-g]);(have f:=c r (by simp);have a:Ax r (i:Int)=kd (r.getD i 0):=by rw[Ad f,lD,lG f];rfl);simp only[lC]at l;rw[Af (s':=((i:Int),(((h++[r]).length:Nat):Int),out++[r.getD i 0],b,())) (by simp only[MO,Cn k,cT,j,a,oB,Ay (show out.length+1<2147483648 by omega),Aa (show h.length<1000000 by omega)];simp)];rw[cV b zO (h++[r]) _ (by simpa using g) d (λq m=>c q (by simp[m])) (by simp only[lN,D2];omega)];simp
theorem a4O{b:CN}(hb:Kx b):RE b=kd (UW b):=by
 obtain⟨g1,g2,g3,g4,g5,g6,g7⟩:=id hb;have hlen:∀r∈b.2.1,r.length=CF b:=λr hr=>by
  have:=lA.1 g7 r hr
  simp only[HC,dT]at this;exact this.1
 have hw:∀i,i<=4096->(wv i b.2.1).length<=32768:=λi hi=>by
  rw[a9U]
  calc i*b.2.1.length<=4096*8:=B9 hi g4
   _=32768:=rfl
 have h:=Bo (f:=MP) (λi=>((i:Int),wv i b.2.1,b,())) (CF b) (b:=(wv (CF b) b.2.1,())) (λi hi=>by
  have h0:=cV b (i:=i) b.2.1 [] (wv i b.2.1) rfl g4 (λr hr=>by rw[hlen r hr];exact hi) (by have:=hw i (by omega);omega);rw[A7]at h0;simp only[MP,jC,oB,Cn hi,cT];erw[h0];simp only[oB,Aa (show i<1000000 by omega)];unfold wv;rw[L6,J6]
  simp) (by simp only[MP,jC,oB,a6C,cF])
 unfold RE;simp only[UN,hb,decide_true,oB,bT,cF];erw[h];rfl
theorem c6F{n:Nat}(h:n*256<18446744073709551616):AO .u64 (n:Int) 8=((n*256:Nat):Int):=by unfold AO;show zN .u64 ((n:Int)*256)=_;grind[Au]
theorem b3u(a b:Int):bits .u64 .or a b=bits .u64 .or b a:=by show zN .u64 ((A4 64 a ||| A4 64 b).toNat:Int)=zN .u64 ((A4 64 b ||| A4 64 a).toNat:Int);grind
theorem a0i{all:LI}(i:all.length<=8)(z:List Int×(Int×Int×Unit)):∀(zO g:LI)(n:Nat),g++zO=all->(∀b∈zO,0<=b/\b<256)->n<256^g.length->Al HT ((n:Int),(g.length:Int),all,z,())=kd ((a0a n zO:Int),z,())|[],g,n,j,_,_=>by(obtain rfl:g=all:=by simp_all);exact Ae (by simp only[HT,a6C,cF];rfl)|x::zO,g,n,j,hb,q=>by(have f:g.length<all.length:=by grind);(have l:all.getD g.length 0=x:=by grind);(have m:=hb x (by simp);have d:A3 ((0:Int)<=(g.length:Int))=ka:=dE (B8 _);have o:256^g.length<=256^7:=C0 (by omega) (by omega);have e:(256:Nat)^7=72057594037927936:=by rfl);(obtain⟨c,p⟩:=A9 m.1;have w:bits .u64 .or (AO .u64 (n:Int) 8) (zN .u64 x)=((n*256+x.toNat:Nat):Int):=by have h:=c6k (a:=c) (b:=n) (k:=8) (by omega) (by omega);grind[c6F,Au,b3u]);rw[Af (s':=(((n*256+x.toNat:Nat):Int),((g++[x]).length:Int),all,z,())) (by simp only[HT,Cn f,d,A6,cT,tN,l,w,Aa (show g.length<1000000 by omega)];simp)];exact a0i i z zO (g++[x]) _ (by simp_all) (λb h=>hb b (by grind)) (by grind)
theorem a7R{P A R:LI}(b:(P++(A++R)).length<1000000000):AT (Xy P (A++R),(A.length:Int))=kd (A,Xy (P++A) R):=by
 simp at b;have c:Fk (A.length:Int) 0=(A.length:Int):=by rfl
 have d:zN .i64 (((P++(A++R)).length:Int)-(P.length:Int))=((A++R).length:Int):=by grind[Ac]
 have h:A3 ((A.length:Int) > ((A++R).length:Int))=kc:=by grind
 have i:zN .i64 ((P.length:Int)+(A.length:Int))=(((P++A).length:Nat):Int):=by grind[Ac]
 have g:A3 ((0:Int)<=(((P++A).length:Nat):Int))=ka:=by rfl
 have f:A3 ((((P++A).length:Nat):Int)<=((P++(A++R)).length:Int))=ka:=by simp_all
 have k:A3 ((0:Int)<=(P.length:Int))=ka:=by simp
 have a:A3 ((P.length:Int)<=(((P++A).length:Nat):Int))=ka:=by grind
 have e:D9 P.length (D6 (P++A).length (P++(A++R)))=A:=by grind
 unfold AT Dp Xy;simp only[show((0:Int) != 0)=kc from rfl,cF,oB,c,d,h,i,g,f,k,a,A6,cT,tN,e,Ay (show 0+A.length<2147483648 by omega),aA,B3,C1]
theorem a7S{P A R:LI}{k:Nat}(f:A.length=k)(g:k<=8)(hb:∀b∈A,0<=b/\b<256)(a:(P++(A++R)).length<1000000000):EQ (Xy P (A++R),(k:Int))=kd ((a0a 0 A:Int),Xy (P++A) R):=by subst f;have h:=a0i g (Xy (P++A) R) A [] 0 rfl hb (by simp);grind[bI,EQ,a7R]
theorem fO{B:Int}:∀{L:LI},(∀v∈L,0<=v/\v<=B)->0<=L.sum/\L.sum<=B*(L.length:Int)|[],_=>by simp|a::L,h=>by have g:=h a (by simp);have f:=fO (B:=B) (L:=L) λv k=>h v (by grind);rw[G7,lC,Int.natCast_succ,Int.mul_add];omega
def Ec(fm:AH)(S L:List Int)(t p b:Int):b1i:=(fm,S,L,t,p,b,())
theorem jD{x:LI}(hb:Iq x)(i:x.length<1000000000)(z:b1i)(fm:AH){N:Nat}(E:N<=4096):∀(m:Nat)(S L:LI)(p:Nat)(e:Int),S.length+m=N->L.length=S.length->p+4<=x.length->
  (∀v∈S,0<=v/\v<=1048704)->(∀v∈L,0<=v/\v<=4096)->
  ∃(g h:LI)(p':Nat)(c:Int),g.length=N/\h.length=N/\p'+4<=x.length/\(∀v∈g,0<=v/\v<=1048704)/\(∀v∈h,0<=v/\v<=4096)/\
   Al HJ (x,(N:Int),(S.length:Int),z,Ec fm S L 0 0 0,oP x 4 p e,())=kd (x,z,Ec fm g h 0 0 0,oP x 4 p' c,())/\
   Al Kd (x,(N:Int),L.all (λv=>A3 (v > 0)),(S.length:Int),z,oR x 4 p e,Ec fm S L 0 0 L.sum,())=kd (x,h.all (λv=>A3 (v > 0)),z,oR x 4 p' c,Ec fm g h 0 0 h.sum,())
 |0,S,L,p,e,G,D,o,A,hLb=>by
  have:S.length=N:=by omega
  refine⟨S,L,p,e,this,by omega,o,A,hLb,?_,?_⟩;all_goals simp_all[Ae,HJ,Kd]
 |m+1,S,L,p,e,G,D,o,A,hLb=>by
  obtain⟨a,Z,C,V,q,-,a1,y⟩:=Fa hb i o e 1048704;obtain⟨b,w,d,F,r,-,b1,b2⟩:=Fa hb i q C 4096;rw[show((1048704:Nat):Int)=1048704 from rfl]at a1 y;rw[show((4096:Nat):Int)=4096 from rfl]at b1 b2;have l:=Cn (show S.length<N by omega);have j:=Ay (show S.length+1<2147483648 by omega);have k:=Ay (show L.length+1<2147483648 by omega);have R:zN .i64 (a:Int)=(a:Int):=Ac (by omega);have T:zN .i64 (b:Int)=(b:Int):=Ac (by omega);have H:=fO hLb;have U:zN .i64 (L.sum+(b:Int))=(L++[(b:Int)]).sum:=by grind[Ac]
  have f:(L++[(b:Int)]).all (λv=>A3 (v > 0))=(L.all (λv=>A3 (v > 0))&&A3 ((b:Int) > 0)):=by simp
  have u:zN .i64 ((S.length:Int)+1)=((S++[(a:Int)]).length:Int):=by grind[Ac]
  have B:zN .u64 ((S.length:Int)+1)=((S++[(a:Int)]).length:Int):=by grind[Au]
  obtain⟨g,h,p',c,K,M,O,P,Q,X,Y⟩:=jD hb i z fm E m (S++[(a:Int)]) (L++[(b:Int)]) w d (by grind) (by grind) r
   (λv I=>by
    grind)
   (λv I=>by
    grind)
  refine⟨g,h,p',c,K,M,O,P,Q,?_,?_⟩;rw[Af (s':=(x,(N:Int),((S++[(a:Int)]).length:Int),z,Ec fm (S++[(a:Int)]) (L++[(b:Int)]) 0 0 0,oP x 4 w d,())) (by
   simp_all[HJ,Ec])]
  omega;rw[Af (s':=(x,(N:Int),(L++[(b:Int)]).all (λv=>A3 (v > 0)),((S++[(a:Int)]).length:Int),z,oR x 4 w d,Ec fm (S++[(a:Int)]) (L++[(b:Int)]) 0 0 (L++[(b:Int)]).sum,())) (by
   rw[f];simp only[Kd,Ec,l,zQ,y,b2,j,k,R,T,U,u,B3];grind)]
  omega
theorem a2R{L:LI}(a:L.length<=4096)(hb:∀v∈L,0<=v/\v<=4096)(fm:AH)(S:LI)(pr bg:Int)(z:b1i):∀(zO h:LI),h++zO=L->Al Fx ((L.length:Int),(h.length:Int),z,Ec fm S L h.sum pr bg,())=kd (bif zO.all (λv=>A3 (v > 0))then .inl (z,Ec fm S L L.sum pr bg,())else .inr (2,a0g,()))|[],h,b=>by(obtain rfl:h=L:=by simp_all);simp_all[Ae,Fx]|v::zO,h,b=>by(have g:h.length<L.length:=by grind);(have k:L.getD h.length 0=v:=by grind);(have j:=hb v (by grind);have f:A3 ((0:Int)<=(h.length:Int))=ka:=dE (B8 _);have e:=fO (L:=h) (B:=4096) λw l=>hb w (by grind);have i:zN .i64 (h.sum+v)=(h++[v]).sum:=by grind[Ac]);by_cases h0:v=0;subst h0;refine Ae ?_;(unfold Ec;simp only[Fx,Cn g,f,A6,zQ,tN,k,beq_self_eq_true,F0,show A3 ((0:Int) > 0)=kc from rfl,Bool.false_and];rfl;have d:(v==(0:Int))=kc:=by simp_all);(have c:A3 (v > 0)=ka:=by grind);rw[Af (s':=((L.length:Int),((h++[v]).length:Int),z,Ec fm S L (h++[v]).sum pr bg,())) (by unfold Ec;simp only[Fx,Cn g,f,A6,zQ,tN,k,d,i,Aa (show h.length<1000000 by omega)];simp),a2R a hb fm S pr bg z zO (h++[v]) (by simp_all),F0,c,Bool.true_and]
theorem b6P{x:LI}{p:Nat}{e:Int}(g:e≠0)(n:Int):AT (oR x 4 p e,n)=kd ([],oR x 4 p e):=by(have h:(e != (0:Int))=ka:=by simp_all);unfold AT oR;grind
theorem a2S{x:LI}{p:Nat}{e:Int}(h:e≠0)(n:Int):EQ (oR x 4 p e,n)=kd (0,oR x 4 p e):=by unfold EQ;simp[b6P h];rfl
theorem c1I{x:LI}{k p:Nat}(h:p+k<=x.length):oP x k p 0=Xy ((x.drop k).take p) (x.drop (p+k)):=by unfold oP Xy;grind[J0,F1]
theorem c1J{x:LI}{k p:Nat}(h:p+k<=x.length):oR x k p 0=Xy (x.take (p+k)) (x.drop (p+k)):=by simp_all[Xy]
theorem Zf{x:LI}{i n:Nat}(h:i+n<=x.length):x.drop i=(x.drop i).take n++x.drop (i+n)/\((x.drop i).take n).length=n:=by grind[J0,F1]
theorem a7T{x:LI}(hb:Iq x)(hl:x.length<1000000):
  ∃(fm:AH)(S L:LI)(tot pr bg e:Int),Lh x=kd (Ec fm S L tot pr bg,e)/\NZ x=kd (Ec fm S L pr bg tot,e)/\
   (e=0->OD fm/\L.length=S.length/\S.length<=4096/\(∀v∈S,0<=v/\v<=1048704)/\(∀v∈L,1<=v/\v<=4096)/\tot=L.sum/\tot<=4194304/\16<=bg/\bg<=(x.length:Int)):=by
 unfold Lh NZ;by_cases h4:x.length<4;have d:A3 (((x.length:Nat):Int)<4)=ka:=by grind
 simp only[d,cT];exact⟨(0,0,0,()),[],[],0,0,0,3,rfl,rfl,λh=>by omega⟩;have d:A3 (((x.length:Nat):Int)<4)=kc:=by grind
 have d2:A3 ((4:Int)<=((x.length:Nat):Int))=ka:=by simp_all
 simp only[d,d2,cF,cT];cases hm:(a4V (D6 4 x) != ([75,78,83,68]:List Int))with
 |true=>
  simp only[cT];exact⟨(0,0,0,()),[],[],0,0,0,2,rfl,rfl,λh=>by omega⟩
 |false=>
 simp only[cF];have z:Gq (D9 4 (D6 x.length x))=kd (oP x 4 0 0):=by
  unfold Gq oP;grind[Ay]
 have m:AT ((x,(0:Int),(0:Int),()),(4:Int))=kd (x.take 4,oR x 4 0 0):=by
  have hs:=Zf (x:=x) (i:=0) (n:=4) (by omega);simp only[List.drop_zero,C7]at hs;have G:=a7R (P:=[]) (A:=x.take 4) (R:=x.drop 4) (by grind);grind[Xy]
 unfold JC;simp only[z,m,oB];obtain⟨r,p1,e1,l1,q1,-,a1,r1⟩:=Fa hb (by omega) (k:=4) (p:=0) (by omega) 0 1048576;obtain⟨u,p2,e2,l2,q2,-,Q,r2⟩:=Fa hb (by omega) q1 e1 8;obtain⟨w,p3,e3,l3,q3,-,T,r3⟩:=Fa hb (by omega) q2 e2 24;obtain⟨H,p4,e4,l4,q4,-,U,r4⟩:=Fa hb (by omega) q3 e3 4096;rw[show((1048576:Nat):Int)=1048576 from rfl]at a1 r1;rw[show((8:Nat):Int)=8 from rfl]at Q r2;rw[show((24:Nat):Int)=24 from rfl]at T r3;rw[show((4096:Nat):Int)=4096 from rfl]at U r4;have w1:zN .i64 (r:Int)=(r:Int):=Ac (by omega);have w2:zN .i64 (u:Int)=(u:Int):=Ac (by omega);have w3:zN .i64 (w:Int)=(w:Int):=Ac (by omega);have w4:zN .i64 (H:Int)=(H:Int):=Ac (by omega);simp only[a1,Q,T,U,r1,r2,r3,r4,w1,w2,w3,w4,oB];obtain⟨S,L,p,e,k1,k2,k3,k4,k5,k6,k7⟩:=jD hb (by omega) a0g ((r:Int),(u:Int),(w:Int),()) l4 H [] [] p4 e4 (by simp) rfl q4 (λv hv=>by grind) (λv hv=>by grind);simp only[A7,nZ]at k6 k7;erw[k6,k7];simp only[oB,DS,Co,Ey,Dp];by_cases he:e=0;rotate_left;have a:(e != (0:Int))=ka:=by simp_all
 have l:(e==(0:Int))=kc:=by simp_all
 simp only[a,l,cT,cF,oB];erw[a2S he];simp only[oB];erw[a2S he];simp only[oB,a,cT];exact⟨(0,0,0,()),[],[],0,0,0,e,rfl,rfl,λh=>absurd h he⟩;subst he;have h1:(x.drop 4).length=x.length-4:=L0;have eL:zN .i64 ((((x.drop 4).length:Nat):Int)-(p:Int))=((x.length-4-p:Nat):Int):=by grind[Ac]
 have eR:zN .i64 (((x.length:Nat):Int)-((p+4:Nat):Int))=((x.length-4-p:Nat):Int):=by grind
 simp only[bN,beq_self_eq_true,cF,cT,eL,eR,oB];by_cases h12:x.length-4-p<12;have c:A3 (((x.length-4-p:Nat):Int)<12)=ka:=by grind
 simp only[c,cT];exact⟨(0,0,0,()),[],[],0,0,0,3,rfl,rfl,λh=>by omega⟩;have c:A3 (((x.length-4-p:Nat):Int)<12)=kc:=by grind
 simp only[c,cF];obtain⟨I,K⟩:=Zf (x:=x) (i:=p+4) (n:=8) (by omega);obtain⟨M,N⟩:=Zf (x:=x) (i:=p+4+8) (n:=4) (by omega);obtain⟨A,hA⟩:∃A,(x.drop (p+4)).take 8=A:=⟨_,rfl⟩;obtain⟨C,hC⟩:∃C,(x.drop (p+4+8)).take 4=C:=⟨_,rfl⟩;have V:∀b∈A,0<=b/\b<256:=λb h=>by rw[<-hA]at h;exact hb b (D7 (D8 h))
 have X:∀b∈C,0<=b/\b<256:=λb h=>by rw[<-hC]at h;exact hb b (D7 (D8 h))
 rw[hA]at I K;rw[hC]at M N;have E:(((x.drop 4).take p)++(A++(C++x.drop (p+4+8+4)))).length<1000000000:=by
  grind
 have F:((x.take (p+4))++(A++(C++x.drop (p+4+8+4)))).length<1000000000:=by
  grind
 have Y:=b1h (P:=(x.drop 4).take p) K (by omega) V E;have Z:=b1h (P:=(x.drop 4).take p++A) N (by omega) X (by rw[aA];omega);have g3:=a7S (P:=x.take (p+4)) K (by omega) V F;have g4:=a7S (P:=x.take (p+4)++A) N (by omega) X (by rw[aA];omega);have o1:oP x 4 p 0=Xy ((x.drop 4).take p) (A++(C++x.drop (p+4+8+4))):=by rw[c1I k3,I,M]
 have o2:oR x 4 p 0=Xy (x.take (p+4)) (A++(C++x.drop (p+4+8+4))):=by rw[c1J k3,I,M]
 rw[show((8:Nat):Int)=8 from rfl]at Y g3;rw[show((4:Nat):Int)=4 from rfl]at Z g4;have Jc:((x.drop 4).take p).length=p:=by grind
 have h0:(x.take (p+4)).length=p+4:=by simp_all
 have z1:(Xy ((x.drop 4).take p++A) (C++x.drop (p+4+8+4))).2.1=((p+8:Nat):Int):=by
  show(((((x.drop 4).take p++A).length:Nat)):Int)=_;simp_all
 have z2:(Xy (x.take (p+4)++A) (C++x.drop (p+4+8+4))).2.1=((p+12:Nat):Int):=by
  show((((x.take (p+4)++A).length:Nat)):Int)=_;grind
 have z3:(Xy (x.take (p+4)++A++C) (x.drop (p+4+8+4))).2.1=((p+16:Nat):Int):=by
  show((((x.take (p+4)++A++C).length:Nat)):Int)=_;grind
 have z4:(Xy (x.take (p+4)++A++C) (x.drop (p+4+8+4))).2.2.1=0:=rfl;have O:zN .i64 ((4:Int)+((p+8:Nat):Int))=((p+12:Nat):Int):=by grind[Ac]
 have B:zN .i64 (((p+12:Nat):Int)+4)=((p+16:Nat):Int):=by grind[Ac]
 have c1:A3 ((0:Int)<=((p+12:Nat):Int))=ka:=dE (B8 _);have c2:A3 (((p+12:Nat):Int)<=((x.length:Nat):Int))=ka:=by grind
 have j:short (x.take (p+12)):=by unfold short;grind
 have f:∀b∈x.take (p+12),0<=b/\b<256:=λb h=>hb b (D8 h);have D:=cR j f;have y:=Tc j f;have h2:=cP (x.take (p+12));have wu:zN .u64 ((Ma (x.take (p+12)):Nat):Int)=((Ma (x.take (p+12)):Nat):Int):=Au (by omega);rw[o1,o2];erw[Y,g3];simp only[oB,z1,z2,O,c1,c2,A6,cT,tN,D];erw[Z,g4];simp only[oB,z3,z4,bN,cF,y,wu];by_cases hsum:((Ma (x.take (p+12)):Nat):Int)=((a0a 0 C:Nat):Int);rotate_left;have o:(((Ma (x.take (p+12)):Nat):Int) != ((a0a 0 C:Nat):Int))=ka:=by simp_all
 have q:(((a0a 0 C:Nat):Int) != ((Ma (x.take (p+12)):Nat):Int))=ka:=by grind
 simp only[o,q,cT];exact⟨(0,0,0,()),[],[],0,0,0,5,rfl,rfl,λh=>by omega⟩;have o:(((Ma (x.take (p+12)):Nat):Int) != ((a0a 0 C:Nat):Int))=kc:=by simp_all
 have q:(((a0a 0 C:Nat):Int) != ((Ma (x.take (p+12)):Nat):Int))=kc:=by simp_all
 simp only[o,q,cF,Ec,QR,Ut,oB,B];by_cases hf:OD ((r:Int),(u:Int),(w:Int),());rotate_left;simp only[dF hf,B4,cT,oB];grind;simp only[dE hf,bT,cF];have g:=a2R (L:=L) (by omega) k5 ((r:Int),(u:Int),(w:Int),()) S ((a0a 0 A:Nat):Int) ((p+16:Nat):Int) a0g L [] rfl;simp only[A7,nZ,List.sum_nil]at g;erw[g];cases hall:L.all (λv=>A3 (v > 0))with
 |false=>
  simp only[cF,B4,cT,oB];exact⟨(0,0,0,()),[],[],0,0,0,2,rfl,rfl,λh=>by omega⟩
 |true=>
 simp only[cT,bT,cF,oB,Ec];by_cases G:L.sum > 4194304;simp only[dE G,cT];grind
 ·simp only[dF G,cF];refine⟨((r:Int),(u:Int),(w:Int),()),S,L,L.sum,((a0a 0 A:Nat):Int),((p+16:Nat):Int),0,rfl,?_,λ_=>⟨hf,by omega,by omega,k4,λv hv=>?_,rfl,by omega,by omega,by omega⟩⟩;all_goals grind
def Sq(f:AQ):List Int:=((Ej f).getD ([],0)).1
def d2a(fm:AH)(st:Nat)(x:Pc):Prop:=x.1.1=(st:Int)/\x.1.2.1=((CF x.2.1:Nat):Int)/\x.1.2.2.1=fm/\Ed x.1=kd (x.2.1,0)/\Ej x.1=kd (x.2.2,0)/\(DV x.1=kd (x.2.1,ka)/\En x.1=kd (x.2.2,0))/\Kx x.2.1/\x.2.1.1=fm.2.2.1/\CF x.2.1<=4096/\1<=x.2.2.length/\x.2.2.length<=700800
def Ng(fm:AH):Nat->List Pc->Prop|_,[]=>True|st,x::xs=>d2a fm st x/\Ng fm (st+CF x.2.1) xs
theorem WG{fm:AH}:∀{g:List Pc}{st:Nat},Ng fm st g->(CG g).length<=700800*g.length|[],_,_=>by simp[CG]|x::g,st,h=>by have:=WG h.2;have:=h.1.2.2.2.2.2.2.2.2.2.2;simp only[CG,B7,lN,lC]at *;omega
theorem Zg{fm:AH}:∀{f:List Pc}{st:Nat},Ng fm st f->∀n∈a4U f,n<1048704|[],_,_,n,g=>by simp[a4U]at g|x::f,st,h,n,g=>by have k:=h.1.2.2.2.2.2.2.2.2;simp only[a4U,B7,mA,mC,G9,or_false]at g;rcases g with(rfl|rfl)|g;omega;omega;exact Zg h.2 n g
theorem a0j{fm:AH}:∀{g:List Pc}{st:Nat},Ng fm st g->g.length<=Jc g/\Jc g<=4096*g.length|[],_,_=>by simp[Jc]|x::g,st,h=>by have f:=h.1.2.2.2.2.2.2.1.2.2.2.2.1;have k:=h.1.2.2.2.2.2.2.2.2.1;have:=a0j h.2;simp only[Jc,C8,G7,lC]at *;omega
theorem Nd{fm:AH}(k:OD fm){f:List Pc}(h:Ng fm 0 f)(j:f.length<=256):∀n∈RT fm f,n<1048704:=λn g=>by simp only[RT,mA,mC,G9,or_false]at g;obtain⟨a,b,c,d,e,i⟩:=k;rcases g with(rfl|rfl|rfl|rfl)|g;omega;omega;omega;omega;exact Zg h n g
theorem a0k{fm:AH}(f:OD fm){g:List Pc}(h:Ng fm 0 g)(a:g.length<=256):(Kn fm g).length<=6000:=by have b:=PJ (RT fm g) λn k=>C2 (Nd f h a n k) (by simp);grind[RT,cQ,Kn,b3s,WD]
theorem a2T{fm:AH}{all:List Pc}(g:all.length<=256){t:a4M}(v:t.1=fm)(c:t.2.2.2.1=DZ 0 0 all):∀(zO h:List Pc),h++zO=all->Ng fm (Jc h) zO->(CG h).length<=700800*h.length->Jc h<=4096*h.length->Al ME (((Jc h:Nat):Int),(((CG h).length:Nat):Int),((Ga fm h:Nat):Int),all.map (·.1),((all.map (·.1)).length:Int),(h.length:Int),h.map (·.2.2),h.map (·.2.1),t,()) =kd (.inl (((Jc all:Nat):Int),((Ga fm all:Nat):Int),all.map (·.2.2),all.map (·.2.1),t,()))|[],h,a,_,_,_=>by(obtain rfl:h=all:=by simp_all);simp_all[Ae,ME]|x::zO,h,a,u,hb,I=>by(obtain⟨⟨E,j,F,l,m,G,o,p,H,d,e⟩,hr2⟩:=u;have k:h.length<(all.map (·.1)).length:=by grind);(have b:all.length=h.length+(zO.length+1):=by grind);(have r:Ax (all.map (·.1)) (h.length:Int)=kd x.1:=by grind[Nc]);(have f:Ax t.2.2.2.1 (h.length:Int)=kd (((Jc h:Nat):Int),(((CG h).length:Nat):Int),()):=by have:=Nc (DZ 0 0 h) (((Jc h:Nat):Int),(((CG h).length:Nat):Int),()) (DZ (Jc h+CF x.2.1) ((CG h).length+x.2.2.length) zO);rw[QY]at this;rw[c,<-a,a0f];simp_all[DZ]);(have q:Xm (.pair (.int .i64) (.pair (.int .i64) (.pair (.int .i64) .unit))) x.1.2.2.1 t.1=ka:=by simp_all[rF]);(have y:=a2O o (w:=fm.2.2.1) p (GS h);have A:(x.1.1 != ((Jc h:Nat):Int))=kc:=by simp_all);(have B:∀i:Int,(i != i)=kc:=λi=>by simp);(have z:((0:Int) != 0)=kc:=rfl;have C:zN .i64 (((Jc h:Nat):Int)+((CF x.2.1:Nat):Int))=((Jc (h++[x]):Nat):Int):=by grind[Xk,Ac]);(have D:zN .i64 ((((CG h).length:Nat):Int)+((x.2.2.length:Nat):Int))=(((CG (h++[x])).length:Nat):Int):=by grind[WB,Ac]);rw[Af (s':=(((Jc (h++[x]):Nat):Int),(((CG (h++[x])).length:Nat):Int),((Ga fm (h++[x]):Nat):Int),all.map (·.1),((all.map (·.1)).length:Int),(((h++[x]).length:Nat):Int),(h++[x]).map (·.2.2),(h++[x]).map (·.2.1),t,())) (by simp only[ME,Cn k,cT,r,oB];rw[q];simp only[bT,cF,oB,A,f,B,l,z,m];erw[y];simp only[oB,bT,cF,D5,Ay (show h.length+1<2147483648 by omega),cT,j,C,D,Aa (show h.length<1000000 by omega)];simp[Ga,a9T])];exact a2T g v c zO (h++[x]) (by simp_all) (by simp_all[Xk]) (by grind[WB]) (by grind[Xk])
theorem b1j{fm:AH}(d:OD fm){g:List Pc}(c:Ng fm 0 g)(f:g.length<=256):Oy (Sp fm g)=kd (g.map (·.2.2),g.map (·.2.1),ka):=by
 have h:=a2T f (t:=Sp fm g) rfl rfl g [] rfl c (by simp[CG]) (by simp[Jc]);have b:GL (Sp fm g).1=kd ka:=by simp_all[QR,Sp]
 have k:A3 ((C4 (Sp fm g).2.2.2.2.1:Int) > (4096:Int))=kc:=by simp[Sp];omega
 have a:((C4 (Sp fm g).2.2.2.1:Int) != (C4 (Sp fm g).2.2.2.2.1:Int))=kc:=by simp[Sp,QY]
 unfold Oy;simp[b,k,a];erw[h];simp_all[Sp]
theorem a0l{fm:AH}{all:List Pc}(g:all.length<=256)(t:a4M)(A:List Nat)(i:A.length=4):∀(zO h:List Pc)(st:Nat),h++zO=all->Ng fm st zO->Al MG (all.map (·.1),((all.map (·.1)).length:Int),(h.length:Int),all.map (·.2.2),RQ (A++a4U h),t,())=kd (all.map (·.2.2),RQ (A++a4U all),t,())|[],h,st,l,_=>by(obtain rfl:h=all:=by simp_all);simp_all[Ae,MG]|x::zO,h,st,l,p=>by(obtain⟨⟨u,e,v,w,y,z,B,C,D,c,d⟩,hr2⟩:=p;have a:h.length<(all.map (·.1)).length:=by grind);(have f:h.length<(all.map (·.2.2)).length:=by simp_all);(have m:Ax (all.map (·.1)) (h.length:Int)=kd x.1:=by grind[Nc]);(have o:(all.map (·.2.2)).getD h.length []=x.2.2:=by grind);(have b:A3 ((0:Int)<=(h.length:Int))=ka:=dE (B8 _);have j:h.length<all.length:=by simp_all);(have k:(RQ (A++a4U h)).length+2<2147483648:=by grind[RQ,cQ]);have q:zN .u64 ((x.2.2.length:Nat):Int)=((x.2.2.length:Nat):Int):=Au (by omega);have r:zN .u64 ((CF x.2.1:Nat):Int)=((CF x.2.1:Nat):Int):=Au (by omega);rw[Af (s':=(all.map (·.1),((all.map (·.1)).length:Int),(((h++[x]).length:Nat):Int),all.map (·.2.2),RQ (A++a4U (h++[x])),t,())) (by simp only[MG,Cn a,Cn f,b,A6,cT,m,oB,Ay k,tN,o,q,e,r,Aa (show h.length<1000000 by omega)];simp[b6H,RQ])];exact a0l g t A i zO (h++[x]) _ (by simp_all) hr2
theorem jE{fm:AH}:∀{f:List Pc}{st:Nat},Ng fm st f->∀p∈f.map (·.2.2),p.length<=700800|[],_,_,p,g=>by simp at g|x::f,st,h,p,g=>by rcases mC.1 g with rfl|g;exact h.1.2.2.2.2.2.2.2.2.2.2;exact jE h.2 p g
theorem cW{fm:AH}(f:OD fm){g:List Pc}(h:Ng fm 0 g)(a:g.length<=256):∀b∈Kn fm g,0<=b/\b<256:=λb hb=>by unfold Kn at hb;rcases mA.1 hb with hb|hb;simp[b3s]at hb;omega;rcases mA.1 hb with hb|hb;exact a7L _ (λn k=>C2 (Nd f h a n k) (by simp)) b hb;exact a9V _ _ b hb
theorem a9Y{fm:AH}(a:OD fm){h:List Pc}(f:Ng fm 0 h)(g:h.length<=256):RB (Sp fm h)=kd (Zb fm h,0):=by
 obtain⟨x,y,z,A,B,C⟩:=id a;have d:=a0l g (Sp fm h) [fm.1.toNat,fm.2.1.toNat,fm.2.2.1.toNat,h.length] rfl h [] 0 rfl f;have o:=cI (ns:=RT fm h) (λn m=>C2 (Nd a f g n m) (by simp)) (by grind[RT,cQ]);have F:=PJ (RT fm h) λn j=>C2 (Nd a f g n j) (by simp);have E:(RT fm h).length<=516:=by grind[RT,cQ]
 have D:=a0k a f g;have i:=cO (n:=Ga fm h) (k:=8) (by have:=rX (Cf fm.2.2.1 (GS h));grind[FN,Ga]) (by omega);have e:=cO (n:=Ma (Kn fm h)) (k:=4) (by grind[cP]) (by omega);have p:=cR (l:=Kn fm h) (by unfold short;omega) (cW a f g);have hb:=a2Q (all:=h.map (·.2.2)) (by simp_all) (jE f) (h.map (·.2.2)) [] (Kn fm h++WC 4 (Ma (Kn fm h))) rfl (by grind[WD]);have q:zN .u64 fm.1=((fm.1.toNat:Nat):Int):=by grind[Au]
 have r:zN .u64 fm.2.1=((fm.2.1.toNat:Nat):Int):=by grind[Au]
 have u:zN .u64 fm.2.2.1=((fm.2.2.1.toNat:Nat):Int):=by grind[Au]
 have v:zN .u64 ((C4 (h.map (·.1)):Nat):Int)=((h.length:Nat):Int):=by grind[Au]
 have w:zN .u64 ((Ma (Kn fm h):Nat):Int)=((Ma (Kn fm h):Nat):Int):=Au (by grind[cP]);unfold RB;rw[b1j a f g];simp only[oB,bT,cF,Sp,q,r,u,v];erw[d];simp only[oB];erw[o];simp only[oB,Ay (show 4+((RT fm h).flatMap Be).length<2147483648 by omega),cT];erw[i];have c:L3 (L3 ([(75:Int),(78:Int),(83:Int),(68:Int)]:List Int) ((RT fm h).flatMap Be)) (WC 8 (Ga fm h))=Kn fm h:=aA ..;have b:(L3 ([(75:Int),(78:Int),(83:Int),(68:Int)]:List Int) ((RT fm h).flatMap Be)).length+(WC 8 (Ga fm h)).length<2147483648:=by have:=cG C4 c;grind[B3]
 simp only[oB,Ay b,cT,c,p,w];erw[e];simp only[oB,Ay (show(Kn fm h).length+(WC 4 (Ma (Kn fm h))).length<2147483648 by rw[WD];omega),cT];simp_all[Zb,CG,List.flatMap_def]
theorem a2U{fm:AH}:∀{f:List Pc}{st:Nat},Ng fm st f->∀b∈f.map (·.2.1),Kx b|[],_,_,p,g=>by simp at g|x::f,st,h,p,g=>by rcases mC.1 g with rfl|g;exact h.1.2.2.2.2.2.2.1;exact a2U h.2 p g
theorem a7U{fm:AH}(a:OD fm){g:List Pc}(k:Ng fm 0 g)(f:g.length<=256):DK (Sp fm g)=kd (GS g,0):=by have h:=cS (all:=g.map (·.2.1)) (by simp_all) (g.map (·.2.1)) [] [] rfl (a2U k) (by grind);simp_all[DK,b1j,GS,K7]
theorem RU{f:AQ}(g:∀s∈f.2.2.2.2.1,sM s){b:CN}(h:DY f=kd b):Ed f=kd (b,0)/\Ej f=kd (Sq f,0)/\(DV f=kd (b,ka)/\En f=kd (Sq f,0))/\1<=(Sq f).length/\(Sq f).length<=700800:=by
 have c:=a7k g;have d:=cL g;rw[h]at c d;obtain⟨k,z,q⟩:=Ff h;have j:f.2.2.2.2.1.length<=8:=by have:=k.1.2.2.2.1;omega
 have l:Fi f=kd ka:=by rw[rE g,h];rfl
 obtain⟨r,w,x,m,y,o⟩:=Py l k j (λs i=>⟨g s i,q s i⟩);obtain⟨p,e,a,A⟩:=a1y g;have v:Sq f=Kw f (Az r):=by simp_all[Sq]
 rw[o]at a;simp at a;obtain⟨rfl,rfl⟩:=a;have u:=Wq k m;refine⟨c,by simp_all,⟨d,by simp_all⟩,?_,?_⟩;all_goals grind[Kw]
def a1z(fm:AH):Nat->List AQ->Option (List Pc)|_,[]=>kd []|st,f::fs=>if f.2.2.1=fm/\f.1=(st:Int)then(DY f).bind λb=>(a1z fm (st+CF b) fs).bind λxs=>kd ((f,b,Sq f)::xs)else ke
theorem a0m{fm:AH}:∀{fs:List AQ}{st:Nat}{a:List Pc},(∀f∈fs,∀s∈f.2.2.2.2.1,sM s)->a1z fm st fs=kd a->Ng fm st a/\a.map (·.1)=fs|[],st,a,_,h=>(by cases h;exact⟨trivial,rfl⟩)|f::fs,st,a,c,h=>by unfold a1z at h;split at h;rename_i d;obtain⟨b,hb,h⟩:=A8.1 h;obtain⟨v,i,h⟩:=A8.1 h;cases h;have k:=c f (by simp);obtain⟨j,l,m,o,p⟩:=RU k hb;obtain⟨b1,b2,e⟩:=Ze k hb;obtain⟨q,u⟩:=a0m (λg r=>c g (by grind)) i;exact⟨⟨⟨d.2,e,d.1,j,l,m,b1,by grind,b1.2.2.2.2.2.1,o,p⟩,q⟩,by grind⟩;grind
theorem Eg(x y:AH):Xm (.pair (.int .i64) (.pair (.int .i64) (.pair (.int .i64) .unit))) x y=A3 (x=y):=by obtain⟨a,b,c,u⟩:=x;obtain⟨h,g,f,k⟩:=y;show((a==h)&&((b==g)&&((c==f)&&ka)))=_;grind
abbrev b6Q:Type:=Int×(Int×Unit)
theorem a4P(x y:b6Q):Xm (.pair (.int .i64) (.pair (.int .i64) .unit)) x y=A3 (x=y):=by obtain⟨a,b,u⟩:=x;obtain⟨h,g,f⟩:=y;show((a==h)&&((b==g)&&ka))=_;grind
def zT:a4M:=((0,0,0,()),0,0,[],[],())
theorem a2V{fm:AH}:∀{ys:List Pc}{st:Nat}{x:Pc},Ng fm st (ys++[x])->d2a fm (st+Jc ys) x|[],st,x,h=>by simpa[Jc]using h.1|y::ys,st,x,h=>by have:=a2V h.2;simpa[Jc,F2]using this
theorem b3v{fm:AH}{g:List Pc}(k:Ng fm 0 g)(c:g.length<=200):WY (g.map (·.1))=kd (Jc g:Int):=by
 have f:=a0j k;rcases List.eq_nil_or_concat g with rfl|⟨h,x,rfl⟩;rfl;rw[List.concat_eq_append]at k c f|-;have a:=a2V k;have d:((((h++[x]).map (·.1)).length:Int)==0)=kc:=by grind
 have e:((h++[x]).map (·.1)).length=h.length+1:=by simp
 have b:Ax ((h++[x]).map (·.1)) (h.length:Int)=kd x.1:=by grind[Nc]
 unfold WY;rw[d,cF,show zN .i64 ((((h++[x]).map (·.1)).length:Int)-1)=(h.length:Int)from by grind[Ac],b];simp only[oB];rw[a.1,a.2.1,Xk]at *;grind[Ac]
theorem WH{fm:AH}(e p0:Int){fs:List AQ}(j:fs.length<=200):∀(zO:List Pc)(h:List AQ)(st off:Nat)(S:List b6Q),h++zO.map (·.1)=fs->Ng fm st zO->S.length=h.length->st<=4096*h.length->off<=700800*h.length->Al MR (fs,(st:Int),(off:Int),(h.length:Int),zT,(fm,e,p0,S,fs,()),fm,())=kd (.inl (fs,zT,(fm,e,p0,S++DZ st off zO,fs,()),fm,()))|[],h,st,off,S,a,f,b,hst,hoff=>by simp_all[Ae,MR,DZ]|x::zO,h,st,off,S,a,f,b,hst,hoff=>by(have g:h.length<fs.length:=by grind);(have d:Ax fs (h.length:Int)=kd x.1:=by grind[Nc]);(obtain⟨k1,k2,k3,-,-,⟨-,i⟩,k8,-,-,-,k11⟩:=f.1;have c:=k8.2.2.2.2.2.1;have k:fs.length=h.length+(zO.length+1):=by grind);(have l:zN .i64 ((st:Int)+((CF x.2.1:Nat):Int))=((st+CF x.2.1:Nat):Int):=by grind[Ac]);(have m:zN .i64 ((off:Int)+((x.2.2.length:Nat):Int))=((off+x.2.2.length:Nat):Int):=by grind[Ac]);rw[Af (s':=(fs,((st+CF x.2.1:Nat):Int),((off+x.2.2.length:Nat):Int),(((h++[x.1]).length:Nat):Int),zT,(fm,e,p0,S++[((st:Int),(off:Int),())],fs,()),fm,())) (by simp only[MR,Cn g,cT,d,oB,i,bN,cF,Eg,dE k3,bT,k1,Ay (show S.length+1<2147483648 by omega),k2,l,m,Aa (show h.length<1000000 by omega)];simp)];rw[WH (fm:=fm) e p0 j zO (h++[x.1]) (st+CF x.2.1) (off+x.2.2.length) (S++[((st:Int),(off:Int),())]) (by simp_all) f.2 (by grind) (by grind) (by grind)];simp[DZ]
theorem fP{fm:AH}:∀{g:List Pc}{st:Nat},Ng fm st g->(GS g).length<=32768*g.length|[],_,_=>by simp[GS]|x::g,st,h=>by(have f:=fP h.2;have hb:=h.1.2.2.2.2.2.2.1;have k:(UW x.2.1).length<=4096*8:=by rw[Uv];exact B9 hb.2.2.2.2.2.1 hb.2.2.2.1);simp only[GS,B7,lN,lC]at *;omega
theorem a2W{fm:AH}:∀{g:List Pc}{st:Nat},Ng fm st g->(GS g).all (λx=>Eo x fm.2.2.1)=true|[],_,_=>rfl|x::g,st,h=>by have k:=a2W h.2;have f:=b1f h.1.2.2.2.2.2.2.1;rw[h.1.2.2.2.2.2.2.2.1]at f;show((UW x.2.1++GS g).all _)=ka;rw[List.all_append,k,f];rfl
theorem WI{fm:AH}{fs:List AQ}(c:fs.length<=200):∀(zO:List Pc)(h:List AQ)(st:Nat)(out:LI),h++zO.map (·.1)=fs->Ng fm st zO->out.length<=32768*h.length->Al MQ (fs,(h.length:Int),out,())=kd (.inl (out++GS zO,()))|[],h,st,out,k,_,_=>by simp_all[Ae,MQ,GS]|x::zO,h,st,out,k,f,e=>by(have g:h.length<fs.length:=by grind);(have a:Ax fs (h.length:Int)=kd x.1:=by grind[Nc]);(have hb:=f.1.2.2.2.2.2.2.1;have b:=f.1.2.2.2.2.2.1.1;have d:(UW x.2.1).length<=4096*8:=by rw[Uv];exact B9 hb.2.2.2.2.2.1 hb.2.2.2.1);rw[Af (s':=(fs,(((h++[x.1]).length:Nat):Int),out++UW x.2.1,())) (by simp only[MQ,Cn g,cT,a,oB,b,bT,cF,a4O hb,Ay (show out.length+(UW x.2.1).length<2147483648 by omega),Aa (show h.length<1000000 by omega)];simp)];rw[WI c zO (h++[x.1]) _ (out++UW x.2.1) (by simp_all) f.2 (by grind)];simp[GS]
theorem cX{fm:AH}{g:List Pc}{st:Nat}(h:Ng fm st g)(f:g.length<=200):OA (g.map (·.1))=kd (GS g,ka):=by have:=WI (fs:=g.map (·.1)) (by simp_all) g [] st [] rfl h (by simp);simp_all[OA]
theorem WJ{fm:AH}(k:OD fm){g:List Pc}(f:Ng fm 0 g)(a:g.length<=200):JA (fm,g.map (·.1))=kd (Sp fm g,ka):=by(have i:=fP f;have b:4<=fm.2.2.1/\fm.2.2.1<=24:=⟨k.2.2.2.2.1,k.2.2.2.2.2⟩;have e:=Za b (GS g);have c:A3 (((C4 (g.map (·.1)):Nat):Int) > (4096:Int))=kc:=by grind);(have h:=WH (fm:=fm) ((Jc g:Nat):Int) 0 (fs:=g.map (·.1)) (by simp_all) g [] 0 0 [] rfl f rfl (by simp) (by simp);simp at h;have d:NY (GS g,fm.2.2.1)=kd ((Ga fm g:Nat):Int):=by unfold NY;simp only[a7C b (show(GS g).length<=30000000 by omega) (a2W f),oB,a4N (show(Cf fm.2.2.1 (GS g)).length<1000000000 by omega) (Uu _ _)];rfl);unfold JA;simp only[Ut,k,decide_true,oB,bT,cF,c,b3v f a];erw[h];simp only[oB,cX f a,d];rfl
def b6R(f:AQ):Prop:=(∀s∈f.2.2.2.2.1,sM s)/\f.2.2.2.2.1.length<=10/\f.2.2.2.1.length<=20
theorem a2X{fm:AH}(o:OD fm){h:List Pc}(q:Ng fm 0 h)(p:h.length<=200)(c:∀f∈h.map (·.1),b6R f):JD (Sp fm h)=kd ka:=by
 have d:(DZ 0 0 h).length<=200:=by simp_all[QY]
 have r:=Bo (f:=HV) (λi=>((i:Int),Sp fm h,Sp fm h,())) (DZ 0 0 h).length (b:=C6 (Sp fm h,Sp fm h,())) (λi k=>by
   have g:i<(Sp fm h).2.2.2.1.length:=k;simp only[HV,Cn g,cT,Ad g,oB,a4P,decide_true,bT,cF,Aa (show i<1000000 by omega)])
  (by
   have e:(DZ 0 0 h).length=(Sp fm h).2.2.2.1.length:=rfl;simp_all[HV])
 have u:=Bo (f:=HW) (λi=>((i:Int),Sp fm h,Sp fm h,())) (h.map (·.1)).length (b:=C6 ()) (λi k=>by
   have g:i<(Sp fm h).2.2.2.2.1.length:=k;obtain⟨j,v,w⟩:=c _ (B6 k);have a:DM ((Sp fm h).2.2.2.2.1[i],(Sp fm h).2.2.2.2.1[i])=kd ka:=rH (f:=(h.map (·.1))[i]) j (by omega) (by omega)
   have:(h.map (·.1)).length=h.length:=D5 ..
   simp only[HW,Cn g,cT,Ad g,oB,a,bT,cF,Aa (show i<1000000 by omega)])
  (by
   have e:(h.map (·.1)).length=(Sp fm h).2.2.2.2.1.length:=rfl;simp_all[HW])
 unfold JD OS;have l:(Sp fm h).1=fm:=rfl;have m:(Sp fm h).2.2.2.2.1=h.map (·.1):=rfl;simp_all[WJ,Eg]
theorem Yd{fm:AH}{all:List Pc}(o:all.length<=200){t:a4M}(l:t.2.2.2.2.1=all.map (·.1)):∀(zO g:List Pc)(st:Nat)(out h:LI),g++zO=all->Ng fm st zO->out.length<=100+18*g.length->h.length<=700800*g.length->Al IZ ((g.length:Int),out,h,t,())=kd (out++(a4U zO).flatMap Be,h++CG zO,t,())|[],g,st,out,h,d,_,_,_=>by simp_all[Ae,IZ,a4U,CG]|x::zO,g,st,out,h,d,b,q,hb=>by(have f:g.length<t.2.2.2.2.1.length:=by grind);(have a:all.length=g.length+(zO.length+1):=by grind);(have i:Ax t.2.2.2.2.1 (g.length:Int)=kd x.1:=by grind[Nc]);(obtain⟨h1,h2,h3,h4,h5,⟨p,c⟩,h8,h9,h10,h11,h12⟩:=b.1;have e:([zN .u64 ((x.2.2.length:Nat):Int),zN .u64 x.1.2.1]:List Int)=RQ [x.2.2.length,CF x.2.1]:=by rw[h2,Au (by omega),Au (by omega)];rfl);have k:=Ip (ns:=[x.2.2.length,CF x.2.1]) (λn j=>by grind) (by simp);have m:=PJ [x.2.2.length,CF x.2.1] (λn j=>by grind);simp only[lC,A7]at m;rw[Af (s':=((((g++[x]).length:Nat):Int),out++[x.2.2.length,CF x.2.1].flatMap Be,h++x.2.2,t,())) (by simp only[IZ,Cn f,cT,i,oB,c,e,k,Ay (show out.length+([x.2.2.length,CF x.2.1].flatMap Be).length<2147483648 by omega),Ay (show h.length+x.2.2.length<2147483648 by omega),Aa (show g.length<1000000 by omega)];simp)];rw[Yd o l zO (g++[x]) _ _ _ (by simp_all) b.2 (by grind) (by grind)];simp[a4U,CG]
theorem b3w{fm:AH}(b:OD fm){h:List Pc}(a:Ng fm 0 h)(c:h.length<=200)(p:∀f∈h.map (·.1),b6R f):JE (Sp fm h)=kd (Zb fm h,0):=by(have v:=Nd b a (by omega);obtain⟨x,y,z,A,B,C⟩:=id b;have o:([zN .u64 fm.1,zN .u64 fm.2.1,zN .u64 fm.2.2.1,zN .u64 ((C4 (h.map (·.1)):Nat):Int)]:List Int)=RQ [fm.1.toNat,fm.2.1.toNat,fm.2.2.1.toNat,h.length]:=by grind[Au,RQ]);(have u:=Ip (ns:=[fm.1.toNat,fm.2.1.toNat,fm.2.2.1.toNat,h.length]) (λn c=>by grind) (by simp);have w:=PJ [fm.1.toNat,fm.2.1.toNat,fm.2.2.1.toNat,h.length] (λn c=>by grind);simp only[lC,A7]at w;have e:=Yd (fm:=fm) (all:=h) (by omega) (t:=Sp fm h) rfl h [] 0 (b3s++[fm.1.toNat,fm.2.1.toNat,fm.2.2.1.toNat,h.length].flatMap Be) [] rfl a (by grind[b3s]) (by simp);simp only[A7,nZ,C1]at e;have d:=PJ (a4U h) (λn c=>C2 (Zg a n c) (by simp));rw[cQ]at d;have g:(b3s++[fm.1.toNat,fm.2.1.toNat,fm.2.2.1.toNat,h.length].flatMap Be++(a4U h).flatMap Be)++WC 8 (Ga fm h)=Kn fm h:=by simp_all[Kn,RT]);have r:=a0k b a (by omega);have hb:=cW b a (by omega);have q:=WG a;unfold JE;rw[a2X b a c p];have j:(Sp fm h).1=fm:=rfl;have l:(Sp fm h).2.2.2.2.1=h.map (·.1):=rfl;have m:(Sp fm h).2.2.1=((Ga fm h:Nat):Int):=rfl;rw[j,l];simp only[oB,bT,cF,o,u,Ay (show 4+([fm.1.toNat,fm.2.1.toNat,fm.2.2.1.toNat,h.length].flatMap Be).length<2147483648 by omega),cT];erw[e];simp only[oB];rw[m,show Jt (((Ga fm h:Nat):Int),8)=kd (WC 8 (Ga fm h))from a0h (k:=8) (by omega)];simp only[oB,B3,g];rw[Ay (by grind),cT,Tc (show short (Kn fm h)by unfold short;omega) hb];simp only[oB];have i:=cP (Kn fm h);rw[Au (n:=((Ma (Kn fm h):Nat):Int)) (by omega),show Jt (((Ma (Kn fm h):Nat):Int),4)=kd (WC 4 (Ma (Kn fm h)))from a0h (k:=4) (by omega)];simp only[oB];rw[Ay (by rw[WD];omega),cT,Ay (by grind[WD]),cT];simp_all[Zb]
theorem a1A{fm:AH}(c:OD fm){h:List Pc}(k:Ng fm 0 h)(g:h.length<=200)(b:∀f∈h.map (·.1),b6R f):DX (Sp fm h)=kd (GS h,0):=by unfold DX;rw[a2X c k g b];have a:(Sp fm h).2.2.2.2.1=h.map (·.1):=rfl;rw[a];simp only[oB,bT,cF,cX k g]
theorem a7V{f:AQ}{b:CN}(h:DY f=kd b):(b.2.1.length:Int)=f.2.2.1.2.1:=by obtain⟨a,k,-⟩:=Ff h;unfold DY at h;split at h;obtain⟨j,e,h⟩:=A8.1 h;split at h;rename_i g;obtain⟨d,c,h⟩:=A8.1 h;split at h;cases h;obtain⟨-,i⟩:=fM f.2.2.2.1 (lY g.1) rfl g.2.2.2.2 c;grind[a7j];simp_all;simp_all;simp_all
structure zG (fm:AH) (st:Int) (len size:Int) (f:AQ) (b:CN):Prop where
 small:∀s∈f.2.2.2.2.1,sM s
 lifts:f.2.2.2.1.length<=16
 subs:f.2.2.2.2.1.length<=8
 block:DY f=kd b
 fmt:f.2.2.1=fm
 start:f.1=st
 len:f.2.1=len
 put:((Sq f).length:Int)=size
 five:5<=size
theorem a9Z{x:LI}(hb:Iq x)(hl:x.length<100000){fm:AH}{S L:LI}{tot pr bg:Int}{i:Nat}(hi:i<S.length)(F:L.length=S.length)(E:∀v∈S,0<=v/\v<=1048704)(g:Nat)(ha:g<10000000000)(st:Int):
  ∃(f:AQ)(b:CN)(e:Int),JY (x,Ec fm S L tot pr bg,(i:Int),(g:Int),st)=kd (f,b,e)/\LB (x,Ec fm S L pr bg tot,(i:Int),(g:Int),st)=kd (f,e)/\
   (e=0->zG fm st (L.getD i 0) (S.getD i 0) f b/\(g:Int)+S.getD i 0<=(x.length:Int)):=by
 have y:=OF hi;have c:=OF (x:=L) (i:=i) (by omega);have o:S.getD i 0=S[i]:=by simp_all
 have j:=E _ (B6 hi);rw[<-o]at j;generalize hsz:S.getD i 0=sz at y j;generalize hln:L.getD i 0=ln at c;have R:zN .i64 ((x.length:Int)-(g:Int))=(x.length:Int)-(g:Int):=Ac (by omega);have T:zN .i64 ((g:Int)+sz)=(g:Int)+sz:=Ac (by omega);unfold JY LB Ec;simp only[y,c,oB,R,T];by_cases hsh:(x.length:Int)-(g:Int)<sz;simp only[dE hsh,cT];grind;have A:A3 ((0:Int)<=(g:Int)+sz)=ka:=dE (by omega);have B:A3 ((g:Int)+sz<=(x.length:Int))=ka:=dE (by omega);have C:A3 ((0:Int)<=(g:Int))=ka:=dE (by omega);have D:A3 ((g:Int)<=((D0 ((g:Int)+sz):Nat):Int))=ka:=dE (by omega);simp only[dF hsh,cF,A,B,C,D,A6,cT];obtain⟨X,w⟩:∃X,D9 (D0 (g:Int)) (D6 (D0 ((g:Int)+sz)) x)=X:=⟨_,rfl⟩;have G:(X.length:Int)=sz:=by grind
 have p:Iq X:=λb h=>by rw[<-w]at h;exact hb b (D8 (D7 h))
 rw[w];obtain⟨f,n,e,M,N,m,O,P,Q,-⟩:=b3q p (by omega);simp only[M,N,oB];by_cases he:e=0;rotate_left;have q:(e != (0:Int))=ka:=by simp_all
 simp only[q,cT];grind;subst he;obtain⟨k,r,h5,hn,zs,Z,z2,I⟩:=Q rfl;obtain⟨b,k⟩:=Option.isSome_iff_exists.1 k;obtain⟨K,u,-,-,-⟩:=RU m k;obtain⟨ys,U,V,-,-,Y⟩:=Py (by rw[rE m,k];rfl) r (by omega) (λs j=>⟨m s j,(Ff k).2.2 s j⟩);have z:Sq f=Kw f (Az zs):=by
  rw[Y]at u;simp only[sj,pJ]at u;rw[<-u.1,iV (U.trans Z.symm) V z2]
 simp only[bN,cF];by_cases hlt:n<sz;have a:(n != sz)=ka:=by grind
 simp only[dE hlt,a,cT,oB];grind;have H:n=sz:=by omega
 have a:(n != sz)=kc:=by grind
 simp only[dF hlt,a,cF,Eg];by_cases hfm:f.2.2.1=fm;rotate_left;simp only[dF hfm,B4,cT,oB];grind;simp only[dE hfm,bT,cF];by_cases hst:f.1=st;rotate_left
 have:(f.1 != st)=ka:=by grind
 simp only[this,cT,oB];grind;have l:(f.1 != st)=kc:=by grind
 simp only[l,cF,oB];by_cases hle:f.2.1=ln;rotate_left
 have:(f.2.1 != ln)=ka:=by grind
 simp only[this,cT];grind;have d:(f.2.1 != ln)=kc:=by grind
 simp only[d,cF,K,oB,bN];exact⟨f,b,0,rfl,rfl,λ_=>⟨⟨m,O,P,k,hfm,hst,hle,by grind,by omega⟩,by omega⟩⟩
theorem a0n{x:LI}(hb:Iq x)(C:x.length<100000){fm:AH}{S L:LI}{tot pr:Int}{bg:Nat}(c:L.length=S.length)(G:S.length<=4096)(A:∀v∈S,0<=v/\v<=1048704)(H:∀v∈L,1<=v/\v<=4096):
  ∀(m i st off:Nat)(d:LI)(k:List b6Q)(h:List AQ),i+m=S.length->k.length=i->h.length=i->st<=4096*i->bg+off<1000000->
  (∃e:Int,e≠0/\Al EN (x,((bg+off:Nat):Int),S,(S.length:Int),(i:Int),zT,Ec fm S L tot pr bg,(fm,(st:Int),((mB (Cf fm.2.2.1 d):Nat):Int),k,h,()),())=kd (.inr (e,zT,()))/\
   Al Dh (x,((bg+off:Nat):Int),(st:Int),(i:Int),h,zT,Ec fm S L pr bg tot,())=kd (.inr (e,zT,())))\/
  ∃ys:List Pc,a1z fm st (ys.map (·.1))=kd ys/\(∀y∈ys,(∀s∈y.1.2.2.2.2.1,sM s)/\y.1.2.2.2.1.length<=16/\y.1.2.2.2.2.1.length<=8)/\(bg:Int)+(off:Int)+5*(ys.length:Int)<=max (x.length:Int) ((bg:Int)+(off:Int))/\
   Al EN (x,((bg+off:Nat):Int),S,(S.length:Int),(i:Int),zT,Ec fm S L tot pr bg,(fm,(st:Int),((mB (Cf fm.2.2.1 d):Nat):Int),k,h,()),()) =
    kd (.inl (x,((bg+off+(CG ys).length:Nat):Int),zT,Ec fm S L tot pr bg,(fm,((st+Jc ys:Nat):Int),((mB (Cf fm.2.2.1 (d++GS ys)):Nat):Int),k++DZ st off ys,h++ys.map (·.1),()),()))/\
   Al Dh (x,((bg+off:Nat):Int),(st:Int),(i:Int),h,zT,Ec fm S L pr bg tot,())=kd (.inl (x,((bg+off+(CG ys).length:Nat):Int),h++ys.map (·.1),zT,Ec fm S L pr bg tot,()))
 |0,i,st,off,d,k,h,K,hsk,hfs,hst,hbo=>by
  have a:S.length=i:=by omega
  refine .inr ⟨[],rfl,λy z=>(by grind),by grind,Ae ?_,Ae ?_⟩;all_goals simp_all[Ec,EN,Jc,CG,GS,DZ,Dh]
 |m+1,i,st,off,d,k,h,K,hsk,hfs,hst,hbo=>by
  have a:i<S.length:=by omega
  obtain⟨f,b,e,p,q,F⟩:=a9Z hb C (fm:=fm) (tot:=tot) (pr:=pr) (bg:=bg) a c A (bg+off) (by omega) (st:Int);have r:=OF a;by_cases he:e=0;rotate_left;have j:(e != (0:Int))=ka:=by simp_all
  unfold Ec at p q|-;refine .inl ⟨e,he,Ae ?_,Ae ?_⟩;simp only[EN,Cn a,cT,r,oB,p,j];rfl;simp only[Dh,Cn a,cT,oB,q,j];rfl;subst he;obtain⟨g,B⟩:=F rfl;obtain⟨b1,b2,R⟩:=Ze g.small g.block;have M:=a2O b1 (w:=fm.2.2.1) (by rw[b2,g.fmt]) d;have I:=b1.2.2.2.2.2.1;have D:=g.put;have T:=g.five;have l:zN .i64 (((bg+off:Nat):Int)+S.getD i 0)=((bg+(off+(Sq f).length):Nat):Int):=by grind[Ac]
  have o:zN .i64 ((st:Int)+f.2.1)=((st+CF b:Nat):Int):=by grind[Ac]
  have u:zN .i64 (((bg+off:Nat):Int)-(bg:Int))=(off:Int):=by grind[Ac]
  have P:EN (x,((bg+off:Nat):Int),S,(S.length:Int),(i:Int),zT,Ec fm S L tot pr bg,(fm,(st:Int),((mB (Cf fm.2.2.1 d):Nat):Int),k,h,()),()) =
    kd (.inl (x,((bg+(off+(Sq f).length):Nat):Int),S,(S.length:Int),((i+1:Nat):Int),zT,Ec fm S L tot pr bg,(fm,((st+CF b:Nat):Int),((mB (Cf fm.2.2.1 (d++UW b)):Nat):Int),k++[((st:Int),(off:Int),())],h++[f],()),())):=by
   unfold Ec at p|-;simp only[EN,Cn a,cT,r,oB,p,bN,cF];erw[M];simp only[oB,Ay (show k.length+1<2147483648 by omega),Ay (show h.length+1<2147483648 by omega),cT,l,o,u,Aa (show i<1000000 by omega),B3]
  have Q:Dh (x,((bg+off:Nat):Int),(st:Int),(i:Int),h,zT,Ec fm S L pr bg tot,())=kd (.inl (x,((bg+(off+(Sq f).length):Nat):Int),((st+CF b:Nat):Int),((i+1:Nat):Int),h++[f],zT,Ec fm S L pr bg tot,())):=by
   unfold Ec at q|-;simp only[Dh,Cn a,cT,oB,q,bN,cF,Ay (show h.length+1<2147483648 by omega),r,l,o,Aa (show i<1000000 by omega),B3]
  rw[Af P,Af Q];rcases a0n hb C (fm:=fm) (tot:=tot) (pr:=pr) (bg:=bg) c G A H m (i+1) (st+CF b) (off+(Sq f).length) (d++UW b) (k++[((st:Int),(off:Int),())]) (h++[f]) (by omega) (by simp_all) (by simp_all) (by omega) (by omega)with⟨e,U,E,N⟩|⟨ys,E,N,V,O,X⟩;grind;refine .inr ⟨(f,b,Sq f)::ys,?_,?_,?_,?_,?_⟩;rw[C8,a1z,if_pos ⟨g.fmt,g.start⟩,g.block,oB,E,oB];intro y z;rcases mC.1 z with rfl|z;exact⟨g.small,g.lifts,g.subs⟩;grind;grind;rw[O];simp only[CG,Jc,GS,DZ,B7,C8,G7,lN,aA,List.singleton_append,F2];grind[CG]
theorem b0a{x:LI}(hb:Iq x)(H:x.length<=900):∃(t:a4M)(e:Int),Db x=kd (t,e)/\CJ x=kd (t,e)/\
   (e=0->∃ys:List Pc,OD t.1/\t=Sp t.1 ys/\a1z t.1 0 (ys.map (·.1))=kd ys/\5*ys.length<=x.length/\∀y∈ys,∀s∈y.1.2.2.2.2.1,sM s):=by
 obtain⟨fm,S,L,tot,pr,bg,e,q,u,v⟩:=a7T hb (by omega);unfold Db CJ;simp only[q,u,oB];by_cases he:e=0;rotate_left;have d:(e != (0:Int))=ka:=by simp_all
 simp only[d,cT];grind;subst he;obtain⟨o,b,w,A,z,-,-,r,B⟩:=v rfl;obtain⟨k,rfl⟩:=A9 (show 0<=bg by omega);simp only[bN,cF,Ec];have h:=a0n hb (by omega) (fm:=fm) (tot:=tot) (pr:=pr) (bg:=k) b w A z S.length 0 0 0 [] [] [] (by omega) rfl rfl (by omega) (by omega);have j:(mB (Cf fm.2.2.1 []):Int)=0:=rfl;rw[j]at h;unfold Ec at h;simp only[nZ,I0,C1,C7]at h;rcases h with⟨e,E,a,m⟩|⟨ys,a,m,K,F,G⟩;erw[a,m];exact⟨zT,e,rfl,rfl,λh=>absurd h E⟩;erw[F,G];simp only[oB];by_cases hat:((k+(CG ys).length:Nat):Int)<(x.length:Int);simp only[dE hat,cT];grind;simp only[dF hat,cF];have I:(ys.map (·.1)).length<=200:=by grind
 have c:∀f∈ys.map (·.1),∀s∈f.2.2.2.2.1,sM s:=λf i=>by
  obtain⟨y,p,rfl⟩:=E7.1 i;grind
 have D:=WJ o (a0m c a).1 (by omega);simp only[D,oB];have C:Sp fm ys=(fm,(Jc ys:Int),(Ga fm ys:Int),DZ 0 0 ys,ys.map (·.1),()):=rfl;have l:mB (Cf fm.2.2.1 (GS ys))=Ga fm ys:=rfl;rw[C,l];by_cases hpr:(Ga fm ys:Int)=pr;have g:((Ga fm ys:Int) != pr)=kc:=by grind
 simp only[g,cF];exact⟨_,0,rfl,rfl,λ_=>⟨ys,o,rfl,a,by omega,λy p=>(m y p).1⟩⟩;have g:((Ga fm ys:Int) != pr)=ka:=by grind
 simp only[g,cT];grind
abbrev b6S:Type:=Int×(AH×(List AH×(List CP×Unit)))
abbrev Pp:Type:=b6S×CN
def gV(fm:AH)(q:Pp):Prop:=(∀s∈q.1.2.2.2.1,sM s)/\q.1.2.1=fm/\DY (0,q.1)=kd q.2
theorem a2Y{a st:Int}{g:b6S}{b:CN}(h:DY (a,g)=kd b)(k:0<=st)(c:st+g.1<=4194304):DY (st,g)=kd b:=by have f:=(Ff h).1;have d:dB (st,g):=⟨f.1,f.2.1,f.2.2.1,k,by grind,f.2.2.2.2.2⟩;simp_all[DY]
def c6G(st:Nat)(q:Pp):Pc:=(((st:Int),q.1),q.2,Sq ((st:Int),q.1))
def GI:Nat->List Pp->List Pc|_,[]=>[]|st,q::qs=>c6G st q::GI (st+CF q.2) qs
def FO(qs:List Pp):Nat:=(qs.map λq=>CF q.2).sum
def Pa(qs:List Pp):List Int:=qs.flatMap λq=>UW q.2
def a0o(fm:AH)(qs:List Pp):Prop:=∀q∈qs,gV fm q
theorem b0b{fm:AH}{q:Pp}(h:gV fm q):q.1.1=(CF q.2:Int)/\Kx q.2/\q.2.1=fm.2.2.1:=by obtain⟨g,b,k⟩:=h;obtain⟨b1,b2,a⟩:=Ze (f:=(0,q.1)) g k;simp_all
theorem c0A{fm:AH}{q:Pp}(h:gV fm q){st:Nat}(g:st+CF q.2<=4194304):DY ((st:Int),q.1)=kd q.2:=a2Y h.2.2 (by omega) (by grind[b0b])
theorem Td(q:Pp)(qs:List Pp):FO (q::qs)=CF q.2+FO qs:=by rfl
theorem a7W(a b:List Pp):FO (a++b)=FO a+FO b:=by simp[FO]
theorem b1k{fm:AH}{a b:List Pp}(g:a0o fm a)(hb:a0o fm b):a0o fm (a++b):=λq h=>(mA.1 h).elim (g q) (hb q)
theorem Pz{fm:AH}:∀{qs:List Pp},a0o fm qs->FO qs<=4096*qs.length|[],_=>by simp[FO]|q::qs,h=>by have f:=Pz (qs:=qs) λr g=>h r (by simp[g]);have k:=(b0b (h q (by simp))).2.1.2.2.2.2.2.1;rw[Td,lC];omega
theorem Ir:∀(qs:List Pp)(st:Nat),(GI st qs).length=qs.length|[],_=>rfl|_::qs,_=>cG (·+1) (Ir qs _)
theorem Te:∀(qs:List Pp)(st:Nat),Jc (GI st qs)=FO qs|[],_=>rfl|q::qs,st=>by have:=Te qs (st+CF q.2);rw[Td,<-this];simp[GI,Jc,c6G]
theorem Tf:∀(qs:List Pp)(st:Nat),GS (GI st qs)=Pa qs|[],_=>rfl|q::qs,st=>by have:=Tf qs (st+CF q.2);simp only[Pa,GS,GI,B7]at *;rw[this];rfl
theorem QZ:∀(a b:List Pp)(st:Nat),GI st (a++b)=GI st a++GI (st+FO a) b|[],_,_=>rfl|q::a,b,st=>by simp_all[GI,QZ,Td,F2]
theorem b6T{fm:AH}:∀{qs:List Pp}{st:Nat},a0o fm qs->st+FO qs<=4194304->a1z fm st ((GI st qs).map (·.1))=kd (GI st qs)|[],_,_,_=>rfl|q::qs,st,h,f=>by rw[Td]at f;have g:=h q (by simp);rw[GI,C8,a1z,if_pos ⟨g.2.1,rfl⟩,show(c6G st q).1=((st:Int),q.1)from rfl,c0A g (by omega),oB,b6T (st:=st+CF q.2) (λr k=>h r (by grind)) (by omega)];rfl
theorem a0p{fm:AH}:∀{qs:List Pp}{st:Nat},a0o fm qs->∀f∈(GI st qs).map (·.1),∀s∈f.2.2.2.2.1,sM s|[],_,_,f,g=>by simp[GI]at g|q::qs,st,h,f,g=>by rcases mC.1 g with rfl|g;exact(h q (by simp)).1;exact a0p (λr k=>h r (by simp[k])) f g
theorem Tg{fm:AH}{qs:List Pp}{st:Nat}(h:a0o fm qs)(g:st+FO qs<=4194304):Ng fm st (GI st qs):=(a0m (a0p h) (b6T h g)).1
theorem b1l{fm:AH}:∀{ys:List Pc}{st:Nat},(∀y∈ys,∀s∈y.1.2.2.2.2.1,sM s)->a1z fm st (ys.map (·.1))=kd ys->∃qs,a0o fm qs/\ys=GI st qs|[],_,_,_=>⟨[],(λq h=>by grind),rfl⟩|y::ys,st,d,h=>by rw[C8,a1z]at h;split at h;rename_i e;obtain⟨b,hb,h⟩:=A8.1 h;obtain⟨r,j,h⟩:=A8.1 h;simp at h;obtain⟨c,rfl⟩:=h;obtain⟨⟨a,g⟩,b',p⟩:=y;simp only[pJ]at c e hb;obtain⟨-,rfl,rfl⟩:=c;obtain⟨f,rfl⟩:=e;obtain⟨qs,l,m⟩:=b1l (λy o=>d y (by grind)) j;have i:=(Ff hb).1;refine⟨(g,b)::qs,λq k=>?_,?_⟩;rcases mC.1 k with rfl|k;exact⟨d (((st:Int),g),b,Sq ((st:Int),g)) List.mem_cons_self,f,a2Y hb (by omega) (by have:=i.2.2.1;grind)⟩;exact l q k;exact cG (List.cons (((st:Int),g),b,Sq ((st:Int),g))) m;grind
def Re(fm:AH)(qs:List Pp):a4M:=Sp fm (GI 0 qs)
def Bz(qs:List Pp):List AQ:=(GI 0 qs).map (·.1)
theorem c1K{α β:Type}{l:List α}{g:α->β}{A B:List β}{b:β}(h:l.map g=A++b::B):∃a,Ax l (A.length:Int)=kd a/\g a=b/\A.length<l.length:=by(have f:A.length<l.length:=by have:=cG C4 h;grind);refine⟨l[A.length],Ad f,?_,f⟩;have:=cG (λx=>x[A.length]?) h;grind
theorem a7X{fm:AH}{qs:List Pp}(o:a0o fm qs)(L:qs.length<=200){fs:List AQ}(k:fs.map (·.2)=qs.map (·.1)):∀(zO h:List Pp),h++zO=qs->Al Gx ((((CG (GI 0 h)).length:Nat):Int),fs,(fs.length:Int),(h.length:Int),Re fm h,())=kd (.inl (Re fm qs,()))|[],h,H=>by(obtain rfl:h=qs:=by simp_all);(have I:fs.length=h.length:=by have:=cG C4 k;grind);simp_all[Ae,Gx]|q::zO,h,H=>by(have z:=o q (by grind);have c:a0o fm h:=λr V=>o r (by grind);have G:h.length<qs.length:=by grind);(have I:fs.length=qs.length:=by have:=cG C4 k;grind);(obtain⟨Y,i,D,-⟩:=c1K (l:=fs) (g:=(·.2)) (A:=h.map (·.1)) (b:=q.1) (B:=zO.map (·.1)) (by grind);rw[D5]at i;have K:=Pz c;obtain⟨P,j,X⟩:=b0b z;have e:=j.2.2.2.2.2.1;obtain⟨Q,R,-,N,O⟩:=RU (f:=(((FO h:Nat):Int),q.1)) z.1 (c0A z (st:=FO h) (by omega));have hb:=WG (Tg c (st:=0) (by omega));rw[Ir]at hb;have x:=b1g j;have M:(Cf q.2.1 (UW q.2)).length<=3*(4096*8):=by have:=Za (w:=q.2.1) ⟨j.1,j.2.1⟩ (UW q.2);(have U:(UW q.2).length<=4096*8:=by rw[Uv];exact B9 e j.2.2.2.1);omega);(have y:=a7I (l:=Cf q.2.1 (UW q.2)) (by unfold short;omega) (Uu _ _);have p:=b1e (a:=mB (Cf fm.2.2.1 (Pa h))) (b:=mB (Cf q.2.1 (UW q.2))) (n:=(Cf q.2.1 (UW q.2)).length) (rX _) (rX _) (by omega);have v:mB (Cf fm.2.2.1 (Pa (h++[q])))=(mB (Cf fm.2.2.1 (Pa h))*(1000003^(Cf q.2.1 (UW q.2)).length%FN)+mB (Cf q.2.1 (UW q.2)))%FN:=by simp_all[rU,b1b,Pa]);(have F:GI 0 (h++[q])=GI 0 h++[c6G (FO h) q]:=by rw[QZ,C7];rfl);(have E:((0:Int) != 0)=kc:=rfl;have S:zN .i64 ((((CG (GI 0 h)).length:Nat):Int)+(((Sq ((FO h:Int),q.1)).length:Nat):Int))=(((CG (GI 0 (h++[q]))).length:Nat):Int):=by grind[WB,Ac,c6G]);(have T:zN .i64 ((h.length:Int)+1)=(((h++[q]).length:Nat):Int):=by grind[Ac]);(have u:Re fm h=(fm,((FO h:Nat):Int),((mB (Cf fm.2.2.1 (Pa h)):Nat):Int),DZ 0 0 (GI 0 h),Bz h,()):=by simp_all[Re,Sp,Ga,Te,Tf,Bz]);(have d:Re fm (h++[q])=(fm,zN .i64 (((FO h:Nat):Int)+q.1.1),((mB (Cf fm.2.2.1 (Pa (h++[q]))):Nat):Int),DZ 0 0 (GI 0 h)++[(((FO h:Nat):Int),(((CG (GI 0 h)).length:Nat):Int),())],Bz h++[(((FO h:Nat):Int),q.1)],()):=by simp only[Re,Sp,Ga,Te,Tf,Bz,a7W];rw[F,iW,Te,WK,C7,C7,P,Ac (by omega)];rfl);rw[Af (s':=((((CG (GI 0 (h++[q]))).length:Nat):Int),fs,(fs.length:Int),(((h++[q]).length:Nat):Int),Re fm (h++[q]),())) (by(simp only[Gx,Cn (show h.length<fs.length by omega),cT,i,oB,u];rw[D,R];simp only[oB,E,cF];rw[Q];simp only[oB,E,cF,x,y];rw[p];have C:(DZ 0 0 (GI 0 h)).length=h.length:=by rw[QY,Ir]);(have m:(Bz h).length=h.length:=by simp[Bz,Ir]);simp only[oB,C,m,Ay (show h.length+1<2147483648 by omega),cT,S,T,<-v,d];rfl)];exact a7X o L k zO (h++[q]) (by simp_all)
theorem c1L{fm:AH}(k:OD fm){qs:List Pp}(f:a0o fm qs)(a:qs.length<=200){fs:List AQ}(g:fs.map (·.2)=qs.map (·.1)):IP (fm,fs)=kd (Zb fm (GI 0 qs),0):=by(have h:=a7X f a g qs [] rfl;have c:=Pz f;have b:=a9Y k (Tg (st:=0) f (by omega)) (by rw[Ir];omega);have e:Re fm []=(fm,(0:Int),(0:Int),([]:List (Int×Int×Unit)),([]:List AQ),()):=by rfl);rw[e]at h;unfold IP;erw[h];simp;erw[b];rfl
theorem Xl{x:LI}(hb:Iq x)(i:x.length<=400):∃(t:a4M)(e:Int),Db x=kd (t,e)/\CJ x=kd (t,e)/\(e=0->∃(fm:AH)(qs:List Pp),OD fm/\a0o fm qs/\qs.length<=90/\t=Re fm qs):=by obtain⟨t,e,h,g,f⟩:=b0a hb (by omega);refine⟨t,e,h,g,λk=>?_⟩;obtain⟨o,j,l,a,m,b⟩:=f k;obtain⟨qs,c,d⟩:=b1l b a;grind[Re,Ir]
theorem CV(qs:List Pp):(Bz qs).length=qs.length:=by simp[Bz,Ir]
theorem JI(fm:AH)(qs:List Pp):(Re fm qs).2.2.2.2.1=Bz qs:=rfl
theorem a4Q(fm:AH)(qs:List Pp):(Re fm qs).2.1=(FO qs:Int):=by simp_all[Re,Sp,Te]
theorem a0q:∀(qs:List Pp)(st:Nat),((GI st qs).map (·.1)).map (·.2)=qs.map (·.1)|[],_=>rfl|q::qs,st=>by simp only[GI,C8,a0q qs];rfl
theorem b6U{fm:AH}{qs:List Pp}(h:a0o fm qs):∀f∈Bz qs,b6R f:=λf g=>by(have e:∀(qs:List Pp)(c:Nat),a0o fm qs->∀f∈(GI c qs).map (·.1),∃q∈qs,f.2=q.1:=λqs=>by induction qs with|nil=>simp_all[GI]|cons q qs i=>intro c h f g;rcases mC.1 g with rfl|g;exact⟨q,by simp,rfl⟩;obtain⟨r,k,b⟩:=i _ (λr o=>h r (by grind)) f g;grind);obtain⟨q,k,b⟩:=e qs 0 h f g;obtain⟨a,d,-⟩:=Ff (h q k).2.2;have j:q.1.2.1.2.1<=8:=a.1.2.2.2.1;have l:q.1.2.2.1.length<=16:=a.2.2.2.2.2.2.2.1;have m:(q.1.2.2.2.1.length:Int)=q.1.2.1.2.1:=d;unfold b6R;rw[b];exact⟨(h q k).1,by omega,by omega⟩
theorem b3x{fm:AH}(f:OD fm){qs:List Pp}(h:a0o fm qs)(b:qs.length<=200):JA (fm,Bz qs)=kd (Re fm qs,ka)/\JE (Re fm qs)=kd (Zb fm (GI 0 qs),0):=by(have a:=Pz h;have k:=Tg (st:=0) h (by omega);have g:(GI 0 qs).length<=200:=by rw[Ir];omega);exact⟨WJ f k g,b3w f k g (b6U h)⟩
theorem Ye{fm:AH}{A B:List Pp}(d:A.length<=90)(e:B.length<=90)(f:a0o fm A)(k:a0o fm B):∀(zO h:List Pp),h++zO=B->Al Hd ((h.length:Int),Bz A++(GI (FO A) h).map (·.1),Re fm A,Re fm B,())=kd (Bz (A++B),Re fm A,())|[],h,c=>by(obtain rfl:h=B:=by simp_all);have i:(Re fm h).2.2.2.2.1.length=h.length:=CV h;simp_all[Ae,Hd,Bz,QZ]|q::zO,h,c=>by(have i:(Re fm B).2.2.2.2.1.length=B.length:=CV B;have a:h.length<(Re fm B).2.2.2.2.1.length:=by grind);(have j:Ax (Re fm B).2.2.2.2.1 (h.length:Int)=kd (((FO h:Nat):Int),q.1):=by have g:(Bz h).length=h.length:=CV h;rw[JI,<-c,Bz,QZ,WK,C7];have:=Nc (Bz h) (((FO h:Nat):Int),q.1) ((GI (FO h+CF q.2) zO).map (·.1));rw[g]at this;exact this);(have o:=Pz f;have p:=Pz k;have r:FO h<=FO B:=by grind[a7W]);(have l:zN .i64 (((FO h:Nat):Int)+((FO A:Nat):Int))=((FO A+FO h:Nat):Int):=by grind[Ac]);(have m:zN .i64 ((h.length:Int)+1)=(((h++[q]).length:Nat):Int):=by grind[Ac]);(have b:(Bz A++(GI (FO A) h).map (·.1)).length+1<2147483648:=by grind[CV,Ir]);rw[Af (s':=((((h++[q]).length:Nat):Int),Bz A++(GI (FO A) (h++[q])).map (·.1),Re fm A,Re fm B,())) (by simp only[Hd,Cn a,cT,j,oB,Ay b,a4Q,l,m];simp only[QZ,WK,B3,aA];rfl)];exact Ye d e f k zO (h++[q]) (by simp_all)
theorem b9c{n:Nat}(h:n<2147483648):BS ([],(n:Int))=kd []:=by
 have w:zN .i64 ((n:Int)-(0:Int))=(n:Int):=by grind[Ac]
 have g:A3 ((n:Int)<0)=kc:=by simp
 unfold BS;simp only[g,cF,w];by_cases h0:n=0;simp_all;have f:A3 ((n:Int) > 0)=ka:=by grind
 have k:A3 (0<=(n:Int))=ka:=by simp
 simp_all[Ay]
theorem b3y{A B:List AQ}(h:A.length+B.length<=100000):BI [A,B]=kd (A++B):=by
 have g:Ax [A,B] (0:Int)=kd A:=rfl;have f:Ax [A,B] (1:Int)=kd B:=rfl;have d:zN .i64 ((0:Int)+(A.length:Int))=(A.length:Int):=by grind[Ac]
 have e:zN .i64 ((A.length:Int)+(B.length:Int))=((A.length+B.length:Nat):Int):=by grind[Ac]
 have k:A3 ((A.length:Int)<0)=kc:=by simp
 have a:A3 (((A.length+B.length:Nat):Int)<0)=kc:=by rfl
 have c:Al Bt ([A,B],(0:Int),[A,B],(2:Int),(0:Int),())=kd ([A,B],((A.length+B.length:Nat):Int),()):=by rw[Af (s':=([A,B],(A.length:Int),[A,B],(2:Int),(1:Int),())) (by simp only[Bt,g,oB,d,k,cF];rfl)];rw[Af (s':=([A,B],((A.length+B.length:Nat):Int),[A,B],(2:Int),(2:Int),())) (by simp only[Bt,f,oB,e,a,cF];rfl)];rfl
 have i:Al Bu ([A,B],(2:Int),(0:Int),([]:List AQ),())=kd (A++B,()):=by rw[Af (s':=([A,B],(2:Int),(1:Int),A,())) (by simp only[Bu,g,oB,A7,C7,Ay (show A.length<2147483648 by omega),cT];rfl)];rw[Af (s':=([A,B],(2:Int),(2:Int),A++B,())) (by simp only[Bu,f,oB,Ay (show A.length+B.length<2147483648 by omega),cT];rfl)];rfl
 unfold BI;have b:((C4 [A,B]:Nat):Int)=2:=rfl;rw[b,c];simp only[oB];rw[b9c (by omega)];simp_all
theorem b3z{a b:LI}(v:Iq a)(hb:Iq b)(C:a.length<=400)(D:b.length<=400):∃r,NP (a,b)=kd r/\Kf (a,b)=kd r:=by
 obtain⟨t,e,o,p,q⟩:=Xl v C;obtain⟨u,f,x,y,z⟩:=Xl hb D;unfold NP Kf;simp only[o,p,oB];by_cases he:e=0;rotate_left
 have:(e != 0)=ka:=by simp_all
 simp only[this,cT]
 simp
 subst he;simp only[bN,cF,x,y,oB];by_cases he:f=0;rotate_left
 have:(f != 0)=ka:=by simp_all
 simp only[this,cT]
 simp
 subst he;obtain⟨h,A,l,g,E,rfl⟩:=q rfl;obtain⟨d,B,G,k,F,rfl⟩:=z rfl;have m:(Re h A).1=h:=rfl;have c:(Re d B).1=d:=rfl;simp only[bN,cF,m,c,Eg];by_cases hf:h=d;rotate_left;simp_all;subst hf;have I:=Pz g;have K:=Pz k;have i:A3 (zN .i64 ((Re h A).2.1+(Re h B).2.1) > 4194304)=kc:=by
  grind[a4Q,Ac]
 have j:A3 (zN .i64 ((((Re h A).2.2.2.2.1.length:Nat):Int)+(((Re h B).2.2.2.2.1.length:Nat):Int)) > 4096)=kc:=by
  grind[JI,CV,Ac]
 have H:=c1L l (b1k g k) (by grind) (fs:=Bz A++Bz B) (by grind[Bz,a0q]);have w:=Ye E F g k B [] rfl;simp[GI]at w;obtain⟨L,M⟩:=b3x l (b1k g k) (by grind);refine⟨(Zb h (GI 0 (A++B)),0),?_,?_⟩;simp[i,j];grind[JI,b3y,CV];simp only[decide_true,bT,cF,i,j,oB];simp only[JI,C7,B3,C1,Ay (show(Bz A).length<2147483648 by rw[CV];omega),cT];simp_all
theorem mE{α:Type}[DecidableEq α]:∀{x y:List α},x.length=y.length->(x.zip y).all (λp=>A3 (p.1=p.2))=A3 (x=y)|[],[],_=>rfl|a::x,b::y,h=>by simp_all[mE]|[],_::_,h=>by grind|_::_,[],h=>by grind
theorem Yf{x y:List AH}(c:x.length<1000000):Gi (x,y)=kd (A3 (x=y)):=by
 unfold Gi;by_cases h:x.length=y.length;have e:(((x.length:Nat):Int) != ((y.length:Nat):Int))=kc:=by simp_all
 have d:(x.zip y).length=x.length:=by simp_all
 have:=Bp (f:=CC) (β:=Unit ⊕ (Bool×Unit)) (x.zip y) (λi=>(x,y,(i:Int),())) (λp=>A3 (p.1=p.2)) (bt:=C6 ()) (bf:=D1 (kc,()))
  (λi b g=>by
   have k:i<x.length:=by omega
   have a:i<y.length:=by omega
   rw[F3]at g;have g:A3 (x[i]=y[i])=ka:=g;simp only[CC,Cn k,cT,Ad k,Ad a,oB,Eg,g,bT,cF,Aa (show i<1000000 by omega)])
  (λi b g=>by
   have k:i<x.length:=by omega
   have a:i<y.length:=by omega
   rw[F3]at g;have g:A3 (x[i]=y[i])=kc:=g;simp_all[CC,Ad,Eg])
  (by simp_all[CC])
 simp at this;simp[e];grind[mE];have e:(((x.length:Nat):Int) != ((y.length:Nat):Int))=ka:=by grind
 simp only[e,cT];rw[dF λe=>h (cG C4 e)]
open Classical in
theorem a1B {x y:AQ} (hS:∀s∈x.2.2.2.2.1,sM s) (h1:x.2.2.2.1.length<1000000) (h2:x.2.2.2.2.1.length<1000000):DM (x,y)=kd (decide (x=y)):=by
 have key:x=y↔x.1=y.1/\x.2.1=y.2.1/\x.2.2.1=y.2.2.1/\x.2.2.2.1=y.2.2.2.1/\x.2.2.2.2.1=y.2.2.2.2.1:=by
  grind
 unfold DM
 by_cases c1:x.1=y.1
 rotate_left
 ·grind
 by_cases c2:x.2.1=y.2.1
 rotate_left
 ·grind
 by_cases c3:x.2.2.1=y.2.2.1
 rotate_left
 ·simp_all[Eg]
 by_cases c4:x.2.2.2.1=y.2.2.2.1
 rotate_left
 ·rw[dF (λh=>c4 (key.1 h).2.2.2.1)]
  simp only[c1,c2,bN,cF,Eg,dE c3,bT,Yf h1,dF c4,B4,cT,oB]
 simp[c1,c2,Eg,dE c3,Yf h1,dE c4]
 by_cases c5:x.2.2.2.2.1.length=y.2.2.2.2.1.length
 rotate_left
 ·grind
 have e:(((x.2.2.2.2.1.length:Nat):Int) != ((y.2.2.2.2.1.length:Nat):Int))=kc:=by simp_all
 have hz:(x.2.2.2.2.1.zip y.2.2.2.2.1).length=x.2.2.2.2.1.length:=by simp_all
 have:=Bp (f:=CD) (β:=Unit ⊕ (Bool×Unit)) (x.2.2.2.2.1.zip y.2.2.2.2.1) (λi=>((i:Int),(x,(y,())))) (λp=>decide (p.1=p.2)) (bt:=C6 ()) (bf:=D1 (kc,()))
  (λi hi hp=>by
   have h1:i<x.2.2.2.2.1.length:=by omega
   have h2:i<y.2.2.2.2.1.length:=by omega
   rw[F3]at hp
   have hp:decide (x.2.2.2.2.1[i]=y.2.2.2.2.1[i])=ka:=hp
   simp only[CD,Cn h1,cT,Ad h1,Ad h2,oB,Ud (hS _ (B6 h1)),hp,bT,cF,Aa (show i<1000000 by omega)])
  (λi hi hp=>by
   have h1:i<x.2.2.2.2.1.length:=by omega
   have h2:i<y.2.2.2.2.1.length:=by omega
   rw[F3]at hp
   have hp:decide (x.2.2.2.2.1[i]=y.2.2.2.2.1[i])=kc:=hp
   simp only[CD,Cn h1,cT,Ad h1,Ad h2,oB,Ud (hS _ (B6 h1)),hp,B4])
  (by simp_all[CD])
 simp at this
 simp[e]
 rw[this,mE c5]
 grind
open Classical in

theorem a2Z {l:List AQ} (hl:l.length<=1000) (hS:∀f∈l,(∀s∈f.2.2.2.2.1,sM s)/\f.2.2.2.2.1.length<=10/\f.2.2.2.1.length<=20) (g:b6S):∀(zO dn:List AQ)(st:Int),dn++zO=l->Al KX (l,((dn.length:Int),((st,g),())))=kd (bif (zO.map (·.2)).any (λh=>decide (h=g))then .inr (ka,())else .inl ())|[],dn,st,hd=>by(obtain rfl:dn=l:=by grind);simp[Ae,KX]|f::zO,dn,st,hd=>by(have hlt:dn.length<l.length:=by grind);(have hg:Ax l (dn.length:Int)=kd f:=by grind[Nc]);obtain⟨k1,k2,k3⟩:=hS f (by grind);have hs:=a1B (x:=f) (y:=(f.1,g)) k1 (by omega) (by omega);(have hd2:decide (f=(f.1,g))=decide (f.2=g):=by grind);rw[hd2]at hs;cases hc:decide (f.2=g)with|true=>rw[hc]at hs;refine Ae ?_;simp only[KX,Cn hlt,cT,hg,oB,hs,C8,List.any_cons,hc,Bool.true_or]|false=>rw[hc]at hs;rw[Af (s':=(l,((((dn++[f]).length:Nat):Int),((f.1,g),())))) (by simp only[KX,Cn hlt,cT,hg,oB,hs,cF,Aa (show dn.length<1000000 by omega)];simp)];rw[a2Z hl hS g zO (dn++[f]) f.1 (by grind),C8,List.any_cons,hc,Bool.false_or]
open Classical in
theorem b9d {fm:AH} {A:List Pp} (gA:a0o fm A) (nA:A.length<=90) (f:AQ):TW (Bz A,f)=kd ((A.map (·.1)).any λh=>decide (h=f.2)):=by have h:=a2Z (l:=Bz A) (by rw[CV];omega) (λf hf=>b6U gA f hf) f.2 (Bz A) [] f.1 rfl;rw[show(Bz A).map (·.2)=A.map (·.1)from a0q A 0]at h;unfold TW;grind
def a1C(q:Pp):List Int:=a4V (Sq ((0:Int),q.1))
theorem b3A{fm:AH}{q:Pp}(h:gV fm q):∃n e:Int,HM (a1C q)=kd (((0:Int),q.1),n,e):=by
 obtain⟨i,-,j⟩:=h;obtain⟨b1,b2,d⟩:=Ff j;have a:Fi ((0:Int),q.1)=kd ka:=by simp_all[rE]
 have m:((0:Int),q.1).2.2.2.2.1.length<=8:=by have:=b1.1.2.2.2.1;omega
 obtain⟨k,r,u,b,x,y⟩:=Py a b1 m (λs f=>⟨i s f,d s f⟩);have p:=a1w a b1 b2 r u b (R:=[]) (by simp);rw[E4]at p;have o:Sq ((0:Int),q.1)=Kw ((0:Int),q.1) (Az k):=by simp_all[Sq]
 have hb:=b8I b1 b;have f:=OC (QT ((0:Int),q.1) (Az k));have v:a1C q=Kw ((0:Int),q.1) (Az k):=by unfold a1C;rw[o];(have:∀(l:LI),(∀c∈l,0<=c/\c<256)->a4V l=l:=λl w=>by unfold a4V;refine(F9 λc g=>?_).trans (List.map_id l);grind);(refine this _ λc g=>?_);unfold Kw at g;rcases mA.1 g with g|g;exact hb c g;grind
 simp_all
theorem a7Y{fm fn:AH}{q r:Pp}(hq:gV fm q)(h:gV fn r):a1C q=a1C r↔q.1=r.1:=by grind[a1C,b3A]
theorem Yg{fm:AH}{qs:List Pp}(k:a0o fm qs)(c:qs.length<=200):∀(zO h:List Pp),h++zO=qs->Al Gw (Bz qs,((Bz qs).length:Int),(h.length:Int),h.map a1C,())=kd (.inl (qs.map a1C,()))|[],h,g=>by(obtain rfl:h=qs:=by simp_all);simp_all[CV,Ae,Gw]|q::zO,h,g=>by(have a:=k q (by grind);have b:h.length<qs.length:=by grind);(have j:=CV qs;have e:Ax (Bz qs) (h.length:Int)=kd (((FO h:Nat):Int),q.1):=by rw[<-g,Bz,QZ,WK,C7];have:=Nc (Bz h) (((FO h:Nat):Int),q.1) ((GI (FO h+CF q.2) zO).map (·.1));rw[CV]at this;exact this);(obtain⟨-,d,-⟩:=RU (f:=((0:Int),q.1)) a.1 a.2.2;have i:zN .i64 ((h.length:Int)+1)=(((h++[q]).length:Nat):Int):=by grind[Ac]);rw[Af (s':=(Bz qs,((Bz qs).length:Int),(((h++[q]).length:Nat):Int),(h++[q]).map a1C,())) (by simp only[Gw,Cn (show h.length<(Bz qs).length by omega),cT,e,oB,d,bN,cF,D5,Ay (show h.length+1<2147483648 by omega),i,WK,C8,List.map_nil];rfl)];exact Yg k c zO (h++[q]) (by simp_all)
open Classical in
theorem Sr {fm fn:AH} {A B:List Pp} (gA:a0o fm A) (nA:A.length<=90) (nB:B.length<=90):∀(zO dn:List Pp)(n:Nat),dn++zO=B->n<=dn.length->Al EY ((n:Int),((dn.length:Int),(Re fm A,(Re fn B,()))))=kd (((n+(zO.filter λq=>(A.map (·.1)).any λh=>decide (h=q.1)).length:Nat):Int),())|[],dn,n,he,hn=>by(obtain rfl:dn=B:=by simp_all);have hl:(Re fn dn).2.2.2.2.1.length=dn.length:=CV dn;simp_all[Ae,EY]|q::zO,dn,n,he,hn=>by have hl:(Re fn B).2.2.2.2.1.length=B.length:=CV B;(have hBl:B.length=dn.length+(zO.length+1):=by grind);(have hdl:dn.length<(Re fn B).2.2.2.2.1.length:=by omega);(have hx:Ax (Re fn B).2.2.2.2.1 (dn.length:Int)=kd (((FO dn:Nat):Int),q.1):=by rw[JI,<-he,Bz,QZ,WK,C7];have:=Nc (Bz dn) (((FO dn:Nat):Int),q.1) ((GI (FO dn+CF q.2) zO).map (·.1));rw[CV]at this;exact this);have hh:=b9d gA nA (((FO dn:Nat):Int),q.1);(have w2:zN .i64 ((dn.length:Int)+1)=(((dn++[q]).length:Nat):Int):=by grind[Ac]);(have w3:zN .i64 ((n:Int)+1)=((n+1:Nat):Int):=by grind[Ac]);simp only at hh;rw[List.filter_cons];cases hc:(A.map (·.1)).any λh=>decide (h=q.1)with|true=>rw[hc]at hh;rw[Af (s':=(((n+1:Nat):Int),((((dn++[q]).length:Nat):Int),(Re fm A,(Re fn B,()))))) (by simp only[EY,Cn hdl,cT,hx,oB,JI fm A,hh,w2,w3])];rw[Sr gA nA nB zO (dn++[q]) (n+1) (by simp_all) (by simp_all)];grind|false=>rw[hc]at hh;rw[Af (s':=((n:Int),((((dn++[q]).length:Nat):Int),(Re fm A,(Re fn B,()))))) (by simp only[EY,Cn hdl,cT,hx,oB,JI fm A,hh,cF,w2])];rw[Sr gA nA nB zO (dn++[q]) n (by simpa using he) (by simp;omega)];simp
open Classical in
theorem b3B {a b:List Int} (ha:Iq a) (hb:Iq b) (la:a.length<=400) (lb:b.length<=400):∃r,Iy (a,b)=kd r/\Kg (a,b)=kd r:=by
 obtain⟨t,e,h1,h2,h3⟩:=Xl ha la
 obtain⟨u,f,k1,k2,k3⟩:=Xl hb lb
 have un:∀{x:List Int}{t:a4M}{e:Int},Db x=kd (t,e)->(e≠0->Cs x=kd [])/\∀(fm:AH)(qs:List Pp),e=0->a0o fm qs->qs.length<=90->t=Re fm qs->Cs x=kd (qs.map a1C):=λ{x t e} hx=>by
  unfold Cs
  simp only[hx,oB]
  refine⟨λhe=>?_,λfm qs he hg hn ht=>?_⟩
  ·grind
  ·subst he ht
   have h:=Yg hg (by omega) qs [] rfl
   simp_all[JI]
 obtain⟨a1,a2⟩:=un h1
 obtain⟨b1,b2⟩:=un k1
 unfold Iy Kg
 simp only[h2,k2,oB]
 by_cases he:e=0
 rotate_left
 ·have:(e != 0)=ka:=by grind
  simp only[this,cT,oB,a1 he]
  refine⟨0,?_,rfl⟩
  have hub:∃l,Cs b=kd l/\l.length<=90:=by
   grind
  obtain⟨l,hl,hl2⟩:=hub
  simp only[hl,oB,A7,Ay (show 0<2147483648 by omega),Ay (show l.length<2147483648 by omega),A6,cT]
  simp
 subst he
 obtain⟨fm,A,f1,gA,nA,rfl⟩:=h3 rfl
 have hA:=a2 fm A rfl gA nA rfl
 simp only[bN,cF,oB,hA]
 by_cases hf:f=0
 rotate_left
 ·have:(f != 0)=ka:=by simp_all
  simp only[this,cT,oB,b1 hf,D5,A7,Ay (show 0<2147483648 by omega),Ay (show A.length<2147483648 by omega),A6]
  simp
 subst hf
 obtain⟨fn,B,f2,gB,nB,rfl⟩:=k3 rfl
 have hB:=b2 fn B rfl gB nB rfl
 have hr:=Sr (fm:=fm) (fn:=fn) gA nA nB B [] 0 rfl (by simp)
 simp only[A7,nZ,C7]at hr
 simp only[bN,cF,oB,hB,D5,Ay (show A.length<2147483648 by omega),Ay (show B.length<2147483648 by omega),A6,cT]
 erw[hr]
 refine⟨_,cG (λn:Nat=>kd (n:Int)) ?_,rfl⟩
 rw[List.filter_map,D5]
 refine cG C4 (List.filter_congr λq hq=>?_)
 rw[Bool.eq_iff_iff]
 simp only[Function.comp,List.contains_eq_mem,dT,List.any_eq_true,E7]
 constructor
 ·rintro⟨r,hr,he⟩
  exact⟨r.1,⟨r,hr,rfl⟩,(a7Y (gA r hr) (gB q hq)).1 he⟩
 ·rintro⟨g,⟨r,hr,rfl⟩,he⟩
  exact⟨r,hr,(a7Y (gA r hr) (gB q hq)).2 he⟩
theorem a4R{x y:LI}(h:x.length<1000000000):CI (x,y)=kd (A3 (x=y))/\DP (x,y)=kd (A3 (x=y)):=by
 unfold CI DP;by_cases hl:x.length=y.length;have e:(((x.length:Nat):Int) != ((y.length:Nat):Int))=kc:=by simp_all
 have q:(x.zip y).length=x.length:=by simp_all
 have d:∀(i:Nat)(g:i<(x.zip y).length),∃(k:i<x.length)(b:i<y.length),((x.zip y)[i].1=x[i]/\(x.zip y)[i].2=y[i])/\zN .i64 ((i:Int)+1)=((i+1:Nat):Int):=λi g=>by
  refine⟨by omega,by omega,?_,by grind[Ac]⟩
  simp
 have m:=Bp (f:=CM) (β:=Unit ⊕ (Bool×Unit)) (x.zip y) (λi=>(x,y,(i:Int),())) (λp=>A3 (p.1=p.2)) (bt:=C6 ()) (bf:=D1 (kc,()))
  (λi g l=>by
   obtain⟨k,b,⟨c,j⟩,h4⟩:=d i g;simp_all[CM,Ad])
  (λi g l=>by
   obtain⟨k,b,⟨c,j⟩,h4⟩:=d i g;rw[c,j,decide_eq_false_iff_not]at l;have a:(x[i] != y[i])=ka:=by simp_all
   simp only[CM,Cn k,cT,Ad k,Ad b,oB,a])
  (by simp_all[CM])
 have o:=Bp (f:=Ch) (β:=Unit ⊕ (Bool×Unit)) (x.zip y) (λi=>(x,y,((x.length:Nat):Int),(i:Int),())) (λp=>A3 (p.1=p.2)) (bt:=C6 ()) (bf:=D1 (kc,()))
  (λi g l=>by
   obtain⟨k,b,⟨c,j⟩,h4⟩:=d i g;simp_all[Ch,Ad])
  (λi g l=>by
   obtain⟨k,b,⟨c,j⟩,h4⟩:=d i g;rw[c,j,decide_eq_false_iff_not]at l;have a:(x[i] != y[i])=ka:=by simp_all
   simp only[Ch,Cn k,cT,Ad k,Ad b,oB,a])
  (by simp_all[Ch])
 simp at m o;simp[e];rw[m,o,mE hl];grind;have e:(((x.length:Nat):Int) != ((y.length:Nat):Int))=ka:=by grind
 simp only[e,cT];rw[dF λe=>hl (cG C4 e)]
 simp
theorem a3a{fm:AH}{f:Nat}(g:fm.2.1=(f:Int)):∀{qs:List Pp},a0o fm qs->(Pa qs).length=FO qs*f|[],_=>by simp[Pa,FO]|q::qs,h=>by(have k:=a3a g (qs:=qs) λr e=>h r (by simp[e]);have a:=h q (by simp);have b:=a7V a.2.2;have c:q.1.2.1=fm:=a.2.1;have d:q.2.2.1.length=f:=by have:(q.2.2.1.length:Int)=q.1.2.1.2.1:=b;rw[c,g]at this;omega);simp only[Pa,B7,lN]at k|-;rw[k,Td,Uv,d,Nat.add_mul]
theorem a3b{fm:AH}(k:OD fm){qs:List Pp}(h:a0o fm qs)(c:qs.length<=90):DK (Re fm qs)=kd (Pa qs,0)/\DX (Re fm qs)=kd (Pa qs,0)/\(Pa qs).length<1000000000:=by have b:=Pz h;have g:=a7U k (Tg (st:=0) h (by omega)) (by rw[Ir];omega);have f:=a1A k (Tg (st:=0) h (by omega)) (by rw[Ir];omega) (b6U h);simp[Tf]at g f;have a:=fP (Tg (st:=0) h (by omega));rw[Tf,Ir]at a;exact⟨g,f,by omega⟩
theorem b3C{a b:LI}(w:Iq a)(hb:Iq b)(F:a.length<=400)(G:b.length<=400):∃r,Iz (a,b)=kd r/\Kh (a,b)=kd r:=by
 obtain⟨t,e,p,q,v⟩:=Xl w F;obtain⟨u,f,C,D,E⟩:=Xl hb G;unfold Iz Kh;simp only[p,q,C,D,oB];by_cases he:e=0;rotate_left
 have:(e != 0)=ka:=by simp_all
 simp only[this,cT,oB]
 simp
 subst he;by_cases hf:f=0;rotate_left
 have:(f != 0)=ka:=by simp_all
 simp only[this,bN,cF,cT,oB]
 simp
 subst hf;obtain⟨g,A,d,m,H,rfl⟩:=v rfl;obtain⟨i,B,l,o,I,rfl⟩:=E rfl;have j:(Re g A).1=g:=rfl;have c:(Re i B).1=i:=rfl;simp only[bN,cF,j,c,Eg];by_cases hfm:g=i;rotate_left;simp_all;subst hfm;obtain⟨P,K,L⟩:=a3b d m H;obtain⟨Q,M,-⟩:=a3b l o I;obtain⟨N,R⟩:=a4R (x:=Pa A) (y:=Pa B) L;simp only[decide_true,bT,cF,oB,K,M,N,a4Q];by_cases hl:FO A=FO B;simp_all
 have:(((FO A:Nat):Int) != ((FO B:Nat):Int))=ka:=by grind
 simp only[this,cT];obtain⟨k,z⟩:∃k:Nat,g.2.1=(k:Int):=⟨g.2.1.toNat,by have:=d.2.2.1;omega⟩;have O:0<k:=by have:=d.2.2.1;omega
 rw[dF λh=>hl ?_]
 simp
 have:=cG C4 h
 grind[a3a,Nat.eq_of_mul_eq_mul_right]
set_option maxRecDepth 100000 in
theorem b9e:VS ()=kd ka:=by kernel_rfl
theorem lE(x:List Int×List Int)(h:∀c∈x.1,0<=c/\c<256)(hb:∀c∈x.2,0<=c/\c<256):MU x=kd ka:=by
 obtain⟨a,b⟩:=x;unfold MU;simp only[b9e,oB,bT,cF];by_cases la:a.length<=400;rotate_left;grind;have g:A3 (((a.length:Nat):Int) > 400)=kc:=by grind
 by_cases lb:b.length<=400;rotate_left;grind;have f:A3 (((b.length:Nat):Int) > 400)=kc:=by grind
 obtain⟨r,k,d⟩:=b3z h hb la lb;obtain⟨n,e,i⟩:=b3B h hb la lb;obtain⟨s,j,l⟩:=b3C h hb la lb;simp only[g,f,cF,k,d,e,i,j,l,oB,b3h,cT,beq_self_eq_true]
end Go.Ab
namespace Go.Proofs.YtkikcohfbelmeacGreatDoor
open Go.Ab Go.ChangeShapes Go.WideShapes Go.ChangeAt Go.RowKit
theorem cY{α:Type}{f:Nat->Option (α×Dw×List Nat)}:∀(L:List α)(i:Nat),(∀(j:Nat) x,L[j]?=kd x->f (i+j)=kd (x,[],[]))->Ao f L.length i=kd (L,[],[])|[],_,_=>rfl|a::L,i,h=>by have g:=h 0 a rfl;have k:=cY L (i+1) (λj x b=>by have:=h (j+1) x (by simpa using b);rw[<-this];congr 1;omega);simp only[lC,Ao];simp only[I0]at g;rw[g,k];rfl
section
variable {H:Type} {enc:TypeId×Value->H} {P:Program} {w:World} {base:Nat} {spare:Nat->Bool} {held:Bool}
theorem a1D{k:IntKind}{n:Nat}{t e:TypeId}{fuel:Nat}{cs:List Value}{L:List Int}{p:List MemPlace}(C:P.underlying t=kd (.array n e))(v:P.underlying e=kd (.int k))(u:P.cellsOf e=1) (h:DataW.trod enc P w base spare held fuel t cs=kd (.agg (L.map λi=>.lit (.int k i)),p)):L.length=n/\∀(j:Nat) x,L[j]?=kd x->cs[j]?=kd (.int k x):=by(obtain⟨D,m,rfl,b,-,B,a⟩:=DataW.trod_array C h;simp only[pJ,DataW.agg.injEq]at b;have A:L.length=n:=by rw[<-B];simpa using cG C4 b.1);refine⟨A,λj x c=>?_⟩;obtain⟨z,-⟩:=lS.1 c;have g:=a j (by omega);rw[u]at g;obtain⟨y,d⟩:∃y,D[j]?=kd y:=⟨_,lG (by omega)⟩;rw[d]at g;obtain⟨i,o,q,-⟩:=DataW.trod_int v g;have f:=cG (λl=>l[j]?) b.1;simp only[List.getElem?_map,c,d,Option.map_some,q]at f;simp only[sj,DataW.lit.injEq,Lit.int.injEq,true_and]at f;subst f;have r:=cG (λl=>l[0]?) o;simpa[List.getElem?_drop,List.getElem?_take]using r
end
def b1m : String := (Rows.spliceJoinsRow.laid.map Prod.fst).headD ""
theorem d1q:Tryz.prog.globalNamed b1m=kd 0:=by kernel_rfl
def c1M:TypeId:=((Tryz.prog.globals[0]?).map (·.type)).getD 0
theorem b9f:(Tryz.prog.globals[0]?).map (·.type)=kd c1M:=by kernel_rfl
def c1N:TypeId:=match Tryz.prog.underlying c1M with|some (.array _ e)=>e|_=>0
theorem d1r:Tryz.prog.underlying c1M=kd (.array 64 c1N):=by kernel_rfl
theorem c6H:Tryz.prog.underlying c1N=kd (.int .u8):=by kernel_rfl
theorem c6I:Tryz.prog.cellsOf c1N=1:=by kernel_rfl
@[reducible] def laidTab:List (String×DataW Unit):=[(b1m,Rows.laid_math_bits_deBruijn64tab)]

theorem c1O {g:Nat} {t:Ty} {x:t.sI} (h:G0 g=kd ⟨t,x⟩):g=0/\(⟨t,x⟩:(t:Ty)×t.sI)=⟨.arr 64 (.int .u8),gM⟩:=by unfold G0 find at h;cases g with|zero=>exact⟨rfl,(Option.some.inj h).symm⟩|succ n=>exact absurd h (by simp[find])
theorem a4S{W:World}(h:laidMetH Tryz.prog laidTab W):∀g t x,G0 g=kd ⟨t,x⟩->g<W.heap.size/\AM (Ag W ke) t ((Src.at g 0).rd (Ag W ke))=kd (x,[],[]):=by(rw[MakeChecks.laidMetH_plain _ _ _ (by kernel_rfl)]at h;obtain⟨ps,⟨u,z,m,r,w,y,b,c,d,a,_⟩,_,_⟩:=h;obtain rfl:=Option.some.inj (d1q.symm.trans b);obtain rfl:=Option.some.inj (b9f.symm.trans c);have o:(Rows.laid_math_bits_deBruijn64tab:DataW Unit)=.agg (gM.map λi=>.lit (.int .u8 i)):=rfl;rw[o]at a;obtain⟨v,q⟩:=a1D d1r c6H c6I a;have k:∀(j:Nat) x,gM[j]?=kd x->W.cell? ⟨0,j,ke⟩=kd (.int .u8 x):=λj x l=>by rw[World.var?_cell b d j];simpa using q j x l);intro g t x p;obtain⟨rfl,e⟩:=c1O p;cases e;refine⟨a3G (k 0 0 rfl),?_⟩;exact cY (f:=λi=>AM (Ag W ke) (.int .u8) λj=>(Src.at 0 0).rd (Ag W ke) (i*1+j)) gM 0 (λj x l=>by have:=k j x l;simp only[AM,Src.rd,Ag,C7,Nat.mul_one,I0,this,if_true])
set_option maxRecDepth 100000 in
theorem b6V (os:Os) (args:Array Value):laidMetH Tryz.prog laidTab ((World.doorLaid Tryz.prog 400 os).forCall (λ_ _=>0) ⟨#[],args,[]⟩).memory:=laidMetH_of_parts3 (fuel:=8) (laidMet_of_run' 8 (by kernel_rfl) (by kernel_rfl)) (by kernel_rfl) (by kernel_rfl)
end Go.Proofs.YtkikcohfbelmeacGreatDoor
