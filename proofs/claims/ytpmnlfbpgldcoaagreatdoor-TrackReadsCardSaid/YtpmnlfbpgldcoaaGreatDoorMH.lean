/- Part of the proof: QKF. Conditions: as each statement tells. -/
import Derived.KernelRfl
import Derived.Test.YtpmnlfbpgldcoaaGreatDoorRows
import Derived.ProofKit
import Derived.LaidMore
import Derived.LaidLaws
import Derived.LaidHandle
import Derived.LaidByTextLater
import Derived.OpenShut
import Derived.Handed
import Derived.Test.YtpmnlfbpgldcoaaGreatDoorMG
noncomputable section
set_option linter.unusedSimpArgs false
set_option linter.unusedVariables false
open BitVec renaming ofInt->a00,toNat_ofInt->a31,toNat_and->a47
open Bool renaming not_false->a06,and_self->a07,eq_iff_iff->a70
open Int renaming eq_ofNat_of_zero_le->a01,natCast_nonneg->a05,toNat->a24,tmod_eq_emod_of_nonneg->a28,fdiv_eq_ediv_of_nonneg->a29,tdiv->a32,tmod->a33,cast_ofNat_Int->a39,tdiv_eq_ediv_of_nonneg->a40,natCast_mul->a52
open List renaming length_nil->a03,flatMap_cons->a04,append_inj->a08,take->a16,nil_append->a18,drop->a19,append_eq->a20,mem_of_mem_take->a22,getElem_mem->a23,mem_of_mem_drop->a27,flatMap_append->a30,concat_eq_append->a34,getElem?_append_left->a42,drop_eq_getElem_cons->a43,map_cons->a44,all_cons->a45,length_drop->a46,append_nil->a50,length_singleton->a53,take_append_drop->a54,eq_nil_or_concat->a55,range'->a56,range'_append_1->a59,range->a60,sum_cons->a61,getElem?_drop->a64,ext_getElem->a67,length->a68,range_succ->a69,drop_drop->a71
open Nat renaming mod_lt->a09,mul_le_mul->a15,lt_trans->a25,pow_le_pow_right->a26,and_two_pow_sub_one_eq_mod->a35,mul_le_mul_right->a36,le_of_lt->a37,zero_add->a38,mul_mod->a41,mod_eq_of_lt->a48,add_zero->a49,testBit_lt_two_pow->a51,le_sub_one_of_lt->a57,div_lt_of_lt_mul->a58,pos_of_ne_zero->a62,eq_zero_or_pos->a63,mul_comm->a65,lt_succ_of_lt->a66
open Option renaming bind_eq_some_iff->a02
namespace Go.Ab
open IntKind(wrap)
def d6V(z15:Int×(Int×Int×Rd×Sub×Sub×Unit)):Option (Sub×Int×Rd):=
 bif z15.2.2.2.1.2.2.1 != (0:Int)then some ((b0V 0),z15.2.2.2.1.2.2.1,z15.2.2.2.1)
 else(
 (a9h (z15.2.2.2.2.2.1,z15.1)).bind fun y16=>
 bif decide (y16<(0:Int))then some ((b0V 0),(2:Int),z15.2.2.2.1)
 else(
 (a1K (z15.2.2.2.1,y16,z15.2.2.1)).bind fun y17=>
 bif y17.2.2.2.1 != (0:Int)then some ((b0V 0),y17.2.2.2.1,y17.2)
 else(
 (show Option ((Int×Int×Rd×Sub×Sub×Unit) ⊕ (Int×Sub×Rd×Unit))from
 (a5k z15.2.2.2.2.2.1.1).bind fun y18=>
 bif y18 then(
 (a6t (y17.2,z15.1,y16)).bind fun y19=>
 bif y19.2.2.1 != (0:Int)then some (Sum.inr ((y19.2.2.1,(b0V 0),y19.2.2.2,())))
 else some (Sum.inl (z15.1,z15.2.1,y19.2.2.2,z15.2.2.2.2.1,(z15.2.2.2.2.2.1.1,z15.2.2.2.2.2.1.2.1,z15.2.2.2.2.2.1.2.2.1,z15.2.2.2.2.2.1.2.2.2.1,z15.2.2.2.2.2.1.2.2.2.2.1,z15.2.2.2.2.2.1.2.2.2.2.2.1,z15.2.2.2.2.2.1.2.2.2.2.2.2.1,z15.2.2.2.2.2.1.2.2.2.2.2.2.2.1,y17.1,y19.1,y19.2.1,z15.2.2.2.2.2.1.2.2.2.2.2.2.2.2.2.2.2),())))
 else some (Sum.inl (z15.1,z15.2.1,y17.2,z15.2.2.2.2.1,(z15.2.2.2.2.2.1.1,z15.2.2.2.2.2.1.2.1,z15.2.2.2.2.2.1.2.2.1,z15.2.2.2.2.2.1.2.2.2.1,z15.2.2.2.2.2.1.2.2.2.2.1,z15.2.2.2.2.2.1.2.2.2.2.2.1,z15.2.2.2.2.2.1.2.2.2.2.2.2.1,z15.2.2.2.2.2.1.2.2.2.2.2.2.2.1,y17.1,z15.2.2.2.2.2.1.2.2.2.2.2.2.2.2.2),()))).bind fun z20=>
 match z20 with
 |.inl a21=>(
 (show Option (Bool×Sub×Sub×Rd×Unit)from
 (a3u ((([]:(List Int)),()),a21.2.2.2.2.1,a21.1)).bind fun y23=>
 bif y23.1 != (0:Int)then some (true,a21.2.2.2.1,a21.2.2.2.2.1,a21.2.2.1,())
 else(
 (a5P (y23.2,a21.2.2.1,a21.2.1)).bind fun y24=>
 some (!y24.1,a21.2.2.2.1,a21.2.2.2.2.1,y24.2.2,()))).bind fun z25=>
 bif z25.1 then some ((b0V 0),(2:Int),z25.2.2.2.1)
 else some (z25.2.2.1,(0:Int),z25.2.2.2.1))
 |.inr b22=>some (b22.2.1,b22.1,b22.2.2.1))))
def mkS(k w o t g:Int)(c p:List Int)(st:List Stg):Sub:=(k,w,o,t,g,c,p,st,[],(0,[],()),[],())
def a9Q(v:Nat)(s:Sub):List Int:=
 if s.1=2 then pb s.2.2.1 3
 else if s.1=3 then b5g v s.2.2.2.2.2.1 s.2.2.2.1
 else if s.1=4 then pb (s.2.2.2.2.1-1) 10++(sB 8 s.2.2.2.2.2.2.1++b5g v s.2.2.2.2.2.1 s.2.2.2.1)
 else if s.1=5 then pb ((s.2.2.2.2.2.2.2.1.length:Nat):Int) 2++c2P s.2.2.2.2.2.2.2.1
 else[]
structure HeadOk (s:Sub) (w v:Nat):Prop where
 width:w<32
 cw:v<32
 same:s.1≠3/\s.1≠4->v=a0r s.2.2.2.2.2.1
 bare:s=Ab.bare s
 small:SmallS s
 coefs:s.2.2.2.2.2.1.length<=32
theorem e1L{L:List Int}(a:OkL L){r:Rd}(hr:St L r){n:Int}(n1:1<=n)(n2:n<=4096):
  ∃(s s':Sub)(w v:Nat)(k:Rd),HeadOk s w v/\St L k/\Stp L r k (pb s.1 3++(pb s.2.1 5++(pb (w:Int) 5++a9Q v s)))/\
   a4n r=some (s,(w:Int),(((a0r s.2.2.2.2.2.1:Nat):Int)==(v:Int)),k)/\
   a3v (r,n)=d6V (n,r.2.1,(w:Int),k,b0V 0,s',())/\(k.2.2.1=0->s'=s):=by
 obtain⟨K,r1,hK,a1,D,a3,G⟩:=a3b a hr (n:=3) (by omega);obtain⟨W,r2,hW,b1,b2,b3,b4⟩:=a3b a a3 (n:=5) (by omega);obtain⟨B,r3,C,E,F,H,I⟩:=a3b a b3 (n:=5) (by omega);have hK:K<8:=hK;have hW:W<32:=hW;have C:B<32:=C;rw[show((3:Nat):Int)=3 from rfl]at a1 D;rw[show((5:Nat):Int)=5 from rfl]at b1 b2 E F;have m:wrap .i64 (K:Int)=(K:Int):=a0c (by omega);have o:wrap .i64 (W:Int)=(W:Int):=a0c (by omega);have j:wrap .i64 (B:Int)=(B:Int):=a0c (by omega);have M:decide (n<1)=false:=by simp;omega
 have P:decide (n > 4096)=false:=by simp;omega
 have hk:K=2\/K=3\/K=4\/K=5\/(K≠2/\K≠3/\K≠4/\K≠5):=by omega
 rcases hk with rfl|rfl|rfl|rfl|⟨k2,k3,k4,k5⟩;obtain⟨O,X,hO,p,q,R,S⟩:=a3b a H (n:=3) (by omega);have hO:O<8:=hO;rw[show((3:Nat):Int)=3 from rfl]at p q;have wO:wrap .i64 (O:Int)=(O:Int):=a0c (by omega);have f:(((2:Nat):Int)==2)=true:=rfl;refine⟨mkS 2 (W:Int) (O:Int) 0 0 [] [0,0,0] [],_,B,0,X,⟨C,by decide,fun _=>rfl,rfl,⟨by simp[mkS],rfl,by simp[mkS],by simp[mkS],by simp[mkS],by simp[mkS]⟩,by simp[mkS]⟩,R,?_,?_,?_,fun _=>rfl⟩;exact Stp.trans G (Stp.trans b4 (Stp.trans I S));simp only[a4n,a1,b1,E,oB,m,o,j,f,cT,p,wO];rfl;simp only[a3v,M,P,cF,D,b2,F,oB,m,o,j,f,cT,q,wO];rfl;have f:(((3:Nat):Int)==2)=false:=rfl;have d:(((3:Nat):Int)==3)=true:=rfl;have i:(((3:Nat):Int)==4)=false:=rfl;obtain⟨c,t,v,k,q1,q2,q3,q4,q5,q6,q7,c',V,q9⟩:=c0x a H (mkS ((3:Nat):Int) (W:Int) 0 0 0 [] [0,0,0] []) rfl;refine⟨mkS 3 (W:Int) 0 (t:Int) 0 c [0,0,0] [],mkS 3 (W:Int) 0 (t:Int) 0 c' [0,0,0] [],B,v,k,⟨C,q4,fun h=>absurd rfl h.1,rfl,⟨by simp[mkS];omega,rfl,by simp[mkS],by simp[mkS],by simp[mkS],by simp[mkS]⟩,q2⟩,q5,?_,?_,?_,fun h=>by rw[q9 h]⟩;exact Stp.trans G (Stp.trans b4 (Stp.trans I q6));simp only[a4n,a1,b1,E,oB,m,o,j,f,d,i,cT,cF]
 erw[q7]
 rfl;simp only[a3v,M,P,cF,D,b2,F,oB,m,o,j,f,d,cT]
 erw[V]
 rfl;have f:(((4:Nat):Int)==2)=false:=rfl;have d:(((4:Nat):Int)==3)=false:=rfl;have i:(((4:Nat):Int)==4)=true:=rfl;obtain⟨A,X,hA,p,q,R,S⟩:=a3b a H (n:=10) (by omega);have hA:A<1024:=hA;rw[show((10:Nat):Int)=10 from rfl]at p q;have wA:wrap .i64 (A:Int)=(A:Int):=a0c (by omega);have U:wrap .i64 ((A:Int)+1)=(A:Int)+1:=a0c (by omega);obtain⟨x,y,z,u,Y,t2,t3,l,Z,tl,t5,t6,t7⟩:=e3z a R (B:Int) (mkS ((4:Nat):Int) (W:Int) 0 0 ((A:Int)+1) [] [0,0,0] []) rfl n r.2.1 (B:Int) (b0V 0);obtain⟨c,t,v,k,q1,q2,q3,q4,q5,q6,q7,c',V,q9⟩:=c0x a Y (mkS ((4:Nat):Int) (W:Int) 0 0 ((A:Int)+1) [] [x,y,z] []) rfl;obtain⟨c0,t0,v0,r0,u1,u2,u3,u4,u5,u6,u7,u8,u9,h4⟩:=c0x a Y (mkS ((4:Nat):Int) (W:Int) 0 0 ((A:Int)+1) [] tl []) rfl;have T:∃s',a3q (u,mkS ((4:Nat):Int) (W:Int) 0 0 ((A:Int)+1) [] tl [])=some (k,s')/\(k.2.2.1=0->s'=mkS 4 (W:Int) 0 (t:Int) ((A:Int)+1) c [x,y,z] []):=by
  by_cases h0:u.2.2.1=0
  rw[t7 h0];exact⟨_,V,fun h=>by rw[q9 h];rfl⟩;have hb:∀s0:Sub,a3q (u,s0)=some (u,b8F (c5Z s0 0) []):=fun s0=>by
   have h1:a1K (u,wrap .i64 (wrap .i64 0+1),wrap .i64 0)=some ([],u):=by
    have e0:(u.2.2.1==(0:Int))=false:=by simpa using h0
    unfold a1K;rw[a0g (b:=([],u,())) (by
     simp only[a1V,show decide ((0:Int)<wrap .i64 (wrap .i64 0+1))=true from by decide,cT,e0,cF])]
    rfl
   simp only[a3q,c6h h0,oB,h1];rfl
  have e:=V;rw[hb]at e;simp only[sj,pJ]at e;obtain⟨rfl,-⟩:=e;exact⟨_,hb _,fun h=>absurd h h0⟩
 obtain⟨s',h2,h3⟩:=T;refine⟨mkS 4 (W:Int) 0 (t:Int) ((A:Int)+1) c [x,y,z] [],s',B,v,k,⟨C,q4,fun h=>absurd rfl h.2,rfl,⟨by simp[mkS];omega,rfl,by simp[mkS],by simp[mkS],by simp[mkS],by simp[mkS]⟩,q2⟩,q5,?_,?_,?_,h3⟩;have e:a9Q v (mkS 4 (W:Int) 0 (t:Int) ((A:Int)+1) c [x,y,z] [])=pb (A:Int) 10++(sB 8 [x,y,z]++b5g v c (t:Int)):=by
  show pb ((A:Int)+1-1) 10++_=_;rw[show(A:Int)+1-1=(A:Int)from by omega];rfl
 rw[e];exact Stp.trans G (Stp.trans b4 (Stp.trans I (Stp.trans S (Stp.trans t2 q6))));simp only[a4n,a1,b1,E,oB,m,o,j,f,i,cT,cF,p,wA,U]
 erw[t3]
 simp only[oB]
 erw[q7]
 rfl;simp only[a3v,M,P,cF,D,b2,F,oB,m,o,j,f,d,i,cT,q,wA,U,Z]
 erw[t6]
 simp only[oB]
 erw[h2]
 rfl;have f:(((5:Nat):Int)==2)=false:=rfl;have d:(((5:Nat):Int)==3)=false:=rfl;have i:(((5:Nat):Int)==4)=false:=rfl;have Q:(((5:Nat):Int)==5)=true:=rfl;obtain⟨N,X,hN,p,q,R,S⟩:=a3b a H (n:=2) (by omega);have hN:N<4:=hN;rw[show((2:Nat):Int)=2 from rfl]at p q;have wN:wrap .i64 (N:Int)=(N:Int):=a0c (by omega);obtain⟨g,k,Y,t2,t3,Z,t5⟩:=c8i a (B:Int) true (mkS ((5:Nat):Int) (W:Int) 0 0 0 [] [0,0,0] []) n r.2.1 (B:Int) (b0V 0) (N:=N) (by omega) N [] X (by simp) R;simp only[a03,nZ,a39,a18]at Z t5;refine⟨mkS 5 (W:Int) 0 0 0 [] [0,0,0] g,_,B,0,k,⟨C,by decide,fun _=>rfl,rfl,⟨by simp[mkS],rfl,by simp[mkS];omega,by simp[mkS],by simp[mkS],by simp[mkS]⟩,by simp[mkS]⟩,t2,?_,?_,?_,fun _=>rfl⟩;have e:a9Q 0 (mkS 5 (W:Int) 0 0 0 [] [0,0,0] g)=pb (N:Int) 2++c2P g:=by
  show pb ((g.length:Nat):Int) 2++_=_;rw[Y];rfl
 rw[e];exact Stp.trans G (Stp.trans b4 (Stp.trans I (Stp.trans S t3)));simp only[a4n,a1,b1,E,oB,m,o,j,f,d,i,Q,cT,cF,p]
 erw[Z]
 rfl;simp only[a3v,M,P,cF,D,b2,F,oB,m,o,j,f,d,i,Q,cT,q,wN]
 erw[t5]
 rfl;have f:((K:Int)==2)=false:=by rw[beq_eq_false_iff_ne];omega
 have d:((K:Int)==3)=false:=by rw[beq_eq_false_iff_ne];omega
 have i:((K:Int)==4)=false:=by rw[beq_eq_false_iff_ne];omega
 have Q:((K:Int)==5)=false:=by rw[beq_eq_false_iff_ne];omega
 refine⟨mkS (K:Int) (W:Int) 0 0 0 [] [0,0,0] [],_,B,0,r3,⟨C,by decide,fun _=>rfl,rfl,⟨by simp[mkS],rfl,by simp[mkS],by simp[mkS],by simp[mkS],by simp[mkS]⟩,by simp[mkS]⟩,H,?_,?_,?_,fun _=>rfl⟩;have e:a9Q 0 (mkS (K:Int) (W:Int) 0 0 0 [] [0,0,0] [])=[]:=by
  unfold a9Q mkS;simp only;rw[if_neg (by omega),if_neg (by omega),if_neg (by omega),if_neg (by omega)]
 rw[e,a50];exact Stp.trans G (Stp.trans b4 I);simp only[a4n,a1,b1,E,oB,m,o,j,f,d,i,Q,cF];rfl;simp only[a3v,M,P,cF,D,b2,F,oB,m,o,j,f,d,i,Q];rfl
theorem d4m{n v w:Nat}(g:n<=62)(hv:v<2^n)(k:w<2^n)(h:pb (v:Int) n=pb (w:Int) n):v=w:=by
 have hp:2^n<=2^62:=a26 (by decide) g;have ok:∀u:Nat,u<2^n->OkR [] (pb (u:Int) n++[]):=fun u b=>⟨by simpa using d9w (v:=u) (by omega) n (by omega),by simp[a3a];omega⟩;have f:=d4a g hv (ok v hv);have a:=d4a g k (ok w k);rw[h,a]at f;simp only[sj,pJ]at f;omega
theorem e5k{s:Sub}{w v:Nat}(i:w<32)(hv:v<32)(f:a0r s.2.2.2.2.2.2.2.2.1<32)(g:a0r s.2.2.2.2.2.1<32)(d:s.1≠3/\s.1≠4->v=a0r s.2.2.2.2.2.1)(X:List Int):
  ((b7W s++b2a s)++(sB (a0r s.2.2.2.2.2.2.2.2.1) s.2.2.2.2.2.2.2.2.1++X)=(pb s.1 3++(pb s.2.1 5++(pb (w:Int) 5++a9Q v s)))++(sB w s.2.2.2.2.2.2.2.2.1++X))↔(a0r s.2.2.2.2.2.2.2.2.1=w/\a0r s.2.2.2.2.2.1=v):=by
 have c:∀u,a0r s.2.2.2.2.2.1=u->a9Q u s=b2a s:=fun u e=>by
  unfold a9Q b2a b5f b5g;rw[e]
 constructor;intro h;unfold b7W at h;simp only[aA]at h;obtain⟨-,h⟩:=a08 h rfl;obtain⟨-,h⟩:=a08 h rfl;obtain⟨hp,h⟩:=a08 h (by rw[a3a,a3a]);have k:=d4m (n:=5) (by omega) f i hp;refine⟨k,?_⟩
 by_cases h3:s.1=3
 unfold b2a a9Q b5f b5g at h;rw[if_neg (by omega),if_pos h3,if_neg (by omega),if_pos h3]at h;simp only[aA]at h;obtain⟨-,h⟩:=a08 h rfl;obtain⟨-,h⟩:=a08 h rfl;obtain⟨hp,h⟩:=a08 h (by rw[a3a,a3a]);exact d4m (n:=5) (by omega) g hv hp
 by_cases h4:s.1=4
 unfold b2a a9Q b5f b5g at h;rw[if_neg (by omega),if_neg (by omega),if_pos h4,if_neg (by omega),if_neg (by omega),if_pos h4]at h;simp only[aA]at h;obtain⟨-,h⟩:=a08 h rfl;obtain⟨-,h⟩:=a08 h rfl;obtain⟨-,h⟩:=a08 h rfl;obtain⟨-,h⟩:=a08 h rfl;obtain⟨hp,h⟩:=a08 h (by rw[a3a,a3a]);exact d4m (n:=5) (by omega) g hv hp;exact(d ⟨h3,h4⟩).symm
 rintro⟨a,b⟩
 rw[c v b,<-a];unfold b7W;simp only[aA]
theorem e6q{L:List Int}(f:a1t L)(k:L.length<1000000000){i:Nat}(hi:i<L.length):∃x,a0m (wL L).1 (wrap .i64 (a32 (i:Int) 8))=some x/\bits .u8 .and (a0v .u8 x (wrap .i64 (7-a33 (i:Int) 8))) 1=L.getD i 0:=by
 have h:=b9o f k hi ((0:Int),(0:Int),());have a:a33 (i:Int) 8=((i%8:Nat):Int):=by rw[a28 (by omega)];omega
 have g:decide (wrap .i64 (7-a33 (i:Int) 8)<0)=false:=by rw[a,a0c (by omega)];simp;omega
 unfold a1p at h;simp only[g,cF]at h;cases hx:a0m (wL L).1 (wrap .i64 (a32 (i:Int) 8))with
 |none=>rw[hx]at h;cases h
 |some x=>
  rw[hx]at h;simp only[oB,sj,pJ]at h;exact⟨x,rfl,h.1⟩
theorem c1a{L P A R B:List Int}(d:OkL L)(e:P++(A++R)=L)(s:B.length=A.length)(k:Rd)(t:k=rdr (P++A) R):∀(m i:Nat),i+m=B.length->(∀j,j<i->B.getD j 0=A.getD j 0)->
  a0d a5t ((P.length:Int),(i:Int),(B,()),k,())=some (if B=A then .inl ((B,()),k,())else .inr (false,(B,()),k,()))
 |0,i,hm,hj=>by
  have hi:i=B.length:=by omega
  subst hi;have e:B=A:=by
   apply a67 s;intro j r y
   have:=hj j r
   simpa[lD,r,y]using this
  rw[if_pos e];exact a0g (by simp only[a5t,dge,cF])
 |m+1,i,hm,hj=>by
  have l:i<B.length:=by omega
  have v:decide ((0:Int)<=(i:Int))=true:=by simp
  have D:=d.len;have b:P.length+i<L.length:=by rw[<-e];simp;omega
  have C:wrap .i64 ((P.length:Int)+(i:Int))=((P.length+i:Nat):Int):=by rw[a0c (by omega)];omega
  obtain⟨x,p,c⟩:=e6q d.bits (by omega) b;have n:k.1=(wL L).1:=by rw[t,<-e];simp[rdr]
  have u:a33 ((P.length+i:Nat):Int) 8=(((P.length+i)%8:Nat):Int):=by rw[a28 (by omega)];omega
  have q:wrap .i64 (7-(((P.length+i)%8:Nat):Int))=7-(((P.length+i)%8:Nat):Int):=a0c (by omega);have w:wrap .u64 (7-(((P.length+i)%8:Nat):Int))=7-(((P.length+i)%8:Nat):Int):=a0p (by omega);have g:decide (7-(((P.length+i)%8:Nat):Int)<0)=false:=by simp;omega
  have z:L.getD (P.length+i) 0=A.getD i 0:=by
   rw[<-e,c2Y];simp only[lD];rw[a42 (by omega)]
  rw[u,q,z]at c;have f:a5t ((P.length:Int),(i:Int),(B,()),k,())=bif (B.getD i 0 != A.getD i 0)then some (.inr (.inr (false,(B,()),k,())))else some (.inl ((P.length:Int),((i+1:Nat):Int),(B,()),k,())):=by
   have o:wrap .i64 ((i:Int)+1)=((i+1:Nat):Int):=by rw[a0c (by omega)];omega
   simp only[a5t,dlt l,v,a07,cT,C,n,p,oB,u,q,w,g,cF,tN,c,o]
  by_cases hb:B.getD i 0=A.getD i 0
  have a:(B.getD i 0 != A.getD i 0)=false:=by simpa using hb
  rw[a]at f;rw[a0k f];exact c1a d e s k t m (i+1) (by omega) fun j h=>by
   by_cases hji:j=i
   rw[hji];exact hb;exact hj j (by omega)
  have a:(B.getD i 0 != A.getD i 0)=true:=by simpa using hb
  rw[a]at f
  have:B≠A:=fun h=>hb (by rw[h])
  rw[if_neg this];exact a0g f
theorem d6h{L P A R B:List Int}(k:OkL L)(e:P++(A++R)=L)(b:B.length<1000000000):a5P ((B,()),rdr (P++A) R,(P.length:Int))=some (decide (B=A),(B,()),rdr (P++A) R):=by
 have d:=k.len;have a:P.length+A.length<=L.length:=by rw[<-e];simp only[lN];omega
 have c:wrap .i64 ((rdr (P++A) R).2.1-(P.length:Int))=(A.length:Int):=by
  show wrap .i64 (((P++A).length:Int)-(P.length:Int))=_;rw[lN,a0c (by omega)];omega
 unfold a5P b3r;simp only[oB,c]
 by_cases hB:B.length=A.length
 have g:(((B.length:Nat):Int) != (A.length:Int))=false:=by simp;omega
 have f:=c1a k e hB _ rfl B.length 0 (by omega) (fun j h=>by omega);simp only[nZ]at f;simp only[g,cF]
 erw[f]
 by_cases hBA:B=A
 rw[if_pos hBA,decide_eq_true hBA];rfl;rw[if_neg hBA,decide_eq_false hBA];rfl;have g:(((B.length:Nat):Int) != (A.length:Int))=true:=by simp;omega
 have:B≠A:=fun h=>hB (by rw[h])
 simp only[g,cT,decide_eq_false this]
theorem e3A{wd:Nat}{N:Nat}(f:N<1000000)(n:Int)(ok:Bool)(z s:Sub){r r':Rd}{l:List Int}(h:Rds wd r l r'):∀(d:List Int),d.length+l.length=N->
  a0d b3c (n,(wd:Int),ok,(N:Int),(d.length:Int),r,z,a1F s d,())=some (n,(wd:Int),ok,r',z,a1F s (d++l),()):=by
 induction h with
 |nil r=>
  intro d g
  have:d.length=N:=by simpa using g
  rw[a50];exact a0g (by simp only[b3c,this,dge,cF])
 | @cons r r1 r2 x l h1 h2 h ih=>
  intro d g;rw[lC]at g;rw[a0k (s':=(n,(wd:Int),ok,(N:Int),(((d++[x]).length:Nat):Int),r1,z,a1F s (d++[x]),())) (by
   simp only[b3c,dlt (show d.length<N by omega),cT,h1,oB,a1F,a0H (show d.length+1<2147483648 by omega),a0b (show d.length<1000000 by omega)]
   simp)]
  rw[ih (d++[x]) (by simp;omega)]
  simp
def a8D(s:Sub)(p:Prt)(l:List Int):Sub:=(s.1,s.2.1,s.2.2.1,s.2.2.2.1,s.2.2.2.2.1,s.2.2.2.2.2.1,s.2.2.2.2.2.2.1,s.2.2.2.2.2.2.2.1,s.2.2.2.2.2.2.2.2.1,p,l,s.2.2.2.2.2.2.2.2.2.2.2)
theorem d0M{L P A R:List Int}(j:OkL L)(e:P++(A++R)=L){s:Sub}(h:SmallS s)(n:Int){zn:List Nat}(m:s.1≠0/\s.1≠1->PartsOk s.2.2.2.2.2.2.2.2.2.1 n ((s.2.2.2.2.2.2.2.2.1.length:Nat):Int) s.2.2.2.2.2.2.2.2.2.2.1 zn):
  ∃(q:Int)(B:List Int),a3u ((([]:List Int),()),s,n)=some (q,B,())/\((a2J s n).isSome=false->q=1)/\
   ((a2J s n).isSome=true->q=0/\a5P ((B,()),rdr (P++A) R,(P.length:Int))=some (decide (a4W s zn=A),(B,()),rdr (P++A) R)):=by
 obtain⟨q,B,a,p,b,c,d⟩:=c0q h (n:=n) (L:=[]) (by simp);refine⟨q,B,a,fun h=>(d h).1,fun f=>?_⟩;obtain⟨rfl,o,i,g⟩:=c f;have l:=c4S f;have k:B=a4W s zn:=by
  rw[i,c4U l g]
  by_cases hk:s.1=0\/s.1=1
  unfold a4W;rw[if_pos hk,if_pos hk];rfl;rw[d0x (g (not_or.1 hk)) (m (not_or.1 hk))];rfl
 refine⟨rfl,?_⟩;rw[d6h j e (by simp at b;omega),k]
theorem e8B(b1 b2:Bool){α:Type}(E:α):(bif !b1 then E else bif b2 then E else E)=E:=by cases b1<;>cases b2<;>rfl
theorem e5l{b1 b2:Bool}(h:¬ (b1=true/\b2=false)){α:Type}(E F:α):(bif !b1 then E else bif b2 then E else F)=E:=by
 cases b1<;>cases b2<;>first|rfl|exact absurd ⟨rfl,rfl⟩ h
theorem c8j{l:List Int}(h:l.all a0i=true):a0r l<32:=by have:=b1y h;omega
theorem d6i{L P R:List Int}(K:OkL L)(e:P++R=L){n:Int}(n1:1<=n)(n2:n<=4096):
  (∃(s:Sub)(a:List Nat)(R':List Int),SmallS s/\(a2J s n).isSome=true/\(s.1≠0/\s.1≠1->PartsOk s.2.2.2.2.2.2.2.2.2.1 n ((s.2.2.2.2.2.2.2.2.1.length:Nat):Int) s.2.2.2.2.2.2.2.2.2.2.1 a)/\R=a4W s a++R'/\
   b4X (rdr P R,n)=some (s,(0:Int),rdr (P++a4W s a) R')/\a3v (rdr P R,n)=some (s,(0:Int),rdr (P++a4W s a) R'))\/
  ∃(s s':Sub)(q q':Int)(r' r'':Rd),q≠0/\q'≠0/\b4X (rdr P R,n)=some (s,q,r')/\a3v (rdr P R,n)=some (s',q',r''):=by
 obtain⟨s,s',w,v,r1,f,h7,V,hp,hq,h5⟩:=e1L K (r:=rdr P R) (.inr ⟨P,R,e,rfl⟩) n1 n2;have hw:=f.width;have hv:=f.cw;have d1:decide (n<1)=false:=by simp;omega
 have d2:decide (n > 4096)=false:=by simp;omega
 have z0:((rdr P R).2.2.1 != (0:Int))=false:=rfl;have zz:(rdr P R).2.1=(P.length:Int):=rfl;rw[hq];unfold b4X a0n d6V;simp only[d1,d2,cF,z0,hp,oB]
 by_cases e1:r1.2.2.1=0
 rotate_left;simp only[a4e e1,cT];exact .inr ⟨_,_,_,_,_,_,e1,e1,rfl,rfl⟩;have h0:(r1.2.2.1 != (0:Int))=false:=by simpa using e1
 have h6:=h5 e1;subst h6;simp only[h0,cF,c7R f.small,c5W,d3T f.small,b6Y,oB]
 by_cases hf:b1g s'.1 s' n
 rotate_left;simp only[hf,decide_false,a06,cT,if_false,show decide ((-1:Int)<0)=true from rfl];exact .inr ⟨_,_,_,_,_,_,by decide,by decide,rfl,rfl⟩;obtain⟨m0,m1⟩:=b8B f.small n1 n2 hf;obtain⟨m,hm⟩:=a01 m0;have g3:(m:Int)<=n:=by
  rw[<-hm];unfold a1i;rcases hf with k|k|⟨k,t⟩|⟨k,t⟩|⟨k,t⟩|⟨k,t⟩<;>simp[k]<;>omega
 have m2:m<=4096:=by omega
 have dm:decide ((m:Int)<0)=false:=by simp
 simp only[hf,decide_true,bT,cF,if_true,d0t,oB,hm,dm];obtain⟨l,r2,q1,q2,q3,q4,q5⟩:=c2Z K (n:=w) (by omega) m h7;have hW:=e3A (N:=m) (by omega) n (((a0r s'.2.2.2.2.2.1:Nat):Int)==(v:Int)) (b0V 0) s' q1 [] (by simpa using q2);obtain⟨l',q7,q8⟩:=c3I (by omega) q1;rw[q2]at q7;have hb:a1F s' []=s':=by rw[f.bare];rfl
 simp only[a03,nZ,a39,a18,hb]at hW
 erw[hW]
 simp only[q7,oB]
 by_cases e2:r2.2.2.1=0
 rotate_left;simp only[a4e e2,cT];exact .inr ⟨_,_,_,_,_,_,e2,e2,rfl,rfl⟩;have h1:(r2.2.2.1 != (0:Int))=false:=by simpa using e2
 have h2:=q8 e2;subst h2;have h4:=d0L (n:=w) (by omega) q3;have X:=c8j h4;have c:short l':=by unfold short;omega
 have h9:a0r s'.2.2.2.2.2.1<33:=by have:=b0o s'.2.2.2.2.2.1;omega
 have g0:=c7Y hf;simp only[h1,cF,d0u,a6V,oB]

 have M:a0r s'.2.2.2.2.2.1<32:=by
  by_cases h34:s'.1≠3/\s'.1≠4
  rw[<-f.same h34];exact hv
  have:b0l s'.2.2.2.2.2.1 s'.2.2.2.1=true:=by
   rcases hf with k|k|⟨k,t⟩|⟨k,t⟩|⟨k,t⟩|⟨k,t⟩;omega;omega;omega;exact t.1;exact t.1;omega
  exact c8j (d0A this).2.2.2.2
 have I:=Stp.trans V q5
 by_cases hk:s'.1=0\/s'.1=1
 ·have dk:decide (s'.1≠0/\s'.1≠1)=false:=by rw[decide_eq_false_iff_not];omega
  have dg:decide (2<=s'.1/\s'.1<=5)=false:=by rw[decide_eq_false_iff_not];omega
  have y:decide ((a1F s' l').1≠0/\(a1F s' l').1≠1)=false:=dk;obtain⟨P0,R0,H,f2,f3⟩:=I e2;obtain⟨rfl,rfl⟩:=c9L (by rw[e,H]) f2;have C:SmallS (a1F s' l'):=⟨f.small.coefs,f.small.taps,f.small.stages,by show l'.length<=5000;omega,f.small.rest,f.small.ks⟩;have Y:(a1F s' l').1≠0/\(a1F s' l').1≠1->PartsOk (a1F s' l').2.2.2.2.2.2.2.2.2.1 n (((a1F s' l').2.2.2.2.2.2.2.2.1.length:Nat):Int) (a1F s' l').2.2.2.2.2.2.2.2.2.2.1 []:=fun h=>by
   have:s'.1≠0/\s'.1≠1:=h
   omega
  obtain⟨q,B,p1,Z,p3⟩:=d0M K H C n Y;have g:=e5k (s:=a1F s' l') (w:=w) (v:=v) hw hv X M f.same [];have j:=c7U C n;have F:a4W (a1F s' l') []=(b7W (a1F s' l')++b2a (a1F s' l'))++(sB (a0r (a1F s' l').2.2.2.2.2.2.2.2.1) (a1F s' l').2.2.2.2.2.2.2.2.1++[]):=by
   unfold a4W;rw[if_pos (show(a1F s' l').1=0\/(a1F s' l').1=1 from hk)]
  rw[<-F,a50]at g;have g:a4W (a1F s' l') []=(pb s'.1 3++(pb s'.2.1 5++(pb (w:Int) 5++a9Q v s')))++sB w l'↔(a0r l'=w/\a0r s'.2.2.2.2.2.1=v):=g;simp only[y,dg,cF];rw[show(a1F s' l').2.2.2.2.2.2.2.2.1=l' from rfl,a6W c];simp only[oB,j];have E:a3u ((([]:List Int),()),(s'.1,s'.2.1,s'.2.2.1,s'.2.2.2.1,s'.2.2.2.2.1,s'.2.2.2.2.2.1,s'.2.2.2.2.2.2.1,s'.2.2.2.2.2.2.2.1,l',s'.2.2.2.2.2.2.2.2.2),n)=some (q,B,()):=p1;simp only[E,oB];cases i:(a2J (a1F s' l') n).isSome with
  |false=>
   obtain rfl:=Z i;simp only[a06,cT,e8B,show((1:Int) != 0)=true from rfl,oB];exact .inr ⟨_,_,_,_,_,_,by decide,by decide,rfl,rfl⟩
  |true=>
   obtain⟨rfl,p4⟩:=p3 i;rw[f3,zz];simp only[bT,cF,show((0:Int) != 0)=false from rfl,p4,oB]
   by_cases hc:a0r l'=w/\a0r s'.2.2.2.2.2.1=v
   have b1:((((a0r s'.2.2.2.2.2.1:Nat):Int))==(v:Int))=true:=by rw[hc.2];simp
   have b2:((((a0r l':Nat):Int)) != (w:Int))=false:=by rw[hc.1];simp
   have d:=g.2 hc;simp only[b1,b2,bT,cF,decide_eq_true d];refine .inl ⟨a1F s' l',[],R0,C,i,Y,by rw[d],?_,?_⟩;rw[d];rw[d];rfl;have D:¬ (((((a0r s'.2.2.2.2.2.1:Nat):Int))==(v:Int))=true/\((((a0r l':Nat):Int)) != (w:Int))=false):=by
    rintro⟨z,A⟩
    simp at z A;exact hc ⟨by omega,by omega⟩
   have d:¬ a4W (a1F s' l') []=(pb s'.1 3++(pb s'.2.1 5++(pb (w:Int) 5++a9Q v s')))++sB w l':=fun h=>hc (g.1 h);simp only[e5l D,decide_eq_false d,a06,cT];exact .inr ⟨_,_,_,_,_,_,by decide,by decide,rfl,rfl⟩
 ·have dk:decide (s'.1≠0/\s'.1≠1)=true:=by rw[dT];omega
  have dg:decide (2<=s'.1/\s'.1<=5)=true:=by rw[dT];omega
  have y:decide ((a1F s' l').1≠0/\(a1F s' l').1≠1)=true:=dk;have U:a9o n (m:Int)=true:=by
   simp only[a9o,bA9,dT];omega
  simp only[y,dg,cT];rw[show(a1F s' l').2.2.2.2.2.2.2.2.1=l' from rfl,q2];rcases d9D K q4 U with⟨p,u,a,r3,x,e3,h8,G,z,A⟩|⟨q,q',p,p',u,u',r3,r4,O,S,z,A⟩;rotate_left;have Q:(q != (0:Int))=true:=by simpa using O
  have T:(q' != (0:Int))=true:=by simpa using S
  simp only[z,A,oB,Q,T,cT];exact .inr ⟨_,_,_,_,_,_,O,S,rfl,rfl⟩;simp only[z,A,oB,show((0:Int) != 0)=false from rfl,cF];obtain⟨P0,R0,H,f2,f3⟩:=(Stp.trans I G) e3;obtain⟨rfl,rfl⟩:=c9L (by rw[e,H]) f2;have C:SmallS (a8D (a1F s' l') p u):=⟨f.small.coefs,f.small.taps,f.small.stages,by show l'.length<=5000;omega,x.short,by show p.2.1.length<=300;have:=x.ks;have:=x.len;omega⟩;have Y:(a8D (a1F s' l') p u).1≠0/\(a8D (a1F s' l') p u).1≠1->PartsOk (a8D (a1F s' l') p u).2.2.2.2.2.2.2.2.2.1 n (((a8D (a1F s' l') p u).2.2.2.2.2.2.2.2.1.length:Nat):Int) (a8D (a1F s' l') p u).2.2.2.2.2.2.2.2.2.2.1 a:=fun _=>by
   show PartsOk p n ((l'.length:Nat):Int) u a;rw[q2];exact x
  obtain⟨q,B,p1,Z,p3⟩:=d0M K H C n Y;have g:=e5k (s:=a8D (a1F s' l') p u) (w:=w) (v:=v) hw hv X M f.same (a6X p a u);have j:=c7U C n;have F:a4W (a8D (a1F s' l') p u) a=(b7W (a8D (a1F s' l') p u)++b2a (a8D (a1F s' l') p u))++(sB (a0r (a8D (a1F s' l') p u).2.2.2.2.2.2.2.2.1) (a8D (a1F s' l') p u).2.2.2.2.2.2.2.2.1++a6X p a u):=by
   unfold a4W;rw[if_neg (show ¬ ((a8D (a1F s' l') p u).1=0\/(a8D (a1F s' l') p u).1=1)from hk)];rfl
  rw[<-F]at g;have g:a4W (a8D (a1F s' l') p u) a=(pb s'.1 3++(pb s'.2.1 5++(pb (w:Int) 5++a9Q v s')))++sB w l'++a6X p a u↔(a0r l'=w/\a0r s'.2.2.2.2.2.1=v):=by
   rw[aA];exact g
  have o:b2C ((s'.1,s'.2.1,s'.2.2.1,s'.2.2.2.1,s'.2.2.2.2.1,s'.2.2.2.2.2.1,s'.2.2.2.2.2.2.1,s'.2.2.2.2.2.2.2.1,l',p,u,s'.2.2.2.2.2.2.2.2.2.2.2),n)=some (a2J (a8D (a1F s' l') p u) n).isSome:=j;have E:a3u ((([]:List Int),()),(s'.1,s'.2.1,s'.2.2.1,s'.2.2.2.1,s'.2.2.2.2.1,s'.2.2.2.2.2.1,s'.2.2.2.2.2.2.1,s'.2.2.2.2.2.2.2.1,l',p,u,s'.2.2.2.2.2.2.2.2.2.2.2),n)=some (q,B,()):=p1;obtain⟨bm,i⟩:∃b,(a2J (a8D (a1F s' l') p u) n).isSome=b:=⟨_,rfl⟩;rw[i]at o Z p3;simp only[a1F,a6W c,oB,o,E];cases bm with
  |false=>
   obtain rfl:=Z rfl;simp only[a06,cT,e8B,show((1:Int) != 0)=true from rfl,oB];exact .inr ⟨_,_,_,_,_,_,by decide,by decide,rfl,rfl⟩
  |true=>
   obtain⟨rfl,p4⟩:=p3 rfl;rw[f3,zz];simp only[bT,cF,show((0:Int) != 0)=false from rfl,p4,oB]
   by_cases hc:a0r l'=w/\a0r s'.2.2.2.2.2.1=v
   have b1:((((a0r s'.2.2.2.2.2.1:Nat):Int))==(v:Int))=true:=by rw[hc.2];simp
   have b2:((((a0r l':Nat):Int)) != (w:Int))=false:=by rw[hc.1];simp
   have d:=g.2 hc;simp only[b1,b2,bT,cF,decide_eq_true d];refine .inl ⟨a8D (a1F s' l') p u,a,R0,C,i,Y,by rw[d],?_,?_⟩;rw[d];rfl;rw[d];rfl;have D:¬ (((((a0r s'.2.2.2.2.2.1:Nat):Int))==(v:Int))=true/\((((a0r l':Nat):Int)) != (w:Int))=false):=by
    rintro⟨z,A⟩
    simp at z A;exact hc ⟨by omega,by omega⟩
   have d:¬ a4W (a8D (a1F s' l') p u) a=(pb s'.1 3++(pb s'.2.1 5++(pb (w:Int) 5++a9Q v s')))++sB w l'++a6X p a u:=fun h=>hc (g.1 h);simp only[e5l D,decide_eq_false d,a06,cT];exact .inr ⟨_,_,_,_,_,_,by decide,by decide,rfl,rfl⟩
def a3c(bs:List Int):List Int:=bs.flatMap fun b=>pb b 8
theorem b0u:∀(bs:List Int),(a3c bs).length=bs.length*8
 | []=>rfl
 |b::bs=>by
  have:=b0u bs
  unfold a3c at this|-;rw[a04,lN,a3a,this,lC];omega
theorem b8H:∀(bs:List Int),a5g bs->a1t (a3c bs)
 | [],_=>fun b hb=>by cases hb
 |b::bs,h=>by
  obtain⟨n,f⟩:=a01 (h b (by simp)).1;have k:=(h b (by simp)).2;unfold a3c;rw[a04,f];exact a1t.app (d9w (by omega) 8 (by omega)) (b8H bs fun c g=>h c (by simp[g]))
theorem d6W(v:Int):∀(n i:Nat),i<n->(pb v n).getD i 0=a4c v (n-1-i)
 |0,_,h=>by omega
 |n+1,0,_=>rfl
 |n+1,i+1,h=>by
  have:=d6W v n i (by omega)
  simp only[pb,List.getD_cons_succ,this];congr 1;omega
theorem c1b:∀(bs:List Int)(j k:Nat),j<bs.length->k<8->(a3c bs).getD (8*j+k) 0=a4c (bs.getD j 0) (7-k)
 | [],_,_,h,_=>by simp at h
 |b::bs,0,k,_,hk=>by
  unfold a3c;rw[a04,lD,a42 (by rw[a3a];omega),<-lD];rw[show 8*0+k=k from by omega,d6W b 8 k hk];rfl
 |b::bs,j+1,k,h,hk=>by
  have:=c1b bs j k (by simpa using h) hk
  unfold a3c at this|-;rw[a04,lD,List.getElem?_append_right (by rw[a3a];omega),a3a,<-lD];rw[show 8*(j+1)+k-8=8*j+k from by omega,this];rfl
theorem c5b{bs:List Int}(hb:a5g bs):(wL (a3c bs)).1=bs:=by
 obtain⟨k,n⟩:=c9H (b8H bs hb);obtain⟨-,o⟩:=a7g (a3c bs);rw[b0u]at o;have q:(wL (a3c bs)).1.length=bs.length:=by omega
 apply a67 q;intro j m g;obtain⟨a,b⟩:=a01 (k j).1;have p:=(k j).2;have f:=hb bs[j] (a23 g);obtain⟨c,d⟩:=a01 f.1;have e:(wL (a3c bs)).1[j]=(wL (a3c bs)).1.getD j 0:=by simp[lD,m]
 have l:bs.getD j 0=bs[j]:=by simp[lD,g]
 rw[e,b,d]
 have:a=c:=by
  apply Nat.eq_of_testBit_eq;intro i
  by_cases hi:i<8
  have h:=n (8*j+(7-i));rw[c1b bs j (7-i) g (by omega),l,d,b0q (by omega) (by omega)]at h;unfold b4h at h;rw[show(8*j+(7-i)) / 8=j from by omega,show 7-(8*j+(7-i))%8=i from by omega,b,tN,show 7-(7-i)=i from by omega]at h;rw[h,Nat.testBit_eq_decide_div_mod_eq]
  have:c / 2^i%2<2:=a09 _ (by decide)
  by_cases hh:c / 2^i%2=1
  simp[hh]
  have:c / 2^i%2=0:=by omega
  simp[this];have hp:2^8<=2^i:=a26 (by decide) (by omega);rw[a51 (by omega),a51 (by omega)]
 omega
theorem d4n{bs:List Int}(hb:a5g bs)(h:bs.length<100000):OkL (a3c bs):=⟨b8H bs hb,by rw[b0u];omega,by rw[b0u];omega⟩
theorem d9E{L P R:List Int}(o:OkL L)(e:P++R=L):
  ∃r':Rd,a4u (rdr P R)=some r'/\a5u (rdr P R)=some r'/\(r'.2.2.1≠0\/(r'.2.2.1=0/\r'.1=(wL L).1/\r'.2.1=(((P.length+7) / 8*8:Nat):Int))):=by
 have F:=o.eight;have E:=o.len;obtain⟨j,y⟩:=o.okr e;obtain⟨c,R2,p,q⟩:=b8G R fun b hb=>j b (List.mem_append_right _ hb);have s:R.length=c+R2.length:=by rw[p];simp
 have A:P.length+R.length=L.length:=by rw[<-e];simp
 have a:∀i,i<R.length->∀t,a1p (((wL (P++R)).1,t),((P.length+i:Nat):Int))=some (R.getD i 0,(wL (P++R)).1,t):=fun i hi t=>by
  rw[<-c2Y P R i];exact b9o j (by omega) (by simp;omega) t
 obtain⟨k,B⟩:∃k,(P.length+7) / 8*8=P.length+k:=⟨(P.length+7) / 8*8-P.length,by omega⟩;have D:k<=R.length:=by omega
 have C:k<8:=by omega
 have d:wrap .i64 (wrap .i64 (a32 (wrap .i64 ((P.length:Int)+7)) 8)*8)=((P.length+k:Nat):Int):=by
  rw[a0c (n:=(P.length:Int)+7) (by omega),a40 (by omega),a0c (n:=((P.length:Int)+7) / 8) (by omega),a0c (by omega)];omega
 have z0:((rdr P R).2.2.1 != (0:Int))=false:=rfl;have tm:∀i,a33 ((P.length+i:Nat):Int) 8=(((P.length+i)%8:Nat):Int):=fun i=>by rw[a28 (by omega)];omega
 have x:∀i,i<c->R.getD i 0=0:=fun i hi=>by rw[p];exact e3v hi _
 have m:∀i,i<100->wrap .i64 (((P.length+i:Nat):Int)+1)=((P.length+(i+1):Nat):Int):=fun i hi=>by rw[a0c (by omega)];omega

 have z:∀i,i<k->i<c->a2k (((P.length+k:Nat):Int),((P.length+i:Nat):Int),rdr P R,())=some (.inl (((P.length+k:Nat):Int),((P.length+(i+1):Nat):Int),rdr P R,())):=fun i hi r=>by
  simp only[a2k,dlt (show P.length+i<P.length+k by omega),cT,rdr];rw[a i (by omega)];simp only[oB,x i r,m i (by omega)];rfl
 have q1:∀i,i<k->i<c->a2A (((P.length+i:Nat):Int),rdr P R,())=some (.inl (((P.length+(i+1):Nat):Int),rdr P R,())):=fun i hi r=>by
  have g:((((P.length+i)%8:Nat):Int) != 0)=true:=by simp;omega
  simp only[a2A,tm,g,cT,b6e,rdr];rw[a i (by omega)];simp only[oB,x i r,m i (by omega)];rfl
 by_cases hkc:k<=c
 have u:=a1E (f:=a2k) (fun i=>(((P.length+k:Nat):Int),((P.length+i:Nat):Int),rdr P R,())) k (b:=.inl (((P.length+k:Nat):Int),rdr P R,())) (fun i hi=>z i hi (by omega))
  (by simp only[a2k,dge,cF])
 have v:=a1E (f:=a2A) (fun i=>(((P.length+i:Nat):Int),rdr P R,())) k (b:=.inl (((P.length+k:Nat):Int),rdr P R,())) (fun i hi=>q1 i hi (by omega))
  (by
   have g:((((P.length+k)%8:Nat):Int) != 0)=false:=by simp;omega
   simp only[a2A,tm,g,cF])
 refine⟨((wL L).1,((P.length+k:Nat):Int),(0:Int),()),?_,?_,.inr ⟨rfl,rfl,by rw[B]⟩⟩;unfold a4u;simp only[z0,cF];rw[show(rdr P R).2.1=(P.length:Int)from rfl,d]
 erw[u]
 simp only[oB,rdr,e];unfold a5u;simp only[z0,cF]
 erw[v]
 simp only[oB,rdr,e];have l:∃w,R2=1::w:=by
  rcases q with rfl|h;simp at s;omega;exact h
 obtain⟨w,rfl⟩:=l;have b1:R.getD c 0=1:=by rw[p];exact e1F _ _
 have u:=a1E (f:=a2k) (fun i=>(((P.length+k:Nat):Int),((P.length+i:Nat):Int),rdr P R,())) c (b:=.inr (((wL (P++R)).1,(P.length:Int),(2:Int),()),())) (fun i hi=>z i (by omega) hi)
  (by
   simp only[a2k,dlt (show P.length+c<P.length+k by omega),cT,rdr];rw[a c (by omega)];simp only[oB,b1];rfl)
 have v:=a1E (f:=a2A) (fun i=>(((P.length+i:Nat):Int),rdr P R,())) c (b:=.inr (((wL (P++R)).1,(P.length:Int),(2:Int),()),())) (fun i hi=>q1 i (by omega) hi)
  (by
   have g:((((P.length+c)%8:Nat):Int) != 0)=true:=by simp;omega
   simp only[a2A,tm,g,cT,b6e,rdr];rw[a c (by omega)];simp only[oB,b1];rfl)
 refine⟨((wL (P++R)).1,(P.length:Int),(2:Int),()),?_,?_,.inl (show(2:Int)≠0 by decide)⟩;unfold a4u;simp only[z0,cF];rw[show(rdr P R).2.1=(P.length:Int)from rfl,d]
 erw[u]
 rfl;unfold a5u;simp only[z0,cF]
 erw[v]
 rfl
def b7k(f:a0M)(l:List a0I):a0M:=(f.1,f.2.1,f.2.2.1,l,f.2.2.2.2)
theorem e3B(u:Int):∃g,a3L u=some g:=by
 unfold a3L;cases (a33 u 2==0)<;>exact⟨_,rfl⟩
theorem e8C{c:Nat}(k:c<=100000){g:Int}(h:a3L (c:Int)=some g):a8B g=c:=by
 by_cases e:c%2=0
 have f:a8B ((c / 2:Nat):Int)=c:=by unfold a8B;grind
 grind[e1w]
 have f:a8B (-(((c+1) / 2:Nat):Int))=c:=by unfold a8B;grind
 grind[e1w]
theorem c8k{x:List Int}(hb:a5g x)(j:x.length<1000000000)(f z:a0M){N:Nat}(D:N<=16):∀(m:Nat)(d:List a0I)(p:Nat)(e:Int),d.length+m=N->p+2<=x.length->
  ∃(k:List a0I)(p':Nat)(i:Int),k.length=m/\p'+2<=x.length/\(i=0->e=0/\p'=p+(k.flatMap b2c).length)/\
   a0d a6F (x,(N:Int),(d.length:Int),b7k f d,oP x 2 p e,())=some (x,b7k f (d++k),oP x 2 p' i,())/\
   a0d b1P (x,(N:Int),(d.length:Int),z,oR x 2 p e,b7k f d,())=some (x,z,oR x 2 p' i,b7k f (d++k),())
 |0,d,p,e,hm,hp=>by
  have:d.length=N:=by omega
  refine⟨[],p,e,rfl,hp,fun h=>⟨h,rfl⟩,?_,?_⟩
  all_goals simp_all[a0g,a6F,b1P]
 |m+1,d,p,e,hm,hp=>by
  obtain⟨a,Y,B,S,o,M,a1,w⟩:=a3m hb j hp e 7;obtain⟨b,Z,C,E,q,tb,b1,b2⟩:=a3m hb j o B 7;obtain⟨c,s,l,T,r,O,y,A⟩:=a3m hb j q C 2048;rw[show((7:Nat):Int)=7 from rfl]at a1 w b1 b2;rw[show((2048:Nat):Int)=2048 from rfl]at y A;obtain⟨g,t⟩:=e3B (c:Int);have n:=d6T (u:=c) (by omega);rw[t]at n;have G:=dlt (show d.length<N by omega);have F:=a0H (show d.length+1<2147483648 by omega);have H:wrap .i64 ((d.length:Int)+1)=(((d++[(wrap .i64 (a:Int),wrap .i64 (b:Int),g,())]).length:Nat):Int):=by grind[a0c]
  have v:wrap .u64 ((d.length:Int)+1)=(((d++[(wrap .i64 (a:Int),wrap .i64 (b:Int),g,())]).length:Nat):Int):=by grind[a0p]
  obtain⟨k,p',i,U,I,P,V,X⟩:=c8k hb j f z D m (d++[(wrap .i64 (a:Int),wrap .i64 (b:Int),g,())]) s l (by grind) r;refine⟨(wrap .i64 (a:Int),wrap .i64 (b:Int),g,())::k,p',i,by grind,I,fun h=>?_,?_,?_⟩;obtain⟨L,t3⟩:=P h;obtain⟨K,t2⟩:=O L;obtain⟨s1,t1⟩:=tb K;obtain⟨s0,t0⟩:=M s1;refine⟨s0,?_⟩;have Q:(wrap .i64 (a:Int)).toNat=a:=by grind[a0c]
  have R:(wrap .i64 (b:Int)).toNat=b:=by grind[a0c]
  rw[a04,lN];simp only[b2c,Q,R,e8C (by omega) t,lN];omega;rw[a0k (s':=(x,(N:Int),(((d++[(wrap .i64 (a:Int),wrap .i64 (b:Int),g,())]).length:Nat):Int),b7k f (d++[(wrap .i64 (a:Int),wrap .i64 (b:Int),g,())]),oP x 2 s l,())) (by
   simp_all[a6F,b7k])]
  simp_all;rw[a0k (s':=(x,(N:Int),(((d++[(wrap .i64 (a:Int),wrap .i64 (b:Int),g,())]).length:Nat):Int),z,oR x 2 s l,b7k f (d++[(wrap .i64 (a:Int),wrap .i64 (b:Int),g,())]),())) (by
   simp_all[b1P,b7k])]
  simp_all
theorem e6r{x:List Int}{i:Nat}(h:i<x.length):a19 i (a16 (i+1) x)=[x.getD i 0]:=by
 grind[a43]
theorem e6s{x:List Int}{i:Nat}(h:i+1<x.length):a19 i (a16 (i+2) x)=[x.getD i 0,x.getD (i+1) 0]:=by
 grind[a43]
theorem a7h{x:List Int}{i:Nat}(h:i<x.length):a0m x (i:Int)=some (x.getD i 0):=by
 simp_all[a0e]
theorem d9F{x:List Int}(hb:a5g x)(hl:x.length<1000000):
  ∃(f:a0M)(hd body:Nat)(e:Int),a9w x=some (f,(hd:Int),(body:Int),e)/\b5O x=some (f,(body:Int),(hd:Int),e)/\
   (e=0->frP f/\f.2.2.2.2.1=[]/\hd<=x.length/\body<=1048576/\3<=hd/\hd=(c2R f body).length)/\(e≠0->f=a3k/\hd=0/\body=0):=by
 unfold a9w b5O
 by_cases h2:x.length<2
 have d:decide (((x.length:Nat):Int)<2)=true:=by grind
 simp only[d,cT];exact⟨a3k,0,0,3,rfl,rfl,fun h=>(by omega),fun _=>⟨rfl,rfl,rfl⟩⟩;have d:decide (((x.length:Nat):Int)<2)=false:=by grind
 have g0:a0m x (0:Int)=some (x.getD 0 0):=a7h (i:=0) (by omega);have g1:a0m x (1:Int)=some (x.getD 1 0):=a7h (i:=1) (by omega);have Q:decide ((2:Int)<=((x.length:Nat):Int))=true:=by simp_all
 simp only[d,cF,g0,g1,oB];cases hm0:(x.getD 0 0 != (245:Int))with
 |true=>
  simp only[cT,oB];exact⟨a3k,0,0,2,rfl,rfl,fun h=>(by omega),fun _=>⟨rfl,rfl,rfl⟩⟩
 |false=>
 simp only[cF,oB];cases hm1:(x.getD 1 0 != (75:Int))with
 |true=>
  simp only[cT];exact⟨a3k,0,0,2,rfl,rfl,fun h=>(by omega),fun _=>⟨rfl,rfl,rfl⟩⟩
 |false=>
 simp only[cF,Q,cT];have n:a7c (a19 2 (a16 x.length x))=some (oP x 2 0 0):=by
  unfold a7c oP
  grind[a0H]
 have a:a0N ((x,(0:Int),(0:Int),()),(2:Int))=some (x.take 2,oR x 2 0 0):=by
  have A:wrap .i64 (((x.length:Nat):Int)-0)=(x.length:Int):=by grind[a0c]
  have C:a1s (2:Int) (0:Int)=2:=rfl;have j:decide ((2:Int) > (x.length:Int))=false:=by omega
  have w2:wrap .i64 ((0:Int)+2)=2:=rfl;have v:decide ((0:Int)<=2)=true:=rfl;have y:decide ((0:Int)<=((a24 2:Nat):Int))=true:=rfl;have z:decide ((0:Int)<=0)=true:=rfl;unfold a0N a2U oR;simp only[bne_self_eq_false,cF,oB,A,C,j,w2,v,Q,y,z,a07,cT];simp_all[a0H]
 unfold a7O;simp only[n,a,oB];obtain⟨n1,p1,A,l1,q1,t1,a1,T⟩:=a3m hb (by omega) (k:=2) (p:=0) (by omega) 0 4194304;obtain⟨n2,p2,e2,l2,q2,t2,G,r2⟩:=a3m hb (by omega) q1 A 4096;obtain⟨s,p3,e3,l3,q3,t3,H,U⟩:=a3m hb (by omega) q2 e2 1048576;obtain⟨t,p4,e4,l4,q4,t4,I,V⟩:=a3m hb (by omega) q3 e3 8;obtain⟨u,p5,e5,l5,q5,t5,K,X⟩:=a3m hb (by omega) q4 e4 24;obtain⟨w,p6,e6,l6,q6,t6,L,Y⟩:=a3m hb (by omega) q5 e5 16;rw[show((4194304:Nat):Int)=4194304 from rfl]at a1 T;rw[show((4096:Nat):Int)=4096 from rfl]at G r2;rw[show((1048576:Nat):Int)=1048576 from rfl]at H U;rw[show((8:Nat):Int)=8 from rfl]at I V;rw[show((24:Nat):Int)=24 from rfl]at K X;rw[show((16:Nat):Int)=16 from rfl]at L Y;have w1:wrap .i64 (n1:Int)=(n1:Int):=a0c (by omega);have w2:wrap .i64 (n2:Int)=(n2:Int):=a0c (by omega);have w3:wrap .i64 (s:Int)=(s:Int):=a0c (by omega);have w4:wrap .i64 (t:Int)=(t:Int):=a0c (by omega);have w5:wrap .i64 (u:Int)=(u:Int):=a0c (by omega);have w6:wrap .i64 (w:Int)=(w:Int):=a0c (by omega);simp only[a1,G,H,I,K,L,T,r2,U,V,X,Y,w1,w2,w3,w4,w5,w6,oB];obtain⟨S,p7,e7,k1,q7,t7,M,Z⟩:=c8k hb (by omega) ((n1:Int),(n2:Int),((s:Int),(t:Int),(u:Int),()),[],[],()) a3k (N:=w) l6 w [] p6 e6 (by simp) q6;simp at M Z
 erw[M,Z]
 simp only[oB];obtain⟨D,g,e8,l8,q8,t8,O,r8⟩:=a3m hb (by omega) q7 e7 1048576;rw[show((1048576:Nat):Int)=1048576 from rfl]at O r8;have w8:wrap .i64 (D:Int)=(D:Int):=a0c (by omega);simp only[O,r8,w8,oB,a4K,a2I,a5o]
 by_cases he:e8=0
 rotate_left;have l:(e8 != (0:Int))=true:=by simp_all
 have r:a0N (oR x 2 g e8,(1:Int))=some ([],oR x 2 g e8):=by
  unfold a0N oR
  grind
 simp only[r,oB];simp only[oP,oR,l,cT];exact⟨a3k,0,0,e8,rfl,rfl,fun h=>absurd h he,fun _=>⟨rfl,rfl,rfl⟩⟩;subst he;have h0:(x.drop 2).length=x.length-2:=a46;have R:wrap .i64 ((((x.drop 2).length:Nat):Int)-(g:Int))=((x.length-2-g:Nat):Int):=by grind[a0c]
 have eR:wrap .i64 (((x.length:Nat):Int)-((g+2:Nat):Int))=((x.length-2-g:Nat):Int):=by grind
 have C:a1s (1:Int) (0:Int)=1:=rfl
 by_cases hlast:x.length-2-g<1
 have j:decide (((x.length-2-g:Nat):Int)<1)=true:=by simp_all
 have P:decide ((1:Int) > ((x.length-2-g:Nat):Int))=true:=by omega
 have r:a0N (oR x 2 g 0,(1:Int))=some ([],oR x 2 g 3):=by
  simp_all[a0N,a2U]
 simp only[r,oB];simp only[oP,oR,bne_self_eq_false,cF,R,j,cT,show((3:Int) != 0)=true from rfl];exact⟨a3k,0,0,3,rfl,rfl,fun h=>(by omega),fun _=>⟨rfl,rfl,rfl⟩⟩;have j:decide (((x.length-2-g:Nat):Int)<1)=false:=by grind
 have P:decide ((1:Int) > ((x.length-2-g:Nat):Int))=false:=by omega
 have o:g+2<x.length:=by omega
 have E:wrap .i64 (((g+2:Nat):Int)+1)=((g+2+1:Nat):Int):=by grind[a0c]
 have F:wrap .i64 ((2:Int)+(g:Int))=((g+2:Nat):Int):=by grind[a0c]
 have v:decide ((0:Int)<=((g+2:Nat):Int))=true:=decide_eq_true (a05 _);have y:decide (((g+2:Nat):Int)<=((x.length:Nat):Int))=true:=by grind
 have z:decide ((0:Int)<=((g+2+1:Nat):Int))=true:=decide_eq_true (a05 _);have c6:decide (((g+2+1:Nat):Int)<=((x.length:Nat):Int))=true:=by grind
 have c7:decide (((g+2:Nat):Int)<=((g+2+1:Nat):Int))=true:=by grind
 have m:a19 (g+2) (a16 (g+2+1) x)=[x.getD (g+2) 0]:=e6r o;have r:a0N (oR x 2 g 0,(1:Int))=some ([x.getD (g+2) 0],oR x 2 (g+1) 0):=by
  unfold a0N a2U oR;simp only[bne_self_eq_false,cF,oB,eR,C,P,E,z,c6,v,c7,a07,cT,tN,m,a0H (show 0+[x.getD (g+2) 0].length<2147483648 by simp),a20,a18]
  try rw[show g+2+1=g+1+2 from by omega]
 have g8:=a7h o;have q:short (x.take (g+2)):=by unfold short;grind
 have c8:decide ((0:Int)<(([x.getD (g+2) 0].length:Nat):Int))=true:=rfl;have B:List.getD [x.getD (g+2) 0] 0 (0:Int)=x.getD (g+2) 0:=rfl;simp only[r,oB];simp only[oP,oR,bne_self_eq_false,cF,R,j,F,v,y,a07,cT,tN,e3k q,c2X q,g8,c8,B]
 by_cases hsum:c0s (x.take (g+2))=x.getD (g+2) 0
 rotate_left;have b:(c0s (x.take (g+2)) != x.getD (g+2) 0)=true:=by simp_all
 have c:(x.getD (g+2) 0 != c0s (x.take (g+2)))=true:=by grind
 simp only[oB,b,c,cT];exact⟨a3k,0,0,5,rfl,rfl,fun h=>(by omega),fun _=>⟨rfl,rfl,rfl⟩⟩;have b:(c0s (x.take (g+2)) != x.getD (g+2) 0)=false:=by simp_all
 have c:(x.getD (g+2) 0 != c0s (x.take (g+2)))=false:=by simp_all
 simp only[oB,b,c,cF,b9r,b9u,oB]
 by_cases hf:frP (b7k ((n1:Int),(n2:Int),((s:Int),(t:Int),(u:Int),()),[],[],()) S)
 ·rw[decide_eq_true hf];refine⟨b7k ((n1:Int),(n2:Int),((s:Int),(t:Int),(u:Int),()),[],[],()) S,g+3,D,0,?_,?_,fun _=>⟨hf,rfl,by omega,l8,by omega,?_⟩,fun h=>absurd rfl h⟩
  grind
  rotate_left;obtain⟨s7,u8⟩:=t8 rfl
  grind[c2R,Go.Ab.hb,b7k,lN,lC,tN]
  grind
 rw[decide_eq_false hf];exact⟨a3k,0,0,2,rfl,rfl,fun h=>(by omega),fun _=>⟨rfl,rfl,rfl⟩⟩
theorem d0N{L:List Int}(w:OkL L)(h:Int)(z f:a0M)(u:1<=f.2.1)(v:f.2.1<=4096){ch:Nat}(i:f.2.2.1.2.1=(ch:Int))(B:ch<=8):∀(m:Nat)(d:List Sub)(P R:List Int),d.length+m=ch->P++R=L->
  (∃(k:List PZ)(c g:List Int),(∀p∈k,c6b f.2.1 p)/\k.length=m/\c++g=L/\c=P++a1W k/\
   a0d a3V (h,(ch:Int),(d.length:Int),z,a4q f d,rdr P R,())=some (.inl (h,z,a4q f (d++k.map (·.1)),rdr c g,()))/\
   a0d a2Y (h,(d.length:Int),z,a4q f d,rdr P R,())=some (.inl (h,z,a4q f (d++k.map (·.1)),rdr c g,())))\/
  (a0d a3V (h,(ch:Int),(d.length:Int),z,a4q f d,rdr P R,())=some (.inr (0,2,a3k,()))/\
   a0d a2Y (h,(d.length:Int),z,a4q f d,rdr P R,())=some (.inr (0,2,a3k,())))
 |0,d,P,R,hm,e=>by
  have O:(ch:Int)=(d.length:Int):=by omega
  refine .inl ⟨[],P,R,(fun s Q=>by grind),rfl,e,by simp[a1W],?_,?_⟩
  all_goals simp_all[a0g,a3V,a2Y,a4q]
 |m+1,d,P,R,hm,e=>by
  have j:=dlt (show d.length<ch by omega);have D:=a0H (show d.length+1<2147483648 by omega);rcases d6i w e u v with⟨s,l,g,C,n,o,M,p,q⟩|⟨s,s',a,b,U,K,N,hb,p,q⟩
  ·have E:wrap .i64 ((d.length:Int)+1)=(((d++[s]).length:Nat):Int):=by grind[a0c]
   have A:(P++a4W s l)++g=L:=by simp_all
   rw[a0k (f:=a3V) (s':=(h,(ch:Int),(((d++[s]).length:Nat):Int),z,a4q f (d++[s]),rdr (P++a4W s l) g,())) (by
    simp_all[a3V,a4q])]
   rw[a0k (f:=a2Y) (s':=(h,(((d++[s]).length:Nat):Int),z,a4q f (d++[s]),rdr (P++a4W s l) g,())) (by
    simp_all[a2Y,a4q])]
   rcases d0N w h z f u v i B m (d++[s]) (P++a4W s l) g (by grind) A with⟨k,c,R2,S,T,F,I,G,H⟩|⟨G,H⟩
   ·refine .inl ⟨(s,l)::k,c,R2,fun y x=>?_,by grind,F,by rw[I];simp[a1W],?_,?_⟩;rcases mC.1 x with rfl|x;exact⟨C,n,o⟩;simp_all
    all_goals simp_all
   simp_all
  have r:(a != (0:Int))=true:=by simp_all
  have t:(b != (0:Int))=true:=by simp_all
  refine .inr ⟨a0g ?_,a0g ?_⟩;simp only[a3V,j,cT,a4q,p,oB,r];rfl;simp only[a2Y,a4q,i,j,cT,q,oB,t];rfl
theorem e3C{s c d:Int}(k:0<=s/\s<65536)(g:0<=c/\c<256)(f:0<=d/\d<256):
  (s != bits .u16 .or (a0t .u16 (wrap .u16 c) 8) (wrap .u16 d))=!decide (s / 256=c/\s%256=d)/\b7G ([s / 256,s%256],[c,d])=some (decide (s / 256=c/\s%256=d)):=by
 have h:=f4U (v:=256*c+d) (by omega);rw[show(256*c+d) / 256=c from by omega,show(256*c+d)%256=d from by omega]at h;rw[h];constructor
 grind
 unfold b7G b2s;simp only[a44,List.map_nil];congr 1
 grind
theorem e1M{x:List Int}(hb:a5g x)(hl:x.length<100000):
  ∃(f:a0M)(n e:Int),b3d x=some (f,n,e)/\a9I x=some (f,n,e)/\(∀s∈f.2.2.2.2.1,SmallS s)/\f.2.2.2.1.length<=16/\f.2.2.2.2.1.length<=8/\
   (e=0->(a2O f).isSome=true/\frP f/\5<=n/\n<=(x.length:Int)/\∃a:List PZ,a.map (·.1)=f.2.2.2.2.1/\(∀p∈a,c6b f.2.1 p)/\n=((b7f f (a1W a)).length:Int))/\(e≠0->f=a3k/\n=0):=by
 have a:∀s∈a3k.2.2.2.2.1,SmallS s:=fun s l=>by cases l
 obtain⟨f,g,body,e,h1,h2,h3,h4⟩:=d9F hb (by omega);unfold b3d a9I;simp only[h1,h2,oB]
 by_cases he:e=0
 rotate_left;have S:(e != (0:Int))=true:=by simp_all
 simp only[S,cT];exact⟨a3k,0,e,rfl,rfl,a,by decide,by decide,fun h=>absurd h he,fun _=>⟨rfl,rfl⟩⟩;subst he;obtain⟨hf,h6,g6,R,g5,E⟩:=h3 rfl;have w1:wrap .i64 ((g:Int)+(body:Int))=((g+body:Nat):Int):=by grind[a0c]
 have w2:wrap .i64 (((g+body:Nat):Int)+2)=((g+body+2:Nat):Int):=by grind[a0c]
 have w3:wrap .i64 (((g+body:Nat):Int)+1)=((g+body+1:Nat):Int):=by grind[a0c]
 simp only[bne_self_eq_false,cF,w1,w2,w3]
 by_cases hsh:x.length<g+body+2
 have d:decide (((x.length:Nat):Int)<((g+body+2:Nat):Int))=true:=by grind
 simp only[d,cT];exact⟨a3k,0,3,rfl,rfl,a,by decide,by decide,fun h=>(by omega),fun _=>⟨rfl,rfl⟩⟩;have d:decide (((x.length:Nat):Int)<((g+body+2:Nat):Int))=false:=by grind
 have c1:decide ((0:Int)<=((g+body:Nat):Int))=true:=decide_eq_true (a05 _);have c2:decide (((g+body:Nat):Int)<=((x.length:Nat):Int))=true:=by grind
 have c3:decide ((0:Int)<=(g:Int))=true:=decide_eq_true (a05 _);have c4:decide ((g:Int)<=((g+body:Nat):Int))=true:=by grind
 have c5:decide ((0:Int)<=((g+body+2:Nat):Int))=true:=decide_eq_true (a05 _);have c6:decide (((g+body+2:Nat):Int)<=((x.length:Nat):Int))=true:=by simp_all
 have c7:decide (((g+body:Nat):Int)<=((g+body+2:Nat):Int))=true:=by grind
 have g1:=a7h (x:=x) (i:=g+body) (by omega);have g2:=a7h (x:=x) (i:=g+body+1) (by omega);have m:short (x.take (g+body)):=by unfold short;grind
 have hr:=c4V (x.take (g+body));have wu:wrap .u64 (b2b (x.take (g+body)))=b2b (x.take (g+body)):=a0p (by omega);have F:a19 (g+body) (a16 (g+body+2) x)=[x.getD (g+body) 0,x.getD (g+body+1) 0]:=e6s (by omega);have D:∀i,i<x.length->0<=x.getD i 0/\x.getD i 0<256:=fun i hi=>by
  have:x.getD i 0=x[i]:=by simp_all
  rw[this];exact hb _ (a23 hi)
 obtain⟨t1,t2⟩:=e3C hr (D (g+body) (by omega)) (D (g+body+1) (by omega));simp only[d,cF,c1,c2,a07,cT,tN,d9x m,b9x m,oB,g1,g2,wu,d4k hr,c3,c4,c5,c6,c7,F,t1,t2]
 by_cases hsum:b2b (x.take (g+body)) / 256=x.getD (g+body) 0/\b2b (x.take (g+body))%256=x.getD (g+body+1) 0
 rotate_left;rw[decide_eq_false hsum];simp only[a06,cT];exact⟨a3k,0,5,rfl,rfl,a,by decide,by decide,fun h=>(by omega),fun _=>⟨rfl,rfl⟩⟩;rw[decide_eq_true hsum];simp only[bT,cF]

 obtain⟨B,hB⟩:∃B,a19 g (a16 (g+body) x)=B:=⟨_,rfl⟩;have A:a5g B:=fun b h=>by rw[<-hB]at h;exact hb b (a22 (a27 h))
 have h7:B.length=body:=by grind
 have C:=d4n A (by omega);have I:b5N B=some (rdr [] (a3c B)):=by
  unfold b5N rdr;rw[a0H (by omega),cT,a18,c5b A];rfl
 have t:b0M B=some (rdr [] (a3c B)):=by
  simp_all[b0M,rdr,c5b]
 rw[hB];simp only[I,t,oB];obtain⟨q1,q2,q3,q4,q5,q6⟩:=id hf;obtain⟨f1,f2,f3,f4,f5,f6⟩:=q1;obtain⟨L,q⟩:∃L:Nat,f.2.2.1.2.1=(L:Int):=⟨f.2.2.1.2.1.toNat,by omega⟩;have U:a4q f []=f:=by grind[a4q]
 have u:=d0N C ((g+body:Nat):Int) a3k f q2 q3 q (by omega) L [] [] (a3c B) (by simp) rfl;rw[U]at u;simp only[a03,nZ,a39,a18]at u;have G:=q6.2.2.1;rcases u with⟨K,y,c,kz,k2,M,kb,Z,k5⟩|⟨Z,k5⟩;rotate_left;rw[q]
 erw[Z,k5]
 exact⟨a3k,0,2,rfl,rfl,a,by decide,by decide,fun h=>(by omega),fun _=>⟨rfl,rfl⟩⟩;rw[q]
 erw[Z,k5]
 obtain⟨k,v⟩:∃k,K.map (·.1)=k:=⟨_,rfl⟩;rw[v];have V:∀s∈k,SmallS s:=fun s l=>by
  rw[<-v]at l;obtain⟨p,hp,rfl⟩:=List.mem_map.1 l;exact(kz p hp).1
 have k2:k.length=L:=by grind
 have T:=C.left M;have h8:=C.eight;have h5:=C.len;have g0:y.length+c.length=(a3c B).length:=by grind
 obtain⟨z,a1,a2,j⟩:=d9E C M;have H:b1r (a4q f k)=some (a2O (a4q f k)).isSome:=e8u (fun s l=>V s l);have r:a5Q (a4q f k)=some (a2O (a4q f k)).isSome:=c0v (fun s l=>V s l);have wl:wrap .i64 (wrap .i64 ((8:Int)*(((rdr y c).1.length:Nat):Int))-(rdr y c).2.1)=(c.length:Int):=by
  show wrap .i64 (wrap .i64 ((8:Int)*(((wL (y++c)).1.length:Nat):Int))-(y.length:Int))=_;rw[a0c (n:=(8:Int)*_) (by omega),a0c (by omega)];omega
 simp only[oB,a3C,a1M,a0n,wl,a1,a2];have h0:∀{b:Bool}{X Y:Option (a0M×Int×Int)},b=true->X=Y->(bif b then X else Y)=Y:=fun _ h=>by grind
 by_cases hR8:c.length<8
 ·have P:decide ((c.length:Int)>=8)=false:=by grind
  simp only[P,cF];rcases j with j|⟨j,N,O⟩;simp only[a4e j,cT];exact⟨a3k,0,2,rfl,rfl,a,by decide,by decide,fun h=>(by omega),fun _=>⟨rfl,rfl⟩⟩
  ·have o:(z.2.2.1 != (0:Int))=false:=by grind
   have w:wrap .i64 (wrap .i64 ((8:Int)*((z.1.length:Nat):Int))-z.2.1)=0:=by
    rw[N,O,<-M,a0c (n:=(8:Int)*_) (by omega),a0c (by omega)];omega
   simp only[o,cF,w,show decide ((0:Int) > 0)=false from rfl,H,r,oB];cases hbo:(a2O (a4q f k)).isSome with
   |false=>
    simp only[a06,cT];exact⟨a3k,0,2,rfl,rfl,a,by decide,by decide,fun h=>(by omega),fun _=>⟨rfl,rfl⟩⟩
   |true=>
    simp only[bT,cF,w2];refine⟨a4q f k,_,0,rfl,rfl,V,G,by show k.length<=8;omega,fun _=>⟨hbo,hf,by omega,by omega,K,v,kz,?_⟩,fun h=>absurd rfl h⟩;have g3:=(d0E (a1W K)).1;have h9:y.length=(a1W K).length:=by grind
    have g4:=b0u B;have Q:(a9P (a1W K)).length=body:=by omega
    simp only[b7f,b7e,lN,lC,a03,Q]
    have:(c2R (a4q f k) body).length=g:=E.symm
    omega
 have P:decide ((c.length:Int)>=8)=true:=by grind
 simp only[P,cT];rcases j with j|⟨j,N,O⟩;simp only[a4e j,cT];exact⟨a3k,0,2,rfl,rfl,a,by decide,by decide,fun h=>(by omega),fun _=>⟨rfl,rfl⟩⟩;have o:(z.2.2.1 != (0:Int))=false:=by grind
 have w:decide (wrap .i64 (wrap .i64 ((8:Int)*((z.1.length:Nat):Int))-z.2.1) > 0)=true:=by
  rw[N,O,<-M,a0c (n:=(8:Int)*_) (by omega),a0c (by omega),dT];omega
 simp only[o,cF,w,cT];exact⟨a3k,0,2,rfl,rfl,a,by decide,by decide,fun h=>(by omega),fun _=>⟨rfl,rfl⟩⟩
theorem e3D{n:Int}(h:Wf (.int .u8) n):0<=n/\n<256:=by
 have h:(decide (IntKind.min .u8<=n)&&decide (n<=IntKind.max .u8))=true:=h;simp at h;have g:IntKind.min .u8=0:=rfl;have f:IntKind.max .u8=255:=rfl;omega
theorem e6t(y:Int):bits .i64 .and y 255=y%256:=by
 have h:((a00 64 y) &&& (a00 64 255)).toNat=(y%18446744073709551616).toNat%256:=by
  rw[a47,a31];have e:(a00 64 255).toNat=2^8-1:=by decide
  rw[e,a35];rfl
 show wrap .i64 ((((a00 64 y) &&& (a00 64 255)).toNat:Nat):Int)=_;rw[h,a0c (by omega)];omega
theorem f4X(x:Int){j:Nat}(g:j<8):a0v .i64 x ((8*j:Nat):Int)=x.fdiv (256^j):=by
 have h:min (a24 ((8*j:Nat):Int)) (IntKind.bits .i64)=8*j:=by
  simp only[tN,IntKind.bits];omega
 unfold a0v;rw[h,show(256:Int)=2^8 from rfl,<-Int.pow_mul]
def smB(k:Nat)(x:Int):List Int:=leB k (x%18446744073709551616).toNat
theorem e5m(x:Int):wrap .u64 x=((x%18446744073709551616).toNat:Int):=by
 simp only[wrap,IntKind.bits,IntKind.signed]
 simp
 omega
theorem e6u(x:Int)(j:Nat)(g:j<8):((((x%18446744073709551616).toNat) / 256^j%256:Nat):Int)=x.fdiv (256^j)%256:=by
 have h:j=0\/j=1\/j=2\/j=3\/j=4\/j=5\/j=6\/j=7:=by omega
 rcases h with rfl|rfl|rfl|rfl|rfl|rfl|rfl|rfl<;>rw[a29 _ (by decide)]<;>simp only[Nat.reducePow,Int.reducePow]<;>omega
theorem b3D(k:Nat)(x:Int):(smB k x).length=k:=c0f _ _
theorem e3E(k:Nat)(h:k<8)(x:Int):smB (k+1) x=smB k x++[x.fdiv (256^k)%256]:=by
 unfold smB;rw[c5O,e6u x k h]
theorem d0O:∀(k n:Nat),∀b∈leB k n,0<=b/\b<256
 |0,_=>by simp[leB]
 |k+1,n=>fun b hb=>by
  rcases mC.1 hb with rfl|hb;omega;exact d0O k _ b hb
def a2q(w:Int)(l:List Int):List Int:=l.flatMap (smB ((w+7) / 8).toNat)
theorem d4o{k:Nat}{g:Int->List Int}(h:∀x,(g x).length=k):∀(l:List Int),(l.flatMap g).length=l.length*k
 | []=>by simp
 |x::l=>by
  rw[a04,lN,h,d4o h l,lC,Nat.add_mul];omega
theorem c8l{w:Int}(hw:4<=w/\w<=24)(l:List Int):(a2q w l).length<=3*l.length:=by
 unfold a2q;rw[d4o (b3D _)]
 have:((w+7) / 8).toNat<=3:=by omega
 calc l.length*((w+7) / 8).toNat<=l.length*3:=Nat.mul_le_mul_left _ this
  _=3*l.length:=a65 ..
theorem d9G(w:Int)(a b:List Int):a2q w (a++b)=a2q w a++a2q w b:=a30
theorem c3d(w:Int)(l:List Int):∀b∈a2q w l,0<=b/\b<256:=fun b hb=>by
 obtain⟨x,-,h⟩:=List.mem_flatMap.1 hb;exact d0O _ _ b h
theorem e6v(b x n:Int)(i:Int)(l:List Int){k:Nat}(e:k<=8)(out:List Int)(m:out.length<100000000):
  a0d a5Y (b,(k:Int),x,l,n,i,(k:Int),(0:Int),out,())=some (b,(k:Int),l,n,i,out++smB k x,()):=by
 have h:=a1E (f:=a5Y) (fun j=>(b,(k:Int),x,l,n,i,(k:Int),(j:Int),out++smB j x,()))
  k (b:=(b,(k:Int),l,n,i,out++smB k x,())) (fun j d=>by
   have c:wrap .i64 ((8:Int)*(j:Int))=((8*j:Nat):Int):=by rw[a0c (by omega)];omega
   have g:decide (((8*j:Nat):Int)<0)=false:=by simp;omega
   simp only[a5Y];rw[dlt d,a0H (show(out++smB j x).length+1<2147483648 by rw[lN,b3D];omega),c,g,a0b (show j<1000000 by omega),e6t,f4X x (by omega),a6U,Int.emod_emod_of_dvd _ (by decide),e3E j (by omega),<-aA];rfl) (by simp only[a5Y,dge,cF])
 have a:out++smB 0 x=out:=by simp[smB,leB]
 simp only[a]at h;exact h
theorem e1N{w:Int}(h:4<=w/\w<=24):wrap .i64 (a32 (wrap .i64 (w+(7:Int))) (8:Int))=((((w+7) / 8).toNat:Nat):Int):=by
 rw[a0c (n:=w+7) (by omega),a40 (by omega),a0c (by omega)];omega
theorem d0P{w:Int}(g:4<=w/\w<=24)(l:List Int)(c:l.length<=1000000){k:Nat}(a:k<=3):∀(rest done out:List Int),done++rest=l->rest.all (fun x=>a2B x w)=true->out.length+3*rest.length<100000000->
  a0d a8t (w,(k:Int),l,(l.length:Int),(done.length:Int),out,())=some (.inl (out++rest.flatMap (smB k),()))
 | [],done,out,hd,_,_=>by
  obtain rfl:done=l:=by simpa using hd
  rw[a0g (b:=Sum.inl (out,())) (by simp only[a8t,dge,cF])]
  simp
 |x::rest,done,out,hd,hf,ho=>by
  have h:done.length<l.length:=by rw[<-hd];simp
  have f:a0m l (done.length:Int)=some x:=by rw[a0e h];subst hd;simp
  simp only[a45,bA9]at hf;simp only[lC]at ho;rw[a0k (s':=(w,(k:Int),l,(l.length:Int),(((done++[x]).length:Nat):Int),out++smB k x,())) (by
   simp only[a8t,dlt h,cT,f,oB,c6c g,hf.1,bT,cF,e6v w x _ _ l (show k<=8 by omega) out (by omega),a0b (show done.length<1000000 by omega)]
   simp)]
  rw[d0P g l c a rest (done++[x]) (out++smB k x) (by simpa using hd) hf.2 (by rw[lN,b3D];omega)]
  simp
theorem c9M{w:Int}(g:4<=w/\w<=24){l:List Int}(c:l.length<=1000000)(b:l.all (fun x=>a2B x w)=true):b1N (l,w)=some (a2q w l,0):=by
 have f:decide (w<(4:Int))=false:=by simp;omega
 have a:decide (w > (24:Int))=false:=by simp;omega
 have h:=d0P g l c (k:=((w+7) / 8).toNat) (by omega) l [] [] rfl b (by simp;omega);rw[a03]at h;simp only[b1N,f,cF,oB,a,e1N g]
 erw[h]
 rfl
theorem d4p{n k:Nat}(l:k<=8):b3t ((n:Int),(k:Int))=some (leB k n):=by
 simp only[b3t];have h:=a1E (f:=b1V) (fun i=>((n:Int),(k:Int),(i:Int),leB i n,())) k (b:=(leB k n,())) (fun i hi=>by
   have g:decide ((i:Int)<(8:Int))=true:=by simp;omega
   have c:wrap .u64 (wrap .i64 ((8:Int)*(i:Int)))=((8*i:Nat):Int):=by
    rw[a0c (by omega),a0p (by omega)];omega
   have a:decide (((8*i:Nat):Int)<0)=false:=by simp;omega
   have d:wrap .u8 (a0v .u64 (n:Int) ((8*i:Nat):Int))=((n / 256^i%256:Nat):Int):=by
    have e:a0v .u64 (n:Int) ((8*i:Nat):Int)=((n / 256^i:Nat):Int):=by
     have j:min (a24 ((8*i:Nat):Int)) (IntKind.bits .u64)=8*i:=by
      simp only[tN,IntKind.bits];omega
     unfold a0v;rw[j,show(256:Nat)=2^8 from rfl,<-Nat.pow_mul];rw[a29 _ (by exact_mod_cast Nat.zero_le _)]
     norm_cast
    rw[e,a6U];omega
   simp only[b1V];rw[dlt hi,g,a0H (show(leB i n).length+1<2147483648 by rw[c0f];omega),c,a,a0b (show i<1000000 by omega),d,c5O];rfl) (by simp only[b1V,dge,cF])
 simp only[leB]at h;rw[show((0:Nat):Int)=0 from rfl]at h;rw[h];rfl
theorem c0y{i:Nat}(h:i<1000000000):wrap .i64 ((i:Int)+1)=((i+1:Nat):Int):=by rw[a0c (by omega)];omega
theorem c1c{w:Int}(g:4<=w/\w<=24)(l:List Int)(k:l.length<=30000000):∀(rest done out:List Int),done++rest=l->rest.all (fun x=>a2B x w)=true->out.length+3*rest.length<100000000->
  a0d b3u (l,w,(done.length:Int),out,())=some (.inl (out++a2q w rest,()))
 | [],done,out,hd,_,_=>by
  obtain rfl:done=l:=by simpa using hd
  rw[a0g (b:=Sum.inl (out,())) (by simp only[b3u,dge,cF])];simp[a2q]
 |x::rest,done,out,hd,hf,ho=>by
  have h:done.length<l.length:=by rw[<-hd];simp
  have f:a0m l (done.length:Int)=some x:=by rw[a0e h];subst hd;simp
  simp only[a45,bA9]at hf;simp only[lC]at ho;have a:b3t (wrap .u64 x,((((w+7) / 8).toNat:Nat):Int))=some (smB ((w+7) / 8).toNat x):=by rw[e5m];exact d4p (by omega)
  rw[a0k (s':=(l,w,(((done++[x]).length:Nat):Int),out++smB ((w+7) / 8).toNat x,())) (by
   simp only[b3u,dlt h,cT,f,oB,b7h g,hf.1,bT,cF,e1N g,a,a0H (show out.length+(smB ((w+7) / 8).toNat x).length<2147483648 by rw[b3D];omega),c0y (show done.length<1000000000 by omega)]
   simp)]
  rw[c1c g l k rest (done++[x]) (out++smB ((w+7) / 8).toNat x) (by simpa using hd) hf.2 (by rw[lN,b3D];omega)];simp[a2q]
theorem d6j{w:Int}(c:4<=w/\w<=24){l:List Int}(b:l.length<=30000000)(a:l.all (fun x=>a2B x w)=true):b7J (l,w)=some (a2q w l,0):=by
 have g:b5T w=some true:=by
  simp only[b5T];have f:decide (w>=4)=true:=by simp;omega
  have k:decide (w<=24)=true:=by simp;omega
  rw[f,k];rfl
 have h:=c1c c l b l [] [] rfl a (by simp;omega);rw[a03]at h;simp only[b7J,g,oB,bT,cF]
 erw[h]
 rfl
def wv(n:Nat)(rows:List (List Int)):List Int:=(a60 n).flatMap fun i=>rows.map fun r=>r.getD i 0
def prm:Nat:=2305843009213693951
def prs(h:Nat)(l:List Nat):Nat:=l.foldl (fun h c=>(h*1000003+(c+1))%prm) h
theorem e6w(h:Nat):prs h []=h:=rfl
theorem d4q(h c:Nat)(l:List Nat):prs h (c::l)=prs ((h*1000003+(c+1))%prm) l:=rfl
theorem d9H(h:Nat)(a b:List Nat):prs h (a++b)=prs (prs h a) b:=List.foldl_append ..
theorem d4r{h:Nat}(g:h<prm)(l:List Nat):prs h l<prm:=by
 induction l generalizing h with
 |nil=>exact g
 |cons c l ih=>exact ih (a09 _ (by decide))
theorem c0z(a b c:Nat):(a%prm*b+c)%prm=(a*b+c)%prm:=by
 simp_all[Nat.add_mod]
theorem b7l(a b:Nat):(a+b%prm)%prm=(a+b)%prm:=by
 simp
theorem e3F(l:List Nat)(h:Nat):prs h l%prm=(h*1000003^l.length+prs 0 l)%prm:=by
 induction l generalizing h with
 |nil=>simp[e6w]
 |cons c l ih=>
  rw[d4q,d4q,ih,c0z,<-b7l (h*_),ih ((0*1000003+(c+1))%prm),c0z,b7l,lC,Nat.pow_succ]
  grind
theorem e3G(a b:List Nat):prs 0 (a++b)=(prs 0 a*(1000003^b.length%prm)+prs 0 b)%prm:=by
 rw[d9H,<-a48 (d4r (d4r (by decide) a) b),e3F,a65 (prs 0 a) (_%prm),c0z,a65 (prs 0 a)]
def pwr:Nat->Nat->Nat->Nat->Nat
 |0,_,p,_=>p
 |k+1,n,p,s=>if n=0 then p else pwr k (n / 2) (if n%2=1 then p*s%prm else p) (s*s%prm)
theorem e3H(a b:Nat):a%prm*b%prm=a*b%prm:=c0z a b 0
theorem d4s(a n:Nat):(a%prm)^n%prm=a^n%prm:=by rw[<-Nat.pow_mod]
theorem e8D(k n p s:Nat)(h:n<2^k)(hp:p<prm):pwr k n p s=p*s^n%prm:=by
 induction k generalizing n p s with
 |zero=>simp_all[pwr,a48]
 |succ k ih=>
  rw[pwr]
  by_cases h0:n=0
  simp_all[a48];rw[if_neg h0];have g:n / 2<2^k:=by omega
  have f:(s*s)^(n / 2)=s^(2*(n / 2)):=by grind[Nat.pow_mul]
  by_cases h1:n%2=1
  rw[if_pos h1,ih _ _ _ g (a09 _ (by decide)),a41,d4s,f,<-a41,e3H,Nat.mul_assoc,<-Nat.pow_succ']
  grind
  rw[if_neg h1,ih _ _ _ g hp,a41,d4s,f,<-a41]
  grind
theorem e1O{u d y1 y0 q r:Nat}(g:u=q*y1+r)(h:q*y0<=4294967296*r+d):q*(y1*4294967296+y0)<=u*4294967296+d:=by
 grind
theorem e6x(u d e y:Nat):((u*4294967296+d)%y*4294967296+e)%y=((u*4294967296+d)*4294967296+e)%y:=by
 simp_all[Nat.add_mod,a41]
theorem e1P(n k y:Nat)(h:0<k):n*k%(y*k) / k=n%y:=by
 simp_all[Nat.mul_mod_mul_right]
abbrev Pc:Type:=a0M×(a1h×List Int)
def b1z:Nat->Nat->List Pc->List (Int×Int×Unit)
 |_,_,[]=>[]
 |st,off,x::xs=>((st:Int),(off:Int),())::b1z (st+a1e x.2.1) (off+x.2.2.length) xs
def b0v(xs:List Pc):Nat:=(xs.map fun x=>a1e x.2.1).sum
def b9y(xs:List Pc):List Int:=xs.flatMap fun x=>x.2.2
def wvB(b:a1h):List Int:=wv (a1e b) b.2.1
def a6m(xs:List Pc):List Int:=xs.flatMap fun x=>wvB x.2.1
def prI(l:List Int):Nat:=prs 0 (l.map a24)
def b7m(fm:a0I)(xs:List Pc):Nat:=prI (a2q fm.2.2.1 (a6m xs))
theorem e1Q(l:List Int):prI l<prm:=d4r (by decide) _
theorem e6y(a b:List Int):prI (a++b)=(prI a*(1000003^b.length%prm)+prI b)%prm:=by
 simp_all[prI,e3G]
theorem e1R(h:List Pc)(x:Pc):b0v (h++[x])=b0v h+a1e x.2.1:=by simp[b0v]
theorem d4t{rows:List (List Int)}:∀n,(wv n rows).length=n*rows.length:=fun n=>by
 simp_all[wv,List.map_const']
theorem c8m:∀(xs:List Pc)(st off:Nat),(b1z st off xs).length=xs.length
 | [],_,_=>rfl
 |_::xs,_,_=>congrArg (·+1) (c8m xs _ _)
def b7n(n:Nat)(l:List Int):Nat:=l.foldl (fun n c=>n*256+c.toNat) n
def c32(s:BitVec 32):BitVec 32:=bif s.getLsbD 0 then(s >>> 1) ^^^ 0xedb88320#32 else s >>> 1
def e3I:Nat->BitVec 32->BitVec 32
 |0,s=>s
 |k+1,s=>e3I k (c32 s)
def d4u(s x:BitVec 32):BitVec 32:=e3I 8 (s ^^^ x)
def e3J(s:BitVec 32)(l:List (BitVec 32)):BitVec 32:=l.foldl d4u s
theorem e3K(s:BitVec 32):a00 32 ((s.toNat:Nat):Int)=s:=by
 simp
theorem e8E(s:BitVec 32):wrap .u32 ((s.toNat:Nat):Int)=((s.toNat:Nat):Int):=by
 have:=s.isLt
 grind[wrap,IntKind.bits,IntKind.signed]
theorem c8n(s t:BitVec 32):bits .u32 .xor ((s.toNat:Nat):Int) ((t.toNat:Nat):Int)=(((s ^^^ t).toNat:Nat):Int):=by
 show wrap .u32 (((a00 32 _ ^^^ a00 32 _).toNat:Nat):Int)=_;rw[e3K,e3K,e8E]
theorem f1i(s:BitVec 32):(bits .u32 .and ((s.toNat:Nat):Int) 1==(1:Int))=s.getLsbD 0:=by
 have h:bits .u32 .and ((s.toNat:Nat):Int) 1=(((s &&& 1#32).toNat:Nat):Int):=by
  show wrap .u32 (((a00 32 _ &&& a00 32 1).toNat:Nat):Int)=_;rw[e3K,show a00 32 1=1#32 from rfl,e8E]
 rw[h,a47,show(1#32).toNat=1 from rfl,Nat.and_one_is_mod,BitVec.getLsbD,Nat.testBit_zero]
 grind
theorem f1j(s:BitVec 32):a0v .u32 ((s.toNat:Nat):Int) 1=(((s >>> 1).toNat:Nat):Int):=by
 unfold a0v;rw[show min (a24 1) (IntKind.bits .u32)=1 from rfl,a29 _ (by simp),BitVec.toNat_ushiftRight,Nat.shiftRight_eq_div_pow];rfl
def e32(s:Int):Int:=bif (bits .u32 .and s 1)==(1:Int)then bits .u32 .xor (a0v .u32 s 1) 3988292384 else a0v .u32 s 1
theorem e8F(s:BitVec 32):e32 ((s.toNat:Nat):Int)=(((c32 s).toNat:Nat):Int):=by
 unfold e32 c32;rw[f1i,f1j,show(3988292384:Int)=(((0xedb88320#32).toNat:Nat):Int)from rfl,c8n]
 grind
theorem c6i:∀(k:Nat)(s:BitVec 32),rep e32 k ((s.toNat:Nat):Int)=(((e3I k s).toNat:Nat):Int)
 |0,_=>rfl
 |k+1,s=>by
  rw[show rep e32 (k+1) ((s.toNat:Nat):Int)=rep e32 k (e32 ((s.toNat:Nat):Int))from rfl,e8F,c6i k];rfl
def e3L(l:List Int):BitVec 32:=e3J 0xffffffff#32 (l.map (a00 32))
def b3E(l:List Int):Nat:=(~~~ e3L l).toNat
theorem e3M(l:List Int):b3E l<4294967296:=(~~~ e3L l).isLt
abbrev c6j:Type:=a0I×(Int×(Int×(List (Int×(Int×Unit))×(List a0M×Unit))))
def mkT(fm:a0I)(xs:List Pc):c6j:=(fm,((b0v xs:Nat):Int),((b7m fm xs:Nat):Int),b1z 0 0 xs,xs.map (·.1),())
def b2v(y0 d q r:Nat):Prop:=4294967296<=q\/4294967296*r+d<q*y0
instance (y0 d q r:Nat):Decidable (b2v y0 d q r):=inferInstanceAs (Decidable (_\/_))
def c3e(u d y1 y0:Nat):Nat:=
 if b2v y0 d (u / y1) (u%y1)then
  if 4294967296<=u%y1+y1 then u / y1-1
  else if b2v y0 d (u / y1-1) (u%y1+y1)then u / y1-2 else u / y1-1
 else u / y1
theorem e6z{u d y1 y0:Nat}(s:2147483648<=y1)(n:y0<4294967296)(v:u<y1*4294967296+y0)(t:d<4294967296):
  c3e u d y1 y0=(u*4294967296+d) / (y1*4294967296+y0):=by
 have hp:0<y1:=by omega
 have e:u=u / y1*y1+u%y1:=(Nat.div_add_mod' u y1).symm;have p:=a09 u hp;have hq:u / y1<=4294967297:=by
  have:u / y1<4294967298:=(Nat.div_lt_iff_lt_mul hp).2 (by omega)
  omega
 have x:u*4294967296+d<(u / y1+1)*(y1*4294967296+y0):=by
  grind
 have over:∀{q r:Nat},u=q*y1+r->b2v y0 d q r->u*4294967296+d<q*(y1*4294967296+y0):=by
  intro q r g f;rcases f with f|f
  have:=a36 (y1*4294967296+y0) f
  omega
  grind
 have fits:∀{q r:Nat},u=q*y1+r->¬ b2v y0 d q r->q*(y1*4294967296+y0)<=u*4294967296+d:=
  fun g f=>e1O g (Nat.le_of_not_lt fun h=>f (.inr h))
 have i:∀{q r:Nat},u=q*y1+r->q<=4294967296->4294967296<=r->q*(y1*4294967296+y0)<=u*4294967296+d:=by
  intro q r g hq p;refine e1O g ?_
  have a:=a15 hq (a37 n);omega
 unfold c3e;generalize u / y1=q at *;generalize u%y1=r at *;have done:∀{m:Nat},m*(y1*4294967296+y0)<=u*4294967296+d->u*4294967296+d<(m+1)*(y1*4294967296+y0)->m=(u*4294967296+d) / (y1*4294967296+y0):=
  fun a b=>(Nat.div_eq_of_lt_le a b).symm
 by_cases c:b2v y0 d q r
 rw[if_pos c];have o:=over e c;have q1:1<=q:=a62 fun z=>by grind
 obtain⟨q,rfl⟩:∃k,q=k+1:=⟨q-1,by omega⟩;rw[Nat.add_sub_cancel];have j:u=q*y1+(r+y1):=by grind
 by_cases c1:4294967296<=r+y1
 grind
 rw[if_neg c1]
 by_cases c2:b2v y0 d q (r+y1)
 rw[if_pos c2];have o1:=over j c2;have w:1<=q:=a62 fun z=>by grind
 obtain⟨q,rfl⟩:∃k,q=k+1:=⟨q-1,by omega⟩;have l:u=q*y1+(r+y1+y1):=by grind
 exact done (m:=q) (i l (by omega) (by omega)) o1
 grind
 grind
theorem e8G(hi lo:Nat):
  (((hi*8+lo / 2305843009213693952)*4294967296+lo*8%18446744073709551616 / 4294967296)%18446744073709551608*4294967296+lo*8%18446744073709551616%4294967296)%18446744073709551608 / 8
   = (hi*18446744073709551616+lo)%prm:=by
 have e:((hi*8+lo / 2305843009213693952)*4294967296+lo*8%18446744073709551616 / 4294967296)*4294967296+lo*8%18446744073709551616%4294967296=(hi*18446744073709551616+lo)*8:=by omega
 rw[e6x,e];exact e1P _ 8 prm (by simp)
theorem e3N{hi lo:Nat}(h:hi<prm)(g:lo<18446744073709551616):hi*8+lo / 2305843009213693952<4294967295*4294967296+4294967288:=by
 unfold prm at h;omega
theorem e1S{a b c:Nat}(h:a<prm)(hb:b<prm)(g:c<=prm):(a*b+c) / 18446744073709551616<prm:=by
 have:=a15 (a57 h) (a57 hb)
 unfold prm at *;omega
theorem e8H{a b x0 x1 y0 y1 t:Nat}(k:x0=a%4294967296)(c:x1=a / 4294967296)(d:y0=b%4294967296)(i:y1=b / 4294967296)(o:t=x1*y0+x0*y0 / 4294967296)
  (n:a<18446744073709551616)(hb:b<18446744073709551616):
  x1*y1+t / 4294967296+(t%4294967296+x0*y1) / 4294967296=a*b / 18446744073709551616/\x0*y0<18446744073709551616/\t<18446744073709551616/\t%4294967296+x0*y1<18446744073709551616:=by
 have j:a=x1*4294967296+x0:=by omega
 have l:b=y1*4294967296+y0:=by omega
 have e:a*b=x1*y1*18446744073709551616+(x1*y0+x0*y1)*4294967296+x0*y0:=by
  grind
 have m:∀{p q:Nat},p<4294967296->q<4294967296->p*q<=4294967295*4294967295:=fun hp hq=>a15 (by omega) (by omega);have h:=m (show x0<4294967296 by omega) (show y0<4294967296 by omega);have f:=m (show x1<4294967296 by omega) (show y0<4294967296 by omega);have g:=m (show x0<4294967296 by omega) (show y1<4294967296 by omega);omega
theorem d9I(n:Nat):wrap .u64 (n:Int)=((n%18446744073709551616:Nat):Int):=by
 rfl
theorem d4v{n k:Nat}(h:k<=64):a0v .u64 (n:Int) (k:Int)=((n / 2^k:Nat):Int):=by
 have g:min (a24 (k:Int)) (IntKind.bits .u64)=k:=by simp_all[IntKind.bits]
 unfold a0v
 grind
theorem e1T(n:Nat):a0v .u64 (n:Int) 32=((n / 4294967296:Nat):Int):=d4v (k:=32) (by omega)
theorem e5n(n:Nat):bits .u64 .and (n:Int) 4294967295=((n%4294967296:Nat):Int):=by
 show wrap .u64 (((a00 64 (n:Int) &&& a00 64 4294967295).toNat:Nat):Int)=_;have g:(a00 64 4294967295).toNat=4294967295:=rfl;have h:(a00 64 (n:Int)).toNat=n%18446744073709551616:=by rfl
 rw[a47,h,g,show 4294967295=2^32-1 from rfl,a35,d9I];omega
theorem f4Y{a b:Nat}(f:a<2305843009213693952)(hb:b<8):bits .u64 .or ((a*8:Nat):Int) (b:Int)=((a*8+b:Nat):Int):=by
 show wrap .u64 (((a00 64 ((a*8:Nat):Int) ||| a00 64 (b:Int)).toNat:Nat):Int)=_;have h:(a00 64 ((a*8:Nat):Int)).toNat=2^3*a:=by grind[a31]
 have g:(a00 64 (b:Int)).toNat=b:=by grind
 rw[BitVec.toNat_or,h,g,<-Nat.two_pow_add_eq_or_of_lt (i:=3) hb a,d9I];omega
theorem e3O{a b:Nat}(f:a<18446744073709551616)(hb:b<18446744073709551616):a7m ((a:Int),(b:Int))=some (((a*b / 18446744073709551616:Nat):Int),((a*b%18446744073709551616:Nat):Int)):=by
 obtain⟨k,c,d,e⟩:=e8H (a:=a) (b:=b) rfl rfl rfl rfl rfl f hb;unfold a7m;simp only[e1T,e5n,<-a52,<-Int.natCast_add,d9I,sj,pJ,Int.natCast_inj];refine⟨?_,trivial⟩
 revert k c d e
 generalize a%4294967296*(b%4294967296)=p00;generalize a / 4294967296*(b%4294967296)=p10;generalize a%4294967296*(b / 4294967296)=p01;have i:a*b / 18446744073709551616<18446744073709551616:=a58 (Nat.lt_of_le_of_lt (a15 (a37 f) (a37 hb)) (by omega:18446744073709551616*18446744073709551616<18446744073709551616*18446744073709551616+1) |> fun h=>by
  rcases Nat.lt_or_ge (a*b) (18446744073709551616*18446744073709551616)with g|g;omega
  have:=Nat.mul_lt_mul_of_lt_of_le f (a37 hb) (by omega);omega)
 omega
theorem c5c{α:Type}(p:Prop)[Decidable p](a b:α):(bif decide p then a else b)=if p then a else b:=by
 simp
theorem e8I:a5j 2305843009213693951=some 3:=by rfl
theorem d9J{u d q:Nat}(h:q=c3e u d 4294967295 4294967288)(f:u<4294967295*4294967296+4294967288)(g:d<4294967296):q*18446744073709551608<=u*4294967296+d/\u*4294967296+d<q*18446744073709551608+18446744073709551608/\q<4294967296:=by
 grind[e6z]
theorem c5d{u d u0 q r:Nat}{s:Int}(i:d<4294967296)(hq:q<=4294967297)(j:r<4294967296):a3f ((18446744073709551608:Int),s,(4294967295:Int),(4294967288:Int),(u:Int),(d:Int),(u0:Int),(q:Int),(r:Int),()) =
  if b2v 4294967288 d q r then(if 4294967296<=r+4294967295 then some (.inr ((18446744073709551608:Int),s,(4294967295:Int),(4294967288:Int),(u:Int),(d:Int),(u0:Int),((q-1:Nat):Int),()))else some (.inl ((18446744073709551608:Int),s,(4294967295:Int),(4294967288:Int),(u:Int),(d:Int),(u0:Int),((q-1:Nat):Int),((r+4294967295:Nat):Int),())))else some (.inr ((18446744073709551608:Int),s,(4294967295:Int),(4294967288:Int),(u:Int),(d:Int),(u0:Int),(q:Int),())):=by
 have c:wrap .u64 ((q:Int)-1)=(((q-1:Nat)):Int)\/q=0:=by
  rcases a63 q with h|h;exact .inr h;left;rw[a0p (by omega)];omega
 have a:wrap .u64 ((r:Int)+4294967295)=((r+4294967295:Nat):Int):=by rw[a0p (by omega)];omega
 have b:decide (wrap .u64 ((r:Int)+4294967295)>=(4294967296:Int))=decide (4294967296<=r+4294967295):=by
  rw[a];exact decide_eq_decide.2 (by omega)
 have g:q≠0->(bif decide (wrap .u64 ((r:Int)+4294967295)>=(4294967296:Int))then(some (.inr ((18446744073709551608:Int),s,(4294967295:Int),(4294967288:Int),(u:Int),(d:Int),(u0:Int),(wrap .u64 ((q:Int)-1)),())):Option (_ ⊕ (Int×Int×Int×Int×Int×Int×Int×Int×Unit)))else some (.inl ((18446744073709551608:Int),s,(4294967295:Int),(4294967288:Int),(u:Int),(d:Int),(u0:Int),(wrap .u64 ((q:Int)-1)),(wrap .u64 ((r:Int)+4294967295)),()))) =
   (if 4294967296<=r+4294967295 then some (.inr ((18446744073709551608:Int),s,(4294967295:Int),(4294967288:Int),(u:Int),(d:Int),(u0:Int),((q-1:Nat):Int),()))else some (.inl ((18446744073709551608:Int),s,(4294967295:Int),(4294967288:Int),(u:Int),(d:Int),(u0:Int),((q-1:Nat):Int),((r+4294967295:Nat):Int),()))):=fun e=>by
  rw[b,c.resolve_right e,a];exact c5c ..
 by_cases h1:4294967296<=q
 have f:decide ((q:Int)>=(4294967296:Int))=true:=decide_eq_true (by omega);rw[if_pos (.inl h1),<-g (by omega)];unfold a3f;dsimp only;rw[f,cT,oB];have f:decide ((q:Int)>=(4294967296:Int))=false:=decide_eq_false (by omega);have l:wrap .u64 ((q:Int)*4294967288)=((q*4294967288:Nat):Int):=by rw[a0p (by omega)];omega
 have m:wrap .u64 (wrap .u64 ((4294967296:Int)*(r:Int))+(d:Int))=((4294967296*r+d:Nat):Int):=by rw[a0p (n:=4294967296*(r:Int)) (by omega),a0p (by omega)];omega
 by_cases h2:4294967296*r+d<q*4294967288
 have k:decide (wrap .u64 ((q:Int)*4294967288) > wrap .u64 (wrap .u64 ((4294967296:Int)*(r:Int))+(d:Int)))=true:=decide_eq_true (by omega);rw[if_pos (.inr h2),<-g (by omega)];unfold a3f;dsimp only;rw[f,cF,k,cT,oB];have k:decide (wrap .u64 ((q:Int)*4294967288) > wrap .u64 (wrap .u64 ((4294967296:Int)*(r:Int))+(d:Int)))=false:=decide_eq_false (by omega);rw[if_neg (by unfold b2v;omega)];unfold a3f;dsimp only;rw[f,cF,k,cF,oB]
theorem e8J{u d u0:Nat}{s:Int}(f:u<4294967295*4294967296+4294967288)(g:d<4294967296):
  a0d a3f ((18446744073709551608:Int),s,(4294967295:Int),(4294967288:Int),(u:Int),(d:Int),(u0:Int),((u / 4294967295:Nat):Int),((u%4294967295:Nat):Int),())=some ((18446744073709551608:Int),s,(4294967295:Int),(4294967288:Int),(u:Int),(d:Int),(u0:Int),((c3e u d 4294967295 4294967288:Nat):Int),()):=by
 have hq:u / 4294967295<=4294967297:=by omega
 have h:u%4294967295<4294967295:=a09 _ (by omega);unfold c3e
 revert hq h
 generalize u / 4294967295=q;generalize u%4294967295=r;intro hq h;have s0:=c5d (u0:=u0) (s:=s) (u:=u) g hq (a66 h)
 by_cases c1:b2v 4294967288 d q r
 ·rw[if_pos c1]at s0|-
  by_cases c2:4294967296<=r+4294967295
  simp_all[a0g]
  ·rw[if_neg c2]at s0|-;rw[a0k s0];have s1:=c5d (u0:=u0) (s:=s) (u:=u) (q:=q-1) (r:=r+4294967295) g (by omega) (by omega)
   by_cases c3:b2v 4294967288 d (q-1) (r+4294967295)
   all_goals simp_all[Nat.sub_sub,a0g]
 simp_all[a0g]
theorem c5e{u d q r:Nat}{s q1:Int}(i:d<4294967296)(hq:q<=4294967297)(j:r<4294967296):a3g ((18446744073709551608:Int),s,(4294967295:Int),(4294967288:Int),(d:Int),q1,(r:Int),(u:Int),(q:Int),()) =
  if b2v 4294967288 d q r then(if 4294967296<=r+4294967295 then some (.inr ((18446744073709551608:Int),s,(d:Int),q1,(u:Int),((q-1:Nat):Int),()))else some (.inl ((18446744073709551608:Int),s,(4294967295:Int),(4294967288:Int),(d:Int),q1,((r+4294967295:Nat):Int),(u:Int),((q-1:Nat):Int),())))else some (.inr ((18446744073709551608:Int),s,(d:Int),q1,(u:Int),(q:Int),())):=by
 have c:wrap .u64 ((q:Int)-1)=(((q-1:Nat)):Int)\/q=0:=by
  rcases a63 q with h|h;exact .inr h;left;rw[a0p (by omega)];omega
 have a:wrap .u64 ((r:Int)+4294967295)=((r+4294967295:Nat):Int):=by rw[a0p (by omega)];omega
 have b:decide (wrap .u64 ((r:Int)+4294967295)>=(4294967296:Int))=decide (4294967296<=r+4294967295):=by
  rw[a];exact decide_eq_decide.2 (by omega)
 have g:q≠0->(bif decide (wrap .u64 ((r:Int)+4294967295)>=(4294967296:Int))then(some (.inr ((18446744073709551608:Int),s,(d:Int),q1,(u:Int),(wrap .u64 ((q:Int)-1)),())):Option (_ ⊕ (Int×Int×Int×Int×Int×Int×Unit)))else some (.inl ((18446744073709551608:Int),s,(4294967295:Int),(4294967288:Int),(d:Int),q1,(wrap .u64 ((r:Int)+4294967295)),(u:Int),(wrap .u64 ((q:Int)-1)),()))) =
   (if 4294967296<=r+4294967295 then some (.inr ((18446744073709551608:Int),s,(d:Int),q1,(u:Int),((q-1:Nat):Int),()))else some (.inl ((18446744073709551608:Int),s,(4294967295:Int),(4294967288:Int),(d:Int),q1,((r+4294967295:Nat):Int),(u:Int),((q-1:Nat):Int),()))):=fun e=>by
  rw[b,c.resolve_right e,a];exact c5c ..
 by_cases h1:4294967296<=q
 have f:decide ((q:Int)>=(4294967296:Int))=true:=decide_eq_true (by omega);rw[if_pos (.inl h1),<-g (by omega)];unfold a3g;dsimp only;rw[f,cT,oB];have f:decide ((q:Int)>=(4294967296:Int))=false:=decide_eq_false (by omega);have l:wrap .u64 ((q:Int)*4294967288)=((q*4294967288:Nat):Int):=by rw[a0p (by omega)];omega
 have m:wrap .u64 (wrap .u64 ((4294967296:Int)*(r:Int))+(d:Int))=((4294967296*r+d:Nat):Int):=by rw[a0p (n:=4294967296*(r:Int)) (by omega),a0p (by omega)];omega
 by_cases h2:4294967296*r+d<q*4294967288
 have k:decide (wrap .u64 ((q:Int)*4294967288) > wrap .u64 (wrap .u64 ((4294967296:Int)*(r:Int))+(d:Int)))=true:=decide_eq_true (by omega);rw[if_pos (.inr h2),<-g (by omega)];unfold a3g;dsimp only;rw[f,cF,k,cT,oB];have k:decide (wrap .u64 ((q:Int)*4294967288) > wrap .u64 (wrap .u64 ((4294967296:Int)*(r:Int))+(d:Int)))=false:=decide_eq_false (by omega);rw[if_neg (by unfold b2v;omega)];unfold a3g;dsimp only;rw[f,cF,k,cF,oB]
theorem e8K{u d:Nat}{s q1:Int}(f:u<4294967295*4294967296+4294967288)(g:d<4294967296):
  a0d a3g ((18446744073709551608:Int),s,(4294967295:Int),(4294967288:Int),(d:Int),q1,((u%4294967295:Nat):Int),(u:Int),((u / 4294967295:Nat):Int),())=some ((18446744073709551608:Int),s,(d:Int),q1,(u:Int),((c3e u d 4294967295 4294967288:Nat):Int),()):=by
 have hq:u / 4294967295<=4294967297:=by omega
 have h:u%4294967295<4294967295:=a09 _ (by omega);unfold c3e
 revert hq h
 generalize u / 4294967295=q;generalize u%4294967295=r;intro hq h;have s0:=c5e (s:=s) (q1:=q1) (u:=u) g hq (a66 h)
 by_cases c1:b2v 4294967288 d q r
 ·rw[if_pos c1]at s0|-
  by_cases c2:4294967296<=r+4294967295
  simp_all[a0g]
  ·rw[if_neg c2]at s0|-;rw[a0k s0];have s1:=c5e (s:=s) (q1:=q1) (u:=u) (q:=q-1) (r:=r+4294967295) g (by omega) (by omega)
   by_cases c3:b2v 4294967288 d (q-1) (r+4294967295)
   all_goals simp_all[Nat.sub_sub,a0g]
 simp_all[a0g]
theorem f1k(n:Int):wrap .u64 n=n%18446744073709551616:=by rfl
theorem e6A{u d Q:Nat}(h:Q*18446744073709551608<=u*4294967296+d)(g:u*4294967296+d<Q*18446744073709551608+18446744073709551608):
  wrap .u64 (wrap .u64 (wrap .u64 ((u:Int)*4294967296)+(d:Int))-wrap .u64 ((Q:Int)*18446744073709551608))=(((u*4294967296+d)%18446744073709551608:Nat):Int):=by
 grind[f1k]
theorem d6X{u:Nat}(h:u<18446744073709551616):wrap .u64 ((u:Int)-wrap .u64 (((u / 4294967295:Nat):Int)*4294967295))=((u%4294967295:Nat):Int):=by
 grind[a0p]
theorem sh3(n:Nat):a0t .u64 (n:Int) 3=((n*8%18446744073709551616:Nat):Int):=by
 rfl
theorem e3P(lo:Nat):a4i (0,(lo:Int),(2305843009213693951:Int))=some (wrap .u64 (a32 (lo:Int) 2305843009213693951),((lo%2305843009213693951:Nat):Int)):=by
 rfl
theorem f1l:wrap .u64 3=3:=by rfl
theorem e8L:wrap .u64 (64-3)=((61:Nat):Int):=by rfl
theorem f1m:a0t .u64 2305843009213693951 3=18446744073709551608:=by rfl
theorem f1n:a0v .u64 18446744073709551608 32=4294967295:=by rfl
theorem f1o:bits .u64 .and 18446744073709551608 4294967295=4294967288:=by rfl
theorem f1p:((2305843009213693951:Int)==0)=false:=by rfl
theorem f1q:decide ((3:Int)<0)=false:=by rfl
theorem f1r:decide (((61:Nat):Int)<0)=false:=by rfl
theorem f1s:((4294967295:Int)==0)=false:=by rfl
theorem e1U{u d Q v:Nat}(hv:(u*4294967296+d)%18446744073709551608=v)(h:Q*18446744073709551608<=u*4294967296+d)(g:u*4294967296+d<Q*18446744073709551608+18446744073709551608):
  wrap .u64 (wrap .u64 (wrap .u64 ((u:Int)*4294967296)+(d:Int))-wrap .u64 ((Q:Int)*18446744073709551608))=(v:Int):=by
 simp_all[e6A]
theorem e5o{u:Nat}(h:u<18446744073709551616):wrap .u64 ((u / 4294967295:Nat):Int)=((u / 4294967295:Nat):Int):=a0p (by omega)
theorem e6B{hi lo u d e v r:Nat}(hv:(u*4294967296+d)%18446744073709551608=v)(o:(v*4294967296+e)%18446744073709551608=r)(z:hi≠0)(A:hi<2305843009213693951)(p:hi*8+lo / 2305843009213693952=u)(j:lo*8%18446744073709551616 / 4294967296=d)(l:lo*8%18446744073709551616%4294967296=e)(B:lo<18446744073709551616)
  (h:u<4294967295*4294967296+4294967288)(f:d<4294967296)(a:e<4294967296):
  ∃q:Int,a4i ((hi:Int),(lo:Int),(2305843009213693951:Int))=some (q,((r / 8:Nat):Int)):=by
 have b:((hi:Int)==0)=false:=by simp_all
 have c:decide ((2305843009213693951:Int)<=(hi:Int))=false:=decide_eq_false (by omega);have i:hi*8%18446744073709551616=hi*8:=by omega
 have m:bits .u64 .or ((hi*8:Nat):Int) (a0v .u64 (lo:Int) ((61:Nat):Int))=(u:Int):=by
  rw[d4v (k:=61) (by omega),show 2^61=2305843009213693952 from rfl,f4Y (by omega) (by omega),p]
 have t:=e8J (u0:=e) (s:=3) h f;have C:=e1U hv (d9J rfl h f).1 (d9J rfl h f).2.1;have g:v<4294967295*4294967296+4294967288:=by grind
 have l1:=e8K (s:=3) (q1:=((c3e u d 4294967295 4294967288:Nat):Int)) g a;have D:=e1U o (d9J rfl g a).1 (d9J rfl g a).2.1;have w:=d6X (u:=u) (a25 h (by simp));have r2:=d6X (u:=v) (a25 g (by simp));have x:wrap .u64 ((u / 4294967295:Nat):Int)=((u / 4294967295:Nat):Int):=e5o (a25 h (by simp));have y:wrap .u64 ((v / 4294967295:Nat):Int)=((v / 4294967295:Nat):Int):=e5o (a25 g (by simp));have q1:a32 (u:Int) 4294967295=((u / 4294967295:Nat):Int):=rfl;have E:a32 (v:Int) 4294967295=((v / 4294967295:Nat):Int):=rfl;have g8:∀n:Nat,a0v .u64 (n:Int) 3=((n / 8:Nat):Int):=fun n=>d4v (k:=3) (by omega);unfold a4i;dsimp only;rw[f1p,cF,c,cF,b,cF,e8I,oB,f1l,f1q,cF,cF,e8L,f1r,cF,cF,f1m,f1n,f1s,cF,f1o,sh3 hi,i,m,sh3 lo,e1T,j,e5n,l,q1,x,w,t,oB];simp_all
theorem e6C{hi lo:Nat}(h:hi<prm)(g:lo<18446744073709551616):∃q:Int,a4i ((hi:Int),(lo:Int),(2305843009213693951:Int))=some (q,(((hi*18446744073709551616+lo)%prm:Nat):Int)):=by
 by_cases h0:hi=0
 subst h0;rw[Nat.zero_mul,a38];exact⟨_,e3P lo⟩;rw[<-e8G hi lo];exact e6B rfl rfl h0 h rfl rfl rfl g (e3N h g) (a58 (Nat.lt_of_lt_of_le (a09 _ (by omega)) (by omega))) (a09 _ (by omega))
theorem c3J{a b c:Nat}(g:a<prm)(hb:b<prm)(f:c<=prm):a7e ((a:Int),(b:Int),(c:Int))=some (((a*b+c)%prm:Nat):Int):=by
 have k:=e1S g hb f;unfold prm at g hb f k;have j:=e3O (a:=a) (b:=b) (by omega) (by omega);have i:b1c (((a*b%18446744073709551616:Nat):Int),(c:Int),(0:Int))=some ((((a*b%18446744073709551616+c)%18446744073709551616:Nat):Int),(((a*b%18446744073709551616+c) / 18446744073709551616:Nat):Int)):=rfl;obtain⟨hi,h⟩:∃hi,(a*b+c) / 18446744073709551616=hi:=⟨_,rfl⟩;rw[h]at k;have d:wrap .u64 (((a*b / 18446744073709551616:Nat):Int)+((a*b%18446744073709551616+c) / 18446744073709551616:Nat))=(hi:Int):=by
  grind[a0p]
 obtain⟨q,hq⟩:=e6C (hi:=hi) (lo:=(a*b%18446744073709551616+c)%18446744073709551616) (by unfold prm;omega) (by omega);have e:hi*18446744073709551616+(a*b%18446744073709551616+c)%18446744073709551616=a*b+c:=by omega
 rw[e]at hq;have t:a33 (hi:Int) 2305843009213693951=(hi:Int):=by
  grind
 unfold a7e b1d;simp_all
theorem c5f(l:List Int)(n i:Int):∀(j k:Nat)(s:Int),k+j=8->a0d a9m (s,l,n,i,(k:Int),())=some (rep e32 j s,l,n,i,())
 |0,k,s,h=>by
  obtain rfl:k=8:=by omega
  rfl
 |j+1,k,s,h=>by
  have d:decide ((k:Int)<8)=true:=by grind
  rw[a0k (s':=(e32 s,l,n,i,((k+1:Nat):Int),())) (by
   simp only[a9m,d,cT,a0b (show k<1000000 by omega),e32]
   grind)]
  exact c5f l n i j (k+1) (e32 s) (by omega)
theorem c8o{l:List Int}(k:short l):∀(rest done:List Int)(s:BitVec 32),done++rest=l->(∀b∈rest,0<=b/\b<256)->
  a0d a6g (((s.toNat:Nat):Int),l,(l.length:Int),(done.length:Int),())=some ((((e3J s (rest.map (a00 32))).toNat:Nat):Int),())
 | [],done,s,hd,_=>by
  obtain rfl:done=l:=by simp_all
  exact a0g (by simp only[a6g,dge,cF];rfl)
 |x::rest,done,s,hd,hb=>by
  have g:done.length<l.length:=by grind
  have a:a0m l (done.length:Int)=some x:=by grind[a0e]
  have c:=hb x (by simp);have e:bits .u32 .xor ((s.toNat:Nat):Int) (wrap .u32 x)=(((s ^^^ a00 32 x).toNat:Nat):Int):=by
   rw[<-c8n]
   grind[a31,wrap,IntKind.bits]
  have f:=c5f l (l.length:Int) (done.length:Int) 8 0 (bits .u32 .xor ((s.toNat:Nat):Int) (wrap .u32 x)) rfl;rw[e,c6i]at f;rw[a0k (s':=((((d4u s (a00 32 x)).toNat:Nat):Int),l,(l.length:Int),(((done++[x]).length:Nat):Int),())) (by
   simp only[a6g,dlt g,cT,a,oB,e]
   erw[f]
   simp only[oB,a0b (a25 g k)];simp[d4u])]
  exact c8o k rest (done++[x]) _ (by simp_all) (fun b h=>hb b (by grind))
theorem d4w{l:List Int}(g:short l)(hb:∀b∈l,0<=b/\b<256):a8j l=some ((b3E l:Nat):Int):=by
 have h:=c8o g l [] 0xffffffff#32 rfl hb;rw[a03]at h;unfold a8j
 erw[h]
 simp only[oB];rw[show IntKind.max .u32=(((0xffffffff#32).toNat:Nat):Int)from rfl,c8n];rfl
theorem c8p{l:List Int}(k:short l):∀(rest done:List Int)(h:Nat),done++rest=l->h<prm->(∀b∈rest,0<=b/\b<256)->
  a0d a9x ((h:Int),l,(l.length:Int),(done.length:Int),())=some (((prs h (rest.map a24):Nat):Int),())
 | [],done,h,hd,_,_=>by
  obtain rfl:done=l:=by simp_all
  exact a0g (by simp only[a9x,dge,cF];rfl)
 |x::rest,done,h,hd,hh,hb=>by
  have g:done.length<l.length:=by grind
  have d:a0m l (done.length:Int)=some x:=by grind[a0e]
  have i:=hb x (by simp);have e:wrap .u64 ((wrap .u64 x)+(1:Int))=((x.toNat+1:Nat):Int):=by grind[a0p]
  have f:=c3J (a:=h) (b:=1000003) (c:=x.toNat+1) hh (by decide) (by unfold prm;omega);rw[a0k (s':=((((h*1000003+(x.toNat+1))%prm:Nat):Int),l,(l.length:Int),(((done++[x]).length:Nat):Int),())) (by
   simp only[a9x,dlt g,cT,d,oB,e]
   erw[f]
   simp[a0b (a25 g k)])]
  exact c8p k rest (done++[x]) _ (by simp_all) (a09 _ (by decide)) (fun b h=>hb b (by grind))
theorem e3Q{l:List Int}(g:short l)(hb:∀b∈l,0<=b/\b<256):a7L l=some ((prI l:Nat):Int):=by
 have h:=c8p g l [] 0 rfl (by decide) hb;unfold a7L
 erw[h]
 rfl
theorem c0A:∀(k n p s:Nat),n<2^k->n<4611686018427387904->p<prm->s<prm->a0d a9y ((n:Int),(p:Int),(s:Int),())=some (((pwr k n p s:Nat):Int),())
 |0,n,p,s,hn,_,_,_=>by
  obtain rfl:n=0:=by omega
  rfl
 |k+1,n,p,s,hn,hn2,hp,hs=>by
  by_cases h0:n=0
  subst h0;rfl;have d:decide ((n:Int) > 0)=true:=by grind
  have f:a33 (n:Int) 2=((n%2:Nat):Int):=rfl;have e:wrap .i64 (a32 (n:Int) 2)=((n / 2:Nat):Int):=by rw[show a32 (n:Int) 2=((n / 2:Nat):Int)from rfl,a0c (by omega)]
  have g:=c3J (c:=0) hs hs (by simp);have h:=c3J (c:=0) hp hs (by simp);have a:n / 2<2^k:=by omega
  simp only[a49,nZ]at g h;have m:=a09 (s*s) (show 0<prm by decide);rw[pwr,if_neg h0]
  by_cases h1:n%2=1
  rw[if_pos h1,a0k (s':=(((n / 2:Nat):Int),((p*s%prm:Nat):Int),((s*s%prm:Nat):Int),())) (by
   simp only[a9y,d,cT,f,h1,show(((1:Nat):Int)==1)=true from rfl];simp_all)]
  exact c0A k _ _ _ a (by omega) (a09 _ (by decide)) m;have b:n%2=0:=by omega
  rw[if_neg h1,a0k (s':=(((n / 2:Nat):Int),(p:Int),((s*s%prm:Nat):Int),())) (by
   simp only[a9y,d,cT,f,b,show(((0:Nat):Int)==1)=false from rfl,cF,oB];simp_all)]
  exact c0A k _ _ _ a (by omega) hp m
theorem e6D{a b n:Nat}(f:a<prm)(hb:b<prm)(h:n<4611686018427387904):b4x ((a:Int),(b:Int),(n:Int))=some ((((a*(1000003^n%prm)+b)%prm:Nat):Int),true):=by
 have hp:=c0A 62 n 1 1000003 h h (by decide) (by decide);rw[e8D 62 n 1 1000003 h (by decide),Nat.one_mul]at hp;have j:=c3J (c:=b) f (a09 (1000003^n) (show 0<prm by decide)) (a37 hb);unfold prm at f hb;have k:decide ((a:Int)>=(2305843009213693951:Int))=false:=by grind
 have d:decide ((b:Int)>=(2305843009213693951:Int))=false:=by grind
 have e:decide ((n:Int)<(0:Int))=false:=by simp
 have i:a1s (n:Int) 0=(n:Int):=by rfl
 have g:b3f (n:Int)=some ((1000003^n%prm:Nat):Int):=by
  simp_all[b3f]
 simp only[b4x,k,d,e,cF,oB,g];simp_all
theorem d4x(b:a1h)(N:Int){i:Nat}:∀(rest done:List (List Int)) (out:List Int),done++rest=b.2.1->b.2.1.length<=8->(∀r∈rest,i<r.length)->out.length+rest.length<1000000->
  a0d a8r ((i:Int),N,(i:Int),b.2.1,(b.2.1.length:Int),(done.length:Int),out,b,())=some (N,(i:Int),out++rest.map (fun r=>r.getD i 0),b,())
 | [],done,out,hd,_,_,_=>by
  simp_all[a0g,a8r]
 |r::rest,done,out,hd,h8,hr,ho=>by
  have g:done.length<b.2.1.length:=by grind
  have f:a0m b.2.1 (done.length:Int)=some r:=by grind[a0e]
  have k:=hr r (by simp);have h:a0m r (i:Int)=some (r.getD i 0):=by simp_all[a0e]
  simp at ho;rw[a0k (s':=((i:Int),N,(i:Int),b.2.1,(b.2.1.length:Int),(((done++[r]).length:Nat):Int),out++[r.getD i 0],b,())) (by
   simp only[a8r,dlt g,cT,f,h,oB,a0H (show out.length+1<2147483648 by omega),a0b (show done.length<1000000 by omega)]
   simp)]
  rw[d4x b N rest (done++[r]) _ (by simp_all) h8 (fun q hq=>hr q (by grind)) (by grind)]
  simp
theorem d4y{b:a1h}(hb:a2R b):a6r b=some (wvB b):=by
 obtain⟨g1,g2,g3,g4,g5,g6,g7⟩:=id hb;have hlen:∀r∈b.2.1,r.length=a1e b:=fun r hr=>by
  simp_all
 have hw:∀i,i<=4096->(wv i b.2.1).length<=32768:=fun i hi=>by
  rw[d4t]
  calc i*b.2.1.length<=4096*8:=a15 hi g4
   _=32768:=rfl
 have h:=a1E (f:=a8s) (fun i=>(((a1e b:Nat):Int),(i:Int),wv i b.2.1,b,())) (a1e b) (b:=(wv (a1e b) b.2.1,())) (fun i hi=>by
  have h0:=d4x b ((a1e b:Nat):Int) (i:=i) b.2.1 [] (wv i b.2.1) rfl g4 (fun r hr=>by simp_all) (by grind);rw[a03]at h0;simp only[a8s,dlt hi,cT]
  grind[a0b,wv,a69]) (by simp_all[a8s])
 unfold a6r;simp[b3A,hb,a8a]
 erw[h]
 rfl
theorem b9z{b:a1h}:(wvB b).length=a1e b*b.2.1.length:=d4t _
theorem d6Y{b:a1h}(hb:a2R b):(wvB b).all (fun x=>a2B x b.1)=true:=by
 obtain⟨g,f,k,a,c,d,e⟩:=hb;refine lA.2 fun x h=>?_
 unfold wvB wv at h
 grind
theorem e6E{b:a1h}(hb:a2R b):b3e b=some (a2q b.1 (wvB b),0):=by
 have hl:(wvB b).length<=1000000:=by
  rw[b9z]
  calc a1e b*b.2.1.length<=4096*8:=a15 hb.2.2.2.2.2.1 hb.2.2.2.1
   _<=1000000:=by simp
 unfold b3e;simp only[b3A,hb,decide_true,oB,bT,cF,d4y hb,c9M ⟨hb.1,hb.2.1⟩ hl (d6Y hb)]
theorem e1V{b:a1h}(hb:a2R b){w:Int}(h:b.1=w)(d:List Int):b0J (((prI (a2q w d):Nat):Int),b)=some (((prI (a2q w (d++wvB b)):Nat):Int),true):=by
 subst h;have g:=c8l ⟨hb.1,hb.2.1⟩ (wvB b);have f:(wvB b).length<=4096*8:=by rw[b9z];exact a15 hb.2.2.2.2.2.1 hb.2.2.2.1
 have k:=e6D (e1Q (a2q b.1 d)) (e1Q (a2q b.1 (wvB b))) (n:=(a2q b.1 (wvB b)).length) (by omega);unfold b0J;simp only[e6E hb,oB,show((0:Int) != 0)=false from rfl,cF,e3Q (show short (a2q b.1 (wvB b))by unfold short;omega) (c3d _ _),d9G,e6y];simp_all
theorem b9A{α:Type}(a:List α)(x:α)(b:List α):a0m (a++x::b) (a.length:Int)=some x:=by
 simp_all[a0e]
theorem e6F{P A R:List Int}(b:(P++(A++R)).length<1000000000):a6f (ord P (A++R),(A.length:Int))=some (A,ord (P++A) R):=by
 simp at b;have c:a1s (A.length:Int) 0=(A.length:Int):=by rfl
 have d:wrap .i64 (((P++(A++R)).length:Int)-(P.length:Int))=((A++R).length:Int):=by
  grind[a0c]
 have h:decide ((A.length:Int) > ((A++R).length:Int))=false:=by grind
 have w2:wrap .i64 ((P.length:Int)+(A.length:Int))=(((P++A).length:Nat):Int):=by
  grind[a0c]
 have g:decide ((0:Int)<=(((P++A).length:Nat):Int))=true:=by rfl
 have f:decide ((((P++A).length:Nat):Int)<=((P++(A++R)).length:Int))=true:=by simp_all
 have k:decide ((0:Int)<=(P.length:Int))=true:=by simp
 have a:decide ((P.length:Int)<=(((P++A).length:Nat):Int))=true:=by grind
 have e:a19 P.length (a16 (P++A).length (P++(A++R)))=A:=by
  grind
 unfold a6f a2I ord;simp only[show((0:Int) != 0)=false from rfl,cF,oB,c,d,h,w2,g,f,k,a,a07,cT,tN,e,a0H (show A.length<2147483648 by omega),aA]
theorem d4z{all:List Int}(a:all.length<=8)(z:List Int×(Int×Int×Unit)):∀(rest done:List Int)(n:Nat),done++rest=all->(∀b∈rest,0<=b/\b<256)->n<256^done.length->
  a0d a4Y ((n:Int),(all.length:Int),(done.length:Int),all,z,())=some (((b7n n rest:Nat):Int),z,())
 | [],done,n,hd,_,_=>by
  obtain rfl:done=all:=by simp_all
  exact a0g (by simp only[a4Y,dge,cF];rfl)
 |x::rest,done,n,hd,hb,hn=>by
  have g:done.length<all.length:=by grind
  have hp:all.getD done.length 0=x:=by grind
  have d:=hb x (by simp);have f:decide ((0:Int)<=(done.length:Int))=true:=decide_eq_true (a05 _);have c:256^done.length<=256^7:=a26 (by omega) (by omega);have k:(256:Nat)^7=72057594037927936:=by rfl
  have w:wrap .u64 ((wrap .u64 ((n:Int)*(256:Int)))+(wrap .u64 x))=((n*256+x.toNat:Nat):Int):=by
   grind[a0p]
  rw[a0k (s':=(((n*256+x.toNat:Nat):Int),(all.length:Int),(((done++[x]).length:Nat):Int),all,z,())) (by
   simp only[a4Y,dlt g,f,a07,cT,tN,hp,w,a0b (show done.length<1000000 by omega)]
   simp)]
  exact d4z a z rest (done++[x]) _ (by simp_all) (fun b h=>hb b (by grind)) (by grind)
theorem d6Z{P A R:List Int}{k:Nat}(f:A.length=k)(g:k<=8)(hb:∀b∈A,0<=b/\b<256)(a:(P++(A++R)).length<1000000000):a4L (ord P (A++R),(k:Int))=some (((b7n 0 A:Nat):Int),ord (P++A) R):=by
 subst f;have h:=d4z g (ord (P++A) R) A [] 0 rfl hb (by simp)
 grind[b5j,b9e,c3B,a4L,e6F]
abbrev d2j:Type:=a0I×(List Int×(List Int×(Int×(Int×(Int×Unit)))))
def c6k:d2j:=((0,0,0,()),[],[],0,0,0,())
theorem d4A(a b:Nat):(a%prm+b)%prm=(a+b)%prm:=by simp
theorem e8M(n:Nat):(n%2305843009213693952+n / 2305843009213693952)%prm=n%prm:=by
 grind[prm]
theorem e6G(a:Nat):(a%1099511627776*1000003%prm+(a / 1099511627776*1000003*1099511627776%2305843009213693952+a / 1099511627776*1000003 / 2097152)%prm)%prm=a*1000003%prm:=by
 rw[d4A,b7l];have h:a / 1099511627776*1000003 / 2097152=a / 1099511627776*1000003*1099511627776 / 2305843009213693952:=by
  omega
 rw[h,<-b7l,e8M,b7l,show a%1099511627776*1000003+a / 1099511627776*1000003*1099511627776=a*1000003 by omega]
theorem d4B{α β:Type}{g:α->Option β}:∀{l:List α}{r:List β},a9p g l=some r->∀b∈r,∃a∈l,g a=some b
 | [],r,h,b,hb=>by cases h;cases hb
 |a::l,r,h,b,hb=>by
  simp only[a9p,a02]at h;obtain⟨c,k,m,d,e⟩:=h;cases e;rcases mC.1 hb with rfl|hb;exact⟨a,by simp,k⟩;obtain⟨f,i,j⟩:=d4B d b hb;exact⟨f,by simp[i],j⟩
theorem d9K:∀(k:Int)(l:List Int){r},upO k l=some r->r.length=l.length:=fun k l r h=>by
 unfold upO at h;cases hc:l.all (fun x=>a0i x&&a0i (a0t .i64 x k))with
 |false=>rw[hc]at h;cases h
 |true=>rw[hc]at h;cases h;simp
theorem d6k{s:Sub}(u:SmallS s){n:Int}{r:List Int}(h:a2J s n=some r):((r.length:Nat):Int)=n:=by
 unfold a2J at h
 split at h
 rename_i hp;obtain⟨v,w,x,y,z,A,B,a,C,q,t,b⟩:=hp;unfold c9D at h
 split at h
 cases h;simp;omega;rename_i c;obtain⟨l,g,p⟩:=a02.1 h;rw[d9K _ _ p];unfold backP at g;unfold a1i at a b
 split at g
 rename_i k;cases g;simp only[k]at a;simpa using a;rename_i d;obtain⟨f,-⟩:=b ⟨c,d⟩
 split at g
 rename_i k;rw[c4Q g];simp[k]at a f;omega;rename_i e
 split at g
 rename_i k;rw[a9j g];simp[k]at a f;omega;rename_i i
 split at g
 rename_i k;obtain⟨m,o,g⟩:=a02.1 g;rw[c2F g,a9j o];simp[k]at a f;omega;rename_i j;rw[c0T g];simp only[c,d,e,i,j,if_false,or_self]at f;omega;cases h
theorem b5Z{f:a0M}(n:∀s∈f.2.2.2.2.1,SmallS s){b:a1h}(h:a2O f=some b):a2R b/\b.1=f.2.2.1.2.2.1/\f.2.1=((a1e b:Nat):Int):=by
 obtain⟨q,o,-⟩:=b3B h;unfold a2O at h
 split at h
 ·obtain⟨k,t,h⟩:=a02.1 h
  split at h
  ·rename_i hq;obtain⟨g,u,h⟩:=a02.1 h
   split at h
   ·rename_i hb;cases h;refine⟨hb,rfl,?_⟩;have m:=c3F hq.1;have e:∀r∈k,((r.length:Nat):Int)=f.2.1:=fun r e=>by
     obtain⟨s,i,j⟩:=d4B t r e;exact d6k (n s i) j
    have p:k.headD []∈k:=by
     have:=hq.1.1
     cases k with
     |nil=>simp at this
     |cons a l=>simp
    obtain⟨v,w⟩:=c2T f.2.2.2.1 m rfl hq.2.2.2.2 u;have c:1<=g.length:=hb.2.2.1;have d:g.headD []∈g:=by
     cases g with
     |nil=>simp at c
     |cons a l=>simp
    have:=(v _ d).1
    show f.2.1=(((g.headD []).length:Nat):Int);rw[this];exact(e _ p).symm
   cases h
  cases h
 cases h
theorem c5g{a b:Nat}(h:a+b<18446744073709551616):b5a ((a:Int),(b:Int))=some (((a+b)%prm:Nat):Int):=by
 unfold b5a;simp only[];rw[show((a:Int)+(b:Int))=((a+b:Nat):Int)from rfl,a0p (by omega)];rfl
theorem e3R(a:Nat):a33 ((a:Nat):Int) (2305843009213693951:Int)=((a%prm:Nat):Int):=by
 rw[show(2305843009213693951:Int)=((prm:Nat):Int)from rfl,Int.ofNat_tmod]
theorem e8N(M:Nat):a0t .u64 (M:Int) (40:Int)=((M*1099511627776%18446744073709551616:Nat):Int):=by
 unfold a0t;show wrap .u64 ((M:Int)*2^(min (((40:Nat):Int)).toNat 64))=_;rw[tN,Nat.min_eq_left (by omega),e5m];have e:(M:Int)*2^40=((M*1099511627776:Nat):Int):=by omega
 rw[e];generalize M*1099511627776=K;omega
theorem d6l{a:Nat}(h:a<prm):b7K (a:Int)=some ((a*1000003%prm:Nat):Int):=by
 have m:a<2305843009213693951:=h;have c:bits .u64 .and (a:Int) (1099511627775:Int)=((a%1099511627776:Nat):Int):=by
  have:=b6Z (y:=a) (k:=40) (by omega) (by omega)
  rw[show wrap .u64 (a0t .u64 1 ((40:Nat):Int)-1)=(1099511627775:Int)from by kernel_rfl]at this;exact this
 have d:a0v .u64 (a:Int) (40:Int)=((a / 1099511627776:Nat):Int):=a5G (o:=40) (by omega);have e:wrap .u64 (((a%1099511627776:Nat):Int)*(1000003:Int))=((a%1099511627776*1000003:Nat):Int):=by rw[a0p (by omega)];omega
 have g:wrap .u64 (((a / 1099511627776:Nat):Int)*(1000003:Int))=((a / 1099511627776*1000003:Nat):Int):=by rw[a0p (by omega)];omega
 obtain⟨M,f⟩:∃M:Nat,M=a / 1099511627776*1000003:=⟨_,rfl⟩;have p:M<2097158291456:=by omega
 have g:wrap .u64 (((a / 1099511627776:Nat):Int)*(1000003:Int))=(M:Int):=by rw[f];exact g
 have i:a0t .u64 (M:Int) (40:Int)=((M*1099511627776%18446744073709551616:Nat):Int):=e8N M;have j:bits .u64 .and ((M*1099511627776%18446744073709551616:Nat):Int) (2305843009213693951:Int)=((M*1099511627776%2305843009213693952:Nat):Int):=by
  have:=b6Z (y:=M*1099511627776%18446744073709551616) (k:=61) (by omega) (by omega)
  rw[show wrap .u64 (a0t .u64 1 ((61:Nat):Int)-1)=(2305843009213693951:Int)from by kernel_rfl]at this;rw[this]
  have:M*1099511627776%18446744073709551616%2^61=M*1099511627776%2305843009213693952:=by omega
  rw[this]
 have l:a0v .u64 (M:Int) (21:Int)=((M / 2097152:Nat):Int):=a5G (o:=21) (by omega);have e8:wrap .u64 (((M*1099511627776%2305843009213693952:Nat):Int)+((M / 2097152:Nat):Int))=((M*1099511627776%2305843009213693952+M / 2097152:Nat):Int):=by rw[a0p (by omega)];omega
 have l1:a%1099511627776*1000003%prm<prm:=a09 _ (by decide);have l2:(M*1099511627776%2305843009213693952+M / 2097152)%prm<prm:=a09 _ (by decide);have hp:prm=2305843009213693951:=rfl;have k:=c5g (a:=a%1099511627776*1000003%prm) (b:=(M*1099511627776%2305843009213693952+M / 2097152)%prm) (by omega);unfold b7K;simp only[c,d,e,g,i,j,l,e8,e3R,k,oB];subst f;exact congrArg (fun n:Nat=>some ((n:Nat):Int)) (e6G a)
theorem b9B{l:List Int}(k:l.length<1000000000):∀(rest done:List Int)(h:Nat),done++rest=l->h<prm->(∀b∈rest,0<=b/\b<256)->
  a0d b1W (l,(h:Int),(done.length:Int),())=some (((prs h (rest.map a24):Nat):Int),())
 | [],done,h,hd,_,_=>by
  obtain rfl:done=l:=by simpa using hd
  exact a0g (by simp only[b1W,dge,cF];rfl)
 |x::rest,done,h,hd,hh,hb=>by
  have g:done.length<l.length:=by rw[<-hd];simp
  have c:a0m l (done.length:Int)=some x:=by rw[a0e g];subst hd;simp
  have i:=hb x (by simp);have e:wrap .u64 ((wrap .u64 x)+(1:Int))=((x.toNat+1:Nat):Int):=by rw[a0p (n:=x) (by omega),a0p (by omega)];omega
  have d:h*1000003%prm<prm:=a09 _ (by decide);have hp:prm=2305843009213693951:=rfl;have f:=c5g (a:=h*1000003%prm) (b:=x.toNat+1) (by omega);rw[d4A]at f;rw[a0k (s':=(l,(((h*1000003+(x.toNat+1))%prm:Nat):Int),(((done++[x]).length:Nat):Int),())) (by
   simp only[b1W,dlt g,cT,c,oB,e,d6l hh];rw[f];simp[c0y (a25 g k)])]
  exact b9B k rest (done++[x]) _ (by simpa using hd) (a09 _ (by decide)) (fun b h=>hb b (by simp[h]))
theorem d4C{l:List Int}(g:l.length<1000000000)(hb:∀b∈l,0<=b/\b<256):b5U l=some ((prI l:Nat):Int):=by
 have h:=b9B g l [] 0 rfl (by decide) hb;unfold b5U
 erw[h]
 rfl
theorem b8a(l:List Int)(i:Int):∀(j k:Nat)(s:Int),k+j=8->a0d b1e (l,s,i,(k:Int),())=some (l,rep e32 j s,i,())
 |0,k,s,h=>by
  obtain rfl:k=8:=by omega
  exact a0g rfl
 |j+1,k,s,h=>by
  have d:decide ((k:Int)<8)=true:=by simp;omega
  rw[a0k (s':=(l,e32 s,i,((k+1:Nat):Int),())) (by
   simp only[b1e,d,cT,a0b (show k<1000000 by omega),e32];cases (bits .u32 .and s 1==1:Bool)<;>rfl)]
  exact b8a l i j (k+1) (e32 s) (by omega)
theorem b9C{l:List Int}(k:short l):∀(rest done:List Int)(s:BitVec 32),done++rest=l->(∀b∈rest,0<=b/\b<256)->
  a0d a7o (l,((s.toNat:Nat):Int),(done.length:Int),())=some ((((e3J s (rest.map (a00 32))).toNat:Nat):Int),())
 | [],done,s,hd,_=>by
  obtain rfl:done=l:=by simpa using hd
  exact a0g (by simp only[a7o,dge,cF];rfl)
 |x::rest,done,s,hd,hb=>by
  have g:done.length<l.length:=by rw[<-hd];simp
  have a:a0m l (done.length:Int)=some x:=by rw[a0e g];subst hd;simp
  have c:=hb x (by simp);have e:bits .u32 .xor ((s.toNat:Nat):Int) (wrap .u32 x)=(((s ^^^ a00 32 x).toNat:Nat):Int):=by
   rw[<-c8n];congr 1;rw[a31];simp[wrap,IntKind.bits,IntKind.signed];omega
  have f:=b8a l (done.length:Int) 8 0 (bits .u32 .xor ((s.toNat:Nat):Int) (wrap .u32 x)) rfl;rw[e,c6i]at f;rw[a0k (s':=(l,(((d4u s (a00 32 x)).toNat:Nat):Int),(((done++[x]).length:Nat):Int),())) (by
   simp only[a7o,dlt g,cT,a,oB,e]
   erw[f]
   simp only[oB,a0b (a25 g k)];simp[d4u])]
  exact b9C k rest (done++[x]) _ (by simpa using hd) (fun b h=>hb b (by simp[h]))
theorem c6l{l:List Int}(g:short l)(hb:∀b∈l,0<=b/\b<256):b0L l=some ((b3E l:Nat):Int):=by
 have h:=b9C g l [] 0xffffffff#32 rfl hb;rw[a03]at h;unfold b0L
 erw[h]
 simp only[oB];rw[show IntKind.max .u32=(((0xffffffff#32).toNat:Nat):Int)from rfl,c8n];unfold b3E e3L;rw[<-BitVec.allOnes_xor];rfl
theorem c5h(b:a1h):b0Q b=some ((a1e b:Nat):Int):=by
 unfold b0Q a1e;cases hc:b.2.1 with
 |nil=>rfl
 |cons r c=>
  have d:((((r::c).length:Nat):Int)==0)=false:=by simp;omega
  simp only[d,cF,show a0m (r::c) (0:Int)=some r from rfl,oB,List.headD_cons]
theorem c3f(b:a1h){i:Nat}:∀(rest done:List (List Int)) (out:List Int),done++rest=b.2.1->b.2.1.length<=8->(∀r∈rest,i<r.length)->out.length+rest.length<1000000->
  a0d b0R ((i:Int),(done.length:Int),out,b,())=some ((i:Int),out++rest.map (fun r=>r.getD i 0),b,())
 | [],done,out,hd,_,_,_=>by
  have e:done=b.2.1:=by simpa using hd
  rw[a0g (b:=((i:Int),out,b,())) (by rw[e];simp only[b0R,dge,cF])]
  simp
 |r::rest,done,out,hd,h8,hr,ho=>by
  have g:done.length<b.2.1.length:=by rw[<-hd];simp
  have k:a0m b.2.1 (done.length:Int)=some r:=by rw[a0e g];simp[<-hd]
  have h:=hr r (by simp);have f:a0m r (i:Int)=some (r.getD i 0):=by rw[a0e h,lD,lG h];rfl
  simp only[lC]at ho;rw[a0k (s':=((i:Int),(((done++[r]).length:Nat):Int),out++[r.getD i 0],b,())) (by
   simp only[b0R,dlt g,cT,k,f,oB,a0H (show out.length+1<2147483648 by omega),a0b (show done.length<1000000 by omega)]
   simp)]
  rw[c3f b rest (done++[r]) _ (by simpa using hd) h8 (fun q hq=>hr q (by simp[hq])) (by simp only[lN,a53];omega)]
  simp
theorem c3g{b:a1h}(hb:a2R b):b1v b=some (wvB b):=by
 obtain⟨g1,g2,g3,g4,g5,g6,g7⟩:=id hb;have hlen:∀r∈b.2.1,r.length=a1e b:=fun r hr=>by
  have:=lA.1 g7 r hr
  simp only[bA9,dT]at this;exact this.1
 have hw:∀i,i<=4096->(wv i b.2.1).length<=32768:=fun i hi=>by
  rw[d4t]
  calc i*b.2.1.length<=4096*8:=a15 hi g4
   _=32768:=rfl
 have h:=a1E (f:=b0S) (fun i=>((i:Int),wv i b.2.1,b,())) (a1e b) (b:=(wv (a1e b) b.2.1,())) (fun i hi=>by
  have h0:=c3f b (i:=i) b.2.1 [] (wv i b.2.1) rfl g4 (fun r hr=>by rw[hlen r hr];exact hi) (by have:=hw i (by omega);omega);rw[a03]at h0;simp only[b0S,c5h,oB,dlt hi,cT]
  erw[h0]
  simp only[oB,a0b (show i<1000000 by omega)];unfold wv;rw[a69,a30]
  simp) (by simp only[b0S,c5h,oB,dge,cF])
 unfold b1v;simp only[b7Y,hb,decide_true,oB,bT,cF]
 erw[h]
 rfl
theorem f1t{n:Nat}(h:n*256<18446744073709551616):a0t .u64 (n:Int) 8=((n*256:Nat):Int):=by
 unfold a0t;show wrap .u64 ((n:Int)*256)=_
 grind[a0p]
theorem e1W(a b:Int):bits .u64 .or a b=bits .u64 .or b a:=by
 show wrap .u64 (((a00 64 a ||| a00 64 b).toNat:Nat):Int)=wrap .u64 (((a00 64 b ||| a00 64 a).toNat:Nat):Int)
 grind
theorem c8q{all:List Int}(e:all.length<=8)(z:List Int×(Int×Int×Unit)):∀(rest done:List Int)(n:Nat),done++rest=all->(∀b∈rest,0<=b/\b<256)->n<256^done.length->
  a0d a6G ((n:Int),(done.length:Int),all,z,())=some (((b7n n rest:Nat):Int),z,())
 | [],done,n,hd,_,_=>by
  obtain rfl:done=all:=by simp_all
  exact a0g (by simp only[a6G,dge,cF];rfl)
 |x::rest,done,n,hd,hb,hn=>by
  have g:done.length<all.length:=by grind
  have hp:all.getD done.length 0=x:=by grind
  have i:=hb x (by simp);have f:decide ((0:Int)<=(done.length:Int))=true:=decide_eq_true (a05 _);have j:256^done.length<=256^7:=a26 (by omega) (by omega);have d:(256:Nat)^7=72057594037927936:=by rfl
  obtain⟨c,l⟩:=a01 i.1;have w:bits .u64 .or (a0t .u64 (n:Int) 8) (wrap .u64 x)=((n*256+x.toNat:Nat):Int):=by
   have h:=orA (a:=c) (b:=n) (k:=8) (by omega) (by omega)
   grind[f1t,a0p,e1W]
  rw[a0k (s':=(((n*256+x.toNat:Nat):Int),(((done++[x]).length:Nat):Int),all,z,())) (by
   simp only[a6G,dlt g,f,a07,cT,tN,hp,w,a0b (show done.length<1000000 by omega)]
   simp)]
  exact c8q e z rest (done++[x]) _ (by simp_all) (fun b h=>hb b (by grind)) (by grind)
theorem d4D{P A R:List Int}(b:(P++(A++R)).length<1000000000):a0N (ord P (A++R),(A.length:Int))=some (A,ord (P++A) R):=by
 simp at b;have c:a1s (A.length:Int) 0=(A.length:Int):=by rfl
 have d:wrap .i64 (((P++(A++R)).length:Int)-(P.length:Int))=((A++R).length:Int):=by
  grind[a0c]
 have h:decide ((A.length:Int) > ((A++R).length:Int))=false:=by grind
 have w2:wrap .i64 ((P.length:Int)+(A.length:Int))=(((P++A).length:Nat):Int):=by
  grind[a0c]
 have g:decide ((0:Int)<=(((P++A).length:Nat):Int))=true:=by rfl
 have f:decide ((((P++A).length:Nat):Int)<=((P++(A++R)).length:Int))=true:=by simp_all
 have k:decide ((0:Int)<=(P.length:Int))=true:=by simp
 have a:decide ((P.length:Int)<=(((P++A).length:Nat):Int))=true:=by grind
 have e:a19 P.length (a16 (P++A).length (P++(A++R)))=A:=by
  grind
 unfold a0N a2U ord;simp only[show((0:Int) != 0)=false from rfl,cF,oB,c,d,h,w2,g,f,k,a,a07,cT,tN,e,a0H (show 0+A.length<2147483648 by omega),aA,a20,a18]
theorem d4E{P A R:List Int}{k:Nat}(f:A.length=k)(g:k<=8)(hb:∀b∈A,0<=b/\b<256)(a:(P++(A++R)).length<1000000000):a3X (ord P (A++R),(k:Int))=some (((b7n 0 A:Nat):Int),ord (P++A) R):=by
 subst f;have h:=c8q g (ord (P++A) R) A [] 0 rfl hb (by simp)
 grind[b9e,a3X,d4D]
theorem c3h{B:Int}:∀{L:List Int},(∀v∈L,0<=v/\v<=B)->0<=L.sum/\L.sum<=B*(L.length:Int)
 | [],_=>by simp
 |a::L,h=>by
  have g:=h a (by simp);have f:=c3h (B:=B) (L:=L) fun v hv=>h v (by grind);rw[a61,lC,Int.natCast_succ,Int.mul_add];omega
def a0S(fm:a0I)(S L:List Int)(t p b:Int):d2j:=(fm,S,L,t,p,b,())
theorem c5i{x:List Int}(hb:a5g x)(i:x.length<1000000000)(z:d2j)(fm:a0I){N:Nat}(w:N<=4096):∀(m:Nat)(S L:List Int)(p:Nat)(e:Int),S.length+m=N->L.length=S.length->p+4<=x.length->
  (∀v∈S,0<=v/\v<=1048704)->(∀v∈L,0<=v/\v<=4096)->
  ∃(g h:List Int)(p':Nat)(c:Int),g.length=N/\h.length=N/\p'+4<=x.length/\(∀v∈g,0<=v/\v<=1048704)/\(∀v∈h,0<=v/\v<=4096)/\
   a0d a6A (x,(N:Int),(S.length:Int),z,a0S fm S L 0 0 0,oP x 4 p e,())=some (x,z,a0S fm g h 0 0 0,oP x 4 p' c,())/\
   a0d a8u (x,(N:Int),L.all (fun v=>decide (v > 0)),(S.length:Int),z,oR x 4 p e,a0S fm S L 0 0 L.sum,())=some (x,h.all (fun v=>decide (v > 0)),z,oR x 4 p' c,a0S fm g h 0 0 h.sum,())
 |0,S,L,p,e,hm,hL,hp,hS,hLb=>by
  have:S.length=N:=by omega
  refine⟨S,L,p,e,this,by omega,hp,hS,hLb,?_,?_⟩
  all_goals simp_all[a0g,a6A,a8u]
 |m+1,S,L,p,e,hm,hL,hp,hS,hLb=>by
  obtain⟨a,P,u,K,n,-,a1,s⟩:=a3m hb i hp e 1048704;obtain⟨b,r,d,y,o,-,b1,b2⟩:=a3m hb i n u 4096;rw[show((1048704:Nat):Int)=1048704 from rfl]at a1 s;rw[show((4096:Nat):Int)=4096 from rfl]at b1 b2;have l:=dlt (show S.length<N by omega);have j:=a0H (show S.length+1<2147483648 by omega);have k:=a0H (show L.length+1<2147483648 by omega);have G:wrap .i64 (a:Int)=(a:Int):=a0c (by omega);have H:wrap .i64 (b:Int)=(b:Int):=a0c (by omega);have A:=c3h hLb;have I:wrap .i64 (L.sum+(b:Int))=(L++[(b:Int)]).sum:=by grind[a0c]
  have f:(L++[(b:Int)]).all (fun v=>decide (v > 0))=(L.all (fun v=>decide (v > 0))&&decide ((b:Int) > 0)):=by simp
  have q:wrap .i64 ((S.length:Int)+1)=(((S++[(a:Int)]).length:Nat):Int):=by grind[a0c]
  have t:wrap .u64 ((S.length:Int)+1)=(((S++[(a:Int)]).length:Nat):Int):=by grind[a0p]
  obtain⟨g,h,p',c,B,C,D,E,F,M,O⟩:=c5i hb i z fm w m (S++[(a:Int)]) (L++[(b:Int)]) r d (by grind) (by grind) o
   (fun v hv=>by
    grind)
   (fun v hv=>by
    grind)
  refine⟨g,h,p',c,B,C,D,E,F,?_,?_⟩;rw[a0k (s':=(x,(N:Int),(((S++[(a:Int)]).length:Nat):Int),z,a0S fm (S++[(a:Int)]) (L++[(b:Int)]) 0 0 0,oP x 4 r d,())) (by
   simp_all[a6A,a0S])]
  omega;rw[a0k (s':=(x,(N:Int),(L++[(b:Int)]).all (fun v=>decide (v > 0)),(((S++[(a:Int)]).length:Nat):Int),z,oR x 4 r d,a0S fm (S++[(a:Int)]) (L++[(b:Int)]) 0 0 (L++[(b:Int)]).sum,())) (by
   rw[f];simp only[a8u,a0S,l,cT,s,b2,oB,j,k,G,H,I,q,a20]
   grind)]
  omega
theorem d0Q{L:List Int}(f:L.length<=4096)(hb:∀v∈L,0<=v/\v<=4096)(fm:a0I)(S:List Int)(pr bg:Int)(z:d2j):∀(rest done:List Int),done++rest=L->
  a0d a4M ((L.length:Int),(done.length:Int),z,a0S fm S L done.sum pr bg,())=some (bif rest.all (fun v=>decide (v > 0))then .inl (z,a0S fm S L L.sum pr bg,())else .inr (2,c6k,()))
 | [],done,hd=>by
  obtain rfl:done=L:=by simp_all
  simp_all[a0g,a4M]
 |v::rest,done,hd=>by
  have h:done.length<L.length:=by grind
  have hp:L.getD done.length 0=v:=by grind
  have hv:=hb v (by grind);have g:decide ((0:Int)<=(done.length:Int))=true:=decide_eq_true (a05 _);have b:=c3h (L:=done) (B:=4096) fun w d=>hb w (by grind);have c:wrap .i64 (done.sum+v)=(done++[v]).sum:=by grind[a0c]
  by_cases h0:v=0
  subst h0;refine a0g ?_
  unfold a0S;simp only[a4M,dlt h,g,a07,cT,tN,hp,beq_self_eq_true,a45,show decide ((0:Int) > 0)=false from rfl,Bool.false_and,cF];rfl;have a:(v==(0:Int))=false:=by simp_all
  have k:decide (v > 0)=true:=by grind
  rw[a0k (s':=((L.length:Int),(((done++[v]).length:Nat):Int),z,a0S fm S L (done++[v]).sum pr bg,())) (by
   unfold a0S;simp only[a4M,dlt h,g,a07,cT,tN,hp,a,cF,c,a0b (show done.length<1000000 by omega)]
   simp),d0Q f hb fm S pr bg z rest (done++[v]) (by simp_all),a45,k,Bool.true_and]
theorem e3S{x:List Int}{p:Nat}{e:Int}(g:e≠0)(n:Int):a0N (oR x 4 p e,n)=some ([],oR x 4 p e):=by
 have h:(e != (0:Int))=true:=by simp_all
 unfold a0N oR
 grind
theorem d0R{x:List Int}{p:Nat}{e:Int}(h:e≠0)(n:Int):a3X (oR x 4 p e,n)=some (0,oR x 4 p e):=by
 unfold a3X;simp[e3S h];rfl
theorem e8O{x:List Int}{k p:Nat}(h:p+k<=x.length):oP x k p 0=ord ((x.drop k).take p) (x.drop (p+k)):=by
 unfold oP ord
 grind[a71,a54]
theorem e8P{x:List Int}{k p:Nat}(h:p+k<=x.length):oR x k p 0=ord (x.take (p+k)) (x.drop (p+k)):=by
 simp_all[ord]
theorem c0B{x:List Int}{i n:Nat}(h:i+n<=x.length):x.drop i=(x.drop i).take n++x.drop (i+n)/\((x.drop i).take n).length=n:=by
 grind[a71,a54]
theorem c5j{x:List Int}(hb:a5g x)(hl:x.length<1000000):
  ∃(fm:a0I)(S L:List Int)(tot pr bg e:Int),a6B x=some (a0S fm S L tot pr bg,e)/\a8W x=some (a0S fm S L pr bg tot,e)/\
   (e=0->b2u fm/\L.length=S.length/\S.length<=4096/\(∀v∈S,0<=v/\v<=1048704)/\(∀v∈L,1<=v/\v<=4096)/\tot=L.sum/\tot<=4194304/\16<=bg/\bg<=(x.length:Int)):=by
 unfold a6B a8W
 by_cases h4:x.length<4
 have d:decide (((x.length:Nat):Int)<4)=true:=by grind
 simp only[d,cT];exact⟨(0,0,0,()),[],[],0,0,0,3,rfl,rfl,fun h=>by omega⟩;have d:decide (((x.length:Nat):Int)<4)=false:=by grind
 have d2:decide ((4:Int)<=((x.length:Nat):Int))=true:=by simp_all
 simp only[d,d2,cF,cT];cases hm:(b2s (a16 4 x) != ([75,78,83,68]:List Int))with
 |true=>
  simp only[cT];exact⟨(0,0,0,()),[],[],0,0,0,2,rfl,rfl,fun h=>by omega⟩
 |false=>
 simp only[cF];have t:a7c (a19 4 (a16 x.length x))=some (oP x 4 0 0):=by
  unfold a7c oP
  grind[a0H]
 have m:a0N ((x,(0:Int),(0:Int),()),(4:Int))=some (x.take 4,oR x 4 0 0):=by
  have hs:=c0B (x:=x) (i:=0) (n:=4) (by omega);simp only[List.drop_zero,a38]at hs;have B:=d4D (P:=[]) (A:=x.take 4) (R:=x.drop 4) (by grind)
  grind[ord]
 unfold a7O;simp only[t,m,oB];obtain⟨n1,p1,e1,l1,q1,-,a1,r1⟩:=a3m hb (by omega) (k:=4) (p:=0) (by omega) 0 1048576;obtain⟨n2,p2,e2,l2,q2,-,I,r2⟩:=a3m hb (by omega) q1 e1 8;obtain⟨r,p3,e3,l3,q3,-,K,r3⟩:=a3m hb (by omega) q2 e2 24;obtain⟨D,p4,e4,l4,q4,-,M,r4⟩:=a3m hb (by omega) q3 e3 4096;rw[show((1048576:Nat):Int)=1048576 from rfl]at a1 r1;rw[show((8:Nat):Int)=8 from rfl]at I r2;rw[show((24:Nat):Int)=24 from rfl]at K r3;rw[show((4096:Nat):Int)=4096 from rfl]at M r4;have w1:wrap .i64 (n1:Int)=(n1:Int):=a0c (by omega);have w2:wrap .i64 (n2:Int)=(n2:Int):=a0c (by omega);have w3:wrap .i64 (r:Int)=(r:Int):=a0c (by omega);have w4:wrap .i64 (D:Int)=(D:Int):=a0c (by omega);simp only[a1,I,K,M,r1,r2,r3,r4,w1,w2,w3,w4,oB];obtain⟨S,L,p,e,k1,k2,Z,k4,k5,k6,k7⟩:=c5i hb (by omega) c6k ((n1:Int),(n2:Int),(r:Int),()) l4 D [] [] p4 e4 (by simp) rfl q4 (fun v hv=>by grind) (fun v hv=>by grind);simp only[a03,nZ]at k6 k7
 erw[k6,k7]
 simp only[oB,a4K,a2I,a5o,a2U]
 by_cases he:e=0
 rotate_left;have a:(e != (0:Int))=true:=by simp_all
 have l:(e==(0:Int))=false:=by simp_all
 simp only[a,l,cT,cF,oB]
 erw[d0R he]
 simp only[oB]
 erw[d0R he]
 simp only[oB,a,cT];exact⟨(0,0,0,()),[],[],0,0,0,e,rfl,rfl,fun h=>absurd h he⟩;subst he;have h1:(x.drop 4).length=x.length-4:=a46;have eL:wrap .i64 ((((x.drop 4).length:Nat):Int)-(p:Int))=((x.length-4-p:Nat):Int):=by grind[a0c]
 have eR:wrap .i64 (((x.length:Nat):Int)-((p+4:Nat):Int))=((x.length-4-p:Nat):Int):=by grind
 simp only[bne_self_eq_false,beq_self_eq_true,cF,cT,eL,eR,oB]
 by_cases h12:x.length-4-p<12
 have c:decide (((x.length-4-p:Nat):Int)<12)=true:=by grind
 simp only[c,cT];exact⟨(0,0,0,()),[],[],0,0,0,3,rfl,rfl,fun h=>by omega⟩;have c:decide (((x.length-4-p:Nat):Int)<12)=false:=by grind
 simp only[c,cF];obtain⟨s1,E⟩:=c0B (x:=x) (i:=p+4) (n:=8) (by omega);obtain⟨F,G⟩:=c0B (x:=x) (i:=p+4+8) (n:=4) (by omega);obtain⟨A,X⟩:∃A,(x.drop (p+4)).take 8=A:=⟨_,rfl⟩;obtain⟨C,Y⟩:∃C,(x.drop (p+4+8)).take 4=C:=⟨_,rfl⟩;have N:∀b∈A,0<=b/\b<256:=fun b h=>by rw[<-X]at h;exact hb b (a27 (a22 h))
 have O:∀b∈C,0<=b/\b<256:=fun b h=>by rw[<-Y]at h;exact hb b (a27 (a22 h))
 rw[X]at s1 E;rw[Y]at F G;have y:(((x.drop 4).take p)++(A++(C++x.drop (p+4+8+4)))).length<1000000000:=by
  grind
 have z:((x.take (p+4))++(A++(C++x.drop (p+4+8+4)))).length<1000000000:=by
  grind
 have Q:=d6Z (P:=(x.drop 4).take p) E (by omega) N y;have T:=d6Z (P:=(x.drop 4).take p++A) G (by omega) O (by rw[aA];omega);have U:=d4E (P:=x.take (p+4)) E (by omega) N z;have V:=d4E (P:=x.take (p+4)++A) G (by omega) O (by rw[aA];omega);have o1:oP x 4 p 0=ord ((x.drop 4).take p) (A++(C++x.drop (p+4+8+4))):=by rw[e8O Z,s1,F]
 have o2:oR x 4 p 0=ord (x.take (p+4)) (A++(C++x.drop (p+4+8+4))):=by rw[e8P Z,s1,F]
 rw[show((8:Nat):Int)=8 from rfl]at Q U;rw[show((4:Nat):Int)=4 from rfl]at T V;have b0v:((x.drop 4).take p).length=p:=by grind
 have h0:(x.take (p+4)).length=p+4:=by simp_all
 have z1:(ord ((x.drop 4).take p++A) (C++x.drop (p+4+8+4))).2.1=((p+8:Nat):Int):=by
  show(((((x.drop 4).take p++A).length:Nat)):Int)=_;simp_all
 have z2:(ord (x.take (p+4)++A) (C++x.drop (p+4+8+4))).2.1=((p+12:Nat):Int):=by
  show((((x.take (p+4)++A).length:Nat)):Int)=_
  grind
 have z3:(ord (x.take (p+4)++A++C) (x.drop (p+4+8+4))).2.1=((p+16:Nat):Int):=by
  show((((x.take (p+4)++A++C).length:Nat)):Int)=_
  grind
 have z4:(ord (x.take (p+4)++A++C) (x.drop (p+4+8+4))).2.2.1=0:=rfl;have H:wrap .i64 ((4:Int)+((p+8:Nat):Int))=((p+12:Nat):Int):=by grind[a0c]
 have u:wrap .i64 (((p+12:Nat):Int)+4)=((p+16:Nat):Int):=by grind[a0c]
 have c1:decide ((0:Int)<=((p+12:Nat):Int))=true:=decide_eq_true (a05 _);have c2:decide (((p+12:Nat):Int)<=((x.length:Nat):Int))=true:=by grind
 have j:short (x.take (p+12)):=by unfold short;grind
 have f:∀b∈x.take (p+12),0<=b/\b<256:=fun b h=>hb b (a22 h);have w:=d4w j f;have s:=c6l j f;have h2:=e3M (x.take (p+12));have wu:wrap .u64 ((b3E (x.take (p+12)):Nat):Int)=((b3E (x.take (p+12)):Nat):Int):=a0p (by omega);rw[o1,o2]
 erw[Q,U]
 simp only[oB,z1,z2,H,c1,c2,a07,cT,tN,w]
 erw[T,V]
 simp only[oB,z3,z4,bne_self_eq_false,cF,s,wu]
 by_cases hsum:((b3E (x.take (p+12)):Nat):Int)=((b7n 0 C:Nat):Int)
 rotate_left;have o:(((b3E (x.take (p+12)):Nat):Int) != ((b7n 0 C:Nat):Int))=true:=by simp_all
 have q:(((b7n 0 C:Nat):Int) != ((b3E (x.take (p+12)):Nat):Int))=true:=by grind
 simp only[o,q,cT];exact⟨(0,0,0,()),[],[],0,0,0,5,rfl,rfl,fun h=>by omega⟩;have o:(((b3E (x.take (p+12)):Nat):Int) != ((b7n 0 C:Nat):Int))=false:=by simp_all
 have q:(((b7n 0 C:Nat):Int) != ((b3E (x.take (p+12)):Nat):Int))=false:=by simp_all
 simp only[o,q,cF,a0S,b9q,b7i,oB,u]
 by_cases hf:b2u ((n1:Int),(n2:Int),(r:Int),())
 rotate_left;simp only[decide_eq_false hf,a06,cT,oB]
 grind
 simp only[decide_eq_true hf,bT,cF];have g:=d0Q (L:=L) (by omega) k5 ((n1:Int),(n2:Int),(r:Int),()) S ((b7n 0 A:Nat):Int) ((p+16:Nat):Int) c6k L [] rfl;simp only[a03,nZ,List.sum_nil]at g
 erw[g]
 cases hall:L.all (fun v=>decide (v > 0))with
 |false=>
  simp only[cF,a06,cT,oB];exact⟨(0,0,0,()),[],[],0,0,0,2,rfl,rfl,fun h=>by omega⟩
 |true=>
 simp only[cT,bT,cF,oB,a0S]
 by_cases B:L.sum > 4194304
 simp only[decide_eq_true B,cT]
 grind
 ·simp only[decide_eq_false B,cF];refine⟨((n1:Int),(n2:Int),(r:Int),()),S,L,L.sum,((b7n 0 A:Nat):Int),((p+16:Nat):Int),0,rfl,?_,fun _=>⟨hf,by omega,by omega,k4,fun v hv=>?_,rfl,by omega,by omega,by omega⟩⟩
  all_goals grind
def a9q(f:a0M):List Int:=((a3h f).getD ([],0)).1
def pcV(fm:a0I)(st:Nat)(x:Pc):Prop:=
 x.1.1=(st:Int)/\x.1.2.1=((a1e x.2.1:Nat):Int)/\x.1.2.2.1=fm/\a4m x.1=some (x.2.1,0)/\True/\
  (a2X x.1=some (x.2.1,true)/\a3h x.1=some (x.2.2,0))/\a2R x.2.1/\x.2.1.1=fm.2.2.1/\a1e x.2.1<=4096/\1<=x.2.2.length/\x.2.2.length<=700800
def c0C(fm:a0I):Nat->List Pc->Prop
 |_,[]=>True
 |st,x::xs=>pcV fm st x/\c0C fm (st+a1e x.2.1) xs
theorem c8r{fm:a0I}:∀{xs:List Pc}{st:Nat},c0C fm st xs->xs.length<=b0v xs/\b0v xs<=4096*xs.length
 | [],_,_=>by simp[b0v]
 |x::xs,st,h=>by
  have g:=h.1.2.2.2.2.2.2.1.2.2.2.2.1;have f:=h.1.2.2.2.2.2.2.2.2.1
  have:=c8r h.2
  simp only[b0v,a44,a61,lC]at *;omega
theorem b8b{f:a0M}(u:∀s∈f.2.2.2.2.1,SmallS s){b:a1h}(hb:a2O f=some b){zs:List PZ}(m:zs.map (·.1)=f.2.2.2.2.1)(o:∀p∈zs,c6b f.2.1 p):
  a3h f=some (b7f f (a1W zs),0)/\(b7e f (a1W zs)).length<=700700:=by
 have j:=c0v u;rw[hb]at j;obtain⟨g,w,-⟩:=b3B hb;have t:f.2.2.2.2.1.length<=8:=by have:=g.1.2.2.2.1;omega
 have e:zs.length<=8:=by have:=congrArg a68 m;simp only[List.length_map]at this;rw[this];exact t
 have i:∀ys:List PZ,(∀p∈ys,c6b f.2.1 p)->(a1W ys).length<=700000*ys.length:=fun ys l=>by
  induction ys with
  |nil=>simp[a1W]
  |cons p ys ih=>
   have x:=(c2W (l p (by simp)) (L:=[]) (by simp)).2;have r:=ih fun q hq=>l q (by simp[hq]);simp only[a1W,a04,lN,lC]at r|-;omega
 have i:(a1W zs).length<=5600000:=by have:=i zs o;omega
 have h:=c5a (f:=f) zs [] [] (by simpa using m) o (by simp;omega) (by simpa using e);have k:=e3m g i;have a:=e3u (e1x zs);simp only[a03,nZ,a18]at h;have v:=d4b g (body:=(a9P (a1W zs)).length) (by omega);have d:=c4V (b7e f (a1W zs));have c:(Ab.hb f (a9P (a1W zs)).length++[c0s (Ab.hb f (a9P (a1W zs)).length)])++a9P (a1W zs)=b7e f (a1W zs):=rfl;refine⟨?_,k.1⟩;unfold a3h;rw[j];simp only[Option.isSome_some,bT,cF,oB];rw[h];simp only[oB,d3W (show(a1W zs).length<1000000000 by omega),<-a,d6c g (show(a9P (a1W zs)).length<=1048576 by omega),c2X (show short (Ab.hb f (a9P (a1W zs)).length)by unfold short;omega),a20];rw[a0H (by omega),cT,a0H (by rw[lN,a53];omega),cT,c,b9x (show short (b7e f (a1W zs))by unfold short;omega)];simp only[oB,a0p (n:=b2b (b7e f (a1W zs))) (by omega),d4k d];rw[a0H (by simp;omega),cT];rfl
theorem e5p{n:Int}:∀{l:List Sub},(∀s∈l,SmallS s/\(a2J s n).isSome=true)->∃g:List PZ,g.map (·.1)=l/\∀p∈g,c6b n p
 | [],_=>⟨[],rfl,fun p hp=>by cases hp⟩
 |s::l,h=>by
  obtain⟨g,b,c⟩:=e5p (l:=l) fun t d=>h t (by simp[d]);obtain⟨k,f⟩:=h s (by simp);obtain⟨m,j,-,-,-,a,-⟩:=c0q k (n:=n) (L:=[]) (by simp);obtain⟨-,i,-,e⟩:=a f;refine⟨(s,i)::g,by simp[b],fun p hp=>?_⟩;rcases mC.1 hp with rfl|hp;exact⟨k,f,e⟩;exact c p hp
theorem b4L{f:a0M}(g:∀s∈f.2.2.2.2.1,SmallS s){b:a1h}(h:a2O f=some b):
  a4m f=some (b,0)/\True/\(a2X f=some (b,true)/\a3h f=some (a9q f,0))/\1<=(a9q f).length/\(a9q f).length<=700800:=by
 have k:=c6d g;have a:=c2V g;rw[h]at k a;obtain⟨i,d,e⟩:=e5p (n:=f.2.1) fun s c=>⟨g s c,(b3B h).2.2 s c⟩;obtain⟨q1,j⟩:=b8b g h d e;have hp:a9q f=b7f f (a1W i):=by unfold a9q;rw[q1];rfl
 refine⟨k,trivial,⟨a,by rw[hp];exact q1⟩,?_,?_⟩;rw[hp];simp only[b7f,lN,lC];omega;rw[hp];simp only[b7f,lN,lC,a03];omega
theorem d9L{f:a0M}(k:∀s∈f.2.2.2.2.1,SmallS s)(h:a2O f=none):a4m f=some (a8b,1)/\a3h f=some ([],1):=by
 have g:=c6d k;rw[h]at g;refine⟨g,?_⟩;unfold a3h;rw[c0v k,h];rfl
def a8E(fm:a0I):Nat->List a0M->Option (List Pc)
 |_,[]=>some []
 |st,f::fs=>if f.2.2.1=fm/\f.1=(st:Int)then(a2O f).bind fun b=>(a8E fm (st+a1e b) fs).bind fun xs=>some ((f,b,a9q f)::xs)else none
theorem c6m{fm:a0I}:∀{fs:List a0M}{st:Nat}{xs:List Pc},(∀f∈fs,∀s∈f.2.2.2.2.1,SmallS s)->a8E fm st fs=some xs->c0C fm st xs/\xs.map (·.1)=fs
 | [],st,xs,_,h=>by cases h;exact⟨trivial,rfl⟩
 |f::fs,st,xs,hS,h=>by
  unfold a8E at h
  split at h
  rename_i a;obtain⟨b,hb,h⟩:=a02.1 h;obtain⟨ys,e,h⟩:=a02.1 h;cases h;have k:=hS f (by simp);obtain⟨i,j,l,m,n⟩:=b4L k hb;obtain⟨b1,b2,c⟩:=b5Z k hb;obtain⟨o,r2⟩:=c6m (fun g d=>hS g (by simp[d])) e;exact⟨⟨⟨a.2,c,a.1,i,j,l,b1,by rw[b2,<-a.1],b1.2.2.2.2.2.1,m,n⟩,o⟩,by simp[r2]⟩;cases h
theorem a8c(x y:a0I):eqT (.pair (.int .i64) (.pair (.int .i64) (.pair (.int .i64) .unit))) x y=decide (x=y):=by
 obtain⟨a,b,c,u⟩:=x;obtain⟨h,g,f,k⟩:=y;show((a==h)&&((b==g)&&((c==f)&&true)))=_;rw[a70]
 simp
abbrev d2k:Type:=Int×(Int×Unit)
theorem c3i(x y:d2k):eqT (.pair (.int .i64) (.pair (.int .i64) .unit)) x y=decide (x=y):=by
 obtain⟨a,b,u⟩:=x;obtain⟨h,g,f⟩:=y;show((a==h)&&((b==g)&&true))=_;rw[a70]
 simp
set_option maxRecDepth 100000 in
theorem e6H:b8y ()=some true:=by kernel_rfl
def zT:c6j:=((0,0,0,()),0,0,[],[],())
theorem d0S{fm:a0I}:∀{ys:List Pc}{st:Nat}{x:Pc},c0C fm st (ys++[x])->pcV fm (st+b0v ys) x
 | [],st,x,h=>by simpa[b0v]using h.1
 |y::ys,st,x,h=>by
  have:=d0S h.2
  simpa[b0v,Nat.add_assoc]using this
theorem d9M{fm:a0I}{fs:List a0M}(p:fs.length<=200)(b:∀f∈fs,∀s∈f.2.2.2.2.1,SmallS s):∃e,b7I fs=some e/\∀k,a8E fm 0 fs=some k->e=((b0v k:Nat):Int):=by
 rcases a55 fs with rfl|⟨g,f,rfl⟩;exact⟨0,rfl,fun k h=>by cases h;rfl⟩;have d:((((g.concat f).length:Nat):Int)==0)=false:=by grind
 have m:(g.concat f).length=g.length+1:=by simp
 have c:a0m (g.concat f) (g.length:Int)=some f:=by grind[b9A]
 refine⟨wrap .i64 (f.1+f.2.1),?_,fun k h=>?_⟩;unfold b7I;rw[d,cF,show wrap .i64 ((((g.concat f).length:Nat):Int)-1)=(g.length:Int)from by grind[a0c],c];rfl;obtain⟨a,r2⟩:=c6m b h;rcases a55 k with rfl|⟨ys,x,rfl⟩
 grind
 rw[a34,pA,a34]at r2;have l:=List.append_inj' r2 rfl;have n:x.1=f:=by grind
 rw[a34]at a;have hv:=d0S a;have i:=c8r a;have o:(ys++[x]).length<=200:=by
  grind
 have:=hv.1
 have j:=hv.2.1
 grind[e1R,a0c]
theorem b9D{fm:a0I}(e p0:Int){fs:List a0M}(r:fs.length<=200):∀(rest doneF:List a0M)(st off:Nat)(S:List d2k),doneF++rest=fs->(∀f∈rest,∀s∈f.2.2.2.2.1,SmallS s)->S.length=doneF.length->st<=4096*doneF.length->off<=700800*doneF.length->
  a0d a4E (fs,(st:Int),(off:Int),(doneF.length:Int),zT,(fm,e,p0,S,fs,()),fm,()) =
   some (match a8E fm st rest with
    |some l=>.inl (fs,zT,(fm,e,p0,S++b1z st off l,fs,()),fm,())
    |none=>.inr (false,zT,()))
 | [],doneF,st,off,S,hF,hS,hL,hst,hoff=>by
  simp_all[a0g,a4E,a8E,b1z]
 |f::rest,doneF,st,off,S,hF,hS,hL,hst,hoff=>by
  have k:doneF.length<fs.length:=by grind
  have c:a0m fs (doneF.length:Int)=some f:=by grind[b9A]
  have j:((0:Int) != 0)=false:=rfl;have n1:((1:Int) != 0)=true:=rfl;have n2:∀i:Int,(i != i)=false:=fun i=>by simp
  have a:=hS f (by simp);cases hb:a2O f with
  |none=>
   obtain⟨-,q⟩:=d9L a hb;rw[show a8E fm st (f::rest)=none from by grind[a8E]];refine a0g ?_
   simp only[a4E,dlt k,cT,c,oB,q,n1];rfl
  |some b=>
   obtain⟨-,-,⟨-,d⟩,k4,k5⟩:=b4L a hb;obtain⟨b1,b2,n⟩:=b5Z a hb
   by_cases c1:f.2.2.1=fm
   rotate_left;rw[show a8E fm st (f::rest)=none from by rw[a8E,if_neg (fun h=>c1 h.1)]];refine a0g ?_
   simp only[a4E,dlt k,cT,c,oB,d,j,cF,a8c,decide_eq_false c1,a06];rfl
   by_cases c2:f.1=(st:Int)
   rotate_left;rw[show a8E fm st (f::rest)=none from by rw[a8E,if_neg (fun h=>c2 h.2)]]
   have:(f.1 != (st:Int))=true:=by grind
   refine a0g ?_
   simp only[a4E,dlt k,cT,c,oB,d,j,cF,a8c,decide_eq_true c1,bT,this];rfl;have o:=b1.2.2.2.2.2.1;have m:fs.length=doneF.length+(rest.length+1):=by grind
   have t:wrap .i64 ((st:Int)+((a1e b:Nat):Int))=((st+a1e b:Nat):Int):=by grind[a0c]
   have w2:wrap .i64 ((off:Int)+(((a9q f).length:Nat):Int))=((off+(a9q f).length:Nat):Int):=by grind[a0c]
   rw[a0k (s':=(fs,((st+a1e b:Nat):Int),((off+(a9q f).length:Nat):Int),(((doneF++[f]).length:Nat):Int),zT,(fm,e,p0,S++[((st:Int),(off:Int),())],fs,()),fm,())) (by
    simp only[a4E,dlt k,cT,c,oB,d,j,cF,a8c,decide_eq_true c1,bT,c2,n2,a0H (show S.length+1<2147483648 by omega),n,t,w2,a0b (show doneF.length<1000000 by omega)]
    simp)]
   have p:=b9D (fm:=fm) e p0 r rest (doneF++[f]) (st+a1e b) (off+(a9q f).length) (S++[((st:Int),(off:Int),())]) (by grind) (fun g c=>hS g (by grind)) (by grind)
    (by grind) (by grind)
   rw[p,show a8E fm st (f::rest)=(a8E fm (st+a1e b) rest).bind fun l=>some ((f,b,a9q f)::l)from by rw[a8E,if_pos ⟨c1,c2⟩,hb];rfl]
   grind[b1z]
theorem d0T{fm:a0I}:∀{xs:List Pc}{st:Nat},c0C fm st xs->(a6m xs).length<=32768*xs.length
 | [],_,_=>by simp[a6m]
 |x::xs,st,h=>by
  have g:=d0T h.2;have hb:=h.1.2.2.2.2.2.2.1;have f:(wvB x.2.1).length<=4096*8:=by rw[b9z];exact a15 hb.2.2.2.2.2.1 hb.2.2.2.1
  simp only[a6m,a04,lN,lC]at *;omega
theorem d0U{fm:a0I}:∀{xs:List Pc}{st:Nat},c0C fm st xs->(a6m xs).all (fun x=>a2B x fm.2.2.1)=true
 | [],_,_=>rfl
 |x::xs,st,h=>by
  have f:=d0U h.2;have g:=d6Y h.1.2.2.2.2.2.2.1;rw[h.1.2.2.2.2.2.2.2.1]at g;show((wvB x.2.1++a6m xs).all _)=true;rw[List.all_append,f,g];rfl
theorem b9E{fm:a0I}{fs:List a0M}(k:fs.length<=200):∀(rest:List Pc)(doneF:List a0M)(st:Nat)(out:List Int),doneF++rest.map (·.1)=fs->c0C fm st rest->out.length<=32768*doneF.length->
  a0d b0T (fs,(doneF.length:Int),out,())=some (.inl (out++a6m rest,()))
 | [],doneF,st,out,hF,_,_=>by
  simp_all[a0g,b0T,a6m]
 |x::rest,doneF,st,out,hF,hr,ho=>by
  have h:doneF.length<fs.length:=by grind
  have g:a0m fs (doneF.length:Int)=some x.1:=by grind[b9A]
  have hb:=hr.1.2.2.2.2.2.2.1;have f:=hr.1.2.2.2.2.2.1.1;have a:(wvB x.2.1).length<=4096*8:=by rw[b9z];exact a15 hb.2.2.2.2.2.1 hb.2.2.2.1
  rw[a0k (s':=(fs,(((doneF++[x.1]).length:Nat):Int),out++wvB x.2.1,())) (by
   simp only[b0T,dlt h,cT,g,oB,f,bT,cF,c3g hb,a0H (show out.length+(wvB x.2.1).length<2147483648 by omega),a0b (show doneF.length<1000000 by omega)]
   simp)]
  rw[b9E k rest (doneF++[x.1]) _ (out++wvB x.2.1) (by simp_all) hr.2 (by grind)];simp[a6m]
theorem d4F{fm:a0I}{xs:List Pc}{st:Nat}(h:c0C fm st xs)(g:xs.length<=200):b4D (xs.map (·.1))=some (a6m xs,true):=by
 have:=b9E (fs:=xs.map (·.1)) (by simp_all) xs [] st [] rfl h (by simp)
 simp_all[b4D]
theorem c9N{fm:a0I}(g:b2u fm){xs:List Pc}{st:Nat}(h:c0C fm st xs)(a:xs.length<=200):b1X (a6m xs,fm.2.2.1)=some ((b7m fm xs:Nat):Int):=by
 have k:=d0T h;have f:=c8l ⟨g.2.2.2.2.1,g.2.2.2.2.2⟩ (a6m xs);unfold b1X;simp only[d6j ⟨g.2.2.2.2.1,g.2.2.2.2.2⟩ (show(a6m xs).length<=30000000 by omega) (d0U h),oB,d4C (show(a2q fm.2.2.1 (a6m xs)).length<1000000000 by omega) (c3d _ _)];rfl
theorem d4G{fm:a0I}{fs:List a0M}(d:fs.length<=200)(g:∀f∈fs,∀s∈f.2.2.2.2.1,SmallS s):
  b4E (fm,fs)=some (match (if b2u fm/\fs.length<=4096 then a8E fm 0 fs else none)with|some xs=>(mkT fm xs,true)|none=>(zT,false)):=by
 unfold b4E;rw[b7i]
 by_cases hf:b2u fm
 rotate_left;simp only[hf,decide_false,oB,a06,cT,false_and,if_false];rfl;have k:decide (((a68 fs:Nat):Int) > (4096:Int))=false:=by grind
 rw[if_pos ⟨hf,by omega⟩];obtain⟨e,a,c⟩:=d9M (fm:=fm) (fs:=fs) (by omega) g;have h:=b9D (fm:=fm) e 0 (fs:=fs) (by omega) fs [] 0 0 [] rfl g rfl (by simp) (by simp);simp at h;simp[hf,k,a]
 erw[h]
 simp
 cases hp:a8E fm 0 fs with
 |none=>rfl
 |some xs=>
  obtain⟨i,r2⟩:=c6m g hp;have b:xs.length<=200:=by
   grind
  grind[d4F,c9N,mkT]
theorem c8s{x y:c6j}:∀(r1 r2 d1 d2:List d2k),d1++r1=x.2.2.2.1->d2++r2=y.2.2.2.1->d1.length=d2.length->r1.length=r2.length->x.2.2.2.1.length<=1000->
  a0d a4T ((d1.length:Int),x,y,())=some (if r1=r2 then .inl (x,y,())else .inr (false,()))
 | [],r2,d1,d2,h1,h2,h3,h4,h5=>by
  obtain rfl:r2=[]:=by grind
  simp_all[a0g,a4T]
 |a::r1,r2,d1,d2,h1,h2,h3,h4,h5=>by
  obtain⟨b,r2,rfl⟩:∃b r,r2=b::r:=by
   cases r2 with
   |nil=>simp_all
   |cons s r=>simp
  have f:d1.length<x.2.2.2.1.length:=by grind
  have k:a0m x.2.2.2.1 (d1.length:Int)=some a:=by grind[b9A]
  have g:a0m y.2.2.2.1 (d1.length:Int)=some b:=by grind[b9A]
  by_cases c:a=b
  rw[a0k (s':=((((d1++[a]).length:Nat):Int),x,y,())) (by
   simp only[a4T,dlt f,cT,k,g,oB,c3i,decide_eq_true c,bT,cF,a0b (show d1.length<1000000 by omega)]
   simp)]
  rw[c8s r1 r2 (d1++[a]) (d2++[b]) (by simp_all) (by simp_all) (by grind) (by simp_all) h5]
  grind
  rw[if_neg (fun h=>c (List.cons.inj h).1)];simp_all[a0g,a4T,c3i]
theorem d6m{x y:c6j}(h:x.2.2.2.2.1=y.2.2.2.2.1)(c:x.2.2.2.2.1.length<=1000)(g:∀f∈x.2.2.2.2.1,(∀s∈f.2.2.2.2.1,SmallS s)/\f.2.2.2.1.length<1000000/\f.2.2.2.2.1.length<1000000):
  a0d a4U (0,x,y,())=some (.inl ()):=by
 have:=a1r (f:=a4U) (β:=Unit ⊕ (Bool×Unit)) x.2.2.2.2.1 (fun i=>((i:Int),x,y,())) (fun _=>true) (bt:=Sum.inl ()) (bf:=Sum.inr (false,()))
  (fun i hi _=>by
   obtain⟨k,a,b⟩:=g _ (a23 hi);simp only[a4U,dlt hi,cT,<-h,a0e hi,oB,c9K k a b,bT,cF,a0b (show i<1000000 by omega)])
  (fun i hi hp=>by grind) (by simp[a4U])
 grind
open Classical in
theorem d4H {x y:c6j} (h:x.2.2.2.2.1=y.2.2.2.2.1) (hl:x.2.2.2.2.1.length<=1000) (hk:x.2.2.2.1.length<=1000) (hS:∀f∈x.2.2.2.2.1,(∀s∈f.2.2.2.2.1,SmallS s)/\f.2.2.2.1.length<1000000/\f.2.2.2.2.1.length<1000000):
  a9N (x,y)=some (decide (x=y)):=by
 have key:x=y↔x.1=y.1/\x.2.1=y.2.1/\x.2.2.1=y.2.2.1/\x.2.2.2.1=y.2.2.2.1:=by
  grind
 unfold a9N
 by_cases c1:x.1=y.1
 rotate_left
 ·rw[decide_eq_false (fun h=>c1 (key.1 h).1)]
  simp only[a8c,decide_eq_false c1,a06,cT,oB]
 by_cases c2:x.2.1=y.2.1
 rotate_left
 ·grind
 by_cases c3:x.2.2.1=y.2.2.1
 rotate_left
 ·grind
 by_cases c4:x.2.2.2.1.length=y.2.2.2.1.length
 rotate_left
 ·grind
 have hs:=c8s (x:=x) (y:=y) x.2.2.2.1 y.2.2.2.1 [] [] rfl rfl rfl c4 hk
 simp at hs
 simp[a8c,decide_eq_true c1,c2,c3,c4,h]
 rw[hs]
 by_cases c5:x.2.2.2.1=y.2.2.2.1
 ·rw[if_pos c5,decide_eq_true (key.2 ⟨c1,c2,c3,c5⟩)]
  grind[d6m]
 grind
def e8Q(t:c6j):Prop:=t.2.2.2.2.1.length<=200/\t.2.2.2.1.length<=210/\∀f∈t.2.2.2.2.1,(∀s∈f.2.2.2.2.1,SmallS s)/\f.2.2.2.2.1.length<=10/\f.2.2.2.1.length<=20
theorem d6n{f:a0M}{b:a1h}(h:a2O f=some b):((b.2.1.length:Nat):Int)=f.2.2.1.2.1:=by
 obtain⟨k,g,-⟩:=b3B h;unfold a2O at h
 split at h
 obtain⟨i,d,h⟩:=a02.1 h
 split at h
 rename_i hq;obtain⟨c,a,h⟩:=a02.1 h
 split at h
 cases h;obtain⟨-,e⟩:=c2T f.2.2.2.1 (c3F hq.1) rfl hq.2.2.2.2 a
 grind[d4f]
 simp_all;simp_all;simp_all
structure FrOk (fm:a0I) (st:Int) (len size:Int) (f:a0M) (b:a1h):Prop where
 small:∀s∈f.2.2.2.2.1,SmallS s
 lifts:f.2.2.2.1.length<=16
 subs:f.2.2.2.2.1.length<=8
 block:a2O f=some b
 fmt:f.2.2.1=fm
 start:f.1=st
 len:f.2.1=len
 put:((a9q f).length:Int)=size
 five:5<=size
theorem c8t{x:List Int}(hb:a5g x)(V:x.length<100000){fm:a0I}{S L:List Int}{tot pr bg:Int}{i:Nat}(hi:i<S.length)(C:L.length=S.length)(B:∀v∈S,0<=v/\v<=1048704)(g:Nat)(U:g<10000000000)(st:Int):
  ∃(f:a0M)(b:a1h)(e:Int),a5X (x,a0S fm S L tot pr bg,(i:Int),(g:Int),st)=some (f,b,e)/\a6R (x,a0S fm S L pr bg tot,(i:Int),(g:Int),st)=some (f,e)/\
   (e=0->FrOk fm st (L.getD i 0) (S.getD i 0) f b/\(g:Int)+S.getD i 0<=(x.length:Int)):=by
 have r:=a7h hi;have c:=a7h (x:=L) (i:=i) (by omega);have l:S.getD i 0=S[i]:=by simp_all
 have t:=B _ (a23 hi);rw[<-l]at t;generalize hsz:S.getD i 0=sz at r t;generalize hln:L.getD i 0=ln at c;have O:wrap .i64 ((x.length:Int)-(g:Int))=(x.length:Int)-(g:Int):=a0c (by omega);have w2:wrap .i64 ((g:Int)+sz)=(g:Int)+sz:=a0c (by omega);unfold a5X a6R a0S;simp only[r,c,oB,O,w2]
 by_cases hsh:(x.length:Int)-(g:Int)<sz
 simp only[decide_eq_true hsh,cT]
 grind
 have w:decide ((0:Int)<=(g:Int)+sz)=true:=decide_eq_true (by omega);have y:decide ((g:Int)+sz<=(x.length:Int))=true:=decide_eq_true (by omega);have z:decide ((0:Int)<=(g:Int))=true:=decide_eq_true (by omega);have A:decide ((g:Int)<=((a24 ((g:Int)+sz):Nat):Int))=true:=decide_eq_true (by omega);simp only[decide_eq_false hsh,cF,w,y,z,A,a07,cT];obtain⟨X,q⟩:∃X,a19 (a24 (g:Int)) (a16 (a24 ((g:Int)+sz)) x)=X:=⟨_,rfl⟩;have D:(X.length:Int)=sz:=by grind
 have m:a5g X:=fun b h=>by rw[<-q]at h;exact hb b (a22 (a27 h))
 rw[q];obtain⟨f,n,e,I,r2,p,K,M,N,-⟩:=e1M m (by omega);simp only[I,r2,oB]
 by_cases he:e=0
 rotate_left;have o:(e != (0:Int))=true:=by simp_all
 simp only[o,cT]
 grind
 subst he;obtain⟨k,E,T,Y,R,P,Q,G⟩:=N rfl;obtain⟨b,k⟩:=Option.isSome_iff_exists.1 k;obtain⟨H,-,u,-,-⟩:=b4L p k;have u:=u.2;have hp:=(b8b p k P Q).1;have s:a9q f=b7f f (a1W R):=by simp_all
 simp only[bne_self_eq_false,cF]
 by_cases hlt:n<sz
 have a:(n != sz)=true:=by grind
 simp only[decide_eq_true hlt,a,cT,oB]
 grind
 have F:n=sz:=by omega
 have a:(n != sz)=false:=by simp_all
 simp only[decide_eq_false hlt,a,cF,a8c]
 by_cases hfm:f.2.2.1=fm
 rotate_left;simp only[decide_eq_false hfm,a06,cT,oB]
 grind
 simp only[decide_eq_true hfm,bT,cF]
 by_cases hst:f.1=st
 rotate_left
 have:(f.1 != st)=true:=by simp_all
 simp only[this,cT,oB]
 grind
 have j:(f.1 != st)=false:=by simp_all
 simp only[j,cF,oB]
 by_cases hle:f.2.1=ln
 rotate_left
 have:(f.2.1 != ln)=true:=by simp_all
 simp only[this,cT]
 grind
 have d:(f.2.1 != ln)=false:=by simp_all
 simp only[d,cF,H,oB,bne_self_eq_false];exact⟨f,b,0,rfl,rfl,fun _=>⟨⟨p,K,M,k,hfm,hst,hle,by simp_all,by omega⟩,by omega⟩⟩
theorem c8u{x:List Int}(hb:a5g x)(t:x.length<100000){fm:a0I}{S L:List Int}{tot pr:Int}{bg:Nat}(g:L.length=S.length)(B:S.length<=4096)(q:∀v∈S,0<=v/\v<=1048704)(C:∀v∈L,1<=v/\v<=4096):
  ∀(m i st off:Nat)(d:List Int)(SK:List d2k)(FS:List a0M),i+m=S.length->SK.length=i->FS.length=i->st<=4096*i->bg+off<1000000->
  (∃e:Int,a0d a3W (x,((bg+off:Nat):Int),S,(S.length:Int),(i:Int),zT,a0S fm S L tot pr bg,(fm,(st:Int),((prI (a2q fm.2.2.1 d):Nat):Int),SK,FS,()),())=some (.inr (e,zT,()))/\
   a0d a2Z (x,((bg+off:Nat):Int),(st:Int),(i:Int),FS,zT,a0S fm S L pr bg tot,())=some (.inr (e,zT,())))\/
  ∃ys:List Pc,a8E fm st (ys.map (·.1))=some ys/\(∀y∈ys,(∀s∈y.1.2.2.2.2.1,SmallS s)/\y.1.2.2.2.1.length<=16/\y.1.2.2.2.2.1.length<=8)/\(bg:Int)+(off:Int)+5*(ys.length:Int)<=max (x.length:Int) ((bg:Int)+(off:Int))/\
   a0d a3W (x,((bg+off:Nat):Int),S,(S.length:Int),(i:Int),zT,a0S fm S L tot pr bg,(fm,(st:Int),((prI (a2q fm.2.2.1 d):Nat):Int),SK,FS,()),()) =
    some (.inl (x,((bg+off+(b9y ys).length:Nat):Int),zT,a0S fm S L tot pr bg,(fm,((st+b0v ys:Nat):Int),((prI (a2q fm.2.2.1 (d++a6m ys)):Nat):Int),SK++b1z st off ys,FS++ys.map (·.1),()),()))/\
   a0d a2Z (x,((bg+off:Nat):Int),(st:Int),(i:Int),FS,zT,a0S fm S L pr bg tot,())=some (.inl (x,((bg+off+(b9y ys).length:Nat):Int),FS++ys.map (·.1),zT,a0S fm S L pr bg tot,()))
 |0,i,st,off,d,SK,FS,hm,hsk,hfs,hst,hbo=>by
  have hi:S.length=i:=by omega
  refine .inr ⟨[],rfl,fun y p=>(by grind),by grind,a0g ?_,a0g ?_⟩
  all_goals simp_all[a0S,a3W,b0v,b9y,a6m,b1z,a2Z]
 |m+1,i,st,off,d,SK,FS,hm,hsk,hfs,hst,hbo=>by
  have hi:i<S.length:=by omega
  obtain⟨f,b,e,j,l,A⟩:=c8t hb t (fm:=fm) (tot:=tot) (pr:=pr) (bg:=bg) hi g q (bg+off) (by omega) (st:Int);have n:=a7h hi
  by_cases he:e=0
  rotate_left;have k:(e != (0:Int))=true:=by simp_all
  unfold a0S at j l|-;refine .inl ⟨e,a0g ?_,a0g ?_⟩;simp only[a3W,dlt hi,cT,n,oB,j,k];rfl;simp only[a2Z,dlt hi,cT,oB,l,k];rfl;subst he;obtain⟨h,r⟩:=A rfl;obtain⟨b1,b2,I⟩:=b5Z h.small h.block;have E:=e1V b1 (w:=fm.2.2.1) (by rw[b2,h.fmt]) d;have D:=b1.2.2.2.2.2.1;have u:=h.put;have K:=h.five;have a:wrap .i64 (((bg+off:Nat):Int)+S.getD i 0)=((bg+(off+(a9q f).length):Nat):Int):=by grind[a0c]
  have c:wrap .i64 ((st:Int)+f.2.1)=((st+a1e b:Nat):Int):=by grind[a0c]
  have o:wrap .i64 (((bg+off:Nat):Int)-(bg:Int))=(off:Int):=by grind[a0c]
  have s1:a3W (x,((bg+off:Nat):Int),S,(S.length:Int),(i:Int),zT,a0S fm S L tot pr bg,(fm,(st:Int),((prI (a2q fm.2.2.1 d):Nat):Int),SK,FS,()),()) =
    some (.inl (x,((bg+(off+(a9q f).length):Nat):Int),S,(S.length:Int),((i+1:Nat):Int),zT,a0S fm S L tot pr bg,(fm,((st+a1e b:Nat):Int),((prI (a2q fm.2.2.1 (d++wvB b)):Nat):Int),SK++[((st:Int),(off:Int),())],FS++[f],()),())):=by
   unfold a0S at j|-;simp only[a3W,dlt hi,cT,n,oB,j,bne_self_eq_false,cF]
   erw[E]
   simp only[oB,a0H (show SK.length+1<2147483648 by omega),a0H (show FS.length+1<2147483648 by omega),cT,a,c,o,a0b (show i<1000000 by omega),a20]
  have H:a2Z (x,((bg+off:Nat):Int),(st:Int),(i:Int),FS,zT,a0S fm S L pr bg tot,())=some (.inl (x,((bg+(off+(a9q f).length):Nat):Int),((st+a1e b:Nat):Int),((i+1:Nat):Int),FS++[f],zT,a0S fm S L pr bg tot,())):=by
   unfold a0S at l|-;simp only[a2Z,dlt hi,cT,oB,l,bne_self_eq_false,cF,a0H (show FS.length+1<2147483648 by omega),n,a,c,a0b (show i<1000000 by omega),a20]
  rw[a0k s1,a0k H];rcases c8u hb t (fm:=fm) (tot:=tot) (pr:=pr) (bg:=bg) g B q C m (i+1) (st+a1e b) (off+(a9q f).length) (d++wvB b) (SK++[((st:Int),(off:Int),())]) (FS++[f]) (by omega) (by simp_all) (by simp_all) (by omega) (by omega)with⟨e,z,F⟩|⟨ys,z,F,M,G,N⟩
  grind
  refine .inr ⟨(f,b,a9q f)::ys,?_,?_,?_,?_,?_⟩;rw[a44,a8E,if_pos ⟨h.fmt,h.start⟩,h.block,oB,z,oB];intro y p;rcases mC.1 p with rfl|p;exact⟨h.small,h.lifts,h.subs⟩
  grind
  grind
  rw[G];simp only[b9y,b0v,a6m,b1z,a04,a44,a61,lN,aA,List.singleton_append,Nat.add_assoc]
  grind[b9y]
theorem d9N{x:List Int}(hb:a5g x)(F:x.length<=900):∃(t:c6j)(e:Int),a7M x=some (t,e)/\a9J x=some (t,e)/\e8Q t:=by
 have fz:e8Q zT:=⟨by decide,by decide,fun f i=>by cases i⟩;obtain⟨fm,S,L,tot,pr,bg,e,q,u,v⟩:=c5j hb (by omega);unfold a7M a9J;simp only[q,u,oB]
 by_cases he:e=0
 rotate_left;have d:(e != (0:Int))=true:=by simp_all
 simp only[d,cT];exact⟨zT,e,rfl,rfl,fz⟩;subst he;obtain⟨i,b,w,A,z,-,-,r,B⟩:=v rfl;obtain⟨k,rfl⟩:=a01 (show 0<=bg by omega);simp only[bne_self_eq_false,cF,a0S];have h:=c8u hb (by omega) (fm:=fm) (tot:=tot) (pr:=pr) (bg:=k) b w A z S.length 0 0 0 [] [] [] (by omega) rfl rfl (by omega) (by omega);have j:((prI (a2q fm.2.2.1 []):Nat):Int)=0:=rfl;rw[j]at h;unfold a0S at h;simp only[nZ,a49,a18,a38]at h;rcases h with⟨e,m,p⟩|⟨ys,m,p,H,D,E⟩
 erw[m,p]
 simp_all
 erw[D,E]
 simp only[oB]
 by_cases hat:((k+(b9y ys).length:Nat):Int)<(x.length:Int)
 simp only[decide_eq_true hat,cT];exact⟨zT,2,rfl,rfl,fz⟩;simp only[decide_eq_false hat,cF];have n:(ys.map (·.1)).length<=200:=by grind
 have c:∀f∈ys.map (·.1),∀s∈f.2.2.2.2.1,SmallS s:=fun f a=>by
  obtain⟨y,G,rfl⟩:=List.mem_map.1 a
  grind
 have o:=d4G (fm:=fm) n c;rw[if_pos ⟨i,by omega⟩,m]at o;simp only[o,oB];have C:mkT fm ys=(fm,((b0v ys:Nat):Int),((b7m fm ys:Nat):Int),b1z 0 0 ys,ys.map (·.1),()):=rfl;have l:prI (a2q fm.2.2.1 (a6m ys))=b7m fm ys:=rfl;rw[C,l]
 by_cases hpr:((b7m fm ys:Nat):Int)=pr
 have g:(((b7m fm ys:Nat):Int) != pr)=false:=by grind
 simp only[g,cF];refine⟨_,0,rfl,rfl,n,?_,?_⟩
 grind[c8m]
 intro f a
 grind
 have g:(((b7m fm ys:Nat):Int) != pr)=true:=by grind
 simp only[g,cT];exact⟨zT,5,rfl,rfl,fz⟩
theorem e3T{α:Type}{g:Nat->List α}{k:Nat}(b:∀i,(g i).length=k){n f t:Nat}(c:f<=t)(d:t<=n):
  a19 (f*k) (a16 (t*k) ((a60 n).flatMap g))=(a60 (t-f)).flatMap fun i=>g (f+i):=by
 have h:∀a m,((a56 a m).flatMap g).length=m*k:=fun a m=>by
  induction m generalizing a with
  |zero=>simp
  |succ m ih=>rw[List.range'_succ,a04,lN,b,ih,Nat.succ_mul,Nat.add_comm]
 have e:a60 n=a56 0 f++(a56 f (t-f)++a56 t (n-t)):=by
  rw[List.range_eq_range',show n=f+((t-f)+(n-t))from by omega,<-a59,<-a59];simp only[a38];rw[show f+(t-f)=t from by omega];congr 3;omega
 rw[e,a30,a30,<-aA,List.take_left' (by rw[lN,h,h,<-Nat.add_mul];congr 1;omega),List.drop_left' (h _ _),List.range'_eq_map_range,List.flatMap_map]
theorem c3j{α β:Type}{g g':α->List β}:∀{l:List α},(∀a∈l,g a=g' a)->l.flatMap g=l.flatMap g'
 | [],_=>rfl
 |a::l,h=>by rw[a04,a04,h a (by simp),c3j fun b hb=>h b (by simp[hb])]
theorem e6I{b:a1h}(hb:a2R b){f t:Nat}(k:f<t)(h:t<=a1e b):wvB (b5v b f t)=a19 (f*b.2.1.length) (a16 (t*b.2.1.length) (wvB b)):=by
 unfold wvB wv;rw[e3T (g:=fun i=>b.2.1.map fun r=>r.getD i 0) (fun i=>by simp) (by omega) h,d6Q hb k h];refine c3j fun i hi=>?_
 have hi:=List.mem_range.1 hi;show(b.2.1.map (c6f f t)).map (fun r=>r.getD i 0)=_;rw[List.map_map];refine List.map_congr_left fun r _=>?_
 show(a19 f (a16 t r)).getD i 0=r.getD (f+i) 0;rw[lD,a64,List.getElem?_take_of_lt (by omega),<-lD]
theorem c8v{x:List Int}(hb:a5g x)(hl:x.length<100000){fm:a0I}(hf:b2u fm){S L:List Int}{tot pr bg:Int}{s0 s1:Int}(y:L.length=S.length)(h4:S.length<=4096)(K:∀v∈S,0<=v/\v<=1048704)(Z:∀v∈L,1<=v/\v<=4096):
  ∀(m i st at':Nat)(l:List Int),i+m=S.length->st<=4096*i->at'<=1000000+1048704*i->l.length<=32768*i->
  (∃e:Int,a0d a2M (x,(at':Int),(st:Int),S,(S.length:Int),(i:Int),l,a0S fm S L tot pr bg,(s0,s1,()),())=some (.inr (e,[],()))/\
   a0d a2i (x,(at':Int),(st:Int),(i:Int),l,a0S fm S L pr bg tot,(s0,s1,()),())=some (.inr (e,[],())))\/
  ∃r:List Int,r.length<=200000000/\a0d a2M (x,(at':Int),(st:Int),S,(S.length:Int),(i:Int),l,a0S fm S L tot pr bg,(s0,s1,()),())=some (.inl (r,()))/\
   a0d a2i (x,(at':Int),(st:Int),(i:Int),l,a0S fm S L pr bg tot,(s0,s1,()),())=some (.inl (r,()))
 |0,i,st,at',l,hm,hst,hat,hll=>by
  have hi:S.length=i:=by omega
  refine .inr ⟨l,by omega,a0g ?_,a0g ?_⟩;simp only[a2M,hi,dge,cF];unfold a0S;simp only[a2i,hi,dge,cF]
 |m+1,i,st,at',l,hm,hst,hat,hll=>by
  have hi:i<S.length:=by omega
  obtain⟨f,b,e,F,G,I⟩:=c8t hb hl (fm:=fm) (tot:=tot) (pr:=pr) (bg:=bg) hi y K at' (by omega) (st:Int);have u:=a7h hi;have n:=a7h (x:=L) (i:=i) (by omega);have P:=K _ (a23 hi);have hv:=Z _ (a23 (show i<L.length by omega));rw[show S[i]=S.getD i 0 from by simp[lD,hi]]at P;rw[show L[i]=L.getD i 0 from by simp[lD,show i<L.length by omega]]at hv;obtain⟨sz,Q⟩:=a01 P.1;obtain⟨c,N⟩:=a01 (show 0<=L.getD i 0 by omega);rw[Q]at u P I;rw[N]at n hv I;have w:wrap .i64 ((st:Int)+(c:Int))=((st+c:Nat):Int):=by rw[a0c (by omega)];omega
  have w2:wrap .i64 ((at':Int)+(sz:Int))=((at'+sz:Nat):Int):=by rw[a0c (by omega)];omega
  have H:=a0b (show i<1000000 by omega);have next:=fun(l':List Int) (h:l'.length<=32768*(i+1))=>c8v hb hl hf (tot:=tot) (pr:=pr) (bg:=bg) (s0:=s0) (s1:=s1) y h4 K Z m (i+1) (st+c) (at'+sz) l' (by omega) (by omega) (by omega) h
  by_cases hq:a1s s0 (st:Int)<a2P s1 ((st+c:Nat):Int)
  rotate_left
  ·have o:=decide_eq_false hq;have V:a2M (x,(at':Int),(st:Int),S,(S.length:Int),(i:Int),l,a0S fm S L tot pr bg,(s0,s1,()),())=some (.inl (x,((at'+sz:Nat):Int),((st+c:Nat):Int),S,(S.length:Int),((i+1:Nat):Int),l,a0S fm S L tot pr bg,(s0,s1,()),())):=by
    unfold a0S;simp only[a2M,dlt hi,cT,u,n,oB,w,o,cF,w2,H]
   have t2:a2i (x,(at':Int),(st:Int),(i:Int),l,a0S fm S L pr bg tot,(s0,s1,()),())=some (.inl (x,((at'+sz:Nat):Int),((st+c:Nat):Int),((i+1:Nat):Int),l,a0S fm S L pr bg tot,(s0,s1,()),())):=by
    unfold a0S;simp only[a2i,dlt hi,cT,u,n,oB,w,o,cF,w2,H]
   rw[a0k V,a0k t2];exact next l (by omega)
  have o:=decide_eq_true hq
  by_cases he:e=0
  rotate_left;have C:(e != (0:Int))=true:=by simpa using he
  unfold a0S at F G|-;refine .inl ⟨e,a0g ?_,a0g ?_⟩;simp only[a2M,dlt hi,cT,u,n,oB,w,o,F,C];simp only[a2i,dlt hi,cT,n,oB,w,o,G,C];subst he;obtain⟨j,h0⟩:=I rfl;obtain⟨b1,b2,b3⟩:=b5Z j.small j.block;have a:=d6n j.block;rw[j.fmt]at a;obtain⟨-,-,k3,-⟩:=b4L j.small j.block;have D:a1e b=c:=by have:=j.len;omega
  obtain⟨d,p⟩:∃d:Nat,a1s s0 (st:Int)=((st+d:Nat):Int):=by
   rw[c3B]at hq|-;exact⟨(max s0 (st:Int)-(st:Int)).toNat,by omega⟩
  obtain⟨g,s⟩:∃g:Nat,a2P s1 ((st+c:Nat):Int)=((st+g:Nat):Int):=by
   have:(st:Int)<=a2P s1 ((st+c:Nat):Int):=by omega
   exact⟨(a2P s1 ((st+c:Nat):Int)-(st:Int)).toNat,by omega⟩
  have R:g<=c:=by
   have:a2P s1 ((st+c:Nat):Int)<=((st+c:Nat):Int):=by rw[b9e];omega
   omega
  rw[p,s]at hq o;have q:d<g:=by omega
  have X:wrap .i64 (((st+d:Nat):Int)-(st:Int))=(d:Int):=by rw[a0c (by omega)];omega
  have Y:wrap .i64 (((st+g:Nat):Int)-(st:Int))=(g:Int):=by rw[a0c (by omega)];omega
  have B:=e8w b1 q (by omega);have U:=d4y (e8x b1 q (by omega));have t:=e6I b1 q (show g<=a1e b by omega);have O:=c3g b1;obtain⟨k,z⟩:∃k,b.2.1.length=k:=⟨_,rfl⟩;rw[z]at a t;have A:k<=8:=by have:=b1.2.2.2.1;omega
  have T:(wvB b).length=c*k:=by rw[b9z,D,z]
  have h2:g*k<=c*k:=a36 _ R;have h3:d*k<=g*k:=a36 _ (by omega);have h5:c*k<=4096*8:=a15 (by omega) A;have c3:wrap .i64 ((g:Int)*fm.2.1)=((g*k:Nat):Int):=by rw[<-a,<-a52,a0c (by omega)]
  have c4:wrap .i64 ((d:Int)*fm.2.1)=((d*k:Nat):Int):=by rw[<-a,<-a52,a0c (by omega)]
  have d1:decide ((0:Int)<=((g*k:Nat):Int))=true:=decide_eq_true (a05 _);have d2:decide (((g*k:Nat):Int)<=(((wvB b).length:Nat):Int))=true:=by rw[dT,T];omega
  have d3:decide ((0:Int)<=((d*k:Nat):Int))=true:=decide_eq_true (a05 _);have d4:decide (((d*k:Nat):Int)<=((g*k:Nat):Int))=true:=by rw[dT];omega
  have h1:(wvB (b5v b d g)).length<=32768:=by rw[t,a46,List.length_take];omega
  have M:a16 (g*k-d*k) (a19 (d*k) (wvB b))=wvB (b5v b d g):=by rw[t,List.drop_take]
  have E:lim (l.length+(wvB (b5v b d g)).length)=true:=a0H (by omega);have V:a2M (x,(at':Int),(st:Int),S,(S.length:Int),(i:Int),l,a0S fm S L tot pr bg,(s0,s1,()),())=some (.inl (x,((at'+sz:Nat):Int),((st+c:Nat):Int),S,(S.length:Int),((i+1:Nat):Int),l++wvB (b5v b d g),a0S fm S L tot pr bg,(s0,s1,()),())):=by
   unfold a0S at F|-;simp only[a2M,dlt hi,cT,u,n,oB,w,p,s,o,F,bne_self_eq_false,cF,X,Y,B,U,E,w2,H,a20]
  have t2:a2i (x,(at':Int),(st:Int),(i:Int),l,a0S fm S L pr bg tot,(s0,s1,()),())=some (.inl (x,((at'+sz:Nat):Int),((st+c:Nat):Int),((i+1:Nat):Int),l++wvB (b5v b d g),a0S fm S L pr bg tot,(s0,s1,()),())):=by
   unfold a0S at G|-;simp only[a2i,dlt hi,cT,u,n,oB,w,p,s,o,G,bne_self_eq_false,cF,k3.1,O,X,Y,c3,c4,d1,d2,d3,d4,a07,tN,M,E,w2,H,a20]
  rw[a0k V,a0k t2];exact next _ (by rw[lN];omega)
theorem d9O{x:List Int}(hb:a5g x)(v:x.length<=900)(s:Int×(Int×Unit)):∃(r:List Int)(e:Int),a7N (x,s)=some (r,e)/\a9K (x,s)=some (r,e)/\r.length<=200000000:=by
 obtain⟨s0,s1,u⟩:=s;obtain⟨fm,S,L,tot,pr,bg,e,c,d,l⟩:=c5j hb (by omega);unfold a0S at c d;unfold a7N a9K;simp only[c,d,oB]
 by_cases he:e=0
 rotate_left;have k:(e != (0:Int))=true:=by simpa using he
 simp only[k,cT];exact⟨[],e,rfl,rfl,by simp⟩;subst he;obtain⟨q,f,m,o,n,-,-,j,p⟩:=l rfl;simp only[bne_self_eq_false,cF];have i:decide (s0 > s1)=decide (s1<s0):=rfl;rw[i];cases decide (s0<0)with
 |true=>
  simp only[cT,oB];exact⟨[],6,rfl,rfl,by simp⟩
 |false=>
 cases decide (s1<s0)with
 |true=>
  simp only[cT,cF,oB];exact⟨[],6,rfl,rfl,by simp⟩
 |false=>
 simp only[cF,oB]
 by_cases ht:s1 > tot
 simp only[decide_eq_true ht,cT];exact⟨[],6,rfl,rfl,by simp⟩;simp only[decide_eq_false ht,cF];obtain⟨g,rfl⟩:=a01 (show 0<=bg by omega);have h:=c8v hb (by omega) q (tot:=tot) (pr:=pr) (bg:=g) (s0:=s0) (s1:=s1) f m o n S.length 0 0 g [] (by omega) (by omega) (by omega) (by simp);unfold a0S at h;simp only[nZ]at h;rcases h with⟨e,a,b⟩|⟨r,t,a,b⟩
 erw[a,b]
 exact⟨[],e,rfl,rfl,by simp⟩
 erw[a,b]
 exact⟨r,0,rfl,rfl,t⟩
theorem d1T{x:List Int}(h:x.length<1000000000):a2p (x,x)=some true:=by
 have e:(((x.length:Nat):Int) != ((x.length:Nat):Int))=false:=by simp
 have:=a1E (f:=a2T) (fun i=>(x,x,(i:Int),())) x.length (b:=.inl ())
  (fun i hi=>by simp only[a2T,dlt hi,cT,a0e hi,oB,bne_self_eq_false,cF,c0y (show i<1000000000 by omega)])
  (by simp only[a2T,dge,cF])
 unfold a2p;simp only[e,cF];simp only[nZ]at this;rw[this];rfl
theorem c9O(x:List Int×(Int×Int×Unit))(hb:∀b∈x.1,0<=b/\b<256):b2p x=some true:=by
 unfold b2p;simp only[e6H,oB,bT,cF]
 by_cases h7:x.1.length > 700
 have d:decide (((x.1.length:Nat):Int) > 700)=true:=by simp;omega
 simp only[d,cT];have d:decide (((x.1.length:Nat):Int) > 700)=false:=by simp;omega
 obtain⟨t,e,j,r2,k⟩:=d9N hb (by omega:x.1.length<=900);obtain⟨l,g,a,c,m⟩:=d9O hb (by omega:x.1.length<=900) x.2
 classical
 have h:=d4H (x:=t) (y:=t) rfl (by have:=k.1;omega) (by have:=k.2.1;omega) (fun f i=>by
  obtain⟨q1,n,o⟩:=k.2.2 f i;exact⟨q1,by omega,by omega⟩)
 simp only[decide_true]at h;simp only[d,cF,j,r2,a,c,h,oB,cT,beq_self_eq_true,d1T (show l.length<1000000000 by omega)]
end Go.Ab
namespace Go.Proofs.YtpmnlfbpgldcoaaGreatDoor
open Go.Ab Go.ChangeShapes Go.WideShapes Go.ChangeAt Go.RowKit
theorem c3k{α:Type}{f:Nat->Option (α×a1k×List Nat)}:∀(L:List α)(i:Nat),(∀(j:Nat) x,L[j]?=some x->f (i+j)=some (x,[],[]))->a0j f L.length i=some (L,[],[])
 | [],_,_=>rfl
 |a::L,i,h=>by
  have g:=h 0 a rfl;have k:=c3k L (i+1) (fun j x b=>by have:=h (j+1) x (by simpa using b);rw[<-this];congr 1;omega);simp only[lC,a0j];simp only[a49]at g;rw[g,k];rfl
section
variable {H:Type} {enc:TypeId×Value->H} {P:Program} {w:World} {base:Nat} {spare:Nat->Bool} {held:Bool}
theorem d1U{k:IntKind}{n:Nat}{t e:TypeId}{fuel:Nat}{cs:List Value}{L:List Int}{p:List MemPlace}(B:P.underlying t=some (.array n e))(u:P.underlying e=some (.int k))(s:P.cellsOf e=1)
  (h:DataW.trod enc P w base spare held fuel t cs=some (.agg (L.map fun i=>.lit (.int k i)),p)):L.length=n/\∀(j:Nat) x,L[j]?=some x->cs[j]?=some (.int k x):=by
 obtain⟨C,m,rfl,b,-,A,a⟩:=DataW.trod_array B h;simp only[pJ,DataW.agg.injEq]at b;have z:L.length=n:=by rw[<-A];simpa using congrArg a68 b.1
 refine⟨z,fun j x c=>?_⟩;obtain⟨v,-⟩:=lS.1 c;have g:=a j (by omega);rw[s]at g;obtain⟨y,d⟩:∃y,C[j]?=some y:=⟨_,lG (by omega)⟩;rw[d]at g;obtain⟨i,o,q,-⟩:=DataW.trod_int u g;have f:=congrArg (fun l=>l[j]?) b.1;simp only[List.getElem?_map,c,d,Option.map_some,q]at f;simp only[sj,DataW.lit.injEq,Lit.int.injEq,true_and]at f;subst f;have r:=congrArg (fun l=>l[0]?) o;simpa[a64,List.getElem?_take]using r
end
def d7a : String := (Rows.trackReadsRow.laid.map Prod.fst).headD ""
theorem f4Z:Tryz.prog.globalNamed d7a=some 2:=by kernel_rfl
def e3U:TypeId:=((Tryz.prog.globals[2]?).map (·.type)).getD 0
theorem e6J:(Tryz.prog.globals[2]?).map (·.type)=some e3U:=by kernel_rfl
def e3V:TypeId:=match Tryz.prog.underlying e3U with
 |some (.array _ e)=>e
 |_=>0
theorem f5a:Tryz.prog.underlying e3U=some (.array 64 e3V):=by kernel_rfl
theorem f1u:Tryz.prog.underlying e3V=some (.int .u8):=by kernel_rfl
theorem f1v:Tryz.prog.cellsOf e3V=1:=by kernel_rfl
@[reducible] def laidTab:List (String×DataW Unit):=[(d7a,Rows.laid_math_bits_deBruijn64tab)]

theorem e8R {g:Nat} {t:Ty} {x:t.den} (h:G0 g=some ⟨t,x⟩):g=2/\(⟨t,x⟩:(t:Ty)×t.den)=⟨.arr 64 (.int .u8),b7B⟩:=by
 by_cases e:g=2
 ·subst e
  exact⟨rfl,(Option.some.inj h).symm⟩
 ·have e2:(2==g)=false:=by rw[beq_eq_false_iff_ne];exact fun h=>e h.symm
  unfold G0 find at h
  rw[e2]at h
  exact absurd h (by simp[find])
theorem d4I{W:World}(h:laidMetH Tryz.prog laidTab W):∀g t x,G0 g=some ⟨t,x⟩->g<W.heap.size/\dec (a0a W none) t ((Src.at g 0).rd (a0a W none))=some (x,[],[]):=by
 rw[MakeChecks.laidMetH_plain _ _ _ (by kernel_rfl)]at h;obtain⟨ps,⟨r,v,m,q,p0,u,b,c,d,a,_⟩,_,_⟩:=h;obtain rfl:=Option.some.inj (f4Z.symm.trans b);obtain rfl:=Option.some.inj (e6J.symm.trans c);have n:(Rows.laid_math_bits_deBruijn64tab:DataW Unit)=.agg (b7B.map fun i=>.lit (.int .u8 i)):=rfl;rw[n]at a;obtain⟨s,p⟩:=d1U f5a f1u f1v a;have k:∀(j:Nat) x,b7B[j]?=some x->W.cell? ⟨2,j,none⟩=some (.int .u8 x):=fun j x l=>by
  rw[World.var?_cell b d j];simpa using p j x l
 intro g t x o;obtain⟨rfl,e⟩:=e8R o;cases e;refine⟨d6F (k 0 0 rfl),?_⟩;exact c3k (f:=fun i=>dec (a0a W none) (.int .u8) fun j=>(Src.at 2 0).rd (a0a W none) (i*1+j)) b7B 0 (fun j x l=>by
  have:=k j x l
  simp only[dec,Src.rd,a0a,a38,Nat.mul_one,a49,this,if_true])
set_option maxRecDepth 100000 in
theorem e3W (os:Os) (args:Array Value):laidMetH Tryz.prog laidTab ((World.doorLaid Tryz.prog 400 os).forCall (fun _ _=>0) ⟨#[],args,[]⟩).memory:=
 laidMetH_of_parts3 (fuel:=8) (laidMet_of_run' 8 (by kernel_rfl) (by kernel_rfl)) (by kernel_rfl) (by kernel_rfl)
end Go.Proofs.YtpmnlfbpgldcoaaGreatDoor
