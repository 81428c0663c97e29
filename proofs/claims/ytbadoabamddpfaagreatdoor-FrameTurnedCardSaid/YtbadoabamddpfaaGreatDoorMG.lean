/- Part of the proof: QRF. Conditions: as each statement tells. -/
import Derived.KernelRfl
import Derived.Test.YtbadoabamddpfaaGreatDoorRows
import Derived.ProofKit
import Derived.LaidMore
import Derived.LaidLaws
import Derived.LaidHandle
import Derived.LaidByTextLater
import Derived.OpenShut
import Derived.Handed
import Derived.Test.YtbadoabamddpfaaGreatDoorMF
noncomputable section
set_option linter.unusedSimpArgs false
set_option linter.unusedVariables false
open BitVec renaming ofInt→a01,toNat_ofInt→a07,xor_assoc→a17,toNat_ofNat→a20,eq_of_getLsbD_eq→a27,ofInt_natCast→a31,getLsbD_ushiftRight→a32,getLsbD_ofNat→a42,msb_eq_getLsbD_last→a50,toNat_and→a56,xor_comm→a64,eq_of_toNat_eq→a68,toNat_or→a84,xor_self→a86,xor_zero→a87,getLsbD→a91,ofNat→a94
open Bool renaming not_false→a08,and_self→a16,true_and→a39,eq_false_iff→a53
open Int renaming eq_ofNat_of_zero_le→a00,toNat_of_nonneg→a05,cast_ofNat_Int→a21,tmod→a25,tdiv→a35,tmod_eq_emod_of_nonneg→a47,fdiv_eq_ediv_of_nonneg→a49,toNat→a51,natCast_inj→a85
open List renaming nil_append→a02,getElem_mem→a03,replicate→a04,append_eq→a06,length_nil→a09,all_cons→a19,foldl_append→a23,not_mem_nil→a26,append_nil→a29,length_singleton→a30,getElem?_take→a33,flatMap_cons→a34,getElem?_set_self→a36,map_cons→a40,getElem?_set_ne→a41,foldl_cons→a43,length→a46,getElem?_append_right→a48,take→a52,ext_getElem?→a54,drop_eq_getElem_cons→a55,mem_flatMap→a57,take_length→a58,cons_append→a59,range→a60,mem_map→a62,map_map→a63,eq_nil_or_concat→a65,concat_eq_append→a66,getElem?_eq_none→a67,eq_replicate_iff→a69,take_append_drop→a70,range_add→a71,mem_iff_getElem→a72,getD_cons_succ→a74,map_congr_left→a75,mem_replicate→a76,getElem?_drop→a77,drop→a81,flatMap_map→a82,length_drop→a83,drop_zero→a90,take_take→a92,getD→a93
open Nat renaming div_lt_iff_lt_mul→a22,pow_le_pow_right→a24,and_two_pow_sub_one_eq_mod→a28,le_refl→a37,mod_eq_of_lt→a38,pow_succ→a44,two_pow_add_eq_or_of_lt→a45,lt_trans→a61,testBit_two_pow→a73,xor_lt_two_pow→a78,add_zero→a79,add_mod_right→a80,min_eq_left→a88,mod_lt→a89
open Option renaming bind_eq_some_iff→a18
namespace Go.Ab
open IntKind(wrap)
def a8c(st:List Stg):List Int:=st.flatMap fun g=>pb (g.1-1) 5++pb g.2.1 4
theorem b9Q{g:Stg}(h:Ab.stageB g=true):1≤g.1∧g.1≤32∧0≤g.2.1∧g.2.1≤8:=by
 simp only[Ab.stageB,bA,dT]at h;exact⟨h.1,h.2.1,h.2.2.1,h.2.2.2⟩
theorem b9R:∀(st:List Stg)(L:List Int),st.all Ab.stageB=true→a2b st L=L++a8c st
 | [],L,_=>by simp[a2b,a8c]
 |g::st,L,h=>by
  simp only[a19,bA]at h;obtain⟨c,d,f,e⟩:=b9Q h.1;show a2b st (a4Z g L)=_;rw[b9R st _ h.2];obtain⟨a,b,u⟩:=g;simp only at c d f e;obtain⟨B,rfl⟩:=a00 f;obtain⟨A,k⟩:=a00 (show 0≤a-1 by omega);unfold a4Z;simp only;rw[k,b0I (q:=A) (by omega),a2m (q:=A) (by omega),a2m (q:=B) (by omega),a2C (v:=A) (n:=5) (by omega) (by omega),a2C (v:=B) (n:=4) (by omega) (by omega)];simp[a8c,k]
def a5l(s:Sub):List Int:=
 if s.1=2 then pb s.2.2.1 3
 else if s.1=3 then a7K s
 else if s.1=4 then pb (s.2.2.2.2.1-1) 10++(sB 8 s.2.2.2.2.2.2.1++a7K s)
 else if s.1=5 then pb ((s.2.2.2.2.2.2.2.1.length:Nat):Int) 2++a8c s.2.2.2.2.2.2.2.1
 else[]
theorem c3j{s:Sub}{n:Int}(h:a2M s.1 s n)(L:List Int):a1n s L=L++a5l s:=by
 unfold a1n a5l;rcases h with k|k|⟨k,g,f,-⟩|⟨k,g,-⟩|⟨k,g,-,b⟩|⟨k,g,f⟩;simp[k];simp[k];rw[if_pos k,if_pos k];obtain⟨A,a⟩:=a00 g;rw[a,a2m (by omega),a2C (n:=3) (by omega) (by omega)];rw[if_neg (by omega),if_pos k,if_neg (by omega),if_pos k,c1R g];rw[if_neg (by omega),if_neg (by omega),if_pos k,if_neg (by omega),if_neg (by omega),if_pos k,c1R g,b0R (by omega)];simp only[a7d,bA,dT]at b;obtain⟨A,a⟩:=a00 (show 0≤s.2.2.2.2.1-1 by omega);rw[a,b0I (by omega),a2m (by omega),a2C (n:=10) (by omega) (by omega)]
 simp
 rw[if_neg (by omega),if_neg (by omega),if_neg (by omega),if_pos k,if_neg (by omega),if_neg (by omega),if_neg (by omega),if_pos k];simp only[a4Y,bA,dT]at f;rw[b9R _ _ f.2,a2m (by omega),a2C (n:=2) (by omega) (by omega)]
 simp
def b5H(s:Sub):List Int:=pb s.1 3++(pb s.2.1 5++pb ((a0E s.2.2.2.2.2.2.2.2.1:Nat):Int) 5)
theorem c8k{s:Sub}(k:0≤s.1∧s.1≤5)(a:0≤s.2.1∧s.2.1≤30)(f:s.2.2.2.2.2.2.2.2.1.all a0A=true)(L:List Int):a8w s L=L++b5H s:=by
 obtain⟨K,g⟩:=a00 k.1;obtain⟨w,h⟩:=a00 a.1
 have:=a1W f
 unfold a8w b5H;rw[g,h,a2m (q:=K) (by omega),a2m (q:=w) (by omega),a2C (v:=a0E s.2.2.2.2.2.2.2.2.1) (n:=5) (by omega) (by omega),a2C (v:=w) (n:=5) (by omega) (by omega),a2C (v:=K) (n:=3) (by omega) (by omega)]
 simp
def a4h(s:Sub):Sub:=(s.1,s.2.1,s.2.2.1,s.2.2.2.1,s.2.2.2.2.1,s.2.2.2.2.2.1,s.2.2.2.2.2.2.1,s.2.2.2.2.2.2.2.1,[],(0,[],()),[],())
theorem b9S{wd N:Nat}{ok:Bool}(q:N<1000)(k w:Int):∀(st done:List Stg)(P R:List Int),st.all Ab.stageB=true→done.length+st.length=N→OkR P (a8c st++R)→
  x0r a6X ((wd:Int),ok,(N:Int),(done.length:Int),rdr P (a8c st++R),(k,w,0,0,0,[],[0,0,0],done,[],(0,[],()),[],()),()) =
   some ((wd:Int),ok,(k,w,0,0,0,[],[0,0,0],done++st,[],(0,[],()),[],()),rdr (P++a8c st) R,())
 | [],done,P,R,_,hl,_=>by
  have:done.length=N:=by simpa using hl
  subst this;have d:decide ((done.length:Int)<(done.length:Int))=false:=by simp
  rw[a0F (b:=((wd:Int),ok,(k,w,0,0,0,[],[0,0,0],done,[],(0,[],()),[],()),rdr P R,())) (by simp only[a6X,d,cF];simp[a8c])];simp[a8c]
 |g::st,done,P,R,h,hl,hok=>by
  simp only[a19,bA]at h;rw[lC]at hl;obtain⟨m,o,i,p⟩:=b9Q h.1;obtain⟨a,b,u⟩:=g;simp only at m o i p;obtain⟨B,rfl⟩:=a00 i;obtain⟨A,x⟩:=a00 (show 0≤a-1 by omega);obtain rfl:a=(A:Int)+1:=by omega
  have e:a8c (((A:Int)+1,(B:Int),u)::st)++R=pb (A:Int) 5++(pb (B:Int) 4++(a8c st++R)):=by simp[a8c]
  rw[e]at hok⊢;have d:decide ((done.length:Int)<(N:Int))=true:=by simp;omega
  have j:a0I (rdr P (pb (A:Int) 5++(pb (B:Int) 4++(a8c st++R))),(5:Int))=_:=a3Q (v:=A) (n:=5) (by omega) (by omega) hok;have f:=hok.shift;have l:a0I (rdr (P++pb (A:Int) 5) (pb (B:Int) 4++(a8c st++R)),(4:Int))=_:=a3Q (v:=B) (n:=4) (by omega) (by omega) f;have c:lim (a46 done+1)=true:=a1b (by omega);have s:wrap .i64 (A:Int)=(A:Int):=a0D (by omega);have w2:wrap .i64 (B:Int)=(B:Int):=a0D (by omega);have t:wrap .i64 ((A:Int)+1)=(A:Int)+1:=a0D (by omega);have r:wrap .u64 ((done.length:Int)+1)=(((done++[((A:Int)+1,(B:Int),u)]).length:Nat):Int):=by rw[a0N (by omega)];simp
  rw[a0G (s':=((wd:Int),ok,(N:Int),(((done++[((A:Int)+1,(B:Int),u)]).length:Nat):Int),rdr (P++pb (A:Int) 5++pb (B:Int) 4) (a8c st++R),(k,w,0,0,0,[],[0,0,0],done++[((A:Int)+1,(B:Int),u)],[],(0,[],()),[],()),())) (by
    simp only[a6X,d,cT,j,oB,l,c,s,w2,t,r,a06])]
  rw[b9S q k w st (done++[((A:Int)+1,(B:Int),u)]) _ R h.2 (by simp;omega) f.shift];simp[a8c]
theorem c2H{x:Int}(h:b3D x=true):b6b 8 x:=by
 simp only[b3D,bA,dT]at h;unfold b6b;omega
theorem c8l{wd:Nat}{k w g:Int}{a b c:Int}(u:b3D a=true)(hb:b3D b=true)(v:b3D c=true){P R:List Int}(f:OkR P (sB 8 [a,b,c]++R)):
  x0r a3s ((wd:Int),(0:Int),rdr P (sB 8 [a,b,c]++R),(k,w,0,0,g,[],[0,0,0],[],[],(0,[],()),[],()),()) =
   some ((wd:Int),rdr (P++sB 8 [a,b,c]) R,(k,w,0,0,g,[],[a,b,c],[],[],(0,[],()),[],()),()):=by
 have e:sB 8 [a,b,c]++R=pb (a0T a 8) 8++(pb (a0T b 8) 8++(pb (a0T c 8) 8++R)):=by simp[sB]
 rw[e]at f⊢;have r:a1c (rdr P (pb (a0T a 8) 8++(pb (a0T b 8) 8++(pb (a0T c 8) 8++R))),(8:Int))=_:=b0Q (n:=8) (by omega) (c2H u) f;have h:=f.shift;have s:a1c (rdr (P++pb (a0T a 8) 8) (pb (a0T b 8) 8++(pb (a0T c 8) 8++R)),(8:Int))=_:=b0Q (n:=8) (by omega) (c2H hb) h;have d:=h.shift;have t:a1c (rdr (P++pb (a0T a 8) 8++pb (a0T b 8) 8) (pb (a0T c 8) 8++R),(8:Int))=_:=b0Q (n:=8) (by omega) (c2H v) d;have x:wrap .i64 ((0:Int)+1)=1:=by decide
 have y:wrap .i64 ((1:Int)+1)=2:=by decide
 have w2:wrap .i64 ((2:Int)+1)=3:=by decide
 have m:decide ((0:Int)<3)=true:=by decide
 have i:decide ((0:Int)≤0)=true:=by decide
 have o:decide ((1:Int)<3)=true:=by decide
 have j:decide ((0:Int)≤1)=true:=by decide
 have p:decide ((2:Int)<3)=true:=by decide
 have l:decide ((0:Int)≤2)=true:=by decide
 have q:decide ((3:Int)<3)=false:=by decide
 rw[a0G (s':=((wd:Int),(1:Int),rdr (P++pb (a0T a 8) 8) (pb (a0T b 8) 8++(pb (a0T c 8) 8++R)),(k,w,0,0,g,[],[a,0,0],[],[],(0,[],()),[],()),())) (by
  simp only[a3s,m,i,a16,cT,r,oB,x];rfl)]
 rw[a0G (s':=((wd:Int),(2:Int),rdr (P++pb (a0T a 8) 8++pb (a0T b 8) 8) (pb (a0T c 8) 8++R),(k,w,0,0,g,[],[a,b,0],[],[],(0,[],()),[],()),())) (by
  simp only[a3s,o,j,a16,cT,s,oB,y];rfl)]
 rw[a0G (s':=((wd:Int),(3:Int),rdr (P++pb (a0T a 8) 8++pb (a0T b 8) 8++pb (a0T c 8) 8) R,(k,w,0,0,g,[],[a,b,c],[],[],(0,[],()),[],()),())) (by
  simp only[a3s,p,l,a16,cT,t,oB,w2];rfl)]
 rw[a0F (b:=((wd:Int),rdr (P++pb (a0T a 8) 8++pb (a0T b 8) 8++pb (a0T c 8) 8) R,(k,w,0,0,g,[],[a,b,c],[],[],(0,[],()),[],()),())) (by
  simp only[a3s,q,cF])]
 simp[sB]
theorem c7q{s:Sub}{n:Int}(hs:a1l s n)(ht:s.2.2.2.2.2.2.1.length=3){P R:List Int}(i:OkR P (b5H s++(a5l s++R))):
  a9R (rdr P (b5H s++(a5l s++R)))=some (a4h s,((a0E s.2.2.2.2.2.2.2.2.1:Nat):Int),true,rdr (P++(b5H s++a5l s)) R):=by
 obtain⟨-,-,hf,ha,M,Q,-,-,S,-⟩:=hs;obtain⟨k,w,o,sh,g,c,t,st,a,b,d,u⟩:=s;have hk:=b7t hf;simp only at hk M Q S ht;have h0:=a1W S;obtain⟨K,rfl⟩:=a00 hk.1;obtain⟨W,rfl⟩:=a00 M;unfold b5H at i⊢;simp only[aA]at i⊢;have g1:a0I (rdr P (pb (K:Int) 3++(pb (W:Int) 5++(pb ((a0E a:Nat):Int) 5++(a5l ((K:Int),(W:Int),o,sh,g,c,t,st,a,b,d,u)++R)))),(3:Int))=_:=a3Q (v:=K) (n:=3) (by omega) (by omega) i;have j:=i.shift;have g2:a0I (rdr (P++pb (K:Int) 3) (pb (W:Int) 5++(pb ((a0E a:Nat):Int) 5++(a5l ((K:Int),(W:Int),o,sh,g,c,t,st,a,b,d,u)++R))),(5:Int))=_:=a3Q (v:=W) (n:=5) (by omega) (by omega) j;have l:=j.shift;have g3:a0I (rdr (P++pb (K:Int) 3++pb (W:Int) 5) (pb ((a0E a:Nat):Int) 5++(a5l ((K:Int),(W:Int),o,sh,g,c,t,st,a,b,d,u)++R)),(5:Int))=_:=a3Q (v:=a0E a) (n:=5) (by omega) (by omega) l;have f:=l.shift;have wK:wrap .i64 (K:Int)=(K:Int):=a0D (by omega);have wW:wrap .i64 (W:Int)=(W:Int):=a0D (by omega);have wd:wrap .i64 ((a0E a:Nat):Int)=((a0E a:Nat):Int):=a0D (by omega);unfold a9R;rw[g1];simp only[oB];rw[g2];simp only[oB];rw[g3];simp only[oB,wK,wW,wd];generalize hX:P++pb (K:Int) 3++pb (W:Int) 5++pb ((a0E a:Nat):Int) 5=X at f⊢;have L:∀B:List Int,P++(pb (K:Int) 3++(pb (W:Int) 5++(pb ((a0E a:Nat):Int) 5++B)))=X++B:=fun B=>by rw[←hX];simp
 rw[L];obtain⟨a1,E,r,C,F,D⟩:=ha;simp only at a1 E r C F D;clear g1 g2 g3 i j l hX L;rcases hf with h|h|⟨h,m,I,-⟩|⟨h,m,-⟩|⟨h,m,-,U⟩|⟨h,m,I⟩
 
 simp only at h;obtain rfl:=a1 (by omega);obtain rfl:=E (by omega);obtain rfl:=r (by omega);obtain rfl:=C (by omega);obtain rfl:=F (by omega);obtain rfl:=D (by omega);rw[h];have hb:a5l ((0:Int),(W:Int),0,0,0,[],[0,0,0],[],a,b,d,u)=[]:=rfl;rw[hb,a02,a29];rfl;simp only at h;obtain rfl:=a1 (by omega);obtain rfl:=E (by omega);obtain rfl:=r (by omega);obtain rfl:=C (by omega);obtain rfl:=F (by omega);obtain rfl:=D (by omega);rw[h];have hb:a5l ((1:Int),(W:Int),0,0,0,[],[0,0,0],[],a,b,d,u)=[]:=rfl;rw[hb,a02,a29];rfl;simp only at h m I;obtain rfl:=E (by omega);obtain rfl:=r (by omega);obtain rfl:=C (by omega);obtain rfl:=F (by omega);obtain rfl:=D (by omega);rw[h]at f⊢;obtain⟨O,rfl⟩:=a00 m;have hb:a5l ((2:Int),(W:Int),(O:Int),0,0,[],[0,0,0],[],a,b,d,u)=pb (O:Int) 3:=rfl;rw[hb]at f⊢;have e:((2:Int)==2)=true:=rfl;have q:a0I (rdr X (pb (O:Int) 3++R),(3:Int))=_:=a3Q (v:=O) (n:=3) (by omega) (by omega) f;have wO:wrap .i64 (O:Int)=(O:Int):=a0D (by omega);simp only[e,cT,q,oB,wO];rfl;simp only at h m;obtain rfl:=a1 (by omega);obtain rfl:=r (by omega);obtain rfl:=C (by omega);obtain rfl:=D (by omega);rw[h]at f⊢;have hb:a5l ((3:Int),(W:Int),0,sh,0,c,[0,0,0],[],a,b,d,u)=a7K ((3:Int),(W:Int),0,sh,0,c,[0,0,0],[],a,b,d,u):=rfl;rw[hb]at f⊢;have G:((3:Int)==2)=false:=rfl;have H:((3:Int)==4)=false:=rfl;have Y:((3:Int)==3)=true:=rfl;have q:=b9P (s:=((3:Int),(W:Int),0,sh,0,c,[0,0,0],[],a,b,d,u)) (s0:=((3:Int),(W:Int),0,0,0,[],a04 3 0,[],[],(0,[],()),[],())) m rfl f;simp only[G,Y,H,cT,cF,oB]
 erw[q]
 rfl
 ·simp only at h m U;obtain rfl:=a1 (by omega);obtain rfl:=D (by omega);rw[h]at f⊢;simp only[a7d,bA,dT]at U;obtain⟨U,h5,V⟩:=U;obtain⟨A,hA⟩:=a00 (show 0≤g-1 by omega);obtain rfl:g=(A:Int)+1:=by omega
  obtain⟨x,y,z,rfl⟩:∃x y z,t=[x,y,z]:=by
   match t,ht with
   | [x,y,z],_=>exact⟨x,y,z,rfl⟩
  simp only[a19,List.all_nil,Bool.and_true,bA]at V;have hb:a5l ((4:Int),(W:Int),0,sh,(A:Int)+1,c,[x,y,z],[],a,b,d,u)=pb (A:Int) 10++(sB 8 [x,y,z]++a7K ((4:Int),(W:Int),0,sh,(A:Int)+1,c,[x,y,z],[],a,b,d,u)):=by
   show pb ((A:Int)+1-1) 10++_=_;rw[hA]
  rw[hb]at f⊢;simp only[aA]at f⊢;have G:((4:Int)==2)=false:=rfl;have H:((4:Int)==4)=true:=rfl;have q:a0I (rdr X (pb (A:Int) 10++(sB 8 [x,y,z]++(a7K ((4:Int),(W:Int),0,sh,(A:Int)+1,c,[x,y,z],[],a,b,d,u)++R))),(10:Int))=_:=a3Q (v:=A) (n:=10) (by omega) (by omega) f;have p:=f.shift;have wA:wrap .i64 (A:Int)=(A:Int):=a0D (by omega);have Z:wrap .i64 ((A:Int)+1)=(A:Int)+1:=a0D (by omega);have T:=c8l (wd:=a0E a) (k:=4) (w:=(W:Int)) (g:=(A:Int)+1) V.1 V.2.1 V.2.2 p;have g6:=b9P (s:=((4:Int),(W:Int),0,sh,(A:Int)+1,c,[x,y,z],[],a,b,d,u)) (s0:=((4:Int),(W:Int),0,0,(A:Int)+1,[],[x,y,z],[],[],(0,[],()),[],())) m rfl p.shift;simp only[G,H,cT,cF,q,oB,wA,Z]
  erw[T]
  simp only[oB]
  erw[g6]
  simp only[oB,a4h,b7w,c2G,aA]
 simp only at h m I;obtain rfl:=a1 (by omega);obtain rfl:=E (by omega);obtain rfl:=r (by omega);obtain rfl:=C (by omega);obtain rfl:=F (by omega);rw[h]at f⊢;simp only[a4Y,bA,dT]at I;have hb:a5l ((5:Int),(W:Int),0,0,0,[],[0,0,0],st,a,b,d,u)=pb ((st.length:Nat):Int) 2++a8c st:=rfl;rw[hb]at f⊢;simp only[aA]at f⊢;have G:((5:Int)==2)=false:=rfl;have H:((5:Int)==4)=false:=rfl;have Y:((5:Int)==3)=false:=rfl;have e5:((5:Int)==5)=true:=rfl;have q:a0I (rdr X (pb ((st.length:Nat):Int) 2++(a8c st++R)),(2:Int))=_:=a3Q (v:=st.length) (n:=2) (by omega) (by omega) f;have T:=b9S (wd:=a0E a) (ok:=true) (N:=st.length) (by omega) (5:Int) (W:Int) st [] _ R I.2 (by simp) f.shift;simp only[a09,nZ,a02,a21]at T;simp only[G,Y,H,e5,cT,cF,oB]
 erw[q]
 simp only[oB]
 erw[T]
 simp only[oB,a4h,aA]
def a5Z(s:Sub)(zn:List Nat):List Int:=
 (b5H s++a5l s)++(sB (a0E s.2.2.2.2.2.2.2.2.1) s.2.2.2.2.2.2.2.2.1++if s.1=0∨s.1=1 then[]else a6L s.2.2.2.2.2.2.2.2.2.1 zn s.2.2.2.2.2.2.2.2.2.2.1)
theorem b6c{s:Sub}{n:Int}(b:a1l s n){zn:List Nat}(d:s.1≠0∧s.1≠1→PartsOk s.2.2.2.2.2.2.2.2.2.1 n ((s.2.2.2.2.2.2.2.2.1.length:Nat):Int) s.2.2.2.2.2.2.2.2.2.2.1 zn)(L:List Int):
  a2c s zn L=L++a5Z s zn:=by
 obtain⟨-,-,h,-,k,a,-,-,f,-⟩:=b;have c:=a1W f;have g:=c8k (b7t h) ⟨k,a⟩ f L;unfold a2c a5Z
 by_cases hk:s.1=0∨s.1=1
 rw[if_pos hk,if_pos hk,b0R (by omega),c3j h,g]
 simp
 rw[if_neg hk,if_neg hk,c3M (d (not_or.1 hk)),b0R (by omega),c3j h,g]
 simp
def a8d(s:Sub)(l:List Int):Sub:=(s.1,s.2.1,s.2.2.1,s.2.2.2.1,s.2.2.2.2.1,s.2.2.2.2.2.1,s.2.2.2.2.2.2.1,s.2.2.2.2.2.2.2.1,l,s.2.2.2.2.2.2.2.2.2)
theorem c3k{wd:Nat}(f:wd≤62){N:Nat}(a:N<1000000)(n:Int)(ok:Bool)(z s:Sub):∀(l done P R:List Int),(∀x∈l,b6b wd x)→done.length+l.length=N→OkR P (sB wd l++R)→
  x0r b1p (n,(wd:Int),ok,(N:Int),(done.length:Int),rdr P (sB wd l++R),z,a8d s done,())=some (n,(wd:Int),ok,rdr (P++sB wd l) R,z,a8d s (done++l),())
 | [],done,P,R,_,hl,_=>by
  have:done.length=N:=by simpa using hl
  subst this;have d:decide ((done.length:Int)<(done.length:Int))=false:=by simp
  rw[a0F (b:=(n,(wd:Int),ok,rdr P R,z,a8d s done,())) (by simp only[b1p,d,cF];simp[sB])];simp[sB]
 |x::l,done,P,R,h,hl,hok=>by
  rw[lC]at hl;rw[c2F]at hok⊢;have d:decide ((done.length:Int)<(N:Int))=true:=by simp;omega
  have k:=b0Q f (h x (by simp)) hok;have g:lim (a46 done+1)=true:=a1b (by omega);have c:wrap .i64 ((done.length:Int)+1)=(((done++[x]).length:Nat):Int):=by rw[a0D (by omega)];simp
  rw[a0G (s':=(n,(wd:Int),ok,(N:Int),(((done++[x]).length:Nat):Int),rdr (P++pb (a0T x wd) wd) (sB wd l++R),z,a8d s (done++[x]),())) (by
   simp only[b1p,d,cT,k,oB,a8d,g,c,a06])]
  rw[c3k f a n ok z s l (done++[x]) _ R (fun y e=>h y (by simp[e])) (by simp;omega) hok.shift];simp[sB]
theorem c7r{s:Sub}(h:SmallS s):SmallS (a4h s) where
 coefs:=h.coefs
 taps:=h.taps
 stages:=h.stages
 warm:=by show([]:List Int).length≤5000;simp
 rest:=by show([]:List Int).length≤5000;simp
 ks:=by show([]:List Int).length≤_;simp
theorem d1p{s:Sub}(h:SmallS s){n:Int}(K:(a1A s n).isSome=true){zn:List Nat}(T:s.1≠0∧s.1≠1→PartsOk s.2.2.2.2.2.2.2.2.2.1 n ((s.2.2.2.2.2.2.2.2.1.length:Nat):Int) s.2.2.2.2.2.2.2.2.2.2.1 zn)
  {P R:List Int}(d:OkR P (a5Z s zn++R)):b3e (rdr P (a5Z s zn++R),n)=some (s,(0:Int),rdr (P++a5Z s zn) R):=by
 have L:=b2X K;have j:=@c7q s n L h.taps P;have y:=L;obtain⟨U,V,Q,-,-,-,-,C,r,-,x,-⟩:=y;have S:=a1W r;have D:=h.warm;have M:decide (n<1)=false:=by simp;omega
 have O:decide (n > 4096)=false:=by simp;omega
 have m:∀A B:List Int,(rdr A B).2.2.1=0:=fun _ _=>rfl;have p:a8A ((a4h s).1,a4h s,n)=some true:=by
  rw[b6w (c7r h)];unfold b4Q
  have:a2M (a4h s).1 (a4h s) n:=Q
  simp only[this,decide_true]
 have l:a4M (a4h s,n)=some ((s.2.2.2.2.2.2.2.2.1.length:Nat):Int):=by
  rw[b3h]
  have:a0X (a4h s) n=a0X s n:=rfl
  rw[this,←C]
 have a:=c1v h n;rw[K]at a;have f:a1w s.2.2.2.2.2.2.2.2.1=some ((a0E s.2.2.2.2.2.2.2.2.1:Nat):Int):=a2l (by unfold short;omega);unfold b3e a0P;unfold a5Z at d⊢;simp only[aA]at d⊢;have e:OkR (P++(b5H s++a5l s)) (sB (a0E s.2.2.2.2.2.2.2.2.1) s.2.2.2.2.2.2.2.2.1++((if s.1=0∨s.1=1 then[]else a6L s.2.2.2.2.2.2.2.2.2.1 zn s.2.2.2.2.2.2.2.2.2.2.1)++R)):=OkR.shift (by rw[aA];exact d)
 have I:=fun(ok:Bool) (z:Sub)=>c3k (wd:=a0E s.2.2.2.2.2.2.2.2.1) (by omega) (N:=s.2.2.2.2.2.2.2.2.1.length) (by omega) n ok z (a4h s) s.2.2.2.2.2.2.2.2.1 [] _ _ (b7v r) (by simp) e;simp only[a09,nZ,a02,a21]at I;simp only[M,O,cF,m,bne_self_eq_false,oB];rw[j d];simp only[m,bne_self_eq_false,cF,oB,p,bT,l];rw[show((a4h s:Sub))=a8d (a4h s) []from rfl]
 erw[I]
 simp only[oB,m,bne_self_eq_false,cF];rw[show(a8d (a4h s) s.2.2.2.2.2.2.2.2.1).1=s.1 from rfl,a6K];simp only[oB]
 by_cases hk:s.1=0∨s.1=1
 have v:decide (s.1≠0∧s.1≠1)=false:=by simp only[decide_eq_false_iff_not];omega
 have b:a8d (a4h s) s.2.2.2.2.2.2.2.2.1=s:=by
  obtain⟨F,G,H⟩:=x hk;obtain⟨k,w,o,sh,g,c,t,st,wm,⟨X,Y,Z⟩,re,u⟩:=s;simp only at F G H;subst F G H;rfl
 rw[b];simp only[v,cF,bT,f,oB,bne_self_eq_false,a,if_pos hk,a02,a29]
 simp
 have v:decide (s.1≠0∧s.1≠1)=true:=by simp only[dT];omega
 have hp:=T (not_or.1 hk);have i:=e.shift;rw[if_neg hk]at i;have q:=c4O hp i;simp only[v,cT,if_neg hk];rw[show(a8d (a4h s) s.2.2.2.2.2.2.2.2.1).2.2.2.2.2.2.2.2.1=s.2.2.2.2.2.2.2.2.1 from rfl]
 erw[q]
 have E:((0:Int) != 0)=false:=rfl;simp only[oB,E,cF,bT,f,bne_self_eq_false];have b:((a8d (a4h s) s.2.2.2.2.2.2.2.2.1).1,(a8d (a4h s) s.2.2.2.2.2.2.2.2.1).2.1,(a8d (a4h s) s.2.2.2.2.2.2.2.2.1).2.2.1,(a8d (a4h s) s.2.2.2.2.2.2.2.2.1).2.2.2.1,(a8d (a4h s) s.2.2.2.2.2.2.2.2.1).2.2.2.2.1,(a8d (a4h s) s.2.2.2.2.2.2.2.2.1).2.2.2.2.2.1,(a8d (a4h s) s.2.2.2.2.2.2.2.2.1).2.2.2.2.2.2.1,(a8d (a4h s) s.2.2.2.2.2.2.2.2.1).2.2.2.2.2.2.2.1,s.2.2.2.2.2.2.2.2.1,s.2.2.2.2.2.2.2.2.2.1,s.2.2.2.2.2.2.2.2.2.2.1,(a8d (a4h s) s.2.2.2.2.2.2.2.2.1).2.2.2.2.2.2.2.2.2.2.2)=s:=rfl
 erw[b]
 simp only[a,oB,bT,cF]
 simp
theorem d4q(y:Int):bits .u64 .and y 1=y%2:=by
 have h:((a01 64 y) &&& (a01 64 1)).toNat=(y%18446744073709551616).toNat%2:=by
  rw[a56,a07];have e:(a01 64 1).toNat=2^1-1:=by decide
  rw[e,a28];rfl
 show wrap .u64 ((((a01 64 y) &&& (a01 64 1)).toNat:Nat):Int)=_;rw[h,a0N (by omega)];omega
theorem a2d(v:Int):∀n,a1u (pb v n)
 |0=>fun b hb=>by cases hb
 |n+1=>fun b hb=>by
  rcases mC.1 hb with rfl|hb;unfold a5h;rw[d4q,a4W];omega;exact a2d v n b hb
theorem c5S(n:Nat):a1u (unB n):=fun b hb=>by
 rcases mA.1 hb with hb|hb;exact .inl (a76.1 hb).2;exact .inr (by simpa using hb)
theorem b5I{α:Type}{f:α→List Int}{l:List α}(h:∀x,a1u (f x)):a1u (l.flatMap f):=fun b hb=>by
 obtain⟨x,-,g⟩:=a57.1 hb;exact h x b g
theorem c8m(k:Nat)(x:Int):a1u (b0E k x):=by
 unfold b0E;split;exact(c5S _).app (a2d _ _);exact(c5S _).app (a2d _ _)
theorem b9e(n:Nat)(l:List Int):a1u (sB n l):=b5I fun _=>a2d _ _
theorem c8n(k:Int)(l:List Int):a1u (b1J k l):=by
 unfold b1J;split;exact(a2d _ _).app ((a2d _ _).app (b9e _ _));exact(a2d _ _).app (b5I fun _=>c8m _ _)
theorem b7x:a1u []:=fun b hb=>by cases hb
theorem c1T:∀(zs:List Nat)(ks l:List Int),a1u (a1S zs ks l)
 |z::zs,k::ks,l=>by
  simp only[a1S];exact(c8n _ _).app (c1T zs ks _)
 | [],_,_=>by simp only[a1S];exact b7x
 |_::_,[],_=>by simp only[a1S];exact b7x
theorem c1U(s:Sub):a1u (a7K s):=(a2d _ _).app ((a2d _ _).app ((a2d _ _).app (b9e _ _)))
theorem c8o(s:Sub):a1u (a5l s):=by
 unfold a5l;split;exact a2d _ _;split;exact c1U s;split;exact(a2d _ _).app ((b9e _ _).app (c1U s));split;exact(a2d _ _).app (b5I fun _=>(a2d _ _).app (a2d _ _));exact b7x
theorem c9l(s:Sub)(h:List Nat):a1u (a5Z s h):=by
 refine(((a2d _ _).app ((a2d _ _).app (a2d _ _))).app (c8o s)).app ((b9e _ _).app ?_);split;exact b7x;exact(a2d _ _).app (c1T _ _ _)
theorem c9m{s:Sub}(h:SmallS s){n:Int}(k:(a1A s n).isSome=true){L:List Int}(j:L.length<50000000):
  ∃g,b0N (wL L,s,n)=some (0,wL (L++a5Z s g))∧a5D (s,n)=some (((a5Z s g).length:Nat):Int)∧(a5Z s g).length≤700000∧
   (s.1≠0∧s.1≠1→PartsOk s.2.2.2.2.2.2.2.2.2.1 n ((s.2.2.2.2.2.2.2.2.1.length:Nat):Int) s.2.2.2.2.2.2.2.2.2.2.1 g):=by
 obtain⟨e,i,a,-,b,d,-⟩:=b7d h (n:=n) (L:=L) (by omega);obtain⟨rfl,g,rfl,f⟩:=d k;have c:=b2X k;rw[b6c c f]at a b;refine⟨g,a,?_,by simp at b;omega,f⟩;rw[c5M h];unfold a5j;rw[if_pos k,←c2A f,b6c c f]
 simp
theorem d2h{L:List Int}(g:L.length<1000000000):b3Y (wL L).1=some (rdr [] L):=by
 obtain⟨-,h⟩:=a3v L;unfold b3Y;rw[a1b (by omega)];rfl
theorem c9n{L:List Int}(g:L.length<1000000000):a5e (wL L)=some ((wL L).1,wL L):=by
 obtain⟨-,h⟩:=a3v L;unfold a5e;rw[a1b (by omega)];rfl
def a0S(n:Nat):List Int:=if h:n<128 then[(n:Int)]else((n%128+128:Nat):Int)::a0S (n / 128)
termination_by n
decreasing_by omega
theorem b0S{n:Nat}(h:n<128):a0S n=[(n:Int)]:=by rw[a0S,dif_pos h]
theorem b2n{n:Nat}(h:¬ n<128):a0S n=((n%128+128:Nat):Int)::a0S (n / 128):=by rw[a0S,dif_neg h]
theorem b7y:∀(k n:Nat),n<128^(k+1)→1≤(a0S n).length∧(a0S n).length≤k+1
 |0,n,h=>by rw[b0S (by omega)];simp
 |k+1,n,h=>by
  by_cases hn:n<128
  rw[b0S hn];simp;rw[b2n hn]
  have:=b7y k (n / 128) (by rw[a22 (by omega)];rw[a44]at h;exact h)
  simp only[lC];omega
theorem c1V:∀(k n:Nat),n<128^(k+1)→∀b∈a0S n,0≤b∧b<256
 |0,n,h,b,hb=>by rw[b0S (by omega)]at hb;simp at hb;omega
 |k+1,n,h,b,hb=>by
  by_cases hn:n<128
  rw[b0S hn]at hb;simp at hb;omega;rw[b2n hn]at hb;rcases mC.1 hb with rfl|hb;omega;exact c1V k (n / 128) (by rw[a22 (by omega)];rw[a44]at h;exact h) b hb
theorem c5T:∀(k n:Nat)(a:List Int)(b c:Int)(out:List Int),n<128^(k+1)→k≤8→out.length+k<1000000→
  ∃r g,x0r a8Z ((n:Int),a,b,c,out,())=some (((r:Nat):Int),a,b,c,out++g,())∧a0S n=g++[(r:Int)]∧r<128
 |k,n,a,b,c,out,h,hk,ho=>by
  by_cases hn:n<128
  refine⟨n,[],?_,by rw[b0S hn];rfl,hn⟩;rw[a0F (b:=((n:Int),a,b,c,out,())) (by
   have d:decide ((n:Int)≥128)=false:=by simp;omega
   simp only[a8Z,d,cF])]
  simp
  ·cases k with
   |zero=>omega
   |succ k=>
    have p:n / 128<128^(k+1):=by rw[a22 (by omega)];rw[a44]at h;exact h
    have f:n<18446744073709551616:=by
     have:128^(k+1+1)≤128^9:=a24 (by omega) (by omega)
     have e:(128:Nat)^9=9223372036854775808:=by decide
     omega
    obtain⟨r,g,l,m,o⟩:=c5T k (n / 128) a b c (out++[((n%128+128:Nat):Int)]) p (by omega) (by simp;omega);refine⟨r,((n%128+128:Nat):Int)::g,?_,by rw[b2n hn,m];rfl,o⟩;have d:decide ((n:Int)≥128)=true:=by simp;omega
    have i:wrap .u64 (a35 (n:Int) 128)=((n / 128:Nat):Int):=by
     rw[show a35 (n:Int) 128=((n / 128:Nat):Int)from rfl];exact a0N (by omega)
    have j:wrap .u8 (wrap .u8 (a25 (n:Int) 128)+128)=((n%128+128:Nat):Int):=by
     rw[show a25 (n:Int) 128=((n%128:Nat):Int)from rfl,a4W,a4W];omega
    rw[a0G (s':=(((n / 128:Nat):Int),a,b,c,out++[((n%128+128:Nat):Int)],())) (by
     simp only[a8Z,d,cT,a1b (show out.length+1<2147483648 by omega),i,j,a06])]
    rw[l]
    simp
theorem b0J{α β γ:Type}(f:α→List γ):∀(l:List α)(a:List γ),a2x (β:=β) (fun a x=>.inl (a++f x)) l a=.inl (a++l.flatMap f)
 | [],a=>by simp[a2x]
 |x::l,a=>by simp only[a2x];rw[b0J f l];simp
def asI(ns:List Nat):List Int:=ns.map fun n:Nat=>(n:Int)
theorem c4P{ns:List Nat}(h:∀n∈ns,n<9223372036854775808)(u:ns.length≤1000):b2E (asI ns)=some (ns.flatMap a0S):=by
 have m:(asI ns).length=ns.length:=by simp[asI]
 have:=a1m (f:=a9a) (asI ns) (fun i (a:List Int)=>(asI ns,((asI ns).length:Int),(i:Int),a,())) (fun a x=>.inl (a++a0S x.toNat)) (fun i a=>a.length≤10*i) (fun a=>(a,()))
  (fun i l a q=>⟨fun s g=>by
   have c:i<ns.length:=by omega
   have o:(asI ns)[i]=((ns[i]:Nat):Int):=by simp[asI]
   have hb:=h ns[i] (a03 c);have k:ns[i]<128^(8+1):=by rw[show(128:Nat)^(8+1)=9223372036854775808 from by decide];exact hb
   obtain⟨r,d,p,j,t⟩:=c5T 8 ns[i] (asI ns) ((asI ns).length:Int) (i:Int) a k (a37 _) (by omega);have hv:=b7y 8 ns[i] k;rw[j]at hv;simp only[lN,lC,a09]at hv;simp only[o,tN,j,Sum.inl.injEq]at g;subst g;have e:wrap .u8 (r:Int)=(r:Int):=by rw[a4W];omega
   refine⟨?_,by simp;omega⟩;simp only[a9a,dlt l,cT,a0B l,o,oB,p,a1b (show(a++d).length+1<2147483648 by simp;omega),a0C (show i<1000000 by omega),e,a06,aA],fun b hb=>by cases hb⟩)
  (fun a q=>by simp only[a9a,dge,cF]) (a:=[]) (by simp)
 unfold b2E;simp only[nZ]at this;rw[this,b0J];simp[a8a,asI,a82]
theorem orA{a b k:Nat}(f:a<2^k)(c:b*2^k+a<18446744073709551616):bits .u64 .or (a:Int) ((b*2^k:Nat):Int)=((a+b*2^k:Nat):Int):=by
 show wrap .u64 (((a01 64 (a:Int) ||| a01 64 ((b*2^k:Nat):Int)).toNat:Nat):Int)=_;have g:(a01 64 (a:Int)).toNat=a:=by rw[a07];omega
 have h:(a01 64 ((b*2^k:Nat):Int)).toNat=b*2^k:=by rw[a07];omega
 rw[a84,g,h];have e:a ||| b*2^k=a+b*2^k:=by
  have:=a45 (i:=k) (b:=a) f b
  rw[Nat.or_comm,Nat.mul_comm b,←this,Nat.add_comm]
 rw[e];exact a0N (by omega)
theorem b9T{rest:List Int}:∀(j m i acc:Nat)(P:List Int),m<128^(j+1)→P.length=i→(i=0∨1≤m)→acc<2^(7*i)→m*2^(7*i)+acc<9223372036854775808→(P++(a0S m++rest)).length<1000000→
  x0r a6h ((acc:Int),P++(a0S m++rest),((P++(a0S m++rest)).length:Nat),(i:Int),())=some (.inr (((acc+m*2^(7*i):Nat):Int),((i+(a0S m).length:Nat):Int),(0:Int),()))
 |j,m,i,acc,P,hj,hP,hm,ha,hs,hl=>by
  have v:i≤8:=by
   rcases hm with r|h1;omega;apply Classical.byContradiction;intro B;have z:2^(7*9)≤2^(7*i):=a24 (by omega) (by omega);have A:2^(7*i)≤m*2^(7*i):=Nat.le_mul_of_pos_left _ (by omega);have e:(2:Nat)^(7*9)=9223372036854775808:=by decide
   omega
  have a:wrap .i64 ((7:Int)*(i:Int))=((7*i:Nat):Int):=by rw[a0D (by omega)];omega
  have l:decide ((((7*i:Nat):Int))<0)=false:=by simp;omega
  have b:wrap .i64 ((i:Int)+1)=((i+1:Nat):Int):=a0C (by omega);have y:∀c:Nat,c<256→(i=9→False):=fun _ _ h=>by omega
  have s:((i:Int)==9)=false:=by simp;omega
  have g:∀(c:Nat)(q:List Int),c<256→a0S m=(c:Int)::q→(i=0∨c≠0)→
    a6h ((acc:Int),P++(a0S m++rest),((P++(a0S m++rest)).length:Nat),(i:Int),()) =
     bif decide ((c:Int)<128)then some (.inr (Sum.inr (bits .u64 .or (acc:Int) (z0g .u64 (wrap .u64 (a25 (c:Int) 128)) ((7*i:Nat):Int)),((i+1:Nat):Int),(0:Int),())))
     else some (.inl (bits .u64 .or (acc:Int) (z0g .u64 (wrap .u64 (a25 (c:Int) 128)) ((7*i:Nat):Int)),P++(a0S m++rest),((P++(a0S m++rest)).length:Nat),((i+1:Nat):Int),())):=fun c q t hv r=>by
   have f:i<(P++(a0S m++rest)).length:=by rw[hv];simp;omega
   have u:l0z (P++(a0S m++rest)) (i:Int)=some (c:Int):=by
    rw[a0B f];congr 1;subst hP;simp[hv]
   have w:(decide ((i:Int) > 0)=true→((c:Int)==0)=false):=fun h=>by
    simp only[dT]at h;simp only[beq_eq_false_iff_ne,ne_eq];omega
   simp only[a6h,dlt f,cT,u,oB,s,cF];cases o:decide ((i:Int) > 0)with
   |true=>simp only[cT,oB,w o,cF,a,l,b]
   |false=>simp only[oB,cF,a,l,b]
  have n:∀c:Nat,c%128*2^(7*i)+acc<9223372036854775808→bits .u64 .or (acc:Int) (z0g .u64 (wrap .u64 (a25 (c:Int) 128)) ((7*i:Nat):Int))=((acc+c%128*2^(7*i):Nat):Int):=fun c t=>by
   rw[show a25 (c:Int) 128=((c%128:Nat):Int)from rfl,a0N (by omega),b3k (by omega) (by omega)];exact orA ha (by omega)
  by_cases hm128:m<128
  rw[a0F (g m [] (by omega) (b0S hm128) (by omega) |>.trans (by
   have d:decide ((m:Int)<128)=true:=by simp;omega
   simp only[d,cT];rfl))]
  rw[n m (by rw[a38 hm128];exact hs),a38 hm128,b0S hm128];rfl
  ·cases j with
   |zero=>omega
   |succ j=>
    have o:m / 128<128^(j+1):=by rw[a22 (by omega)];rw[a44]at hj;exact hj
    have k:2^(7*(i+1))=128*2^(7*i):=by rw[show 7*(i+1)=7+7*i from by omega,Nat.pow_add]
    have p:m*2^(7*i)=m%128*2^(7*i)+m / 128*2^(7*(i+1)):=by
     rw[k,←Nat.mul_assoc,←Nat.add_mul];congr 1;omega
    have hb:m%128*2^(7*i)≤127*2^(7*i):=Nat.mul_le_mul_right _ (by omega);rw[a0G (g (m%128+128) (a0S (m / 128)) (by omega) (b2n hm128) (by omega) |>.trans (by
     have d:decide (((m%128+128:Nat):Int)<128)=false:=by simp;omega
     simp only[d,cF];rfl))]
    rw[n (m%128+128) (by rw[a80,Nat.mod_mod];omega),a80,Nat.mod_mod];have e:P++(a0S m++rest)=(P++[((m%128+128:Nat):Int)])++(a0S (m / 128)++rest):=by rw[b2n hm128];simp
    rw[e]at hl⊢;have x:=b9T j (m / 128) (i+1) (acc+m%128*2^(7*i)) (P++[((m%128+128:Nat):Int)]) o (by simp[hP]) (.inr (by omega)) (by rw[k];omega) (by omega) hl;rw[x,p,b2n hm128];congr 3;omega
    simp;omega
theorem c8p{n:Nat}(h:n<9223372036854775808){rest:List Int}(g:(a0S n++rest).length<1000000):a9c (a0S n++rest)=some ((n:Int),(((a0S n).length:Nat):Int),(0:Int)):=by
 have:=b9T (rest:=rest) 8 n 0 0 [] (by rw[show(128:Nat)^(8+1)=9223372036854775808 from by decide];exact h) rfl (.inl rfl) (by simp) (by simpa using h) g
 simp only[a02,nZ,Nat.mul_zero,Nat.pow_zero,Nat.mul_one,Nat.zero_add,a21]at this;unfold a9c;rw[this];rfl
def ord(P R:List Int):List Int×(Int×Int×Unit):=(P++R,(P.length:Int),(0:Int),())
theorem a9J{n:Nat}(d:n<9223372036854775808){most:Int}(i:(n:Int)≤most){P R:List Int}(f:(P++(a0S n++R)).length<1000000):
  a0Z (ord P (a0S n++R),most)=some ((n:Int),ord (P++a0S n) R):=by
 have c:a81 (a51 (P.length:Int)) (a52 (P++(a0S n++R)).length (P++(a0S n++R)))=a0S n++R:=by
  rw[a58,tN,List.drop_left]
 have g:((0:Int) != 0)=false:=rfl;have k:decide ((0:Int)≤(P.length:Int))=true:=by simp
 have a:decide ((P.length:Int)≤((P++(a0S n++R)).length:Int))=true:=by simp;omega
 have b:decide ((n:Int) > most)=false:=by simp;omega
 have h:(a0S n++R).length<1000000:=by rw[lN]at f;omega
 have e:wrap .i64 ((P.length:Int)+((a0S n).length:Int))=(((P++a0S n).length:Nat):Int):=by
  rw[a0D (by simp only[lN]at f;omega)];simp
 unfold a0Z ord;simp only[g,cF,k,a,a16,cT];rw[c,c8p d h];simp only[oB,beq_self_eq_true,cT,b,cF,g,e,aA]
def a7l(g:Int):Nat:=if 0≤g then(2*g).toNat else(-2*g-1).toNat
theorem d2i{g:Int}(h:-100000≤g∧g≤100000):b2F g=some ((a7l g:Nat):Int):=by
 unfold b2F a7l
 by_cases hg:0≤g
 have d:decide (g≥0)=true:=by simpa using hg
 rw[d,cT,if_pos hg,a0N (n:=g) (by omega),a0N (by omega),a05 (by omega)];have d:decide (g≥0)=false:=by simp;omega
 rw[d,cF,if_neg hg,a0D (n:=g+1) (by omega),a0D (by omega),a0N (n:=0-(g+1)) (by omega),a0N (n:=2*(0-(g+1))) (by omega),a0N (by omega),a05 (by omega)];congr 1;omega
theorem b9f{g:Int}{m:Nat}(h:-(m:Int)≤g∧g≤(m:Int)):a7l g≤2*m:=by
 unfold a7l
 split<;>omega
theorem d2j{g:Int}(h:-100000≤g∧g≤100000):b2I ((a7l g:Nat):Int)=some g:=by
 unfold b2I;have f:a25 ((a7l g:Nat):Int) 2=((a7l g%2:Nat):Int):=rfl;have k:a35 ((a7l g:Nat):Int) 2=((a7l g / 2:Nat):Int):=rfl;rw[f,k];unfold a7l
 by_cases hg:0≤g
 rw[if_pos hg];have d:((((2*g).toNat%2:Nat):Int)==0)=true:=by simp;omega
 rw[d,cT,a0N (by omega),a0D (by omega)];congr 1;omega;rw[if_neg hg];have d:((((-2*g-1).toNat%2:Nat):Int)==0)=false:=by simp;omega
 rw[d,cF,a0N (by omega),a0D (n:=(((-2*g-1).toNat / 2:Nat):Int)) (by omega),a0D (n:=0-(((-2*g-1).toNat / 2:Nat):Int)) (by omega),a0D (by omega)];congr 1;omega
def e8(s:Int):Int:=bif (z0h .u8 s 7)==(1:Int)then bits .u8 .xor (z0g .u8 s 1) 7 else z0g .u8 s 1
def e16(s:Int):Int:=bif (z0h .u16 s 15)==(1:Int)then bits .u16 .xor (z0g .u16 s 1) 32773 else z0g .u16 s 1
def rep{α:Type}(f:α→α):Nat→α→α
 |0,s=>s
 |n+1,s=>rep f n (f s)
def g8(s c:Int):Int:=rep e8 8 (bits .u8 .xor s c)
def g16(s c:Int):Int:=rep e16 8 (bits .u16 .xor s (z0g .u16 (wrap .u16 c) 8))
theorem c1W(l:List Int)(n i:Int):∀(j k:Nat)(s:Int),k+j=8→x0r b1n (s,l,n,i,(k:Int),())=some (rep e8 j s,l,n,i,())
 |0,k,s,h=>by
  obtain rfl:k=8:=by omega
  exact a0F rfl
 |j+1,k,s,h=>by
  have d:decide ((k:Int)<8)=true:=by simp;omega
  rw[a0G (s':=(e8 s,l,n,i,((k+1:Nat):Int),())) (by
   simp only[b1n,d,cT,a0C (show k<1000000 by omega),e8];cases (z0h .u8 s 7==1:Bool)<;>rfl)]
  exact c1W l n i j (k+1) (e8 s) (by omega)
theorem b8R(l:List Int)(n i:Int):∀(j k:Nat)(s:Int),k+j=8→x0r a9p (s,l,n,i,(k:Int),())=some (rep e16 j s,l,n,i,())
 |0,k,s,h=>by
  obtain rfl:k=8:=by omega
  exact a0F rfl
 |j+1,k,s,h=>by
  have d:decide ((k:Int)<8)=true:=by simp;omega
  rw[a0G (s':=(e16 s,l,n,i,((k+1:Nat):Int),())) (by
   simp only[a9p,d,cT,a0C (show k<1000000 by omega),e16];cases (z0h .u16 s 15==1:Bool)<;>rfl)]
  exact b8R l n i j (k+1) (e16 s) (by omega)
def b3J(l:List Int):Int:=l.foldl g8 0
def a1P(l:List Int):Int:=l.foldl g16 0
theorem c4Q{l:List Int}(h:short l):a8C l=some (b3J l):=by
 have:=a1m (f:=a8k) (β:=Int×Unit) l (fun i (a:Int)=>(a,l,(l.length:Int),(i:Int),())) (fun a x=>.inl (g8 a x)) (fun _ _=>True) (fun a=>(a,()))
  (fun i k a _=>⟨fun c g=>by
   simp only[Sum.inl.injEq]at g;subst g
   have:=c1W l (l.length:Int) (i:Int) 8 0 (bits .u8 .xor a l[i]) rfl
   simp only[nZ]at this;refine⟨?_,trivial⟩;simp only[a8k,dlt k,cT,a0B k,oB,this,a0C (a61 k h),g8],fun b hb=>by cases hb⟩)
  (fun a d=>by simp only[a8k,dge,cF]) (a:=0) trivial
 unfold a8C;simp only[nZ]at this;rw[this,b7r];rfl
theorem b7z{l:List Int}(h:short l):a4G l=some (a1P l):=by
 have:=a1m (f:=a6g) (β:=Int×Unit) l (fun i (a:Int)=>(a,l,(l.length:Int),(i:Int),())) (fun a x=>.inl (g16 a x)) (fun _ _=>True) (fun a=>(a,()))
  (fun i k a _=>⟨fun c g=>by
   simp only[Sum.inl.injEq]at g;subst g
   have:=b8R l (l.length:Int) (i:Int) 8 0 (bits .u16 .xor a (z0g .u16 (wrap .u16 l[i]) 8)) rfl
   simp only[nZ]at this;refine⟨?_,trivial⟩;simp only[a6g,dlt k,cT,a0B k,oB,this,a0C (a61 k h),g16],fun b hb=>by cases hb⟩)
  (fun a d=>by simp only[a6g,dge,cF]) (a:=0) trivial
 unfold a4G;simp only[nZ]at this;rw[this,b7r];rfl
theorem a7V(n:Int):wrap .u16 n=n%65536:=by simp[wrap,IntKind.bits,IntKind.signed]
theorem c9o(s:Int):0≤e8 s∧e8 s<256:=by
 unfold e8;cases (z0h .u8 s 7==1:Bool);simp only[cF,z0g,a4W];omega;simp only[cT,bits,a4W];omega
theorem c3l(s:Int):0≤e16 s∧e16 s<65536:=by
 unfold e16;cases (z0h .u16 s 15==1:Bool);simp only[cF,z0g,a7V];omega;simp only[cT,bits,a7V];omega
theorem c7s(l:List Int):0≤b3J l∧b3J l<256:=by
 unfold b3J;rcases a65 l with rfl|⟨L,b,rfl⟩
 simp
 rw[a66,a23];exact c9o _
theorem b2Y(l:List Int):0≤a1P l∧a1P l<65536:=by
 unfold a1P;rcases a65 l with rfl|⟨L,b,rfl⟩
 simp
 rw[a66,a23];exact c3l _
theorem d8z{v:Int}(h:0≤v∧v<65536):b2G (v,2)=some [v / 256,v%256]:=by
 have g:wrap .u64 (a35 v 256)=v / 256:=by rw[Int.tdiv_eq_ediv_of_nonneg h.1];exact a0N (by omega)
 have f:wrap .u8 (a25 v 256)=v%256:=by rw[a47 h.1,a4W];omega
 have k:wrap .u8 (a25 (v / 256) 256)=v / 256:=by rw[a47 (by omega),a4W];omega
 have s0:a4R (v,(2:Int),(0:Int),([]:List Int),())=some (.inl (v / 256,(2:Int),(1:Int),[v%256],())):=by
  simp only[a4R,show decide ((0:Int)<2)=true from rfl,cT,a1b (show([]:List Int).length+1<2147483648 by simp),g,f];rfl
 have c:a4R (v / 256,(2:Int),(1:Int),[v%256],())=some (.inl (wrap .u64 (a35 (v / 256) 256),(2:Int),(2:Int),[v%256,v / 256],())):=by
  simp only[a4R,show decide ((1:Int)<2)=true from rfl,cT,a1b (show([v%256]:List Int).length+1<2147483648 by simp),k];rfl
 have a:a9Q (v,2)=some [v%256,v / 256]:=by
  unfold a9Q b3z;simp only[oB];rw[show v0a (u0z (2:Int) 0) 8=2 from rfl,a0G s0,a0G c,a0F (b:=([v%256,v / 256],())) rfl];rfl
 unfold b2G a3b;simp only[a,oB];rfl
@[reducible] def a0Y:Type:=Int×(Int×(Int×Unit))
@[reducible] def a1o:Type:=Int×(Int×(a0Y×(List a0Y×(List Sub×Unit))))
@[reducible] def a1K:Type:=Int×(List (List Int)×Unit)
def a2o(n:Int)(s:a0Y):Bool:=!(decide (s.1<0) || decide (s.1≥n) || decide (s.2.1<0) || decide (s.2.1≥n) || s.1==s.2.1)&&!(decide (s.2.2.1 < -1024) || decide (s.2.2.1 > 1024))
theorem a2p{n:Int}{s:a0Y}:a2o n s=true↔0≤s.1∧s.1<n∧0≤s.2.1∧s.2.1<n∧s.1≠s.2.1∧-1024≤s.2.2.1∧s.2.2.1≤1024:=by
 simp only[a2o,bA,Bool.not_eq_true',Bool.or_eq_false_iff,decide_eq_false_iff_not,beq_eq_false_iff_ne];omega
def a5m(l:List a0Y)(n:Int):Prop:=1≤n∧n≤8∧l.length≤16∧l.all (a2o n)=true
instance (l:List a0Y) (n:Int):Decidable (a5m l n):=by unfold a5m;infer_instance
theorem b6d(l:List a0Y)(n:Int):a8N (l,n)=some (decide (a5m l n)):=by
 unfold a8N a5m
 by_cases h1:n<1
 grind
 by_cases h2:n > 8
 grind
 by_cases h3:((l.length:Nat):Int) > 16
 grind
 have g:=a1j (f:=a7p) (β:=Unit ⊕ (Bool×Unit)) l (fun i=>(n,l,(l.length:Int),(i:Int),())) (a2o n) (bt:=Sum.inl ()) (bf:=Sum.inr (false,()))
  (fun i h hp=>by
   obtain⟨a1,m,o,p,q,r,s⟩:=a2p.1 hp;have k:decide (l[i].1<0)=false:=by simp_all
   have a:decide (l[i].1≥n)=false:=by simp_all
   have b:decide (l[i].2.1<0)=false:=by simp_all
   have c:decide (l[i].2.1≥n)=false:=by simp_all
   have d:(l[i].1==l[i].2.1)=false:=by simp_all
   have e:decide (l[i].2.2.1 < -1024)=false:=by simp_all
   have j:decide (l[i].2.2.1 > 1024)=false:=by simp_all
   simp only[a7p,dlt h,cT,a0B h,oB,k,a,b,c,d,e,j,cF,a0C (show i<1000000 by omega)])
  (fun i h hp=>by
   simp only[a7p,dlt h,cT,a0B h,oB]
   grind[a2o])
  (by simp[a7p])
 grind
def c0O(f:a0Y):Prop:=1≤f.1∧f.1≤1048576∧1≤f.2.1∧f.2.1≤8∧4≤f.2.2.1∧f.2.2.1≤24
instance (f:a0Y):Decidable (c0O f):=by unfold c0O;infer_instance
theorem b6J(f:a0Y):a7o f=some (decide (c0O f)):=by
 unfold a7o a7n c0O
 grind
def frP(f:a1o):Prop:=c0O f.2.2.1∧1≤f.2.1∧f.2.1≤4096∧0≤f.1∧f.1≤4194304-f.2.1∧a5m f.2.2.2.1 f.2.2.1.2.1
instance (f:a1o):Decidable (frP f):=by unfold frP;infer_instance
theorem b6K(f:a1o):a7B f=some (decide (frP f)):=by
 unfold a7B frP;rw[b6J,b6d]
 by_cases h1:c0O f.2.2.1<;>by_cases h2:1≤f.2.1<;>by_cases h3:f.2.1≤4096<;>by_cases h4:0≤f.1<;>simp[h1,h2,h3,h4]
 have h:wrap .i64 ((4194304:Int)-f.2.1)=4194304-f.2.1:=a0D (by omega);rw[h]
 grind
def a3p(s:a0Y):List Nat:=[s.1.toNat,s.2.1.toNat,a7l s.2.2.1]
def a2K(s:a0Y):List Int:=a0S s.1.toNat++(a0S s.2.1.toNat++a0S (a7l s.2.2.1))
def hb(f:a1o)(body:Nat):List Int:=
 [245,75]++(a0S f.1.toNat++(a0S f.2.1.toNat++(a0S f.2.2.1.1.toNat++(a0S f.2.2.1.2.1.toNat++(a0S f.2.2.1.2.2.1.toNat++(a0S f.2.2.2.1.length++(f.2.2.2.1.flatMap a2K++a0S body)))))))
def a0W(f:a1o)(body:Nat):List Int:=hb f body++[b3J (hb f body)]
theorem a9l{n:Nat}(h:n<9223372036854775808):1≤(a0S n).length∧(a0S n).length≤9:=b7y 8 n (by omega)
theorem c3m{n:Int}(g:n≤8){s:a0Y}(h:a2o n s=true):(a2K s).length≤27:=by
 grind[a2p,a9l,a7l,a2K]
theorem b8S{n:Int}(g:n≤8):∀(l:List a0Y),l.all (a2o n)=true→(l.flatMap a2K).length≤27*l.length
 | [],_=>by simp
 |s::l,h=>by
  simp only[a19,bA]at h
  have:=c3m g h.1
  have:=b8S g l h.2
  simp only[a34,lN,lC];omega
theorem b6L{f:a1o}(g:frP f){body:Nat}(h:body≤1048576):2≤(hb f body).length∧(hb f body).length≤600:=by
 obtain⟨⟨q,r2,k,a,b,c⟩,l1,l2,s1,s2,m1,m2,m3,m4⟩:=g;have d:=a9l (n:=f.1.toNat) (by omega);have e:=a9l (n:=f.2.1.toNat) (by omega);have i:=a9l (n:=f.2.2.1.1.toNat) (by omega);have j:=a9l (n:=f.2.2.1.2.1.toNat) (by omega);have l:=a9l (n:=f.2.2.1.2.2.1.toNat) (by omega);have m:=a9l (n:=f.2.2.2.1.length) (by omega);have o:=a9l (n:=body) (by omega);have p:=b8S m2 _ m4;simp only[hb,lN,lC,a09];omega
theorem c5U:∀l:List a0Y,(l.flatMap a3p).length=3*l.length
 | []=>rfl
 |s::l=>by simp only[a34,lN,lC,c5U l];simp only[a3p,lC,a09];omega
theorem c7t{f:a1o}(A:frP f){body:Nat}(q:body≤1048576):a8l (f,(body:Int))=some (a0W f body):=by
 have t:=A;obtain⟨⟨O,r2,K,L,M,N⟩,l1,l2,s1,s2,m1,m2,m3,m4⟩:=t;have k:∀s∈f.2.2.2.1,a2o f.2.2.1.2.1 s=true:=fun s w=>lA.1 m4 s w;have h:=a1m (f:=a5G) (β:=Int×(List Int×Unit)) f.2.2.2.1 (fun i (a:List Int)=>((body:Int),f.2.2.2.1,((f.2.2.2.1.length:Nat):Int),(i:Int),a,())) (fun a x=>.inl (a++asI (a3p x))) (fun i a=>a.length=6+3*i) (fun a=>((body:Int),a,()))
  (fun i u a G=>⟨fun I j=>by
   simp at j;subst j;obtain⟨a1,C,D,E,F,y,z⟩:=a2p.1 (k _ (a03 u));refine⟨?_,by grind[asI,a3p]⟩;simp only[a5G,dlt u,cT,a0B u,oB,d2i (g:=f.2.2.2.1[i].2.2.1) (by omega),a1b (show a.length+3<2147483648 by omega),a0C (show i<1000000 by omega),a06]
   grind[a0N,asI,a3p],fun b hb=>by grind⟩)
  (fun a G=>by simp_all[a5G]) (a:=asI [f.1.toNat,f.2.1.toNat,f.2.2.1.1.toNat,f.2.2.1.2.1.toNat,f.2.2.1.2.2.1.toNat,f.2.2.2.1.length]) (by rfl)
 rw[b0J]at h;simp[a8a]at h;have d:([wrap .u64 f.1,wrap .u64 f.2.1,wrap .u64 f.2.2.1.1,wrap .u64 f.2.2.1.2.1,wrap .u64 f.2.2.1.2.2.1,wrap .u64 ((f.2.2.2.1.length:Nat):Int)]:List Int)=asI [f.1.toNat,f.2.1.toNat,f.2.2.1.1.toNat,f.2.2.1.2.1.toNat,f.2.2.1.2.2.1.toNat,f.2.2.2.1.length]:=by
  grind[a0N,asI]
 have o:asI [f.1.toNat,f.2.1.toNat,f.2.2.1.1.toNat,f.2.2.1.2.1.toNat,f.2.2.1.2.2.1.toNat,f.2.2.2.1.length]++f.2.2.2.1.flatMap (fun x=>asI (a3p x))++[((body:Nat):Int)]=asI ([f.1.toNat,f.2.1.toNat,f.2.2.1.1.toNat,f.2.2.1.2.1.toNat,f.2.2.1.2.2.1.toNat,f.2.2.2.1.length]++f.2.2.2.1.flatMap a3p++[body]):=by
  simp_all[asI,List.map_flatMap]
 have v:∀n∈[f.1.toNat,f.2.1.toNat,f.2.2.1.1.toNat,f.2.2.1.2.1.toNat,f.2.2.1.2.2.1.toNat,f.2.2.2.1.length]++f.2.2.2.1.flatMap a3p++[body],n<9223372036854775808:=fun n e=>by
  simp only[mA,mC,a26,or_false,a57]at e;rcases e with(e|⟨s,w,e⟩)|e;omega;obtain⟨a1,C,D,E,F,y,z⟩:=a2p.1 (k _ w)
  have:=b9f (m:=1024) ⟨y,z⟩
  simp[a3p]at e;omega;omega
 have B:=c5U f.2.2.2.1;have p:=c4P v (by grind);have c:(([f.1.toNat,f.2.1.toNat,f.2.2.1.1.toNat,f.2.2.1.2.1.toNat,f.2.2.1.2.2.1.toNat,f.2.2.2.1.length]++f.2.2.2.1.flatMap a3p++[body]).flatMap a0S)=(hb f body).drop 2:=by
  simp only[hb,List.flatMap_append,a34,List.flatMap_nil,a29,aA,List.flatMap_assoc,a59,a02,List.drop_succ_cons,a90];congr 7;exact congrArg (fun g=>List.flatMap g f.2.2.2.1) (funext fun s=>by simp[a2K,a3p])
 have r:[245,75]++(hb f body).drop 2=hb f body:=by rfl
 have H:=b6L A q;unfold a8l;simp only[d];rw[h];simp only[oB,a06];have l:=congrArg a46 o;rw[show(asI ([f.1.toNat,f.2.1.toNat,f.2.2.1.1.toNat,f.2.2.1.2.1.toNat,f.2.2.1.2.2.1.toNat,f.2.2.2.1.length]++f.2.2.2.1.flatMap a3p++[body])).length=7+3*f.2.2.2.1.length from by grind[asI,lC]]at l;rw[lN,a30]at l;rw[a0N (n:=(body:Int)) (by omega),a1b (by omega),cT,o,p];simp only[oB,c,a06,r];rw[a1b (by grind),cT,c4Q (show short (hb f body)by unfold short;omega)]
 simp
 rw[a1b (by omega),cT];rfl
def c7u(f:a1o):a1o:=(f.1,f.2.1,f.2.2.1,f.2.2.2.1,[],())
theorem a4x{P A R:List Int}{k:Nat}(h:(P++(A++R)).length<k):((P++A)++R).length<k:=by rw[aA];exact h
theorem c1X{x:List Int}{ch:Int}(d:ch≤8)(s l:Int)(c:a0Y)(u:List Sub×Unit){N:Nat}(p:N≤16){R:List Int}:∀(rest done:List a0Y)(P:List Int),rest.all (a2o ch)=true→done.length+rest.length=N→
  (P++(rest.flatMap a2K++R)).length<1000000→
  x0r a5H (x,(N:Int),(done.length:Int),(s,l,c,done,u),ord P (rest.flatMap a2K++R),())=some (x,(s,l,c,done++rest,u),ord (P++rest.flatMap a2K) R,())
 | [],done,P,_,hl,_=>by
  have e:done.length=N:=by simpa using hl
  rw[e,a0F (b:=(x,(s,l,c,done,u),ord P R,())) (by simp only[a5H,dge,cF];rfl)]
  simp
 |g::rest,done,P,h,hl,hlen=>by
  simp only[a19,bA]at h;rw[lC]at hl;obtain⟨a1,z,A,B,C,i,j⟩:=a2p.1 h.1;have D:=b9f (m:=1024) ⟨i,j⟩;have o:(g::rest).flatMap a2K++R=a0S g.1.toNat++(a0S g.2.1.toNat++(a0S (a7l g.2.2.1)++(rest.flatMap a2K++R))):=by simp[a2K]
  rw[o]at hlen⊢;have t:=a9J (n:=g.1.toNat) (most:=7) (by omega) (by omega) hlen;have f:=a4x hlen;have v:=a9J (n:=g.2.1.toNat) (most:=7) (by omega) (by omega) f;have k:=a4x f;have w:=a9J (n:=a7l g.2.2.1) (most:=2048) (by omega) (by omega) k;have a:=a4x k;have r:wrap .u64 ((done.length:Int)+1)=(((done++[g]).length:Nat):Int):=by rw[a0N (by omega)];simp
  have y:wrap .i64 ((g.1.toNat:Nat):Int)=g.1:=by rw[a0D (by omega)];omega
  have w2:wrap .i64 ((g.2.1.toNat:Nat):Int)=g.2.1:=by rw[a0D (by omega)];omega
  have q:decide ((done.length:Int)<(N:Int))=true:=by simp;omega
  rw[a0G (s':=(x,(N:Int),(((done++[g]).length:Nat):Int),(s,l,c,done++[g],u),ord (P++a0S g.1.toNat++a0S g.2.1.toNat++a0S (a7l g.2.2.1)) (rest.flatMap a2K++R),())) (by
   simp only[a5H,q,cT,t,v,w,oB,d2j (g:=g.2.2.1) (by omega),a1b (show done.length+1<2147483648 by omega),y,w2,r,a06])]
  rw[c1X d s l c u p rest (done++[g]) _ h.2 (by simp;omega) a];simp[a2K]
theorem c1Y{f:a1o}(p:frP f){body:Nat}(o:body≤1048576){R:List Int}(hl:(a0W f body++R).length<1000000):
  a5I (a0W f body++R)=some (c7u f,((a0W f body).length:Int),(body:Int),(0:Int)):=by
 have q:=p;obtain⟨⟨r1,r2,c1,c2,d1,d2⟩,l1,l2,s1,s2,m1,m2,m3,m4⟩:=q;have X:=b6L p o

 have d:a0W f body++R=[245,75]++(a0S f.1.toNat++(a0S f.2.1.toNat++(a0S f.2.2.1.1.toNat++(a0S f.2.2.1.2.1.toNat++(a0S f.2.2.1.2.2.1.toNat++(a0S f.2.2.2.1.length++(f.2.2.2.1.flatMap a2K++(a0S body++([b3J (hb f body)]++R))))))))):=by
  simp[a0W,hb]
 generalize hx:a0W f body++R=x at *;have Y:2≤x.length:=by rw[d];simp
 have S:l0z x 0=some 245:=by rw[d];rfl
 have U:l0z x 1=some 75:=by rw[d];rfl
 have k:a81 2 (a52 x.length x)=a0S f.1.toNat++(a0S f.2.1.toNat++(a0S f.2.2.1.1.toNat++(a0S f.2.2.1.2.1.toNat++(a0S f.2.2.1.2.2.1.toNat++(a0S f.2.2.2.1.length++(f.2.2.2.1.flatMap a2K++(a0S body++([b3J (hb f body)]++R)))))))):=by
  rw[a58,d];rfl
 have h:([]++(a0S f.1.toNat++(a0S f.2.1.toNat++(a0S f.2.2.1.1.toNat++(a0S f.2.2.1.2.1.toNat++(a0S f.2.2.1.2.2.1.toNat++(a0S f.2.2.2.1.length++(f.2.2.2.1.flatMap a2K++(a0S body++([b3J (hb f body)]++R))))))))):List Int).length<1000000:=by
  rw[←k];simp;omega
 have E:=a9J (n:=f.1.toNat) (most:=4194304) (by omega) (by omega) h;have y:=a4x h;have F:=a9J (n:=f.2.1.toNat) (most:=4096) (by omega) (by omega) y;have z:=a4x y;have G:=a9J (n:=f.2.2.1.1.toNat) (most:=1048576) (by omega) (by omega) z;have A:=a4x z;have H:=a9J (n:=f.2.2.1.2.1.toNat) (most:=8) (by omega) (by omega) A;have B:=a4x A;have I:=a9J (n:=f.2.2.1.2.2.1.toNat) (most:=24) (by omega) (by omega) B;have C:=a4x B;have K:=a9J (n:=f.2.2.2.1.length) (most:=16) (by omega) (by omega) C;have D:=a4x C;have a:=c1X (x:=x) m2 f.1 f.2.1 f.2.2.1 ([],()) m3 f.2.2.2.1 [] _ m4 (by simp) D;have V:=a4x D;have i:=a9J (n:=body) (most:=1048576) (by omega) (by omega) V;simp only[a09,nZ,a02,a21]at E F G H I K i a;have w1:wrap .i64 ((f.1.toNat:Nat):Int)=f.1:=by rw[a0D (by omega)];omega
 have w2:wrap .i64 ((f.2.1.toNat:Nat):Int)=f.2.1:=by rw[a0D (by omega)];omega
 have w3:wrap .i64 ((f.2.2.1.1.toNat:Nat):Int)=f.2.2.1.1:=by rw[a0D (by omega)];omega
 have w4:wrap .i64 ((f.2.2.1.2.1.toNat:Nat):Int)=f.2.2.1.2.1:=by rw[a0D (by omega)];omega
 have w5:wrap .i64 ((f.2.2.1.2.2.1.toNat:Nat):Int)=f.2.2.1.2.2.1:=by rw[a0D (by omega)];omega
 have l:a0S f.1.toNat++a0S f.2.1.toNat++a0S f.2.2.1.1.toNat++a0S f.2.2.1.2.1.toNat++a0S f.2.2.1.2.2.1.toNat++a0S f.2.2.2.1.length++f.2.2.2.1.flatMap a2K++a0S body=(hb f body).drop 2:=by simp[hb]
 rw[l]at i;have u:ord ((hb f body).drop 2) ([b3J (hb f body)]++R)=(x.drop 2,(((hb f body).length-2:Nat):Int),(0:Int),()):=by
  unfold ord;rw[a83,←hx];congr 1;unfold a0W;rw[aA,List.drop_append_of_le_length (by omega)]
 rw[u]at i;have b:wrap .i64 (((x.drop 2).length:Int)-(((hb f body).length-2:Nat):Int))=((1+R.length:Nat):Int):=by
  have:x.length=(hb f body).length+(1+R.length):=by rw[←hx];simp[a0W];omega
  rw[a83,a0D (by omega)];omega
 have m:wrap .i64 ((2:Int)+(((hb f body).length-2:Nat):Int))=(((hb f body).length:Nat):Int):=by rw[a0D (by omega)];omega
 have t:(hb f body).length<x.length:=by rw[←hx];simp[a0W]
 have c:a52 (hb f body).length x=hb f body:=by rw[←hx];simp[a0W]
 have s:l0z x (((hb f body).length:Nat):Int)=some (b3J (hb f body)):=by rw[a0B t];congr 1;subst hx;simp[a0W]
 have Q:decide (((x.length:Nat):Int)<2)=false:=by simp;omega
 have j:decide ((2:Int)≤((x.length:Nat):Int))=true:=by simp;omega
 have L:((245:Int) != 245)=false:=rfl;have M:((75:Int) != 75)=false:=rfl;have e:∀T:List Int,T.length<1000000→b2H T=some (ord [] T):=fun T d=>by unfold b2H;rw[a1b (by omega)];rfl
 have g:=h;rw[a02]at g;have z0:((0:Int) != 0)=false:=rfl;have N:decide (((1+R.length:Nat):Int)<1)=false:=by simp;omega
 have O:decide ((0:Int)≤(((hb f body).length:Nat):Int))=true:=by simp
 have P:decide ((((hb f body).length:Nat):Int)≤((x.length:Nat):Int))=true:=by simp;omega
 have Z:(b3J (hb f body) != b3J (hb f body))=false:=bne_self_eq_false _;have r:frP (f.1,f.2.1,f.2.2.1,f.2.2.2.1,([]:List Sub),()):=p;have w:wrap .i64 ((((hb f body).length:Nat):Int)+1)=(((a0W f body).length:Nat):Int):=by rw[a0D (by omega)];simp[a0W]
 have v:wrap .i64 ((body:Nat):Int)=(body:Int):=a0D (by omega);unfold a5I;simp only[Q,cF,S,U,oB,L,M,j,cT];rw[k,e _ g];simp only[oB,E,F,G,H,I,K,w1,w2,w3,w4,w5]
 erw[a]
 simp only[oB,i,a8D,z0,cF,a7Z,a9q,b,N,m,O,P,a16,cT,tN,c,c4Q (show short (hb f body)by unfold short;omega),s,Z];rw[b6K,decide_eq_true r];simp only[oB,bT,cF,w,v];rfl
@[reducible] def PZ:Type:=Sub×List Nat
def c0P(n:Int)(p:PZ):Prop:=SmallS p.1∧(a1A p.1 n).isSome=true∧(p.1.1≠0∧p.1.1≠1→PartsOk p.1.2.2.2.2.2.2.2.2.2.1 n ((p.1.2.2.2.2.2.2.2.2.1.length:Nat):Int) p.1.2.2.2.2.2.2.2.2.2.2.1 p.2)
def a0H(l:List PZ):List Int:=l.flatMap fun p=>a5Z p.1 p.2
theorem b8T(l:List PZ):a1u (a0H l):=b5I fun _=>c9l _ _
theorem c3n(x:a1o)(all:List Sub)(n:all.length≤8):∀(rest done:List Sub)(L:List Int),done++rest=all→(∀s∈rest,SmallS s∧(a1A s x.2.1).isSome=true)→L.length+700000*rest.length<40000000→
  ∃zs:List PZ,zs.map (·.1)=rest∧(∀p∈zs,c0P x.2.1 p)∧(a0H zs).length≤700000*rest.length∧((∀s∈rest,∃c,a5D (s,x.2.1)=some (c:Int))∧some (((a0H zs).length:Nat):Int)=rest.foldr (fun s a=>a.bind fun a=>(a5D (s,x.2.1)).bind fun c=>some (c+a)) (some 0))∧
   x0r a9b (all,(all.length:Int),(done.length:Int),wL L,x,())=some (.inl (wL (L++a0H zs),x,()))
 | [],done,L,hd,_,_=>by
  have e:done=all:=by simpa using hd
  subst e;refine⟨[],rfl,by simp,by simp[a0H],⟨by simp,by simp[a0H]⟩,?_⟩;rw[a0F (b:=Sum.inl (wL L,x,())) (by simp only[a9b,dge,cF])];simp[a0H]
 |s::rest,done,L,hd,h,hL=>by
  obtain⟨j,i⟩:=h s (by simp);rw[lC]at hL;obtain⟨k,l,d,u,m⟩:=c9m j i (L:=L) (by omega);obtain⟨zs,k1,k2,k3,⟨q,r⟩,k6⟩:=c3n x all n rest (done++[s]) (L++a5Z s k) (by simpa using hd) (fun t f=>h t (by simp[f])) (by rw[lN];omega);have g:done.length<all.length:=by rw[←hd];simp
  have o:l0z all (done.length:Int)=some s:=by rw[a0B g];subst hd;simp
  refine⟨(s,k)::zs,by simp[k1],fun p hp=>?_,?_,⟨fun t f=>?_,?_⟩,?_⟩;rcases mC.1 hp with rfl|hp;exact⟨j,i,m⟩;exact k2 p hp;simp only[a0H,a34,lN,lC];simp only[a0H]at k3;omega;rcases mC.1 f with rfl|f;exact⟨_,d⟩;exact q t f;simp only[List.foldr_cons,←r,oB,d];simp[a0H];have z0:((0:Int) != 0)=false:=rfl;rw[a0G (s':=(all,(all.length:Int),(((done++[s]).length:Nat):Int),wL (L++a5Z s k),x,())) (by
   simp only[a9b,dlt g,cT,o,oB,l,z0,cF,a0C (show done.length<1000000 by omega)]
   simp)]
  rw[k6];simp[a0H]
def a5a(k:Nat):Nat:=(8-k%8)%8
def a2u(L:List Int):List Int:=L++a04 (a5a L.length) 0
theorem c1Z:∀(k:Nat)(L:List Int),a5a L.length=k→L.length+k<900000000→x0r a3A (wL L,())=some (wL (L++a04 k 0),())
 |k,L,hk,hL=>by
  have f:=(a3v L).1;have h:a25 (wL L).2.1 8=((L.length%8:Nat):Int):=by rw[f];rfl
  unfold a5a at hk;cases k with
  |zero=>
   have:L.length%8=0:=by omega
   rw[a0F (b:=(wL L,())) (by
    simp only[a3A,h,this];rfl)]
   simp
  |succ k=>
   have hb:(((L.length%8:Nat):Int) != 0)=true:=by simp;omega
   rw[a0G (s':=(wL (L++[0]),())) (by
    simp only[a3A,h,hb,cT,c1x (show L.length<1000000000 by omega),oB])]
   rw[c1Z k (L++[0]) (by unfold a5a;rw[lN,a30];omega) (by rw[lN,a30];omega)];rw[aA];rfl
theorem c9p{L:List Int}(h:L.length<800000000):a5d (wL L)=some (wL (a2u L)):=by
 unfold a5d;rw[c1Z _ L rfl (by unfold a5a;omega)];rfl
def a1Q(L:List Int):List Int:=(wL (a2u L)).1
theorem b5J(L:List Int):(a1Q L).length=(L.length+7) / 8∧8*(a1Q L).length=(a2u L).length:=by
 have:=(a3v (a2u L)).2
 unfold a1Q;rw[this];unfold a2u a5a;simp only[lN,List.length_replicate];omega
def a4i(f:a1o)(L:List Int):List Int:=a0W f (a1Q L).length++a1Q L
def a6H(f:a1o)(L:List Int):List Int:=a4i f L++[a1P (a4i f L) / 256,a1P (a4i f L)%256]
theorem b5c{f:a1o}(h:frP f){L:List Int}(a:L.length≤5600000):(a4i f L).length≤700700∧(a1Q L).length≤700000:=by
 have g:=(b5J L).1;have k:=b6L h (body:=(a1Q L).length) (by omega);simp only[a4i,a0W,lN,a30];omega
theorem c4R{f:a1o}(j:a4u f=some true)(d:frP f)(e:f.2.2.2.2.1.length≤8)(m:∀s∈f.2.2.2.2.1,SmallS s∧(a1A s f.2.1).isSome=true):
  ∃zs:List PZ,zs.map (·.1)=f.2.2.2.2.1∧(∀p∈zs,c0P f.2.1 p)∧(a0H zs).length≤5600000∧
   some (((a0H zs).length:Nat):Int)=f.2.2.2.2.1.foldr (fun s a=>a.bind fun a=>(a5D (s,f.2.1)).bind fun c=>some (c+a)) (some 0)∧a9F f=some (a6H f (a0H zs),0):=by
 obtain⟨zs,k1,k2,k3,⟨-,n⟩,k6⟩:=c3n f f.2.2.2.2.1 e f.2.2.2.2.1 [] [] rfl m (by simp;omega);have b:(a0H zs).length≤5600000:=by omega
 refine⟨zs,k1,k2,b,n,?_⟩;rw[a02,a09]at k6;have hp:=b5c d b;have k:wL []=(([]:List Int),(0:Int),()):=rfl;rw[k]at k6;have g:(a2u (a0H zs)).length<1000000000:=by
  have:=(b5J (a0H zs)).2
  omega
 have l:=b2Y (a4i f (a0H zs));have h:a0W f (a1Q (a0H zs)).length++a1Q (a0H zs)=a4i f (a0H zs):=rfl;have i:(a0W f (a1Q (a0H zs)).length).length+(a1Q (a0H zs)).length=(a4i f (a0H zs)).length:=by rw[←h,lN]
 unfold a9F;simp only[j,oB,bT,cF]
 erw[k6]
 simp only[oB,c9p (show(a0H zs).length<800000000 by omega),c9n g]
 erw[c7t d (show(a1Q (a0H zs)).length≤1048576 by omega)]
 simp only[oB,a06];rw[show(wL (a2u (a0H zs))).1=a1Q (a0H zs)from rfl];rw[h,a1b (by omega),cT,b7z (show short (a4i f (a0H zs))by unfold short;omega)];simp only[oB];rw[a0N (by omega),d8z l];simp only[oB];rw[a1b (by simp;omega),cT];rfl
def a9m(f:a1o)(l:List Sub):a1o:=(f.1,f.2.1,f.2.2.1,f.2.2.2.1,l,())
theorem c7v(f:a1o):a9m f f.2.2.2.2.1=f:=rfl
theorem c2a(f g:a1o)(e:Int){N:Nat}(d:N≤8){Z:List Int}:∀(rest:List PZ)(done:List Sub)(P:List Int),done.length+rest.length=N→(∀p∈rest,c0P f.2.1 p)→OkR P (a0H rest++Z)→
  x0r a8m (e,(N:Int),(done.length:Int),g,a9m f done,rdr P (a0H rest++Z),())=some (.inl (e,g,a9m f (done++rest.map (·.1)),rdr (P++a0H rest) Z,()))
 | [],done,P,hl,_,_=>by
  have a:done.length=N:=by simpa using hl
  rw[a,a0F (b:=Sum.inl (e,g,a9m f done,rdr P Z,())) (by simp only[a8m,dge,cF];rfl)];simp[a0H]
 |p::rest,done,P,hl,h,hok=>by
  rw[lC]at hl;obtain⟨n,l,o⟩:=h p (by simp);have c:a0H (p::rest)++Z=a5Z p.1 p.2++(a0H rest++Z):=by simp[a0H]
  rw[c]at hok⊢;have j:=d1p n l o hok;have i:decide ((done.length:Int)<(N:Int))=true:=by simp;omega
  have z0:((0:Int) != 0)=false:=rfl;rw[a0G (s':=(e,(N:Int),(((done++[p.1]).length:Nat):Int),g,a9m f (done++[p.1]),rdr (P++a5Z p.1 p.2) (a0H rest++Z),())) (by
   have k:b3e (rdr P (a5Z p.1 p.2++(a0H rest++Z)),(a9m f done).2.1)=some (p.1,(0:Int),rdr (P++a5Z p.1 p.2) (a0H rest++Z)):=j;simp only[a8m,i,cT,k,oB,z0,cF];rw[show(a9m f done).2.2.2.2.1=done from rfl,a1b (show done.length+1<2147483648 by omega),cT,a0C (show done.length<1000000 by omega)];rw[show(((done++[p.1]).length:Nat):Int)=((done.length+1:Nat):Int)from by simp];rfl)]
  rw[c2a f g e d rest (done++[p.1]) _ (by simp;omega) (fun q m=>h q (by simp[m])) hok.shift];simp[a0H]
theorem b9U{L:List Int}(f:a1u L)(a:L.length<500000000)(t:Int×(Int×Unit)):∀(k i:Nat),i+k=L.length→(∀j,i≤j→L.getD j 0=0)→
  x0r a3C ((L.length:Int),(i:Int),((wL L).1,t),())=some (.inl ((L.length:Int),((wL L).1,t),()))
 |0,i,h,_=>by
  obtain rfl:i=L.length:=by omega
  exact a0F (by simp only[a3C,dge,cF])
 |k+1,i,h,h0=>by
  have g:i<L.length:=by omega
  have z:((0:Int)==1)=false:=rfl;have b:wrap .i64 ((i:Int)+1)=((i+1:Nat):Int):=by rw[a0D (by omega)];omega
  rw[a0G (s':=((L.length:Int),((i+1:Nat):Int),((wL L).1,t),())) (by
   simp only[a3C,dlt g,cT];rw[c2E f (by omega) g t,h0 i (a37 _)];simp only[oB,z,cF,b])]
  exact b9U f a t k (i+1) (by omega) (fun j c=>h0 j (by omega))
theorem c9q(L:List Int)(k j:Nat)(h:L.length≤j):(L++a04 k 0).getD j 0=0:=by
 rw[lD,a48 h,List.getElem?_replicate]
 split<;>rfl
theorem b8U{L:List Int}(h:a1u L):a1u (a2u L):=h.app fun _ hb=>.inl (a76.1 hb).2
theorem c8q{L:List Int}(f:a1u L)(c:L.length≤5600000):∃r,a5f (rdr L (a04 (a5a L.length) 0))=some r∧r.2.2.1=0:=by
 have hp:(a2u L).length=L.length+a5a L.length:=by simp[a2u]
 have a:a5a L.length<8:=by unfold a5a;omega
 have b:(a2u L).length%8=0:=by rw[hp];unfold a5a;omega
 have z0:((0:Int) != 0)=false:=rfl;have g:wrap .i64 (wrap .i64 (a35 (wrap .i64 ((L.length:Int)+7)) 8)*8)=((a2u L).length:Int):=by
  rw[a0D (n:=(L.length:Int)+7) (by omega),show a35 ((L.length:Int)+7) 8=(((L.length+7) / 8:Nat):Int)from by
   rw[show((L.length:Int)+7)=((L.length+7:Nat):Int)from by omega];rfl,a0D (n:=(((L.length+7) / 8:Nat):Int)) (by omega),a0D (by omega),hp]
  unfold a5a;omega
 have h:=b9U (b8U f) (by omega) ((L.length:Int),(0:Int),()) (a5a L.length) L.length (by omega) (fun j k=>c9q L _ j k);refine⟨((wL (a2u L)).1,((a2u L).length:Int),(0:Int),()),?_,rfl⟩;unfold a5f rdr;simp only[z0,cF,g];rw[show L++a04 (a5a L.length) 0=a2u L from rfl,h];rfl
theorem d2k{v:Int}(h:0≤v∧v<65536):bits .u16 .or (z0g .u16 (wrap .u16 (v / 256)) 8) (wrap .u16 (v%256))=v:=by
 rw[a7V,a7V];have e:z0g .u16 (v / 256%65536) 8=((v.toNat / 256*256:Nat):Int):=by
  show wrap .u16 (v / 256%65536*256)=_;rw[a7V];omega
 rw[e];have g:v%256%65536=((v.toNat%256:Nat):Int):=by omega
 rw[g];show wrap .u16 (((a01 16 ((v.toNat / 256*256:Nat):Int) ||| a01 16 ((v.toNat%256:Nat):Int)).toNat:Nat):Int)=_;have f:(a01 16 ((v.toNat / 256*256:Nat):Int)).toNat=v.toNat / 256*256:=by rw[a07];omega
 have k:(a01 16 ((v.toNat%256:Nat):Int)).toNat=v.toNat%256:=by rw[a07];omega
 rw[a84,f,k];have e:v.toNat / 256*256 ||| v.toNat%256=v.toNat / 256*256+v.toNat%256:=by
  have:=a45 (i:=8) (b:=v.toNat%256) (by omega) (v.toNat / 256)
  rw[show 2^8*(v.toNat / 256)=v.toNat / 256*256 from by omega]at this;exact this.symm
 rw[e,a7V];omega
theorem c3N{f:a1o}(O:a4u f=some true)(u:frP f)(t:((f.2.2.2.2.1.length:Nat):Int)=f.2.2.1.2.1){zs:List PZ}(B:zs.map (·.1)=f.2.2.2.2.1)(hp:∀p∈zs,c0P f.2.1 p)(z:(a0H zs).length≤5600000)
  {R:List Int}(V:R.length≤1000):a4S (a6H f (a0H zs)++R)=some (f,((a6H f (a0H zs)).length:Int),(0:Int)):=by
 have P:=b5c u z;have Q:=b2Y (a4i f (a0H zs));have L:f.2.2.2.2.1.length≤8:=by have:=u.1.2.2.2.1;omega
 have N:=b5J (a0H zs);generalize hbd:a1Q (a0H zs)=body at *;have c:a6H f (a0H zs)=a4i f (a0H zs)++[a1P (a4i f (a0H zs)) / 256,a1P (a4i f (a0H zs))%256]:=rfl;have g:a4i f (a0H zs)=a0W f body.length++body:=by unfold a4i;rw[hbd]
 generalize hpb:a4i f (a0H zs)=pre at *;have o:a6H f (a0H zs)++R=a0W f body.length++(body++([a1P pre / 256,a1P pre%256]++R)):=by rw[c,g];simp
 have m:(a6H f (a0H zs)).length=pre.length+2:=by rw[c];simp
 have A:pre.length=(a0W f body.length).length+body.length:=by rw[g];simp
 have y:(a6H f (a0H zs)++R).length=pre.length+2+R.length:=by rw[lN,m]
 have k:=c1Y u (body:=body.length) (by omega) (R:=body++([a1P pre / 256,a1P pre%256]++R)) (by rw[←o,y];omega);rw[←o]at k;generalize hx:a6H f (a0H zs)++R=x at *;have z0:((0:Int) != 0)=false:=rfl;have T:wrap .i64 (((a0W f body.length).length:Int)+(body.length:Int))=(pre.length:Int):=by rw[a0D (by omega)];omega
 have w2:wrap .i64 ((pre.length:Int)+2)=((pre.length+2:Nat):Int):=by rw[a0D (by omega)];omega
 have U:wrap .i64 ((pre.length:Int)+1)=((pre.length+1:Nat):Int):=by rw[a0D (by omega)];omega
 have C:decide ((x.length:Int)<((pre.length+2:Nat):Int))=false:=by simp;omega
 have D:decide ((0:Int)≤(pre.length:Int))=true:=by simp
 have E:decide ((pre.length:Int)≤(x.length:Int))=true:=by simp;omega
 have F:decide ((0:Int)≤((a0W f body.length).length:Int))=true:=by simp
 have G:decide (((a0W f body.length).length:Int)≤(pre.length:Int))=true:=by simp;omega
 have j:x=pre++([a1P pre / 256,a1P pre%256]++R):=by rw[←hx,c];simp
 have i:a52 pre.length x=pre:=by rw[j];simp
 have b:a81 (a0W f body.length).length pre=body:=by rw[g];simp
 have I:l0z x (pre.length:Int)=some (a1P pre / 256):=by rw[a0B (by omega)];congr 1;subst j;simp
 have K:l0z x ((pre.length+1:Nat):Int)=some (a1P pre%256):=by rw[a0B (by omega)];congr 1;subst j;simp
 have S:(a1P pre != bits .u16 .or (z0g .u16 (wrap .u16 (a1P pre / 256)) 8) (wrap .u16 (a1P pre%256)))=false:=by rw[d2k Q];exact bne_self_eq_false _
 have e:(a2u (a0H zs)).length<1000000000:=by omega
 have a:=d2h e;rw[show(wL (a2u (a0H zs))).1=body from hbd]at a;have v:OkR [] (a0H zs++a04 (a5a (a0H zs).length) 0):=⟨by rw[a02];exact b8U (b8T zs),by
  rw[a02];show(a2u (a0H zs)).length<_;omega⟩
 have h:=c2a f ((0:Int),(0:Int),((0:Int),(0:Int),(0:Int),()),([]:List a0Y),([]:List Sub),()) (pre.length:Int) L zs [] [] (by rw[←B];simp) hp v;simp only[a02,a09,B,c7v]at h;have w:rdr [] (a2u (a0H zs))=rdr [] (a0H zs++a04 (a5a (a0H zs).length) 0):=rfl;obtain⟨r,q,s⟩:=c8q (b8T zs) z;have d:a2F (rdr (a0H zs) (a04 (a5a (a0H zs).length) 0))=some ((a5a (a0H zs).length:Int),rdr (a0H zs) (a04 (a5a (a0H zs).length) 0)):=by
  unfold a2F rdr
  have:(wL (a0H zs++a04 (a5a (a0H zs).length) 0)).1=body:=hbd
  simp only[this];have hp:(a2u (a0H zs)).length=(a0H zs).length+a5a (a0H zs).length:=by simp[a2u]
  rw[a0D (n:=8*(body.length:Int)) (by omega),a0D (by omega)];congr 2;omega
 have H:decide (((a5a (a0H zs).length:Nat):Int)≥8)=false:=by unfold a5a;simp;omega
 have M:a9m f []=c7u f:=rfl;have l:f.2.2.1.2.1=((f.2.2.2.2.1.length:Nat):Int):=t.symm;unfold a4S;rw[k];simp only[oB,z0,cF,T,w2,C,D,E,F,a16,cT,tN,i,b7z (show short pre by unfold short;omega),I,U,K,S,G,b,a,w];rw[show(c7u f).2.2.1.2.1=((f.2.2.2.2.1.length:Nat):Int)from l]
 erw[h]
 simp only[oB,d,H,cF,q,a0P,s,z0,O,bT,w2,m]
theorem b5d(x:Int):a9x x=some (a0A x):=by
 unfold a9x a0A
 by_cases h:-1073741824≤x<;>simp[h]
def a2L(c:List (List Int)):Prop:=1≤c.length∧c.length≤8∧(c.headD []).length≤4096∧c.all (fun r=>decide (r.length=(c.headD []).length)&&r.all a0A)=true
instance (c:List (List Int)):Decidable (a2L c):=by unfold a2L;infer_instance
theorem b3m{α:Type}{l:List α}{d:α}(h:0<l.length):l[0]=l.headD d:=by
 cases l with
 |nil=>simp at h
 |cons a l=>rfl
theorem c2I(c:List (List Int)):a7M c=some (decide (a2L c)):=by
 unfold a7M
 by_cases h1:((c.length:Nat):Int)<1
 have:¬ a2L c:=fun h=>by have:=h.1;omega
 simp[h1,this]
 by_cases h2:((c.length:Nat):Int) > 8
 have:¬ a2L c:=fun h=>by have:=h.2.1;omega
 simp[h1,h2,this];have l:0<c.length:=by omega
 have b:l0z c 0=some (c.headD []):=by rw[show(0:Int)=((0:Nat):Int)from rfl,a0B l,b3m (d:=[]) l]
 have m:decide (((c.length:Nat):Int)<1)=false:=by simpa using h1
 have n:decide (((c.length:Nat):Int) > 8)=false:=by simpa using h2
 simp only[m,n,cF,b,oB]
 by_cases h3:(((c.headD []).length:Nat):Int) > 4096
 rw[decide_eq_true h3,decide_eq_false (show ¬ a2L c from fun h=>by have:=h.2.2.1;omega)];rfl;have o:decide ((((c.headD []).length:Nat):Int) > 4096)=false:=by simpa using h3
 simp only[o,cF];have g:∀(i:Nat)(r:List Int),short r→x0r a4A (c,c,(c.length:Int),(i:Int),r,(r.length:Int),(0:Int),())=some (bif r.all a0A then Sum.inl (c,c,(c.length:Int),(i:Int),())else Sum.inr (false,())):=fun i r t=>by
  have:=a1j (f:=a4A) r (fun j=>(c,c,(c.length:Int),(i:Int),r,(r.length:Int),(j:Int),())) a0A (bt:=Sum.inl (c,c,(c.length:Int),(i:Int),())) (bf:=Sum.inr (false,()))
   (fun j h hp=>by simp only[a4A,dlt h,cT,a0B h,oB,b5d,hp,bT,cF,a0C (a61 h t)])
   (fun j h hp=>by simp only[a4A,dlt h,cT,a0B h,oB,b5d,hp,a08])
   (by simp only[a4A,dge,cF])
  exact this
 have k:=a1j (f:=a4B) c (fun i=>(c,c,(c.length:Int),(i:Int),())) (fun r=>decide (r.length=(c.headD []).length)&&r.all a0A) (bt:=Sum.inl ()) (bf:=Sum.inr (false,()))
  (fun i h hp=>by
   simp only[bA,dT]at hp;have e:((((c[i]).length:Nat):Int) != (((c.headD []).length:Nat):Int))=false:=by rw[hp.1];exact bne_self_eq_false _
   have a:=g i c[i] (by unfold short;omega);rw[hp.2,cT]at a;simp only[a4B,dlt h,cT,a0B h,oB,b,e,cF,a,a0C (show i<1000000 by omega)])
  (fun i h hp=>by
   by_cases hl:(c[i]).length=(c.headD []).length
   have e:((((c[i]).length:Nat):Int) != (((c.headD []).length:Nat):Int))=false:=by rw[hl];exact bne_self_eq_false _
   have a:=g i c[i] (by unfold short;omega);rw[decide_eq_true hl,a39]at hp;rw[hp,cF]at a;simp only[a4B,dlt h,cT,a0B h,oB,b,e,cF,a];have e:((((c[i]).length:Nat):Int) != (((c.headD []).length:Nat):Int))=true:=by simp only[bne_iff_ne,ne_eq,a85];exact hl
   simp only[a4B,dlt h,cT,a0B h,oB,b,e])
  (by simp only[a4B,dge,cF])
 simp only[nZ]at k;rw[k];have p:1≤c.length:=by omega
 have q:c.length≤8:=by omega
 have s:(c.headD []).length≤4096:=by omega
 by_cases hA:c.all (fun r=>decide (r.length=(c.headD []).length)&&r.all a0A)=true
 rw[hA,decide_eq_true (show a2L c from⟨p,q,s,hA⟩)];rfl;rw[a53.2 hA,decide_eq_false (show ¬ a2L c from fun h=>hA h.2.2.2)];rfl
def a3D(c:List (List Int))(n:Nat):Prop:=∀r∈c,r.length=n∧r.all a0A=true
theorem c5V{c:List (List Int)}(h:a2L c):a3D c (c.headD []).length:=fun r g=>by
 have:=lA.1 h.2.2.2 r g
 simpa using this
theorem c0Q{c:List (List Int)}{n:Nat}(h:a3D c n)(g:1≤c.length)(f:c.length≤8)(b:n≤4096):a2L c:=by
 have k:(c.headD []).length=n:=by
  rw[←b3m (d:=[]) (show 0<c.length by omega)];exact(h _ (a03 _)).1
 refine⟨g,f,by omega,lA.2 fun r a=>?_⟩
 have:=h r a
 rw[decide_eq_true (show r.length=(c.headD []).length from by rw[k];exact this.1),this.2];rfl
theorem c3o{c:List (List Int)}{n:Nat}(h:a3D c n)(m:n≤5000)(l:c.length≤100):a7q c=some c:=by
 have:=a1m (f:=a6N) (β:=List (List Int)×Unit) c (fun i (a:List (List Int))=>(c,(c.length:Int),(i:Int),a,())) (fun a x=>.inl (a++[x])) (fun i a=>a.length=i) (fun a=>(a,()))
  (fun i k a d=>⟨fun j g=>by
   simp only[Sum.inl.injEq]at g;subst g;have o:=(h _ (a03 k)).1;have e:∀y:List Int,List.set ([([]:List Int)]:List (List Int)) 0 y=[y]:=fun _=>rfl;refine⟨?_,by simp[d]⟩;simp only[a6N,dlt k,cT,a0B k,oB,a8K (show short c[i]by unfold short;omega),e];rw[a1b (by simp;omega),cT,a0C (show i<1000000 by omega)];rfl,fun b hb=>by cases hb⟩)
  (fun a d=>by simp only[a6N,dge,cF]) (a:=[]) rfl
 rw[b0J (fun x:List Int=>[x])]at this;unfold a7q;simp only[nZ]at this;rw[this];simp[a8a]
def a7m(sign g:Int)(x y:Int):Int:=y+sign*(g*x / 256)
def b0K(sign g:Int)(xs ys:List Int):List Int:=List.zipWith (a7m sign g) xs ys
theorem c9r(sign g:Int){xs ys:List Int}(h:xs.length=ys.length):(b0K sign g xs ys).length=ys.length:=by simp[b0K,h]
theorem c9s{sign g x y:Int}(b:sign=1∨sign=-1)(c:-1024≤g∧g≤1024)(k:a0A x=true)(a:a0A y=true):
  wrap .i64 (y+wrap .i64 (sign*z0h .i64 (wrap .i64 (g*x)) 8))=a7m sign g x y:=by
 have k:=a1H.1 k;have a:=a1H.1 a;have f:-1099511627776≤g*x∧g*x≤1099511627776:=by
  have f:g.natAbs≤1024:=by omega
  have h:x.natAbs≤1073741824:=by omega
  have:=Nat.mul_le_mul f h
  rw[←Int.natAbs_mul]at this;omega
 rw[a0D (n:=g*x) (by omega)];have h:z0h .i64 (g*x) 8=g*x / 256:=by
  unfold z0h;show(g*x).fdiv (2^8)=_;rw[a49 _ (by omega)];rfl
 rw[h];unfold a7m;rcases b with rfl|rfl;rw[a0D (n:=1*(g*x / 256)) (by omega),a0D (by omega)];rw[a0D (n:=-1*(g*x / 256)) (by omega),a0D (by omega)]
theorem a6a{α:Type}(c:List α){a b:Nat}(h:a≠b)(y d:α):(c.set b y).getD a d=c.getD a d:=by
 rw[lD,lD,a41 (Ne.symm h)]
theorem a7W{α:Type}(c:List α){b:Nat}(h:b<c.length)(y d:α):(c.set b y).getD b d=y:=by
 rw[lD,a36 h];rfl
theorem d0V{α:Type}(p:List α)(x:α)(s:List α)(d:α):(p++x::s).getD p.length d=x:=by
 rw[lD];simp
theorem d1q{α:Type}(p:List α)(x y:α)(s:List α):(p++x::s).set p.length y=p++y::s:=by simp
theorem c2b{c:List (List Int)}{s:a0Y}{sign:Int}(a:sign=1∨sign=-1)(l:-1024≤s.2.2.1∧s.2.2.1≤1024)(a0:0≤s.1)(j:0≤s.2.1)(g:s.1.toNat≠s.2.1.toNat)(hb:s.2.1.toNat<c.length)(f:s.2.1<(c.length:Int))
  {xs:List Int}(b:c.getD s.1.toNat []=xs)(B:xs.length≤5000):∀(sx suf px pre:List Int),px++sx=xs→px.length=pre.length→sx.length=suf.length→sx.all a0A=true→suf.all a0A=true→
  if(b0K sign s.2.2.1 sx suf).all a0A=true then
   x0r a3R (sign,(xs.length:Int),(pre.length:Int),c.set s.2.1.toNat (pre++suf),s,((s.1.toNat:Nat):Int),())=some (.inl (c.set s.2.1.toNat (pre++b0K sign s.2.2.1 sx suf),()))
  else ∃c',x0r a3R (sign,(xs.length:Int),(pre.length:Int),c.set s.2.1.toNat (pre++suf),s,((s.1.toNat:Nat):Int),())=some (.inr (false,c',()))
 | [],suf,px,pre,hx,hp,hl,_,_=>by
  have e:suf=[]:=List.length_eq_zero_iff.1 hl.symm;subst e;have t:pre.length=xs.length:=by rw[←hx,←hp];simp
  rw[if_pos (by rfl),t];exact a0F (by simp only[a3R,dge,cF];rfl)
 |x::sx,[],px,pre,_,_,hl,_,_=>by simp at hl
 |x::sx,y::suf,px,pre,hx,hp,hl,hwx,hwy=>by
  simp only[a19,bA]at hwx hwy;have A:pre.length<xs.length:=by rw[←hx,←hp];simp
  have u:(c.set s.2.1.toNat (pre++y::suf)).getD (a51 ((s.1.toNat:Nat):Int)) []=xs:=by rw[tN,a6a _ g];exact b
  have v:(c.set s.2.1.toNat (pre++y::suf)).getD s.2.1.toNat []=pre++y::suf:=a7W _ hb _ _;have w:a93 xs (a51 (pre.length:Int)) 0=x:=by rw[tN,←hp,←hx];exact d0V _ _ _ _
  have z:a93 (pre++y::suf) (a51 (pre.length:Int)) 0=y:=by rw[tN];exact d0V _ _ _ _
  have n:decide ((0:Int)≤(pre.length:Int))=true:=by simp
  have o:decide ((pre.length:Int)<(xs.length:Int))=true:=by simp;omega
  have p:decide ((0:Int)≤s.2.1)=true:=by simpa using j
  have q:decide (s.2.1<(((c.set s.2.1.toNat (pre++y::suf)).length:Nat):Int))=true:=by rw[List.length_set];simpa using f
  have r:decide ((pre.length:Int)<(((pre++y::suf).length:Nat):Int))=true:=by simp;omega
  have hv:=c9s a l hwx.1 hwy.1;have C:wrap .i64 ((pre.length:Int)+1)=((pre.length+1:Nat):Int):=a0C (by omega);have m:b0K sign s.2.2.1 (x::sx) (y::suf)=a7m sign s.2.2.1 x y::b0K sign s.2.2.1 sx suf:=rfl;have k:List.set (c.set s.2.1.toNat (pre++y::suf)) s.2.1.toNat (List.set (pre++y::suf) (a51 (pre.length:Int)) (a7m sign s.2.2.1 x y))=c.set s.2.1.toNat ((pre++[a7m sign s.2.2.1 x y])++suf):=by
   rw[tN,List.set_set,d1q];simp
  have h:a3R (sign,(xs.length:Int),(pre.length:Int),c.set s.2.1.toNat (pre++y::suf),s,((s.1.toNat:Nat):Int),()) =
    bif !(a0A (a7m sign s.2.2.1 x y))then some (.inr (Sum.inr (false,c.set s.2.1.toNat (pre++y::suf),())))
    else some (.inl (sign,(xs.length:Int),((pre.length+1:Nat):Int),c.set s.2.1.toNat ((pre++[a7m sign s.2.2.1 x y])++suf),s,((s.1.toNat:Nat):Int),())):=by
   simp only[a3R,o,cT,u,v,n,a16,p,q,r,w,z,b5d,hv,oB,C];cases hwv:a0A (a7m sign s.2.2.1 x y);rfl;simp only[bT,cF];rw[k,tN]
  cases hwv:a0A (a7m sign s.2.2.1 x y)with
  |false=>
   rw[m,if_neg (by simp[hwv])];rw[hwv]at h;exact⟨_,a0F h⟩
  |true=>
   rw[hwv]at h;have d:=c2b a l a0 j g hb f b B sx suf (px++[x]) (pre++[a7m sign s.2.2.1 x y]) (by simpa using hx) (by simp[hp]) (by simpa using hl) hwx.2 hwy.2;rw[a0G h,m];simp only[a19,hwv,a39];rw[show((pre++[a7m sign s.2.2.1 x y]).length)=pre.length+1 from by simp]at d;split;rename_i i;rw[if_pos i]at d;rw[d]
   simp
   rename_i i;rw[if_neg i]at d;exact d
def a3Z(sign:Int)(s:a0Y)(c:List (List Int)):Option (List (List Int)):=
 let r:=b0K sign s.2.2.1 (c.getD s.1.toNat []) (c.getD s.2.1.toNat [])
 if r.all a0A=true then some (c.set s.2.1.toNat r)else none
theorem a6M{c:List (List Int)}{n:Nat}(h:a3D c n){i:Nat}(g:i<c.length):(c.getD i []).length=n∧(c.getD i []).all a0A=true:=by
 rw[lD,lG g];exact h _ (a03 g)
theorem c4S{c:List (List Int)}{n:Nat}(a:a3D c n)(w:n≤5000){s:a0Y}(q:a2o (c.length:Int) s=true){sign:Int}(k:sign=1∨sign=-1):
  ∃b f,a8y (c,s,sign)=some (b,f)∧match a3Z sign s c with|some r=>b=true∧f=r|none=>b=false:=by
 obtain⟨a1,d,e,j,v,l,m⟩:=a2p.1 q;have t:=a6M a (i:=s.1.toNat) (by omega);have u:=a6M a (i:=s.2.1.toNat) (by omega);have hb:s.2.1.toNat<c.length:=by omega
 have g:c.set s.2.1.toNat (c.getD s.2.1.toNat [])=c:=by
  apply a54;intro i
  by_cases hi:s.2.1.toNat=i
  subst hi;rw[a36 hb,lD,lG hb];rfl;rw[a41 hi]
 have:=c2b k ⟨l,m⟩ a1 e (by omega) hb j (rfl:c.getD s.1.toNat []=_) (by omega) (c.getD s.1.toNat []) (c.getD s.2.1.toNat []) [] [] rfl rfl (by omega) t.2 u.2
 rw[a02,g]at this;simp only[a09,nZ,a02,a21]at this;have o:decide ((0:Int)≤s.1)=true:=by simpa using a1
 have p:decide (s.1<(c.length:Int))=true:=by simpa using d
 unfold a8y a3Z;simp only[o,p,a16,cT]
 by_cases hA:(b0K sign s.2.2.1 (c.getD s.1.toNat []) (c.getD s.2.1.toNat [])).all a0A=true
 rw[if_pos hA]at this⊢;refine⟨true,_,?_,rfl,rfl⟩
 erw[this]
 rfl;rw[if_neg hA]at this⊢;obtain⟨f,h⟩:=this;refine⟨false,f,?_,rfl⟩
 erw[h]
 rfl
theorem b4m{c c':List (List Int)}{n:Nat}(g:a3D c n){s:a0Y}(a:a2o (c.length:Int) s=true){sign:Int}(h:a3Z sign s c=some c'):a3D c' n∧c'.length=c.length:=by
 obtain⟨a1,d,e,j,l,m,o⟩:=a2p.1 a;have p:=a6M g (i:=s.1.toNat) (by omega);have b:=a6M g (i:=s.2.1.toNat) (by omega);unfold a3Z at h;simp only at h
 split at h
 rename_i k;cases h;refine⟨fun r f=>?_,by simp⟩;rcases List.mem_or_eq_of_mem_set f with f|rfl;exact g r f;exact⟨by rw[c9r _ _ (by omega)];exact b.1,k⟩;cases h
theorem c4T(g:Int):∀xs ys:List Int,xs.length=ys.length→b0K (-1) g xs (b0K 1 g xs ys)=ys
 | [],[],_=>rfl
 |x::xs,y::ys,h=>by
  have f:=c4T g xs ys (by simpa using h);show a7m (-1) g x (a7m 1 g x y)::b0K (-1) g xs (b0K 1 g xs ys)=_;rw[f];unfold a7m;congr 1;omega
 | [],_::_,h=>by simp at h
 |_::_,[],h=>by simp at h
theorem c8r{c c':List (List Int)}{n:Nat}(g:a3D c n){s:a0Y}(f:a2o (c.length:Int) s=true)(h:a3Z 1 s c=some c'):a3Z (-1) s c'=some c:=by
 obtain⟨a1,a,b,d,e,j,l⟩:=a2p.1 f;have m:=a6M g (i:=s.1.toNat) (by omega);have k:=a6M g (i:=s.2.1.toNat) (by omega);have hb:s.2.1.toNat<c.length:=by omega
 unfold a3Z at h;simp only at h
 split at h
 cases h;unfold a3Z;simp only;rw[a6a _ (show s.1.toNat≠s.2.1.toNat by omega),a7W _ hb,c4T _ _ _ (by omega),if_pos k.2,List.set_set];congr 1;apply a54;intro i
 by_cases hi:s.2.1.toNat=i
 subst hi;rw[a36 hb,lD,lG hb];rfl;rw[a41 hi];cases h
def doO:List a0Y→List (List Int)→Option (List (List Int))
 | [],c=>some c
 |s::l,c=>(a3Z 1 s c).bind (doO l)
def b1K:List a0Y→List (List Int)→Option (List (List Int))
 | [],c=>some c
 |s::l,c=>(b1K l c).bind (a3Z (-1) s)
theorem b4q{n:Nat}{N:Nat}:∀(l:List a0Y){c c':List (List Int)},a3D c n→c.length=N→l.all (a2o (N:Int))=true→doO l c=some c'→a3D c' n∧c'.length=N
 | [],c,c',hc,hl,_,h=>by cases h;exact⟨hc,hl⟩
 |s::l,c,c',hc,hl,hs,h=>by
  simp only[a19,bA]at hs;simp only[doO,a18]at h;obtain⟨d,g,f⟩:=h;obtain⟨k,a⟩:=b4m hc (by rw[hl];exact hs.1) g;exact b4q l k (by omega) hs.2 f
theorem c5W{n:Nat}{N:Nat}:∀(l:List a0Y){c c':List (List Int)},a3D c n→c.length=N→l.all (a2o (N:Int))=true→doO l c=some c'→b1K l c'=some c
 | [],c,c',_,_,_,h=>by cases h;rfl
 |s::l,c,c',hc,hl,hs,h=>by
  simp only[a19,bA]at hs;simp only[doO,a18]at h;obtain⟨d,g,f⟩:=h;obtain⟨k,a⟩:=b4m hc (by rw[hl];exact hs.1) g;simp only[b1K];rw[c5W l k (by omega) hs.2 f];exact c8r hc (by rw[hl];exact hs.1) g
def c0R:Option (List (List Int))→List (List Int)×Int
 |some r=>(r,0)
 |none=>([],6)
theorem c5X{n N:Nat}(j:n≤5000){l:List a0Y}(o:l.length≤16)(e:l.all (a2o (N:Int))=true):∀(k i:Nat)(c:List (List Int)),i+k=l.length→a3D c n→c.length=N→
  x0r a8z (l,(l.length:Int),(i:Int),c,())=some (match doO (l.drop i) c with|some r=>Sum.inl (r,())|none=>Sum.inr ([],6,()))
 |0,i,c,h,_,_=>by
  obtain rfl:i=l.length:=by omega
  rw[List.drop_length];exact a0F (by simp only[a8z,dge,cF];rfl)
 |k+1,i,c,h,hc,hcl=>by
  have g:i<l.length:=by omega
  rw[a55 g];have m:a2o (c.length:Int) l[i]=true:=by rw[hcl];exact lA.1 e _ (a03 g)
  obtain⟨b,a,d,f⟩:=c4S hc j m (sign:=1) (.inl rfl);simp only[doO];cases hst:a3Z 1 l[i] c with
  |none=>
   rw[hst]at f;simp only at f;subst f;exact a0F (by simp only[a8z,dlt g,cT,a0B g,oB,d,a08];rfl)
  |some r=>
   rw[hst]at f;obtain⟨rfl,rfl⟩:=f;obtain⟨p,q⟩:=b4m hc m hst;rw[a0G (s':=(l,(l.length:Int),((i+1:Nat):Int),a,())) (by
    simp only[a8z,dlt g,cT,a0B g,oB,d,bT,cF,a0C (show i<1000000 by omega)])]
   rw[c5X j o e k (i+1) a (by omega) p (by omega)];rfl
theorem c3T(c:List (List Int))(l:List a0Y):b2Z (c,l)=some (if a2L c∧a5m l (c.length:Int)then c0R (doO l c)else([],1)):=by
 unfold b2Z;simp only[c2I,oB]
 by_cases hq:a2L c
 have h:=c5V hq;simp only[hq,decide_true,bT,cF,b6d,oB,true_and]
 by_cases hm:a5m l (c.length:Int)
 simp only[hm,decide_true,bT,cF,if_true];rw[c3o h (by have:=hq.2.2.1;omega) (by have:=hq.2.1;omega)]
 have:=c5X (N:=c.length) (by have:=hq.2.2.1;omega:(c.headD []).length≤5000) hm.2.2.1 hm.2.2.2 l.length 0 c (by omega) h rfl
 simp only[nZ,a90,a21]at this;simp only[oB]
 erw[this]
 cases doO l c<;>rfl;simp only[hm,decide_false,a08,cT,if_false];simp only[hq,decide_false,a08,cT,oB,false_and,if_false]
theorem c2c(s:a0Y):∀(l:List a0Y)(c:List (List Int)),b1K (l++[s]) c=(a3Z (-1) s c).bind (b1K l)
 | [],c=>by
  show a3Z (-1) s c=_;cases a3Z (-1) s c<;>rfl
 |t::l,c=>by
  simp only[a59,b1K,c2c s l];cases a3Z (-1) s c<;>rfl
theorem c3p{n N:Nat}(j:n≤5000){l:List a0Y}(i:l.all (a2o (N:Int))=true)(z:List (List Int))(e:Int):∀(k:Nat)(c:List (List Int)),k≤l.length→a3D c n→c.length=N→
  match b1K (l.take k) c with
  |some r=>k0w a3r l k (l,z,e,c,())=some (.inl (l,z,e,r,()))
  |none=>∃d,k0w a3r l k (l,z,e,c,())=some (.inr (.ret,l,[],6,d,()))
 |0,c,_,_,_=>rfl
 |k+1,c,hk,hc,hcl=>by
  have g:k<l.length:=by omega
  have m:a2o (c.length:Int) l[k]=true:=by rw[hcl];exact lA.1 i _ (a03 g)
  obtain⟨b,f,a,h⟩:=c4S hc j m (sign:=-1) (.inr rfl);rw[List.take_succ_eq_append_getElem g,c2c];cases hst:a3Z (-1) l[k] c with
  |none=>
   rw[hst]at h;simp only at h;subst h;refine⟨f,?_⟩;simp only[k0w,lG g,a3r,a,oB,a08,cT]
  |some r=>
   rw[hst]at h;obtain⟨rfl,rfl⟩:=h;obtain⟨p,q⟩:=b4m hc m hst;have o:=c3p j i z e k f (by omega) p (by omega);have hb:k0w a3r l (k+1) (l,z,e,c,())=k0w a3r l k (l,z,e,f,()):=by
    simp only[k0w,lG g,a3r,a,oB,bT,cF]
   rw[hb];exact o
theorem d1r(c:List (List Int))(l:List a0Y):b2D (c,l)=some (if a2L c∧a5m l (c.length:Int)then c0R (b1K l c)else([],1)):=by
 unfold b2D;simp only[c2I,oB]
 by_cases hq:a2L c
 ·have h:=c5V hq;simp only[hq,decide_true,bT,cF,b6d,oB,true_and]
  by_cases hm:a5m l (c.length:Int)
  ·simp only[hm,decide_true,bT,cF,if_true];rw[c3o h (by have:=hq.2.2.1;omega) (by have:=hq.2.1;omega)]
   have:=c3p (N:=c.length) (by have:=hq.2.2.1;omega:(c.headD []).length≤5000) hm.2.2.2 [] 0 l.length c (a37 _) h rfl
   rw[a58]at this;simp only[oB,a1b (show l.length<2147483648 by have:=hm.2.2.1;omega),cT];cases hu:b1K l c with
   |some r=>
    rw[hu]at this;simp only at this
    erw[this]
    rfl
   |none=>
    rw[hu]at this;obtain⟨d,g⟩:=this
    erw[g]
    rfl
  simp only[hm,decide_false,a08,cT,if_false]
 simp only[hq,decide_false,a08,cT,oB,false_and,if_false]
def a1L(b:a1K):Nat:=(b.2.1.headD []).length
theorem a8M(b:a1K):a5W b=some ((a1L b:Nat):Int):=by
 unfold a5W a1L;obtain⟨d,c,u⟩:=b;cases c with
 |nil=>rfl
 |cons r c=>
  have:((((r::c).length:Nat):Int)==0)=false:=by simp;omega
  simp only[this,cF];rfl
def a3d(b:a1K):Prop:=4≤b.1∧b.1≤24∧1≤b.2.1.length∧b.2.1.length≤8∧1≤a1L b∧a1L b≤4096∧b.2.1.all (fun r=>decide (r.length=a1L b)&&r.all fun x=>a1C x b.1)=true
instance (b:a1K):Decidable (a3d b):=by unfold a3d;infer_instance
theorem c4U{x w:Int}(h:4≤w∧w≤24):a4a (x,w)=some (a1C x w):=by
 have:=a6G (x:=x) (w:=w.toNat) (by omega)
 rwa [a05 (by omega)]at this
theorem b5e(b:a1K):a7L b=some (decide (a3d b)):=by
 unfold a7L a7n
 by_cases h1:4≤b.1
 rotate_left;rw[decide_eq_false (show ¬ a3d b from fun h=>h1 h.1),decide_eq_false h1];rfl
 by_cases h2:b.1≤24
 rotate_left;rw[decide_eq_false (show ¬ a3d b from fun h=>h2 h.2.1),decide_eq_true h1,decide_eq_false h2];rfl
 by_cases h3:((b.2.1.length:Nat):Int)<1
 rw[decide_eq_false (show ¬ a3d b from fun h=>by have:=h.2.2.1;omega),decide_eq_true h1,decide_eq_true h2,decide_eq_true h3];rfl
 by_cases h4:((b.2.1.length:Nat):Int) > 8
 rw[decide_eq_false (show ¬ a3d b from fun h=>by have:=h.2.2.2.1;omega),decide_eq_true h1,decide_eq_true h2,decide_eq_false h3,decide_eq_true h4];rfl;have c:decide (((b.2.1.length:Nat):Int)<1)=false:=by simpa using h3
 have d:decide (((b.2.1.length:Nat):Int) > 8)=false:=by simpa using h4
 simp only[decide_eq_true h1,decide_eq_true h2,c,d,cT,cF,oB,bT,a8M]
 by_cases h5:((a1L b:Nat):Int)<1
 rw[decide_eq_false (show ¬ a3d b from fun h=>by have:=h.2.2.2.2.1;omega),decide_eq_true h5];rfl
 by_cases h6:((a1L b:Nat):Int) > 4096
 rw[decide_eq_false (show ¬ a3d b from fun h=>by have:=h.2.2.2.2.2.1;omega),decide_eq_false h5,decide_eq_true h6];rfl;have l:decide (((a1L b:Nat):Int)<1)=false:=by simpa using h5
 have m:decide (((a1L b:Nat):Int) > 4096)=false:=by simpa using h6
 simp only[l,m,cF,oB];have g:∀(i:Nat)(r:List Int),short r→x0r a4y (b.2.1,(b.2.1.length:Int),(i:Int),r,(r.length:Int),(0:Int),b,())=some (bif r.all (fun x=>a1C x b.1)then Sum.inl (b.2.1,(b.2.1.length:Int),(i:Int),b,())else Sum.inr (false,())):=fun i r n=>by
  have:=a1j (f:=a4y) r (fun j=>(b.2.1,(b.2.1.length:Int),(i:Int),r,(r.length:Int),(j:Int),b,())) (fun x=>a1C x b.1) (bt:=Sum.inl (b.2.1,(b.2.1.length:Int),(i:Int),b,())) (bf:=Sum.inr (false,()))
   (fun j h hp=>by simp only[a4y,dlt h,cT,a0B h,oB,c4U ⟨h1,h2⟩,hp,bT,cF,a0C (a61 h n)])
   (fun j h hp=>by simp only[a4y,dlt h,cT,a0B h,oB,c4U ⟨h1,h2⟩,hp,a08])
   (by simp only[a4y,dge,cF])
  exact this
 have k:=a1j (f:=a4z) b.2.1 (fun i=>(b.2.1,(b.2.1.length:Int),(i:Int),b,())) (fun r=>decide (r.length=a1L b)&&r.all fun x=>a1C x b.1) (bt:=Sum.inl ()) (bf:=Sum.inr (false,()))
  (fun i h hp=>by
   simp only[bA,dT]at hp;have e:((((b.2.1[i]).length:Nat):Int) != ((a1L b:Nat):Int))=false:=by rw[hp.1];exact bne_self_eq_false _
   have a:=g i b.2.1[i] (by unfold short;omega);rw[hp.2,cT]at a;simp only[a4z,dlt h,cT,a0B h,oB,a8M,e,cF,a,a0C (show i<1000000 by omega)])
  (fun i h hp=>by
   by_cases hl:(b.2.1[i]).length=a1L b
   have e:((((b.2.1[i]).length:Nat):Int) != ((a1L b:Nat):Int))=false:=by rw[hl];exact bne_self_eq_false _
   have a:=g i b.2.1[i] (by unfold short;omega);rw[decide_eq_true hl,a39]at hp;rw[hp,cF]at a;simp only[a4z,dlt h,cT,a0B h,oB,a8M,e,cF,a];have e:((((b.2.1[i]).length:Nat):Int) != ((a1L b:Nat):Int))=true:=by simp only[bne_iff_ne,ne_eq,a85];exact hl
   simp only[a4z,dlt h,cT,a0B h,oB,a8M,e])
  (by simp only[a4z,dge,cF])
 simp only[nZ]at k;rw[k]
 by_cases hA:b.2.1.all (fun r=>decide (r.length=a1L b)&&r.all fun x=>a1C x b.1)=true
 rw[hA,decide_eq_true (show a3d b from⟨h1,h2,by omega,by omega,by omega,by omega,hA⟩)];rfl;rw[a53.2 hA,decide_eq_false (show ¬ a3d b from fun h=>hA h.2.2.2.2.2.2)];rfl
def a8e{α β:Type}(g:α→Option β):List α→Option (List β)
 | []=>some []
 |a::l=>(g a).bind fun b=>(a8e g l).bind fun r=>some (b::r)
theorem c0S{α β:Type}{g:α→Option β}:∀{l:List α}{r:List β},a8e g l=some r→r.length=l.length
 | [],r,h=>by cases h;rfl
 |a::l,r,h=>by
  simp only[a8e,a18]at h;obtain⟨b,-,c,f,k⟩:=h;cases k;simp[c0S f]
theorem c3q{α β:Type}{g:α→Option β}:∀{l:List α}{r:List β},a8e g l=some r→∀a∈l,(g a).isSome=true
 | [],r,h,a,ha=>by cases ha
 |a::l,r,h,x,hx=>by
  simp only[a8e,a18]at h;obtain⟨b,f,d,k,c⟩:=h;rcases mC.1 hx with rfl|hx;rw[f];rfl;exact c3q k x hx
def b1L(f:a1o):Option a1K:=
 if frP f∧((f.2.2.2.2.1.length:Nat):Int)=f.2.2.1.2.1 then
  (a8e (fun s=>a1A s f.2.1) f.2.2.2.2.1).bind fun rs=>
   if a2L rs∧a5m f.2.2.2.1 (rs.length:Int)then
    (b1K f.2.2.2.1 rs).bind fun ch=>if a3d (f.2.2.1.2.2.1,ch,())then some (f.2.2.1.2.2.1,ch,())else none
   else none
 else none
def b6M:a1K:=(0,[],())
def d8A:Option a1K→a1K×Int
 |some b=>(b,0)
 |none=>(b6M,1)
theorem b9V(f:a1o)(all:List Sub)(i:all.length≤8):∀(rest done:List Sub)(rows:List (List Int)),done++rest=all→rows.length=done.length→(∀s∈rest,SmallS s)→
  x0r a4Q (all,(all.length:Int),(done.length:Int),rows,b6M,f,())=some (match a8e (fun s=>a1A s f.2.1) rest with|some rs=>Sum.inl (rows++rs,b6M,f,())|none=>Sum.inr (1,b6M,()))
 | [],done,rows,hd,hr,_=>by
  have e:done=all:=by simpa using hd
  subst e;rw[a0F (b:=Sum.inl (rows,b6M,f,())) (by simp only[a4Q,dge,cF])];simp[a8e]
 |s::rest,done,rows,hd,hr,h=>by
  have j:=h s (by simp);have k:done.length<all.length:=by rw[←hd];simp
  have a:l0z all (done.length:Int)=some s:=by rw[a0B k];subst hd;simp
  have g:=c1u j f.2.1;simp only[a8e];cases ho:a1A s f.2.1 with
  |none=>
   rw[ho]at g;have d:((1:Int) != 0)=true:=rfl;exact a0F (by simp only[a4Q,dlt k,cT,a,oB,g,d];rfl)
  |some r=>
   rw[ho]at g;have c:((0:Int) != 0)=false:=rfl;rw[a0G (s':=(all,(all.length:Int),(((done++[s]).length:Nat):Int),rows++[r],b6M,f,())) (by
    simp only[a4Q,dlt k,cT,a,oB,g,c,cF,a1b (show rows.length+1<2147483648 by omega),a0C (show done.length<1000000 by omega)]
    simp)]
   rw[b9V f all i rest (done++[s]) (rows++[r]) (by simpa using hd) (by simp[hr]) (fun t l=>h t (by simp[l]))];simp only[oB];cases a8e (fun s=>a1A s f.2.1) rest<;>simp
theorem c9t{f:a1o}(b:∀s∈f.2.2.2.2.1,SmallS s):a7C f=some (d8A (b1L f)):=by
 unfold a7C b1L;simp only[b6K,oB]
 by_cases hf:frP f
 rotate_left;simp only[hf,decide_false,a08,cT,oB,false_and,if_false];rfl
 by_cases hl:((f.2.2.2.2.1.length:Nat):Int)=f.2.2.1.2.1
 rotate_left;have e:(((f.2.2.2.2.1.length:Nat):Int) != f.2.2.1.2.1)=true:=by simpa using hl
 simp only[hf,decide_true,bT,cF,oB,e,cT,hl,and_false,if_false];rfl;have e:(((f.2.2.2.2.1.length:Nat):Int) != f.2.2.1.2.1)=false:=by simpa using hl
 have a:f.2.2.2.2.1.length≤8:=by have:=hf.1.2.2.2.1;omega
 have k:decide ((0:Int)≤((f.2.2.2.2.1.length:Nat):Int))=true:=by simp
 have h:=b9V f f.2.2.2.2.1 a f.2.2.2.2.1 [] [] rfl rfl b;rw[a09]at h;rw[if_pos ⟨hf,hl⟩];simp only[hf,decide_true,bT,cF,oB,e,k,tN,a1b (show f.2.2.2.2.1.length<2147483648 by omega),a16,cT]
 erw[h]
 cases hm:a8e (fun s=>a1A s f.2.1) f.2.2.2.2.1 with
 |none=>rfl
 |some rs=>
  simp only[oB,a02,d1r]
  by_cases hq:a2L rs∧a5m f.2.2.2.1 (rs.length:Int)
  ·simp only[if_pos hq];cases hu:b1K f.2.2.2.1 rs with
   |none=>rfl
   |some ch=>
    have g:((0:Int) != 0)=false:=rfl;simp only[c0R,g,cF,b5e,oB]
    by_cases hb:a3d (f.2.2.1.2.2.1,ch,())
    simp only[hb,decide_true,bT,cF,if_true];rfl;simp only[hb,decide_false,a08,cT,if_false];rfl
  simp only[if_neg hq];rfl
theorem d2l{f:a1o}(h:∀s∈f.2.2.2.2.1,SmallS s):a4u f=some (b1L f).isSome:=by
 unfold a4u;rw[c9t h];cases b1L f<;>rfl
theorem c4V{f:a1o}{b:a1K}(h:b1L f=some b):frP f∧((f.2.2.2.2.1.length:Nat):Int)=f.2.2.1.2.1∧∀s∈f.2.2.2.2.1,(a1A s f.2.1).isSome=true:=by
 unfold b1L at h
 split at h
 rename_i g;simp only[a18]at h;obtain⟨a,k,-⟩:=h;exact⟨g.1,g.2,c3q k⟩;cases h
set_option maxRecDepth 100000 in
theorem d1s:b5U ()=some true:=by kernel_rfl
def d2m(b:a1K)(m:Nat):Prop:=b.2.1.length≤12∧∀r∈b.2.1,r.length≤m
theorem c8s(b:a1K)(m:Nat):∃t,b4b (b,(m:Int))=some t∧(t=true→d2m b m):=by
 unfold b4b
 by_cases h1:((b.2.1.length:Nat):Int) > 12
 simp_all;have g:decide (((b.2.1.length:Nat):Int) > 12)=false:=decide_eq_false h1
 have:=a1j (f:=a7F) (β:=Unit ⊕ (Bool×Unit)) b.2.1 (fun i=>((m:Int),(i:Int),b,())) (fun r=>decide (r.length≤m)) (bt:=Sum.inl ()) (bf:=Sum.inr (false,()))
  (fun i h hp=>by
   have e:decide (((b.2.1[i].length:Nat):Int) > (m:Int))=false:=by simp_all
   simp only[a7F,dlt h,cT,a0B h,oB,e,cF,a0C (show i<1000000 by omega)])
  (fun i h hp=>by
   have e:decide (((b.2.1[i].length:Nat):Int) > (m:Int))=true:=by simp_all
   simp_all[a7F,a0B]) (by simp_all[a7F])
 simp at this;simp only[g,cF];rw[this];cases hA:b.2.1.all (fun r=>decide (r.length≤m))with
 |true=>exact⟨true,rfl,fun _=>⟨by omega,fun r k=>by simp_all⟩⟩
 |false=>simp
theorem c9u{c:List (List Int)}:b2L c=some (decide (1≤c.length∧c.length≤8∧c.all (fun r=>decide (r.length=(c.headD []).length))=true)):=by
 unfold b2L
 by_cases h1:((c.length:Nat):Int)<1
 grind
 by_cases h2:((c.length:Nat):Int) > 8
 grind
 have g:0<c.length:=by omega
 have k:l0z c 0=some (c.headD []):=by rw[show(0:Int)=((0:Nat):Int)from rfl,a0B g,b3m (d:=[]) g]
 have:=a1j (f:=a6A) (β:=Unit ⊕ (Bool×Unit)) c (fun i=>(c,(i:Int),())) (fun r=>decide (r.length=(c.headD []).length)) (bt:=Sum.inl ()) (bf:=Sum.inr (false,()))
  (fun i h hp=>by
   simp only[dT]at hp;have e:((((c[i]).length:Nat):Int) != (((c.headD []).length:Nat):Int))=false:=by simp_all
   simp only[a6A,dlt h,cT,a0B h,oB,k,e,cF,a0C (show i<1000000 by omega)])
  (fun i h hp=>by
   simp only[decide_eq_false_iff_not]at hp;have e:((((c[i]).length:Nat):Int) != (((c.headD []).length:Nat):Int))=true:=by grind
   simp only[a6A,dlt h,cT,a0B h,oB,k,e]) (by simp_all[a6A])
 grind
theorem b8V{x w:Int}(h:4≤w∧w≤24):b0O (x,w)=some (a1C x w):=by
 have:=b5X (x:=x) (w:=w.toNat) (by omega)
 grind
theorem c2d(b:a1K):a6B b=some (decide (a3d b)):=by
 unfold a6B
 by_cases h1:b.1<4
 rw[decide_eq_true h1,decide_eq_false (fun h:a3d b=>by have:=h.1;omega)];rfl
 by_cases h2:b.1 > 24
 rw[decide_eq_false h1,decide_eq_true h2,decide_eq_false (fun h:a3d b=>by have:=h.2.1;omega)];rfl;simp only[decide_eq_false h1,decide_eq_false h2,cF,c9u,oB]
 by_cases h3:1≤b.2.1.length∧b.2.1.length≤8∧b.2.1.all (fun r=>decide (r.length=(b.2.1.headD []).length))=true
 rotate_left;rw[decide_eq_false h3,decide_eq_false (fun h:a3d b=>h3 ⟨h.2.2.1,h.2.2.2.1,lA.2 fun r c=>by
  have:=lA.1 h.2.2.2.2.2.2 r c
  simp only[bA]at this;exact this.1⟩)];rfl
 have e:0<b.2.1.length:=by omega
 have l:l0z b.2.1 0=some (b.2.1.headD []):=by rw[show(0:Int)=((0:Nat):Int)from rfl,a0B e,b3m (d:=[]) e]
 simp only[decide_eq_true h3,bT,cF,l,oB]
 by_cases h4:(((b.2.1.headD []).length:Nat):Int)<1
 rw[decide_eq_true h4,decide_eq_false (fun h:a3d b=>by have:=h.2.2.2.2.1;grind[a1L])];rfl
 by_cases h5:(((b.2.1.headD []).length:Nat):Int) > 4096
 rw[decide_eq_false h4,decide_eq_true h5,decide_eq_false (fun h:a3d b=>by have:=h.2.2.2.2.2.1;grind[a1L])];rfl;simp only[decide_eq_false h4,decide_eq_false h5,cF,oB];have hb:4≤b.1∧b.1≤24:=by omega
 have g:∀(i:Nat)(a:i<b.2.1.length),x0r a2X ((i:Int),(0:Int),b,())=some (bif (b.2.1[i]).all (fun x=>a1C x b.1)then Sum.inl ((i:Int),b,())else Sum.inr (false,())):=fun i a=>by
  have o:(b.2.1[i]).length=(b.2.1.headD []).length:=by simp_all
  have:=a1j (f:=a2X) (β:=(Int×a1K×Unit) ⊕ (Bool×Unit)) b.2.1[i] (fun j=>((i:Int),(j:Int),b,())) (fun x=>a1C x b.1) (bt:=Sum.inl ((i:Int),b,())) (bf:=Sum.inr (false,()))
   (fun j h hp=>by simp only[a2X,a0B a,oB,dlt h,cT,a0B h,b8V hb,hp,bT,cF,a0C (show j<1000000 by omega)])
   (fun j h hp=>by simp only[a2X,a0B a,oB,dlt h,cT,a0B h,b8V hb,hp,a08])
   (by simp_all[a2X,a0B])
  omega
 have k:=a1j (f:=a4m) (β:=Unit ⊕ (Bool×Unit)) b.2.1 (fun i=>((i:Int),b,())) (fun r=>r.all fun x=>a1C x b.1) (bt:=Sum.inl ()) (bf:=Sum.inr (false,()))
  (fun i h hp=>by
   have a:=g i h;rw[hp,cT]at a;simp only[a4m,dlt h,cT]
   grind[a0C])
  (fun i h hp=>by
   have a:=g i h;rw[hp,cF]at a;simp_all[a4m])
  (by simp_all[a4m])
 simp at k;rw[k]
 by_cases hA:b.2.1.all (fun r=>r.all fun x=>a1C x b.1)=true
 rw[hA,decide_eq_true (p:=a3d b) (⟨hb.1,hb.2,h3.1,h3.2.1,by unfold a1L;omega,by unfold a1L;omega,lA.2 fun r c=>by
  have m:=lA.1 h3.2.2 r c;have n:=lA.1 hA r c;simp_all[a1L]⟩:a3d b)]
 rfl;rw[a53.2 hA,decide_eq_false (p:=a3d b) (fun h=>hA (lA.2 fun r c=>by
  have:=lA.1 h.2.2.2.2.2.2 r c
  simp_all))]
 rfl
theorem c5C{b:a1K}(h:∀r∈b.2.1,r.length≤100):∃t,a6B b=some t∧(t=true→a3d b):=⟨_,c2d b,of_decide_eq_true⟩
theorem d1t{x w:Int}(b:4≤w∧w≤24)(h:a1C x w=true):-16777216≤x∧x≤16777216:=by
 unfold a1C at h;simp at h;obtain⟨-,-,f,g⟩:=h;obtain⟨o,k⟩:∃o:Nat,w-1=(o:Int):=⟨(w-1).toNat,by omega⟩;rw[k]at f g;rw[c4s (by omega)]at g;have hp:2^o≤2^24:=a24 (by omega) (by omega);have a:z0g .i64 (-1) (o:Int)=wrap .i64 (-((2^o:Nat):Int)):=by
  unfold z0g;show wrap .i64 (-1*2^(min (o:Int).toNat 64))=_
  grind
 grind[a0D]
theorem c8t{x w:Int}(g:4≤w∧w≤24)(h:a1C x w=true):a0A x=true:=a1H.2 (by have:=d1t g h;omega)
theorem b7A{b:a1K}(h:a3d b):a3D b.2.1 (a1L b)∧a2L b.2.1:=by
 obtain⟨k,a,c,d,e,i,g⟩:=h;have j:a3D b.2.1 (a1L b):=fun r f=>by
  have:=lA.1 g r f
  simp only[bA,dT]at this
  grind[c8t]
 grind[c0Q]
theorem c7w{b:a1K}(hb:a3d b){l:List a0Y}(c:a5m l (b.2.1.length:Int)){rows:List (List Int)}(n:doO l b.2.1=some rows){ss:List Sub}(q:a8e (fun s=>a1A s ((a1L b:Nat):Int)) ss=some rows)
  {start rate:Int}(h:0≤start∧start≤4194304-((a1L b:Nat):Int))(p:1≤rate∧rate≤1048576):
  b1L (start,((a1L b:Nat):Int),(rate,((b.2.1.length:Nat):Int),b.1,()),l,ss,())=some b:=by
 obtain⟨m,y⟩:=b7A hb;obtain⟨x,z⟩:=b4q l m rfl c.2.2.2 n;have o:=c0S q;obtain⟨e,i,r,t,u,j,v⟩:=hb;have a:frP (start,((a1L b:Nat):Int),(rate,((b.2.1.length:Nat):Int),b.1,()),l,ss,()):=⟨⟨p.1,p.2,by grind,by grind,e,i⟩,by grind,by grind,h.1,h.2,c⟩;have k:((ss.length:Nat):Int)=((b.2.1.length:Nat):Int):=by omega
 have g:a2L rows:=c0Q x (by omega) (by omega) j;have d:a5m l ((rows.length:Nat):Int):=by simp_all
 have w:=c5W l m rfl c.2.2.2 n;have f:((b.1,b.2.1,()):a1K)=b:=rfl;unfold b1L;rw[if_pos ⟨a,k⟩];simp only[q,oB];rw[if_pos ⟨g,d⟩,w];simp only[oB,f];rw[if_pos ⟨e,i,r,t,u,j,v⟩]
def b8W:a1o:=(0,0,(0,0,0,()),[],[],())
theorem d2n(k:Nat)(a:k≤62)(y:Int):∃v:Nat,bits .i64 .and y ((2^k-1:Nat):Int)=(v:Int)∧v<2^k:=by
 have hp:2^k≤2^62:=a24 (by omega) a;have f:0<2^k:=Nat.pow_pos (by omega);have h:((a01 64 y) &&& (a01 64 ((2^k-1:Nat):Int))).toNat=(a01 64 y).toNat%2^k:=by
  rw[a56];have e:(a01 64 ((2^k-1:Nat):Int)).toNat=2^k-1:=by
   rw[a07];generalize 2^k=p at *;omega
  rw[e,a28]
 have g:=a89 (a01 64 y).toNat f;refine⟨(a01 64 y).toNat%2^k,?_,g⟩;show wrap .i64 ((((a01 64 y) &&& (a01 64 ((2^k-1:Nat):Int))).toNat:Nat):Int)=_;rw[h];generalize (a01 64 y).toNat%2^k=z at *;exact a0D (by omega)
theorem c2e(c:List (List Int))(n i:Int){r:List Int}(a:short r):∀(k j:Nat)(s:Int),2≤j→j+k=r.length∨(k=0∧r.length≤j)→∃s',x0r a6O (s,r,(j:Int),c,n,i,())=some (s',c,n,i,())
 |0,j,s,h2,h=>⟨s,a0F (by
   have d:decide ((j:Int)<(r.length:Int))=false:=by simp;omega
   simp only[a6O,d,cF])⟩
 |k+1,j,s,h2,h=>by
  have f:j<r.length:=by omega
  unfold short at a;have b:wrap .i64 ((j:Int)-1)=((j-1:Nat):Int):=by rw[a0D (by omega)];omega
  have e:wrap .i64 ((j:Int)-2)=((j-2:Nat):Int):=by rw[a0D (by omega)];omega
  have m:=a0B (l:=r) (i:=j-1) (by omega);have o:=a0B (l:=r) (i:=j-2) (by omega);obtain⟨s',g⟩:=c2e c n i a k (j+1) (wrap .i64 (s+u0z (wrap .i64 (wrap .i64 (r[j]-wrap .i64 (2*r[j-1]))+r[j-2])) (wrap .i64 (0-wrap .i64 (wrap .i64 (r[j]-wrap .i64 (2*r[j-1]))+r[j-2]))))) (by omega) (by omega);refine⟨s',?_⟩;rw[←g];exact a0G (by simp only[a6O,dlt f,cT,a0B f,oB,b,e,m,o,a0C (show j<1000000 by omega)])
theorem c3s{c:List (List Int)}{n:Nat}(h:a3D c n)(o:n≤4096)(m:c.length<1000):∃w,a7r c=some w:=by
 unfold a7r;simp only[c2I,oB]
 by_cases hq:a2L c
 rotate_left;exact⟨0,by simp only[hq,decide_false,a08,cT]⟩;simp only[hq,decide_true,bT,cF];have a:∀(k i:Nat)(s:Int),i+k=c.length→∃s',x0r a6P (s,c,(c.length:Int),(i:Int),())=some (s',()):=by
  intro k
  induction k with
  |zero=>
   intro i s e;obtain rfl:i=c.length:=by omega
   exact⟨s,a0F (by simp only[a6P,dge,cF])⟩
  |succ k ih=>
   intro i s e;have g:i<c.length:=by omega
   have p:=(h _ (a03 g)).1;obtain⟨j,b⟩:=c2e c (c.length:Int) (i:Int) (r:=c[i]) (by unfold short;omega) (c[i].length-2) 2 s (a37 _) (by omega);obtain⟨l,d⟩:=ih (i+1) j (by omega);refine⟨l,?_⟩;rw[←d];rw[show((2:Nat):Int)=2 from rfl]at b;exact a0G (by simp only[a6P,dlt g,cT,a0B g,oB,b,a0C (show i<1000000 by omega)])
 obtain⟨s',f⟩:=a c.length 0 0 (by omega);rw[show((0:Nat):Int)=0 from rfl]at f;rw[f];exact⟨s',rfl⟩
def a5b(m:Nat):List a0Y:=match m with
 | 1=>[(0,1,-256,())]
 | 2=>[(1,0,-256,())]
 | 3=>[(1,0,-256,()),(0,1,128,())]
 | 4=>[(1,0,-106,()),(0,1,181,()),(1,0,-106,())]
 |_=>[]
theorem c0T{m:Nat}(h:m≤4):b0V (m:Int)=some (a5b m):=by
 match m,h with
 |0,_=>rfl
 | 1,_=>rfl
 | 2,_=>rfl
 | 3,_=>rfl
 | 4,_=>rfl
theorem c3t{m:Nat}(h:m≤4):a5m (a5b m) 2:=by
 match m,h with
 |0,_=>decide
 | 1,_=>decide
 | 2,_=>decide
 | 3,_=>decide
 | 4,_=>decide
theorem b5K{p:List (List Int)}{n:Nat}(hp:a3D p n)(a:p.length=2)(f:a2L p)(b:n≤4096):∀(k m best:Nat)(least:Int),m+k=5→best≤4→(doO (a5b best) p).isSome=true→
  ∃best',x0r a6r (p,(best:Int),least,(m:Int),())=some (((best':Nat):Int),())∧best'≤4∧(doO (a5b best') p).isSome=true
 |0,m,best,least,hm,hb,hd=>by
  obtain rfl:m=5:=by omega
  exact⟨best,a0F rfl,hb,hd⟩
 |k+1,m,best,least,hm,hb,hd=>by
  have d:decide ((m:Int)<5)=true:=by simp;omega
  have e:wrap .i64 ((m:Int)+1)=((m+1:Nat):Int):=a0C (by omega);have g:a5m (a5b m) (p.length:Int):=by rw[a];exact c3t (by omega)
  cases hdo:doO (a5b m) p with
  |none=>
   have j:((6:Int) != 0)=true:=rfl;rw[a0G (s':=(p,(best:Int),least,((m+1:Nat):Int),())) (by
    simp only[a6r,d,cT,c0T (show m≤4 by omega),oB,c3T,if_pos (show a2L p∧a5m (a5b m) (p.length:Int)from⟨f,g⟩),hdo,c0R,j,e])]
   exact b5K hp a f b k (m+1) best least (by omega) hb hd
  |some r=>
   have i:((0:Int) != 0)=false:=rfl;obtain⟨l,o⟩:=b4q (a5b m) hp rfl g.2.2.2 hdo
   obtain⟨w,c⟩:=c3s l b (by omega);have h:a6r (p,(best:Int),least,(m:Int),())=bif decide (w<least)then some (.inl (p,(m:Int),w,((m+1:Nat):Int),()))else some (.inl (p,(best:Int),least,((m+1:Nat):Int),())):=by
    simp only[a6r,d,cT,c0T (show m≤4 by omega),oB,c3T,if_pos (show a2L p∧a5m (a5b m) (p.length:Int)from⟨f,g⟩),hdo,c0R,i,cF,c,e]
   cases hlt:decide (w<least)with
   |true=>
    rw[hlt]at h;rw[a0G h];exact b5K hp a f b k (m+1) m w (by omega) (by omega) (by rw[hdo];rfl)
   |false=>
    rw[hlt]at h;rw[a0G h];exact b5K hp a f b k (m+1) best least (by omega) hb hd
theorem d1u{p:List (List Int)}{n:Nat}(hp:a3D p n)(k:p.length=2)(g:n≤4096):∃m,m≤4∧b2r p=some (a5b m)∧(doO (a5b m) p).isSome=true:=by
 have b:=c0Q hp (by omega) (by omega) g;obtain⟨w,c⟩:=c3s hp g (by omega);obtain⟨m,f,h,a⟩:=b5K hp k b g 4 1 0 w rfl (by omega) rfl;refine⟨m,h,?_,a⟩;unfold b2r;simp only[c,oB]
 erw[f]
 simp only[oB,c0T h]
def b1M(i:Nat)(s:a0Y):a0Y:=(s.1+(i:Int),s.2.1+(i:Int),s.2.2.1,())
theorem c9v{i N:Nat}(h:i+2≤N){s:a0Y}(k:a2o 2 s=true):a2o (N:Int) (b1M i s)=true:=by
 obtain⟨a1,a,b,c,d,g,f⟩:=a2p.1 k;exact a2p.2 ⟨by show 0≤s.1+(i:Int);omega,by show s.1+(i:Int)<(N:Int);omega,by show 0≤s.2.1+(i:Int);omega,by show s.2.1+(i:Int)<(N:Int);omega,by show s.1+(i:Int)≠s.2.1+(i:Int);omega,g,f⟩
def c3U(i:Nat)(c c' p:List (List Int)):Prop:=c'.length=c.length∧p.length=2∧c'.getD i []=p.getD 0 []∧c'.getD (i+1) []=p.getD 1 []∧∀j,j≠i→j≠i+1→c'.getD j []=c.getD j []
theorem c7x{i:Nat}{c0 c p p':List (List Int)}(E:i+2≤c0.length)(h:c3U i c0 c p){s:a0Y}(z:a2o 2 s=true)(g:a3Z 1 s p=some p'):∃c',a3Z 1 (b1M i s) c=some c'∧c3U i c0 c' p':=by
 obtain⟨q,t,a,b,u⟩:=h;obtain⟨a1,d,l,m,B,C,D⟩:=a2p.1 z;unfold a3Z at g⊢;simp only at g⊢;have f:∀x:Int,0≤x→x<2→c.getD (x+(i:Int)).toNat []=p.getD x.toNat []:=fun x F A=>by
  have:x=0∨x=1:=by omega
  rcases this with rfl|rfl;rw[show((0:Int)+(i:Int)).toNat=i from by omega];exact a;rw[show((1:Int)+(i:Int)).toNat=i+1 from by omega];exact b
 have n:=f s.1 a1 d;have o:=f s.2.1 l m;simp only[b1M];have y:b0K 1 s.2.2.1 (c.getD (s.1+(i:Int)).toNat []) (c.getD (s.2.1+(i:Int)).toNat [])=b0K 1 s.2.2.1 (p.getD s.1.toNat []) (p.getD s.2.1.toNat []):=by rw[n,o]
 simp only[y]
 split at g
 rename_i v;cases g;rw[if_pos v];generalize b0K 1 s.2.2.1 (p.getD s.1.toNat []) (p.getD s.2.1.toNat [])=r at *;refine⟨_,rfl,by simp[q],by simp[t],?_,?_,fun j w k=>?_⟩
 have:s.2.1=0∨s.2.1=1:=by omega
 rcases this with e|e;rw[e,show((0:Int)+(i:Int)).toNat=i from by omega,a7W _ (by omega),show(0:Int).toNat=0 from rfl,a7W _ (by omega)];rw[e,show((1:Int)+(i:Int)).toNat=i+1 from by omega,a6a _ (by omega),show(1:Int).toNat=1 from rfl,a6a _ (by omega)];exact a
 have:s.2.1=0∨s.2.1=1:=by omega
 rcases this with e|e;rw[e,show((0:Int)+(i:Int)).toNat=i from by omega,a6a _ (by omega),show(0:Int).toNat=0 from rfl,a6a _ (by omega)];exact b;rw[e,show((1:Int)+(i:Int)).toNat=i+1 from by omega,a7W _ (by omega),show(1:Int).toNat=1 from rfl,a7W _ (by omega)];rw[a6a _ (by omega)];exact u j w k;cases g
theorem c4W{i:Nat}{c0:List (List Int)}(f:i+2≤c0.length):∀(l:List a0Y){c p p':List (List Int)},l.all (a2o 2)=true→c3U i c0 c p→doO l p=some p'→∃g,doO (l.map (b1M i)) c=some g∧c3U i c0 g p'
 | [],c,p,p',_,h,hd=>by cases hd;exact⟨c,rfl,h⟩
 |s::l,c,p,p',hl,h,hd=>by
  simp only[a19,bA]at hl;simp only[doO,a18]at hd;obtain⟨q,k,a⟩:=hd;obtain⟨d,b,e⟩:=c7x f h hl.1 k;obtain⟨g,j1,j2⟩:=c4W f l hl.2 e a;exact⟨g,by simp only[a40,doO,b,oB];exact j1,j2⟩
theorem c5Y:∀(l m:List a0Y)(c:List (List Int)),doO (l++m) c=(doO l c).bind (doO m)
 | [],m,c=>rfl
 |s::l,m,c=>by
  simp only[a59,doO];cases a3Z 1 s c with
  |none=>rfl
  |some d=>exact c5Y l m d
theorem c8u{α β:Type}(f:α→β):∀l:List α,l.flatMap (fun x=>[f x])=l.map f
 | []=>rfl
 |x::l=>by simp[c8u f l]
theorem c5D(b:a1K)(first:Nat)(t:first≤100){y:List a0Y}(e:y.all (a2o 2)=true)(s:y.length≤10)(out:List a0Y)(u:out.length≤1000):
  x0r a6s ((first:Int),(y.length:Int),(0:Int),out,y,b,())=some ((first:Int),out++y.map (b1M first),b,()):=by
 have:=a1m (f:=a6s) (β:=Int×(List a0Y×(a1K×Unit))) y (fun i (a:List a0Y)=>((first:Int),(y.length:Int),(i:Int),a,y,b,())) (fun a x=>.inl (a++[b1M first x])) (fun i a=>a.length=out.length+i) (fun a=>((first:Int),a,b,()))
  (fun i g a k=>⟨fun j h=>by
   simp only[Sum.inl.injEq]at h;subst h;obtain⟨a1,l,m,o,p,q,r⟩:=a2p.1 (lA.1 e _ (a03 g));have c:decide ((0:Int)≤(i:Int))=true:=by simp
   have d:a93 y (a51 (i:Int)) ((0:Int),(0:Int),(0:Int),())=y[i]:=by rw[tN,lD,lG g];rfl
   refine⟨?_,by simp[k];omega⟩;simp only[a6s,dlt g,cT,c,a16,a1b (show a.length+1<2147483648 by omega),d,a0C (show i<1000000 by omega),a06];rw[a0D (n:=y[i].1+(first:Int)) (by omega),a0D (n:=y[i].2.1+(first:Int)) (by omega)]
   rfl,fun b hb=>by cases hb⟩)
  (fun a k=>by simp only[a6s,dge,cF]) (a:=out) (by simp)
 rw[b0J (fun x:a0Y=>[b1M first x])]at this
 simp only[nZ]at this;rw[this];simp only[a8a,c8u]
theorem d4r{c:List (List Int)}{i:Nat}(h:i+2≤c.length):a81 i (a52 (i+2) c)=[c.getD i [],c.getD (i+1) []]:=by
 apply a54;intro j;rw[a77]
 match j with
 |0=>rw[a33,if_pos (by omega),a79,lD,lG (by omega)];rfl
 | 1=>rw[a33,if_pos (by omega),lD,lD,lG (by omega)];rfl
 |j+2=>rw[a33,if_neg (by omega)];rfl
theorem c2f{b:a1K}{n:Nat}(a:a3D b.2.1 n)(q:n≤4096)(C:b.2.1.length≤8):∀(k j:Nat)(out:List a0Y)(c:List (List Int)),j+k=5→out.length≤3*j→out.all (a2o (b.2.1.length:Int))=true→doO out b.2.1=some c→(∀i,2*j≤i→c.getD i []=b.2.1.getD i [])→3*j≤12∨b.2.1.length≤2*j→
  ∃l d,x0r a8O (((2*j:Nat):Int),out,b,())=some (l,())∧l.length≤16∧l.all (a2o (b.2.1.length:Int))=true∧doO l b.2.1=some d
 |k,j,out,c,hk,hol,hob,hdo,hag,h12=>by
  have g:wrap .i64 (((2*j:Nat):Int)+1)=((2*j+1:Nat):Int):=by rw[a0D (by omega)];omega
  by_cases hlt:2*j+1<b.2.1.length
  ·cases k with
   |zero=>omega
   |succ k=>
    have f:wrap .i64 (((2*j:Nat):Int)+2)=((2*j+2:Nat):Int):=by rw[a0D (by omega)];omega
    have hp:a3D [b.2.1.getD (2*j) [],b.2.1.getD (2*j+1) []] n:=fun r u=>by
     simp only[mC,a26,or_false]at u;rcases u with rfl|rfl;exact a6M a (by omega);exact a6M a (by omega)
    obtain⟨m,v,H,I⟩:=d1u hp rfl q;obtain⟨p',p⟩:=Option.isSome_iff_exists.1 I;have h:=(c3t v).2.2.2;have E:(a5b m).length≤3:=by
     match m,v with
     |0,_=>decide
     | 1,_=>decide
     | 2,_=>decide
     | 3,_=>decide
     | 4,_=>decide
    have D:c.length=b.2.1.length:=(b4q out a rfl hob hdo).2;obtain⟨d,A,K,L,M,N,B⟩:=c4W (i:=2*j) (c0:=c) (by omega) (a5b m) h ⟨rfl,rfl,hag _ (a37 _),hag _ (by omega),fun _ _ _=>rfl⟩ p;have o:=c5D b (2*j) (by omega) h (by omega) out (by omega);have e:decide (((2*j+1:Nat):Int)<((b.2.1.length:Nat):Int))=true:=by simp only[dT];omega
    have w:decide ((0:Int)≤((2*j+2:Nat):Int))=true:=by simp only[dT];omega
    have x:decide (((2*j+2:Nat):Int)≤((b.2.1.length:Nat):Int))=true:=by simp only[dT];omega
    have y:decide ((0:Int)≤((2*j:Nat):Int))=true:=by simp only[dT];omega
    have z:decide (((2*j:Nat):Int)≤((2*j+2:Nat):Int))=true:=by simp only[dT];omega
    rw[a0G (s':=(((2*(j+1):Nat):Int),out++(a5b m).map (b1M (2*j)),b,())) (by
     simp only[a8O,g,e,cT,f,w,x,a16,tN,y,z];rw[d4r (by omega),H];simp only[oB];rw[o];simp only[oB,f];rfl)]
    refine c2f a q C k (j+1) (out++(a5b m).map (b1M (2*j))) d (by omega) (by simp;omega) ?_ (by rw[c5Y,hdo];exact A) (fun i O=>by rw[B i (by omega) (by omega)];exact hag i (by omega)) (by omega);rw[List.all_append,hob,a39,lA];intro s F;obtain⟨t,G,rfl⟩:=a62.1 F;exact c9v (by omega) (lA.1 h t G)
  refine⟨out,c,a0F ?_,by omega,hob,hdo⟩;have e:decide (((2*j+1:Nat):Int)<((b.2.1.length:Nat):Int))=false:=by simp only[decide_eq_false_iff_not];omega
  simp only[a8O,g,e,cF]
termination_by k=>k
theorem c4X{b:a1K}(hb:a3d b):∃l h,a7N b=some l∧a5m l (b.2.1.length:Int)∧doO l b.2.1=some h:=by
 obtain⟨d,-⟩:=b7A hb;have c:=hb.2.2.2.1;obtain⟨l,h,g,f,k,a⟩:=c2f d hb.2.2.2.2.2.1 c 5 0 [] b.2.1 rfl (by simp) rfl rfl (fun _ _=>rfl) (by omega);refine⟨l,h,?_,⟨by have:=hb.2.2.1;omega,by omega,f,k⟩,a⟩;unfold a7N;simp only[b5e,decide_eq_true hb,oB,bT,cF];rw[show((2*0:Nat):Int)=0 from rfl]at g;rw[g];rfl
theorem c9w{r:List Int}{n:Nat}(e:r.length=n∧r.all a0A=true)(m:1≤n)(o:n≤256){k:Int}(b:0≤k)(c:k≤3):
  ∃s,a5E (r,k)=some (s,0)∧SmallS s∧a1A s (n:Int)=some r∧a5j s (n:Int)≤((13+a0E r*n:Nat):Int):=by
 obtain⟨h,g⟩:=e;have d:=a7k (l:=r) (by omega) g;obtain⟨s,i,j,f,-,-,a,-⟩:=c7o (l:=r) (by omega) (by omega) g (d2g (by have:=d.1;omega)) b c;exact⟨s,i,j,by rw[h]at f;exact f,by rw[h]at a;exact a⟩
theorem c2g{effort:Int}(b:0≤effort)(j:effort≤3){rows:List (List Int)}{n:Nat}(l:a3D rows n)(c:1≤n)(i:n≤256)(p:rows.length≤8)(f:a1o):∀(rest d:List (List Int)) (done:List Sub),d++rest=rows→done.length=d.length→
  ∃outs,x0r a5F (effort,rows,(rows.length:Int),(d.length:Int),b8W,a9m f done,())=some (.inl (b8W,a9m f (done++outs),()))∧a8e (fun s=>a1A s (n:Int)) outs=some rest∧(∀s∈outs,SmallS s)∧a8e (fun r=>a5E (r,effort)) rest=some (outs.map fun s=>(s,0))
 | [],d,done,hd,hdl=>by
  have e:d=rows:=by simpa using hd
  subst e;refine⟨[],?_,rfl,by simp,rfl⟩;rw[a29];exact a0F (by simp only[a5F,dge,cF])
 |r::rest,d,done,hd,hdl=>by
  have h:d.length<rows.length:=by rw[←hd];simp
  have q:l0z rows (d.length:Int)=some r:=by rw[a0B h];subst hd;simp
  obtain⟨s,a,m,o,-⟩:=c9w (l r (by rw[←hd];simp)) c i b j;have z0:((0:Int) != 0)=false:=rfl;have g:a5F (effort,rows,(rows.length:Int),(d.length:Int),b8W,a9m f done,())=some (.inl (effort,rows,(rows.length:Int),(((d++[r]).length:Nat):Int),b8W,a9m f (done++[s]),())):=by
   simp only[a5F,dlt h,cT,q,oB,a,z0,cF];rw[show(a9m f done).2.2.2.2.1=done from rfl,a1b (show done.length+1<2147483648 by omega),cT,a0C (show d.length<1000000 by omega)];rw[show(((d++[r]).length:Nat):Int)=((d.length+1:Nat):Int)from by simp];rfl
  rw[a0G g];obtain⟨outs,u,v,w,x⟩:=c2g b j l c i p f rest (d++[r]) (done++[s]) (by simpa using hd) (by simp[hdl]);refine⟨s::outs,?_,?_,fun t k=>?_,?_⟩;rw[u];simp;simp only[a8e,o,v,oB];rcases mC.1 k with rfl|k;exact m;exact w t k;simp only[a8e,a,x,oB,a40]
theorem c7y{b:a1K}(hb:a3d b)(k:a1L b≤256){rate start effort:Int}(p:1≤rate∧rate≤1048576)(E:0≤start∧start≤4194304-((a1L b:Nat):Int))(B:0≤effort)(C:effort≤3):
  ∃l g outs,a6z (b,(rate,((b.2.1.length:Nat):Int),b.1,()),start,effort)=some ((start,((a1L b:Nat):Int),(rate,((b.2.1.length:Nat):Int),b.1,()),l,outs,()),0)∧
   a5m l (b.2.1.length:Int)∧doO l b.2.1=some g∧a8e (fun s=>a1A s ((a1L b:Nat):Int)) outs=some g∧(∀s∈outs,SmallS s)∧a8e (fun r=>a5E (r,effort)) g=some (outs.map fun s=>(s,0))∧
   (effort=0→l=[])∧(0<effort→a7N b=some l):=by
 obtain⟨D,o⟩:=b7A hb;have j:=hb;obtain⟨z,A,G,H,I,K,-⟩:=j;have m:c0O (rate,((b.2.1.length:Nat):Int),b.1,()):=⟨p.1,p.2,by show(1:Int)≤((b.2.1.length:Nat):Int);omega,by show((b.2.1.length:Nat):Int)≤8;omega,z,A⟩;have f:∃l g,a5m l (b.2.1.length:Int)∧doO l b.2.1=some g∧(effort=0→l=[])∧(0<effort→a7N b=some l):=by
  by_cases he:effort=0
  exact⟨[],b.2.1,⟨by omega,by omega,by simp,rfl⟩,rfl,fun _=>rfl,fun h=>by omega⟩;obtain⟨l,c,n,q,F⟩:=c4X hb;exact⟨l,c,q,F,fun h=>absurd h he,fun _=>n⟩
 obtain⟨l,g,i,e,a,d⟩:=f;obtain⟨n,q⟩:=b4q l D rfl i.2.2.2 e;obtain⟨outs,j1,j2,j3,j4⟩:=c2g B C n (by omega) k (by omega) (start,((a1L b:Nat):Int),(rate,((b.2.1.length:Nat):Int),b.1,()),l,([]:List Sub),()) g [] [] rfl rfl;refine⟨l,g,outs,?_,i,e,j2,j3,j4,a,d⟩;have x:(b.1 != b.1)=false:=bne_self_eq_false _;have y:(((b.2.1.length:Nat):Int) != ((b.2.1.length:Nat):Int))=false:=bne_self_eq_false _;have t:decide (effort<0)=false:=by simp only[decide_eq_false_iff_not];omega
 have u:decide (effort > 3)=false:=by simp only[decide_eq_false_iff_not];omega
 have v:decide (start<0)=false:=by simp only[decide_eq_false_iff_not];omega
 have w:decide (start > wrap .i64 (4194304-((a1L b:Nat):Int)))=false:=by rw[a0D (by omega)];simp only[decide_eq_false_iff_not];omega
 have z0:((0:Int) != 0)=false:=rfl;unfold a6z;simp only[b5e,decide_eq_true hb,oB,bT,cF,b6J,decide_eq_true m,x,y,t,u,v,a8M,w];cases he:decide (effort > 0)with
 |true=>
  have:=d (by simpa using he)
  simp only[cT,this,oB,c3T,if_pos (show a2L b.2.1∧a5m l (b.2.1.length:Int)from⟨o,i⟩),e,c0R,z0,cF]
  erw[j1]
  rfl
 |false=>
  have:=a (by simp only[decide_eq_false_iff_not]at he;omega)
  subst this;simp only[cF,oB,c3T,if_pos (show a2L b.2.1∧a5m ([]:List a0Y) (b.2.1.length:Int)from⟨o,i⟩),e,c0R,z0]
  erw[j1]
  rfl
theorem made{b:a1K}(hb:a3d b)(f:a1L b≤256){rate start effort:Int}(e:1≤rate∧rate≤1048576)(a:0≤start∧start≤4194304-((a1L b:Nat):Int))(j:0≤effort)(n:effort≤3):
  ∃g:Int×(a0Y×(List a0Y×(List Sub×Unit))),a6z (b,(rate,((b.2.1.length:Nat):Int),b.1,()),start,effort)=some ((start,g),0)∧g.1=((a1L b:Nat):Int)∧g.2.1=(rate,((b.2.1.length:Nat):Int),b.1,())∧
   g.2.2.1.length≤16∧g.2.2.2.1.length≤8∧(∀s∈g.2.2.2.1,SmallS s)∧∀h,0≤h∧h≤4194304-((a1L b:Nat):Int)→b1L (h,g)=some b:=by
 obtain⟨l,i,outs,m,k,c,d,o,-⟩:=c7y hb f e a j n;obtain⟨p,-⟩:=b7A hb;have t:=c0S d;have q:=(b4q l p rfl k.2.2.2 c).2;exact⟨_,m,rfl,rfl,k.2.2.1,by have:=hb.2.2.2.1;show outs.length≤8;omega,o,fun h r=>c7w hb k c d r e⟩
def dead(T:List Int)(a:Int):List Int×(Int×Int×Unit):=(T,a,(3:Int),())
def crE(s:BitVec 16):BitVec 16:=bif s.msb then(s <<< 1) ^^^ 32773#16 else s <<< 1
theorem c5Z(s t:BitVec 16):crE (s ^^^ t)=crE s ^^^ crE t:=by
 unfold crE;rw[BitVec.msb_xor,BitVec.shiftLeft_xor_distrib];cases s.msb<;>cases t.msb<;>simp only[cT,cF,Bool.xor_true,Bool.xor_false,bT,a08];rw[a17];rw[a17,a17,a64 (t <<< 1)];rw[a17,a64 32773#16,a17,a86,a87]
theorem c9x{s:BitVec 16}(h:crE s=0):s=0:=by
 unfold crE at h;cases hm:s.msb with
 |true=>
  rw[hm,cT]at h
  have:=congrArg (fun x=>a91 x 0) h
  simp at this
 |false=>
  rw[hm,cF]at h;refine a27 fun i g=>?_
  by_cases h15:i=15
  subst h15;rw[a50]at hm;simpa using hm
  have:=congrArg (fun x=>a91 x (i+1)) h
  simp at this;simpa using this (by omega)
theorem d4s:crE 0=0:=by decide
theorem b7B{s:BitVec 16}:∀{n:Nat},rep crE n s=0→s=0
 |0,h=>h
 |n+1,h=>c9x (b7B (n:=n) h)
theorem c7z:∀n:Nat,rep crE n 0=0
 |0=>rfl
 |n+1=>by
  show rep crE n (crE 0)=0;rw[d4s,c7z n]
def crB(b:Bool):BitVec 16:=bif b then 32768#16 else 0#16
def crS(s:BitVec 16)(b:Bool):BitVec 16:=crE (s ^^^ crB b)
def crT:List Bool→BitVec 16
 | []=>0#16
 |b::w=>crB b ^^^ (crT w >>> 1)
theorem d1v(b:Bool)(j:Nat):(crB b).getLsbD j=(b&&decide (j=15)):=by
 cases b with
 |false=>simp[crB]
 |true=>
  simp only[crB,cT,a39];rw[show(32768#16)=a94 16 (2^15)from rfl,a42,a73]
  by_cases h:j=15
  subst h;rfl;rw[decide_eq_false (by omega:¬ (15=j)),decide_eq_false h,Bool.and_false]
theorem b4r:∀(w:List Bool)(j:Nat),(crT w).getLsbD j=(decide (j<16)&&w.getD (15-j) false)
 | [],j=>by simp[crT]
 |b::w,j=>by
  rw[crT,BitVec.getLsbD_xor,d1v,a32,b4r w]
  by_cases h:j=15
  subst h;simp
  by_cases h2:j<16
  rw[show 15-j=(15-(1+j))+1 from by omega,a74];simp[h,h2,show 1+j<16 from by omega];simp[h,h2,show ¬ (1+j<16)from by omega]
theorem c9y{w:List Bool}(h:w.length≤15):crE (crT w >>> 1)=crT w:=by
 have k:(crT w >>> 1).msb=false:=by
  rw[a50,a32,b4r];simp
 unfold crE;rw[k,cF];refine a27 fun i f=>?_
 rw[BitVec.getLsbD_shiftLeft,a32];cases i with
 |zero=>
  have g:(crT w).getLsbD 0=false:=by
   rw[b4r,lD,a67 (by omega)];rfl
  rw[g];simp
 |succ i=>rw[show 1+(i+1-1)=i+1 from by omega];simp[f]
theorem c7A:∀(w:List Bool)(s:BitVec 16),w.length≤16→w.foldl crS s=rep crE w.length (s ^^^ crT w)
 | [],s,_=>by simp[crT,rep]
 |b::w,s,h=>by
  rw[lC]at h;rw[a43,c7A w _ (by omega),crT,←a17];show _=rep crE w.length (crE (s ^^^ crB b ^^^ (crT w >>> 1)));rw[c5Z,c9y (by omega)];rfl
theorem c4Y{α:Type}(f g:α→Bool):∀(L:List α)(s t:BitVec 16),(L.map fun j=>xor (f j) (g j)).foldl crS (s ^^^ t)=(L.map f).foldl crS s ^^^ (L.map g).foldl crS t
 | [],_,_=>rfl
 |a::L,s,t=>by
  simp only[a40,a43];rw[←c4Y f g L];congr 1;unfold crS;rw[←c5Z];congr 1
  have:crB (xor (f a) (g a))=crB (f a) ^^^ crB (g a):=by cases f a<;>cases g a<;>rfl
  rw[this];simp only[a17];rw[←a17 t,a64 t,a17]
theorem b7C:∀(n:Nat)(s:BitVec 16),(a04 n false).foldl crS s=rep crE n s
 |0,_=>rfl
 |n+1,s=>by
  rw[List.replicate_succ,a43,b7C n];show rep crE n (crE (s ^^^ 0#16))=rep crE n (crE s);rw[a87]
theorem d4t{w:List Bool}(h:w.length≤16)(a:true∈w)(k m:Nat):(a04 k false++(w++a04 m false)).foldl crS 0≠0:=by
 rw[a23,a23,b7C,b7C,c7z,c7A w _ h];intro e;have e:=b7B (b7B e);have e:crT w=0:=by simpa using e
 obtain⟨i,f,g⟩:=a72.1 a
 have:=b4r w (15-i)
 rw[e,show 15-(15-i)=i from by omega,lD,lG f,g]at this;simp at this;omega
def byb(c:Int):List Bool:=[7,6,5,4,3,2,1,0].map fun i=>c.toNat.testBit i
def cr(s:Int):BitVec 16:=a01 16 s
theorem b6N(n:Nat):cr (n:Int)=a94 16 n:=by simp[cr]
theorem c2J(n:Int):cr (wrap .u16 n)=cr n:=by
 rw[a7V];unfold cr;apply a68;rw[a07,a07];congr 1;omega
theorem d2o{s t:Int}(g:0≤s∧s<65536)(f:0≤t∧t<65536)(h:cr s=cr t):s=t:=by
 have:=congrArg BitVec.toNat h
 unfold cr at this;rw[a07,a07]at this;omega
theorem c8v(a b:Int):cr (bits .u16 .xor a b)=cr a ^^^ cr b:=by
 have e:bits .u16 .xor a b=wrap .u16 (((cr a ^^^ cr b).toNat:Nat):Int):=rfl;rw[e,c2J,b6N,BitVec.ofNat_toNat,BitVec.setWidth_eq]
theorem d2p{s:Int}(h:0≤s∧s<65536):cr (e16 s)=crE (cr s):=by
 obtain⟨n,rfl⟩:=a00 h.1;have f:z0g .u16 (n:Int) 1=wrap .u16 ((n*2:Nat):Int):=rfl;have g:cr (z0g .u16 (n:Int) 1)=cr (n:Int) <<< 1:=by
  rw[f,c2J,b6N,b6N];apply a68;rw[BitVec.toNat_shiftLeft,a20,a20,Nat.shiftLeft_eq];omega
 have hb:(z0h .u16 (n:Int) 15==(1:Int))=(cr (n:Int)).msb:=by
  have e:z0h .u16 (n:Int) 15=((n / 32768:Nat):Int):=by
   show Int.fdiv (n:Int) ((32768:Nat):Int)=_;rw[a49 _ (by omega)];rfl
  rw[e,b6N,BitVec.msb_eq_decide,a20]
  by_cases hn:32768≤n
  rw[decide_eq_true (by omega:2^(16-1)≤n%2^16)]
  simp;omega
  rw[decide_eq_false (by omega:¬ 2^(16-1)≤n%2^16)]
  simp;omega
 unfold e16 crE;rw[hb];cases (cr (n:Int)).msb;exact g;simp only[cT];rw[c8v,g];rfl
theorem c8w:∀(k:Nat){s:Int},0≤s∧s<65536→cr (rep e16 k s)=rep crE k (cr s)
 |0,_,_=>rfl
 |k+1,s,h=>by
  show cr (rep e16 k (e16 s))=rep crE k (crE (cr s));rw[c8w k (c3l s),d2p h]
theorem c2K(c:Int)(i:Nat):(byb c).getD i false=(decide (i<8)&&c.toNat.testBit (7-i)):=by
 unfold byb
 match i with
 |0|1|2|3|4|5|6|7=>simp
 |i+8=>simp;omega
theorem c9z{c:Int}(h:0≤c∧c<256):crT (byb c)=cr (z0g .u16 (wrap .u16 c) 8):=by
 obtain⟨n,rfl⟩:=a00 h.1;have f:z0g .u16 (wrap .u16 (n:Int)) 8=wrap .u16 ((n*2^8:Nat):Int):=by
  rw[show wrap .u16 (n:Int)=(n:Int)from by rw[a7V];omega];rfl
 rw[f,c2J,b6N];refine a27 fun j g=>?_
 rw[b4r,c2K,a42,Nat.testBit_mul_two_pow,tN]
 by_cases h8:8≤j
 rw[show 7-(15-j)=j-8 from by omega];simp[g,h8,show 15-j<8 from by omega];simp[g,h8,show ¬ 15-j<8 from by omega]
theorem c4Z(a b:Int):0≤bits .u16 .xor a b∧bits .u16 .xor a b<65536:=by
 simp only[bits,a7V];omega
theorem d2q{s c:Int}(h:0≤c∧c<256):cr (g16 s c)=(byb c).foldl crS (cr s):=by
 rw[c7A _ _ (by simp[byb]),c9z h];unfold g16;rw[c8w 8 (c4Z _ _),c8v];rfl
def a8x(p:List Int):List Bool:=p.flatMap byb
theorem c8x:∀(p:List Int){s:Int},(∀c∈p,0≤c∧c<256)→cr (p.foldl g16 s)=(a8x p).foldl crS (cr s)
 | [],_,_=>rfl
 |c::p,s,h=>by
  rw[a43,c8x p (fun d g=>h d (by simp[g])),d2q (h c (by simp))];simp[a8x,a23]
theorem c9A{p:List Int}(h:∀c∈p,0≤c∧c<256):cr (a1P p)=(a8x p).foldl crS 0:=by
 unfold a1P;rw[c8x p h];rfl
theorem d1w{a b:Int}(g:0≤a∧a<256)(hb:0≤b∧b<256):crT (byb a++byb b)=cr (a*256+b):=by
 obtain⟨n,rfl⟩:=a00 g.1;obtain⟨m,rfl⟩:=a00 hb.1;rw[show(n:Int)*256+(m:Int)=((2^8*n+m:Nat):Int)from by omega,b6N];refine a27 fun j h=>?_
 rw[b4r,a42,Nat.testBit_two_pow_mul_add _ (by omega),lD]
 by_cases h8:j<8
 rw[a48 (by simp[byb];omega),←lD,c2K,if_pos h8,tN,show(byb (n:Int)).length=8 from rfl,show 7-(15-j-8)=j from by omega];simp[h,show 15-j-8<8 from by omega];rw[List.getElem?_append_left (by simp[byb];omega),←lD,c2K,if_neg h8,tN,show 7-(15-j)=j-8 from by omega];simp[h,show 15-j<8 from by omega]
theorem c5a{p:List Int}(h:∀c∈p,0≤c∧c<256){a b:Int}(g:0≤a∧a<256)(hb:0≤b∧b<256):(a8x (p++[a,b])).foldl crS 0=0↔a1P p=a*256+b:=by
 have e:a8x (p++[a,b])=a8x p++(byb a++byb b):=by simp[a8x]
 rw[e,a23,←c9A h,c7A _ _ (by simp[byb]),d1w g hb];constructor;intro e;have e:=b7B e;refine d2o (b2Y p) (by omega) ?_
 have:=congrArg (· ^^^ cr (a*256+b)) e
 simpa[a17]using this;intro e;rw[e,a86];exact c7z _
def a3q(c:Int):Prop:=0≤c∧c<256
def a6I(p:List Int)(j:Nat):Bool:=(p.getD (j / 8) 0).toNat.testBit (7-j%8)
theorem c0U:∀p:List Int,a8x p=(a60 (8*p.length)).map (a6I p)
 | []=>rfl
 |c::p=>by
  have e:a8x (c::p)=byb c++a8x p:=rfl;rw[e,c0U p,lC,show 8*(p.length+1)=8+8*p.length from by omega,a71,pA,a63];congr 1;refine a75 fun j _=>?_
  show a6I p j=a6I (c::p) (8+j);unfold a6I;rw[show(8+j) / 8=j / 8+1 from by omega,a74,show(8+j)%8=j%8 from by omega]
theorem d4u(c:Nat):(2:Int)^c=((2^c:Nat):Int):=by rfl
theorem c9B{a:Int}(g:a3q a){c:Nat}(b:c≤7):a3q (bits .u8 .xor a (z0g .u8 1 (c:Int)))∧∀t,t≤7→(bits .u8 .xor a (z0g .u8 1 (c:Int))).toNat.testBit t=xor (a.toNat.testBit t) (decide (t=c)):=by
 obtain⟨n,rfl⟩:=a00 g.1;have h:n<2^8:=by have:=g.2;omega
 have hp:(2:Nat)^c<2^8:=Nat.pow_lt_pow_right (by omega) (by omega);have f:z0g .u8 1 (c:Int)=((2^c:Nat):Int):=by
  unfold z0g;rw[tN,a88 (show c≤IntKind.bits .u8 from Nat.le_trans b (by decide)),a4W,Int.one_mul,d4u c]
  grind
 have k:bits .u8 .xor (n:Int) (z0g .u8 1 (c:Int))=((n ^^^ 2^c:Nat):Int):=by
  rw[f];show wrap .u8 (((a01 8 (n:Int) ^^^ a01 8 ((2^c:Nat):Int)).toNat:Nat):Int)=_;rw[BitVec.toNat_xor,a31,a31,a20,a20,a38 h,a38 hp,a4W]
  have:=a78 h hp
  omega
 rw[k];refine⟨⟨by omega,by have:=a78 h hp;omega⟩,fun t _=>?_⟩
 simp[a73,eq_comm]
theorem d1x{p:List Int}(h:∀c∈p,a3q c)(i:Nat):a3q (p.getD i 0):=by
 rw[lD]
 by_cases hi:i<p.length
 simp_all;rw[a67 (by omega)];exact⟨by simp,by simp⟩
theorem c5b{p:List Int}(h:∀c∈p,a3q c){K:Nat}(k:K<8*p.length):
  (∀c∈p.set (K / 8) (bits .u8 .xor (p.getD (K / 8) 0) (z0g .u8 1 ((7-K%8:Nat):Int))),a3q c)∧
  ∀j,a6I (p.set (K / 8) (bits .u8 .xor (p.getD (K / 8) 0) (z0g .u8 1 ((7-K%8:Nat):Int)))) j=xor (a6I p j) (decide (j=K)):=by
 obtain⟨g,f⟩:=c9B (d1x h (K / 8)) (c:=7-K%8) (by omega);refine⟨fun c a=>?_,fun j=>?_⟩
 grind
 unfold a6I
 by_cases e:j / 8=K / 8
 grind
 grind
structure Turn (b k i:Nat) (p0 p:List Int) (sm:Bool):Prop where
 len:p.length=p0.length
 ok:∀c∈p,a3q c
 bit:∀j,a6I p j=xor (a6I p0 j) (decide (k≤j∧j<k+i)&&b.testBit (j-k))
 smk:sm=true↔∃t,t<i∧b.testBit t=true
 pre:p.take (k / 8)=p0.take (k / 8)
 same:sm=false→p=p0
theorem d2r(b:Nat){i:Nat}(f:i<16):(bits .u16 .and (z0h .u16 (b:Int) (wrap .u64 (i:Int))) (1:Int)==(1:Int))=b.testBit i:=by
 have h:z0h .u16 (b:Int) (wrap .u64 (i:Int))=((b / 2^i:Nat):Int):=by
  grind[a0N,z0h,IntKind.bits]
 rw[h];have g:bits .u16 .and ((b / 2^i:Nat):Int) (1:Int)=((b / 2^i%2:Nat):Int):=by
  show wrap .u16 (((a01 16 ((b / 2^i:Nat):Int) &&& a01 16 ((2^1-1:Nat):Int)).toNat:Nat):Int)=_;rw[a56,a31,a31,a20,a20,show(2^1-1)%2^16=2^1-1 from rfl,a28,a7V];omega
 grind
theorem b8X{b k:Nat}{p0:List Int}(f:p0.length<1000000)(e:k<8*p0.length):∀(r i:Nat)(p:List Int)(sm:Bool),i+r=min 16 (8*p0.length-k)→Turn b k i p0 p sm→
  ∃q s,x0r a1Y ((b:Int),(k:Int),sm,(i:Int),p,())=some (s,q,())∧Turn b k (min 16 (8*p0.length-k)) p0 q s
 |0,i,p,sm,hi,ht=>by
  refine⟨p,sm,a0F ?_,by simp_all⟩
  by_cases h16:i<16
  have w:=ht.len;have g:decide ((i:Int)<16)=true:=by grind
  have c:wrap .i64 ((k:Int)+(i:Int))=((k+i:Nat):Int):=by grind[a0D]
  have w2:wrap .i64 ((8:Int)*((p.length:Nat):Int))=((8*p.length:Nat):Int):=by grind
  have a:decide (((k+i:Nat):Int)<((8*p.length:Nat):Int))=false:=by grind
  simp only[a1Y,g,cT,c,w2,a,cF];have g:decide ((i:Int)<16)=false:=by grind
  simp only[a1Y,g,cF]
 |r+1,i,p,sm,hi,ht=>by
  have w:=ht.len;have v:k+i<8*p.length:=by omega
  have g:decide ((i:Int)<16)=true:=by grind
  have c:wrap .i64 ((k:Int)+(i:Int))=((k+i:Nat):Int):=by grind[a0D]
  have w2:wrap .i64 ((8:Int)*((p.length:Nat):Int))=((8*p.length:Nat):Int):=by grind[a0D]
  have a:decide (((k+i:Nat):Int)<((8*p.length:Nat):Int))=true:=by grind
  have d:decide (wrap .u64 (i:Int)<0)=false:=by rfl
  have hb:=d2r b (i:=i) (by omega);have l:=a0C (show i<1000000 by omega);cases hbt:b.testBit i with
  |false=>
   rw[a0G (s':=((b:Int),(k:Int),sm,((i+1:Nat):Int),p,())) (by
    simp only[a1Y,g,cT,c,w2,a,d,cF,hb,hbt,l])]
   refine b8X f e r (i+1) p sm (by omega) ⟨ht.len,ht.ok,fun j=>?_,?_,ht.pre,ht.same⟩;rw[ht.bit]
   grind
   rw[ht.smk]
   grind
  |true=>
   have x:wrap .i64 (a35 ((k+i:Nat):Int) 8)=(((k+i) / 8:Nat):Int):=by
    rw[show a35 ((k+i:Nat):Int) 8=(((k+i) / 8:Nat):Int)from rfl,a0D (by omega)]
   have y:wrap .i64 ((7:Int)-a25 ((k+i:Nat):Int) 8)=((7-(k+i)%8:Nat):Int):=by
    rw[show a25 ((k+i:Nat):Int) 8=(((k+i)%8:Nat):Int)from rfl,a0D (by omega)];omega
   have z:wrap .u64 ((7-(k+i)%8:Nat):Int)=((7-(k+i)%8:Nat):Int):=a0N (by omega);have m:decide ((0:Int)≤(((k+i) / 8:Nat):Int))=true:=by rfl
   have n:decide ((((k+i) / 8:Nat):Int)<((p.length:Nat):Int))=true:=by grind
   have o:decide (((7-(k+i)%8:Nat):Int)<0)=false:=by rfl
   rw[a0G (s':=((b:Int),(k:Int),true,((i+1:Nat):Int),p.set ((k+i) / 8) (bits .u8 .xor (p.getD ((k+i) / 8) 0) (z0g .u8 1 ((7-(k+i)%8:Nat):Int))),())) (by
    simp only[a1Y,g,cT,c,w2,a,d,cF,hb,hbt,l,x,y,z,m,n,o,a16,tN])]
   obtain⟨t,u⟩:=c5b ht.ok v;refine b8X f e r (i+1) _ true (by omega) ⟨by simp_all,t,fun j=>?_,?_,?_,fun h=>by grind⟩;rw[u,ht.bit,Bool.xor_assoc]
   grind
   grind
   rw[List.take_set_of_le (by omega)];exact ht.pre
theorem turned{b k:Nat}{p0 q:List Int}{s:Bool}(w:k<8*p0.length)(i:(a8x p0).foldl crS 0=0)(g:Turn b k (min 16 (8*p0.length-k)) p0 q s)(u:s=true):(a8x q).foldl crS 0≠0:=by
 obtain⟨n,r⟩:∃n,min 16 (8*p0.length-k)=n:=⟨_,rfl⟩;rw[r]at g;have e:a8x q=(a60 (8*p0.length)).map fun j=>xor (a6I p0 j) (decide (k≤j∧j<k+n)&&b.testBit (j-k)):=by
  rw[c0U,g.len];exact a75 fun j _=>g.bit j
 have h:=c4Y (a6I p0) (fun j=>decide (k≤j∧j<k+n)&&b.testBit (j-k)) (a60 (8*p0.length)) 0 0;have a:∀x:BitVec 16,(0:BitVec 16) ^^^ x=x:=fun _=>BitVec.zero_xor;rw[a,←e,←c0U,i,a]at h;rw[h];obtain⟨m,p⟩:∃m,8*p0.length=k+(n+m):=⟨8*p0.length-k-n,by omega⟩;rw[p,a71,a71,pA,pA,pA,a63,a63,a63];have c:(a60 k).map (fun j=>decide (k≤j∧j<k+n)&&b.testBit (j-k))=a04 k false:=by
  rw[a69];refine⟨by simp,fun x f=>?_⟩;obtain⟨j,o,rfl⟩:=a62.1 f
  grind
 have d:(a60 m).map (((fun j=>decide (k≤j∧j<k+n)&&b.testBit (j-k))∘(k+·))∘(n+·))=a04 m false:=by
  rw[a69];refine⟨by simp,fun x f=>?_⟩;obtain⟨j,o,rfl⟩:=a62.1 f
  grind
 rw[c,d];refine d4t (by simp;omega) ?_ k m;obtain⟨t,l,v⟩:=g.smk.1 u;refine a62.2 ⟨t,List.mem_range.2 l,?_⟩;simp_all
theorem c5E{f:a1o}(j:frP f){n:Nat}(F:n≤700000){q:List Int}(E:q.length=(a0W f n).length+n+2)(D:q.take (a0W f n).length=a0W f n)(a:∀c∈q,a3q c)(h:(a8x q).foldl crS 0≠0):
  a4S q=some (b8W,0,5):=by
 have t:=b6L j (body:=n) (by omega);have w:(a0W f n).length=(hb f n).length+1:=by simp[a0W]
 have l:=c1Y j (body:=n) (by omega) (R:=q.drop (a0W f n).length) (by
  grind)
 have b:a0W f n++q.drop (a0W f n).length=q:=by
  grind[a70]
 rw[b]at l;have z0:((0:Int) != 0)=false:=rfl;obtain⟨N,C⟩:∃N,(a0W f n).length+n=N:=⟨_,rfl⟩;have A:wrap .i64 (((a0W f n).length:Int)+(n:Int))=(N:Int):=by rw[a0D (by omega)];omega
 have w2:wrap .i64 ((N:Int)+2)=((N+2:Nat):Int):=by rw[a0D (by omega)];rfl
 have B:wrap .i64 ((N:Int)+1)=((N+1:Nat):Int):=by rw[a0D (by omega)];rfl
 have p:decide ((q.length:Int)<((N+2:Nat):Int))=false:=by simp_all
 have r:decide ((0:Int)≤(N:Int))=true:=by simp
 have s:decide ((N:Int)≤(q.length:Int))=true:=by grind
 have m:N<q.length:=by omega
 have o:N+1<q.length:=by omega
 have z:a4G (q.take N)=some (a1P (q.take N)):=b7z (show(q.take N).length<1000000 by grind);have i:=a _ (a03 m);have g:=a _ (a03 o);have d:q=q.take N++[q[N],q[N+1]]:=by
  conv=>lhs;rw[←a70 N q]
  simp_all[a55,List.drop_eq_nil_of_le]
 have x:a1P (q.take N)≠q[N]*256+q[N+1]:=fun e=>h (by
  rw[d];exact(c5a (fun c u=>a c (List.mem_of_mem_take u)) i g).2 e)
 have y:=d2k (v:=q[N]*256+q[N+1]) (by unfold a3q at i g;omega);rw[show(q[N]*256+q[N+1]) / 256=q[N]from by unfold a3q at g;omega,show(q[N]*256+q[N+1])%256=q[N+1]from by unfold a3q at g;omega]at y;have k:(a1P (q.take N) != bits .u16 .or (z0g .u16 (wrap .u16 q[N]) 8) (wrap .u16 q[N+1]))=true:=by grind
 unfold a4S;rw[l];simp only[oB,z0,cF,A,w2,B,p,r,s,a16,cT,tN,z,a0B m,a0B o,k];rfl
theorem d1y{g:Int}(h:-100000≤g∧g≤100000):b2d g=some ((a7l g:Nat):Int):=by
 unfold b2d a7l
 by_cases hg:0≤g
 have d:decide (g<0)=false:=by simp only[decide_eq_false_iff_not];omega
 have e:z0g .u64 (wrap .u64 g) 1=2*g:=by
  show wrap .u64 (wrap .u64 g*2)=_;rw[a0N (n:=g) (by omega),a0N (by omega)];omega
 rw[d,cF,e,if_pos hg,a05 (by omega)];rfl;have d:decide (g<0)=true:=by simp only[dT];omega
 have e:z0g .u64 (wrap .u64 g) 1=((18446744073709551615-(-2*g-1).toNat:Nat):Int):=by
  show wrap .u64 (wrap .u64 g*2)=_;rw[c7O (n:=g) (by omega)];have f:∀n:Int,wrap .u64 n=n%18446744073709551616:=fun n=>by simp[wrap,IntKind.bits,IntKind.signed]
  rw[f];omega
 rw[d,cT,e,if_neg hg,c5L (by omega)];simp only[oB];congr 2;omega
theorem b9W(a:List Int)(i:Int):∀(k n:Nat)(out:List Int),n<128^(k+1)→k≤8→out.length+k<1000000→
  ∃r g,x0r a7a (a,i,(n:Int),out,())=some (a,i,((r:Nat):Int),out++g,())∧a0S n=g++[(r:Int)]∧r<128
 |k,n,out,h,hk,ho=>by
  by_cases hn:n<128
  refine⟨n,[],?_,by rw[b0S hn];rfl,hn⟩;rw[a0F (b:=(a,i,(n:Int),out,())) (by
   have d:decide ((n:Int)≥128)=false:=by simp;omega
   simp only[a7a,d,cF])]
  simp
  ·cases k with
   |zero=>omega
   |succ k=>
    have q:n / 128<128^(k+1):=by rw[a22 (by omega)];rw[a44]at h;exact h
    have f:n<18446744073709551616:=by
     have:128^(k+1+1)≤128^9:=a24 (by omega) (by omega)
     have e:(128:Nat)^9=9223372036854775808:=by decide
     omega
    obtain⟨r,g,c,m,p⟩:=b9W a i k (n / 128) (out++[((n%128+128:Nat):Int)]) q (by omega) (by simp;omega);refine⟨r,((n%128+128:Nat):Int)::g,?_,by rw[b2n hn,m];rfl,p⟩;have d:decide ((n:Int)≥128)=true:=by simp;omega
    have j:z0h .u64 (n:Int) 7=((n / 128:Nat):Int):=a3O (o:=7) (by omega);have l:wrap .u8 (bits .u64 .or (bits .u64 .and (n:Int) 127) 128)=((n%128+128:Nat):Int):=by
     have c:bits .u64 .and (n:Int) 127=((n%2^7:Nat):Int):=b7c (k:=7) f (by omega);rw[c,show((128:Int))=((1*2^7:Nat):Int)from rfl,orA (a89 _ (by omega)) (by omega),a4W];omega
    rw[a0G (s':=(a,i,((n / 128:Nat):Int),out++[((n%128+128:Nat):Int)],())) (by
     simp only[a7a,d,cT,a1b (show out.length+1<2147483648 by omega),j,l,a06])]
    rw[c]
    simp
theorem b1N{ns:List Nat}(h:∀n∈ns,n<9223372036854775808)(u:ns.length≤1000):a2w (asI ns)=some (ns.flatMap a0S):=by
 have m:(asI ns).length=ns.length:=by simp[asI]
 have:=a1m (f:=a7b) (asI ns) (fun i (a:List Int)=>(asI ns,(i:Int),a,())) (fun a x=>.inl (a++a0S x.toNat)) (fun i a=>a.length≤10*i) (fun a=>(a,()))
  (fun i l a q=>⟨fun s g=>by
   have c:i<ns.length:=by omega
   have o:(asI ns)[i]=((ns[i]:Nat):Int):=by simp[asI]
   have hb:=h ns[i] (a03 c);have k:ns[i]<128^(8+1):=by rw[show(128:Nat)^(8+1)=9223372036854775808 from by decide];exact hb
   obtain⟨r,d,p,j,t⟩:=b9W (asI ns) (i:Int) 8 ns[i] a k (a37 _) (by omega);have hv:=b7y 8 ns[i] k;rw[j]at hv;simp only[lN,lC,a09]at hv;simp only[o,tN,j,Sum.inl.injEq]at g;subst g;have e:wrap .u8 (r:Int)=(r:Int):=by rw[a4W];omega
   refine⟨?_,by simp;omega⟩;simp only[a7b,dlt l,cT,a0B l,o,oB,p,a1b (show(a++d).length+1<2147483648 by simp;omega),a0C (show i<1000000 by omega),e,a06,aA],fun b hb=>by cases hb⟩)
  (fun a q=>by simp only[a7b,dge,cF]) (a:=[]) (by simp)
 unfold a2w;simp only[nZ]at this;rw[this,b0J];simp[a8a,asI,a82]
theorem c5F{f:a1o}(r:frP f){body:Nat}(p:body≤1048576):b4e (f,(body:Int))=some (hb f body):=by
 have q:=r;obtain⟨⟨O,r2,I,K,L,M⟩,l1,l2,s1,s2,m1,m2,m3,m4⟩:=q;have k:∀s∈f.2.2.2.1,a2o f.2.2.1.2.1 s=true:=fun s A=>lA.1 m4 s A;have z:=b8S m2 f.2.2.2.1 m4;have y:=b6L r p;have c:a2w [wrap .u64 f.1,wrap .u64 f.2.1,wrap .u64 f.2.2.1.1,wrap .u64 f.2.2.1.2.1,wrap .u64 f.2.2.1.2.2.1,wrap .u64 ((f.2.2.2.1.length:Nat):Int)]=some ([f.1.toNat,f.2.1.toNat,f.2.2.1.1.toNat,f.2.2.1.2.1.toNat,f.2.2.1.2.2.1.toNat,f.2.2.2.1.length].flatMap a0S):=by
  rw[←b1N (fun n l=>by
   simp only[mC,a26,or_false]at l;omega) (by simp)]
  congr 1;rw[a0N (n:=f.1) (by omega),a0N (n:=f.2.1) (by omega),a0N (n:=f.2.2.1.1) (by omega),a0N (n:=f.2.2.1.2.1) (by omega),a0N (n:=f.2.2.1.2.2.1) (by omega),a0N (by omega)];simp only[asI,a40,List.map_nil,a05 (show 0≤f.1 by omega),a05 (show 0≤f.2.1 by omega),a05 (show 0≤f.2.2.1.1 by omega),a05 (show 0≤f.2.2.1.2.1 by omega),a05 (show 0≤f.2.2.1.2.2.1 by omega)]
 have B:([f.1.toNat,f.2.1.toNat,f.2.2.1.1.toNat,f.2.2.1.2.1.toNat,f.2.2.1.2.2.1.toNat,f.2.2.2.1.length].flatMap a0S).length≤600:=by
  have e:(hb f body).length=2+(([f.1.toNat,f.2.1.toNat,f.2.2.1.1.toNat,f.2.2.1.2.1.toNat,f.2.2.1.2.2.1.toNat,f.2.2.2.1.length].flatMap a0S).length+((f.2.2.2.1.flatMap a2K).length+(a0S body).length)):=by
   simp[hb];omega
  omega
 have h:=a1m (f:=a9Z) (β:=Int×(List Int×Unit)) f.2.2.2.1 (fun i (a:List Int)=>((body:Int),(i:Int),a,f,())) (fun a x=>.inl (a++a2K x)) (fun i a=>a.length≤600+27*i) (fun a=>((body:Int),a,()))
  (fun i o a w=>⟨fun E j=>by
   simp only[Sum.inl.injEq]at j;subst j;obtain⟨a1,F,t,G,H,u,v⟩:=a2p.1 (k _ (a03 o));have D:=c3m m2 (k _ (a03 o));have N:=b9f (g:=f.2.2.2.1[i].2.2.1) (m:=1024) ⟨u,v⟩;have hp:a2w [wrap .u64 f.2.2.2.1[i].1,wrap .u64 f.2.2.2.1[i].2.1,((a7l f.2.2.2.1[i].2.2.1:Nat):Int)]=some (a2K f.2.2.2.1[i]):=by
    have e:=b1N (ns:=a3p f.2.2.2.1[i]) (fun n l=>by
     simp only[a3p,mC,a26,or_false]at l;omega) (by simp[a3p])
    rw[show a2K f.2.2.2.1[i]=(a3p f.2.2.2.1[i]).flatMap a0S from by simp[a2K,a3p],←e];congr 1;rw[a0N (n:=f.2.2.2.1[i].1) (by omega),a0N (n:=f.2.2.2.1[i].2.1) (by omega)];simp only[asI,a3p,a40,List.map_nil,a05 a1,a05 t]
   refine⟨?_,by simp;omega⟩;simp only[a9Z,dlt o,cT,a0B o,oB,d1y (g:=f.2.2.2.1[i].2.2.1) (by omega),hp,a1b (show a.length+(a2K f.2.2.2.1[i]).length<2147483648 by omega),a0C (show i<1000000 by omega),a06],fun b hb=>by cases hb⟩)
  (fun a w=>by simp only[a9Z,dge,cF]) (a:=[f.1.toNat,f.2.1.toNat,f.2.2.1.1.toNat,f.2.2.1.2.1.toNat,f.2.2.1.2.2.1.toNat,f.2.2.2.1.length].flatMap a0S) (by omega)
 rw[b0J]at h;simp only[a8a,nZ]at h;have d:a2w [wrap .u64 (body:Int)]=some (a0S body):=by
  have e:=b1N (ns:=[body]) (fun n l=>by simp at l;omega) (by simp);rw[a0N (by omega)];simpa[asI]using e
 have C:=a9l (n:=body) (by omega);unfold b4e;simp only[c,oB];rw[h];simp only[oB,d,a06];rw[a1b (by rw[lN];omega),cT,a1b (by simp only[lN];omega),cT];simp[hb]
theorem c5c{p:PZ}{n:Int}(hp:c0P n p){L:List Int}(o:L.length<50000000):a8H ((L,()),p.1,n)=some (0,L++a5Z p.1 p.2,())∧(a5Z p.1 p.2).length≤700000:=by
 obtain⟨c,k,a⟩:=hp;obtain⟨j,i,g,l,f,b,m⟩:=c6T c (n:=n) (L:=L) (by omega);obtain⟨rfl,d,rfl,h⟩:=b k;have e:a2c p.1 d L=a2c p.1 p.2 L:=by
  by_cases hk:p.1.1=0∨p.1.1=1
  unfold a2c;rw[if_pos hk,if_pos hk];rw[c7P (h (not_or.1 hk)) (a (not_or.1 hk))]
 rw[e,b6c (b2X k) a]at g f;exact⟨g,by rw[lN]at f;omega⟩
theorem c3u{f:a1o}:∀(rest done:List PZ)(L:List Int),(done++rest).map (·.1)=f.2.2.2.2.1→(∀p∈rest,c0P f.2.1 p)→L.length+700000*rest.length<40000000→(done++rest).length≤8→
  x0r b0A ((done.length:Int),(L,()),f,())=some ((L++a0H rest,()),f,())
 | [],done,L,hd,_,_,_=>by
  have e:f.2.2.2.2.1.length=done.length:=by rw[←hd];simp
  rw[a0F (b:=((L,()),f,())) (by simp only[b0A,e,dge,cF])];simp[a0H]
 |p::rest,done,L,hd,h,hL,h8=>by
  rw[lC]at hL;simp only[lN,lC]at h8;obtain⟨a,i⟩:=c5c (h p (by simp)) (L:=L) (by omega);have g:done.length<f.2.2.2.2.1.length:=by rw[←hd];simp
  have c:l0z f.2.2.2.2.1 (done.length:Int)=some p.1:=by rw[a0B g];congr 1;simp[←hd]
  have k:=c3u rest (done++[p]) (L++a5Z p.1 p.2) (by simpa using hd) (fun q d=>h q (by simp[d])) (by rw[lN];omega) (by simp;omega);rw[a0G (s':=((((done++[p]).length:Nat):Int),(L++a5Z p.1 p.2,()),f,())) (by
   simp only[b0A,dlt g,cT,c,oB,a,a0C (show done.length<1000000 by omega)]
   simp)]
  rw[k];simp[a0H]
theorem d1z{f:a1o}(g:frP f){zs:List PZ}(c:zs.map (·.1)=f.2.2.2.2.1)(hp:∀p∈zs,c0P f.2.1 p)(a:(a0H zs).length≤5600000)(k:zs.length≤8):b4f f=some (hb f (a1Q (a0H zs)).length):=by
 have h:=c3u (f:=f) zs [] [] (by simpa using c) hp (by simp;omega) (by simpa using k);have b:=b5c g a;have e:(wL (a0H zs)).1.length=(a1Q (a0H zs)).length:=by rw[(a3v _).2,(b5J _).1]
 unfold b4f;simp only[a09,nZ,a02]at h;rw[h];simp only[oB,c4p (show(a0H zs).length<1000000000 by omega),e,c5F g (show(a1Q (a0H zs)).length≤1048576 by omega)]
theorem c9C{L:List Int}(h:a1u L):∀c∈(wL L).1,a3q c:=fun c g=>by
 obtain⟨i,f,rfl⟩:=a72.1 g
 have:=(c5R h).1 i
 rwa [lD,lG f]at this
theorem a7X{n:Nat}(h:n<9223372036854775808):∀c∈a0S n,a3q c:=c1V 8 n (by rw[show(128:Nat)^(8+1)=9223372036854775808 from by decide];exact h)
theorem c8y{f:a1o}(b:frP f){n:Nat}(t:n≤1048576):∀c∈a0W f n,a3q c:=by
 obtain⟨⟨v,r2,o,p,q,r⟩,l1,l2,s1,s2,m1,m2,m3,m4⟩:=b;intro c h;simp only[a0W,hb,mA,mC,a26,or_false,a57]at h;rcases h with((rfl|rfl)|h|h|h|h|h|h|⟨s,d,h⟩|h)|rfl;exact⟨by decide,by decide⟩;exact⟨by decide,by decide⟩;exact a7X (by omega) c h;exact a7X (by omega) c h;exact a7X (by omega) c h;exact a7X (by omega) c h;exact a7X (by omega) c h;exact a7X (by omega) c h;obtain⟨a1,e,i,j,l,k,a⟩:=a2p.1 (lA.1 m4 s d);have u:=b9f (g:=s.2.2.1) (m:=1024) ⟨k,a⟩;simp only[a2K,mA]at h;rcases h with h|h|h;exact a7X (by omega) c h;exact a7X (by omega) c h;exact a7X (by omega) c h;exact a7X (by omega) c h;exact c7s _
theorem d1A{f:a1o}(g:frP f){zs:List PZ}(k:(a0H zs).length≤5600000):∀c∈a4i f (a0H zs),a3q c:=by
 have a:=b5c g k;intro c h;rcases mA.1 h with h|h;exact c8y g (by omega) c h;exact c9C (b8U (b8T zs)) c h
theorem d2s{n:Int}(h:Wf (.int .u16) n):0≤n∧n<65536:=by
 have h:(decide (IntKind.min .u16≤n)&&decide (n≤IntKind.max .u16))=true:=h;simp only[bA,dT]at h;have g:IntKind.min .u16=0:=rfl;have f:IntKind.max .u16=65535:=rfl;omega
theorem c2h(x:a1K×(Int×Int×Int))(hx:0≤x.2.2.2∧x.2.2.2<65536):a9r x=some true:=by
 obtain⟨b,effort,A,h3⟩:=x;obtain⟨B,rfl⟩:=a00 hx.1;unfold a9r;simp only[d1s,oB,bT,cF];obtain⟨t1,S,s1⟩:=c8s b 60;rw[show((60:Nat):Int)=60 from rfl]at S;simp only[S,oB];cases t1 with
 |false=>rfl
 |true=>
  obtain⟨s1,s2⟩:=s1 rfl;obtain⟨t2,h2,hb⟩:=c5C (b:=b) (fun r L=>by have:=s2 r L;omega);simp only[bT,cF,h2,oB];cases t2 with
  |false=>rfl
  |true=>
   have hb:=hb rfl;simp only[bT,cF,oB];cases hB0:((B:Int)==0)with
   |true=>rfl
   |false=>
    have h5:a1L b≤60:=by
     unfold a1L;rw[←b3m (d:=[]) (show 0<b.2.1.length by have:=hb.2.2.1;omega)];exact s2 _ (a03 _)
    obtain⟨v,hv,h8⟩:=d2n 16 (by omega) A;obtain⟨w,Z,N⟩:=d2n 2 (by omega) effort;rw[show((2^16-1:Nat):Int)=65535 from rfl]at hv;rw[show((2^2-1:Nat):Int)=3 from rfl]at Z;have h9:w<4:=N;obtain⟨g,m1,m2,m3,m4,m5,m6,m7⟩:=made hb (by omega) (rate:=1) (start:=0) (effort:=(w:Int)) (by omega) (by omega) (by omega) (by omega);have m:=m7 0 (by omega);obtain⟨a,D,M⟩:=c4V m;have i:a4u ((0:Int),g)=some true:=by rw[d2l m6,m];rfl
    obtain⟨f,P,k2,z,k4,k5⟩:=c4R i a m5 (fun s Y=>⟨m6 s Y,M s Y⟩);have O:f.length≤8:=by have:=congrArg a46 P;simp only[List.length_map]at this;rw[this];exact m5
    have F:=d1z a P k2 z O;have u:=c3N i a D P k2 z (R:=[]) (by simp);rw[a29]at u;have h6:=b5c a z;have l:=d1A a z;have h7:=b2Y (a4i ((0:Int),g) (a0H f));have e:a6H ((0:Int),g) (a0H f)=a4i ((0:Int),g) (a0H f)++[a1P (a4i ((0:Int),g) (a0H f)) / 256,a1P (a4i ((0:Int),g) (a0H f))%256]:=rfl;have T:a3q (a1P (a4i ((0:Int),g) (a0H f)) / 256):=⟨by omega,by omega⟩;have V:a3q (a1P (a4i ((0:Int),g) (a0H f))%256):=⟨by omega,by omega⟩;have Q:=(c5a l T V).2 (by omega);rw[←e]at Q;have o:∀c∈a6H ((0:Int),g) (a0H f),a3q c:=by
     intro c h;rw[e]at h;simp only[mA,mC,a26,or_false]at h;rcases h with h|rfl|rfl;exact l c h;exact T;exact V
    have E:(a6H ((0:Int),g) (a0H f)).length=(a0W ((0:Int),g) (a1Q (a0H f)).length).length+(a1Q (a0H f)).length+2:=by rw[e];simp[a4i];omega
    have G:(a6H ((0:Int),g) (a0H f)).take (a0W ((0:Int),g) (a1Q (a0H f)).length).length=a0W ((0:Int),g) (a1Q (a0H f)).length:=by
     rw[e];simp only[a4i,aA];exact List.take_left
    have U:=b6L a (body:=(a1Q (a0H f)).length) (by omega);have h4:(a0W ((0:Int),g) (a1Q (a0H f)).length).length=(Ab.hb ((0:Int),g) (a1Q (a0H f)).length).length+1:=by simp[a0W]
    generalize hP:a6H ((0:Int),g) (a0H f)=p at *;generalize hH:(a0W ((0:Int),g) (a1Q (a0H f)).length).length=H at *;have C:p.length<1000000:=by omega
    have z0:((0:Int) != 0)=false:=rfl;have w1:wrap .i64 ((((Ab.hb ((0:Int),g) (a1Q (a0H f)).length).length:Nat):Int)+1)=(H:Int):=by rw[a0D (by omega)];omega
    have d1:decide ((H:Int)≥((p.length:Nat):Int))=false:=by simp only[decide_eq_false_iff_not];omega
    have w2:wrap .i64 ((8:Int)*((p.length:Nat):Int))=((8*p.length:Nat):Int):=by rw[a0D (by omega)];omega
    have w3:wrap .i64 ((8:Int)*(H:Int))=((8*H:Nat):Int):=by rw[a0D (by omega)];omega
    have w4:wrap .i64 (((8*p.length:Nat):Int)-((8*H:Nat):Int))=((8*p.length-8*H:Nat):Int):=by rw[a0D (by omega)];omega
    have d2:(((8*p.length-8*H:Nat):Int)==0)=false:=by simp only[beq_eq_false_iff_ne,ne_eq];omega
    have e1:a25 (v:Int) ((8*p.length-8*H:Nat):Int)=((v%(8*p.length-8*H):Nat):Int):=rfl;have hm:v%(8*p.length-8*H)<8*p.length-8*H:=a89 _ (by omega);have w5:wrap .i64 (((8*H:Nat):Int)+((v%(8*p.length-8*H):Nat):Int))=((8*H+v%(8*p.length-8*H):Nat):Int):=by rw[a0D (by omega)];omega
    generalize hk:8*H+v%(8*p.length-8*H)=k at *;have t:k<8*p.length:=by omega
    obtain⟨q,s,X,y⟩:=b8X (b:=B) C t (min 16 (8*p.length-k)) 0 p false (by omega) ⟨rfl,o,fun j=>by rw[decide_eq_false (by omega)];simp,by simp,rfl,fun _=>rfl⟩;simp only[nZ]at X;simp only[Z,m1,oB,k5,z0,cF,F,w1,d1,w2,w3,w4,d2,hv,e1,w5,X];cases s with
    |false=>
     obtain rfl:=y.same rfl;rw[u];rfl
    |true=>
     have K:q.length=H+(a1Q (a0H f)).length+2:=by rw[y.len];exact E
     have I:q.take H=a0W ((0:Int),g) (a1Q (a0H f)).length:=by
      have:=congrArg (a52 H) y.pre
      rw[a92,a92,a88 (by omega)]at this;rw[this];exact G
     have L:=c5E a (n:=(a1Q (a0H f)).length) (by omega) (q:=q) (by rw[hH];exact K) (by rw[hH];exact I) y.ok (turned t Q y rfl);rw[L];rfl
end Go.Ab
namespace Go.Proofs.YtbadoabamddpfaaGreatDoor
open Go.Ab Go.ChangeShapes Go.WideShapes Go.ChangeAt Go.RowKit
theorem b8Y{α:Type}{f:Nat→Option (α×b0a×List Nat)}:∀(L:List α)(i:Nat),(∀(j:Nat) x,L[j]?=some x→f (i+j)=some (x,[],[]))→a0c f L.length i=some (L,[],[])
 | [],_,_=>rfl
 |a::L,i,h=>by
  have g:=h 0 a rfl;have k:=b8Y L (i+1) (fun j x b=>by have:=h (j+1) x (by simpa using b);rw[←this];congr 1;omega);simp only[lC,a0c];simp only[a79]at g;rw[g,k];rfl
section
variable {H:Type} {enc:TypeId×Value→H} {P:Program} {w:World} {base:Nat} {spare:Nat→Bool} {held:Bool}
theorem c3O{k:IntKind}{n:Nat}{t e:TypeId}{fuel:Nat}{cs:List Value}{L:List Int}{p:List MemPlace}(B:P.underlying t=some (.array n e))(u:P.underlying e=some (.int k))(s:P.cellsOf e=1)
  (h:DataW.trod enc P w base spare held fuel t cs=some (.agg (L.map fun i=>.lit (.int k i)),p)):L.length=n∧∀(j:Nat) x,L[j]?=some x→cs[j]?=some (.int k x):=by
 obtain⟨C,m,rfl,b,-,A,a⟩:=DataW.trod_array B h;simp only[pJ,DataW.agg.injEq]at b;have z:L.length=n:=by rw[←A];simpa using congrArg a46 b.1
 refine⟨z,fun j x c=>?_⟩;obtain⟨v,-⟩:=lS.1 c;have g:=a j (by omega);rw[s]at g;obtain⟨y,d⟩:∃y,C[j]?=some y:=⟨_,lG (by omega)⟩;rw[d]at g;obtain⟨i,o,q,-⟩:=DataW.trod_int u g;have f:=congrArg (fun l=>l[j]?) b.1;simp only[List.getElem?_map,c,d,Option.map_some,q]at f;simp only[sj,DataW.lit.injEq,Lit.int.injEq,true_and]at f;subst f;have r:=congrArg (fun l=>l[0]?) o;simpa[a77,a33]using r
end
def c6a : String := (Rows.frameTurnedRow.laid.map Prod.fst).headD ""
theorem d8B:Tryz.prog.globalNamed c6a=some 0:=by kernel_rfl
def c9D:TypeId:=((Tryz.prog.globals[0]?).map (·.type)).getD 0
theorem d1B:(Tryz.prog.globals[0]?).map (·.type)=some c9D:=by kernel_rfl
def c9E:TypeId:=match Tryz.prog.underlying c9D with
 |some (.array _ e)=>e
 |_=>0
theorem d8C:Tryz.prog.underlying c9D=some (.array 64 c9E):=by kernel_rfl
theorem d4v:Tryz.prog.underlying c9E=some (.int .u8):=by kernel_rfl
theorem d4w:Tryz.prog.cellsOf c9E=1:=by kernel_rfl
@[reducible] def laidTab:List (String×DataW Unit):=[(c6a,Rows.laid_math_bits_deBruijn64tab)]

theorem d2t {g:Nat} {t:Ty} {x:t.den} (h:G0 g=some ⟨t,x⟩):g=0∧(⟨t,x⟩:(t:Ty)×t.den)=⟨.arr 64 (.int .u8),b2o⟩:=by
 unfold G0 find at h
 cases g with
 |zero=>exact⟨rfl,(Option.some.inj h).symm⟩
 |succ n=>exact absurd h (by simp[find])
theorem c5d{W:World}(h:laidMetH Tryz.prog laidTab W):∀g t x,G0 g=some ⟨t,x⟩→g<W.heap.size∧dec (a0a W none) t ((Src.at g 0).rd (a0a W none))=some (x,[],[]):=by
 rw[MakeChecks.laidMetH_plain _ _ _ (by kernel_rfl)]at h;obtain⟨ps,⟨r,w,m,q,u,v,b,c,d,a,_⟩,_,_⟩:=h;obtain rfl:=Option.some.inj (d8B.symm.trans b);obtain rfl:=Option.some.inj (d1B.symm.trans c);have n:(Rows.laid_math_bits_deBruijn64tab:DataW Unit)=.agg (b2o.map fun i=>.lit (.int .u8 i)):=rfl;rw[n]at a;obtain⟨s,p⟩:=c3O d8C d4v d4w a;have k:∀(j:Nat) x,b2o[j]?=some x→W.cell? ⟨0,j,none⟩=some (.int .u8 x):=fun j x l=>by
  rw[World.var?_cell b d j];simpa using p j x l
 intro g t x o;obtain⟨rfl,e⟩:=d2t o;cases e;refine⟨y0k (k 0 0 rfl),?_⟩;exact b8Y (f:=fun i=>dec (a0a W none) (.int .u8) fun j=>(Src.at 0 0).rd (a0a W none) (i*1+j)) b2o 0 (fun j x l=>by
  have:=k j x l
  simp only[dec,Src.rd,a0a,Nat.zero_add,Nat.mul_one,a79,this,if_true])
set_option maxRecDepth 100000 in
theorem c9F (os:Os) (args:Array Value):laidMetH Tryz.prog laidTab ((World.doorLaid Tryz.prog 400 os).forCall (fun _ _=>0) ⟨#[],args,[]⟩).memory:=
 laidMetH_of_parts3 (fuel:=8) (laidMet_of_run' 8 (by kernel_rfl) (by kernel_rfl)) (by kernel_rfl) (by kernel_rfl)
end Go.Proofs.YtbadoabamddpfaaGreatDoor
