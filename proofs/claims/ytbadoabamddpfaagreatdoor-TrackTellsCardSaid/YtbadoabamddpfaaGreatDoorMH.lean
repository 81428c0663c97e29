/- Part of the proof: QTJ. Conditions: as each statement tells. -/
import Derived.KernelRfl
import Derived.Test.YtbadoabamddpfaaGreatDoorRows
import Derived.ProofKit
import Derived.LaidMore
import Derived.LaidLaws
import Derived.LaidHandle
import Derived.LaidByTextLater
import Derived.OpenShut
import Derived.Handed
import Derived.Test.YtbadoabamddpfaaGreatDoorMG
noncomputable section
set_option linter.unusedSimpArgs false
set_option linter.unusedVariables false
open BitVec renaming ofInt→a19,toNat_ofInt→a31
open Bool renaming not_false→a06,and_self→a29,eq_iff_iff→a36
open Int renaming toNat_of_nonneg→a21,natCast_nonneg→a22,tdiv→a30
open List renaming length_singleton→a00,length_nil→a01,length_map→a02,length→a03,not_mem_nil→a07,concat_eq_append→a08,map_cons→a18,nil_append→a20,flatMap_cons→a23,eq_nil_or_concat→a25,append_eq→a26,flatMap_append→a27,append→a34,range_succ→a35
open Nat renaming lt_trans→a05,mod_lt→a09,mul_le_mul→a16,zero_add→a24,add_assoc→a28,add_zero→a33
open Option renaming bind_eq_some_iff→a04,isSome_some→a32
namespace Go.Ab
open IntKind(wrap)
theorem b7r{u d q r:Nat}{s q1:Int}(i:d<4294967296)(j:q≤4294967297)(l:r<4294967296):a1P ((18446744073709551608:Int),s,(4294967295:Int),(4294967288:Int),(d:Int),q1,(r:Int),(u:Int),(q:Int),()) =
  if a8K 4294967288 d q r then(if 4294967296≤r+4294967295 then some (.inr ((18446744073709551608:Int),s,(d:Int),q1,(u:Int),((q-1:Nat):Int),()))else some (.inl ((18446744073709551608:Int),s,(4294967295:Int),(4294967288:Int),(d:Int),q1,((r+4294967295:Nat):Int),(u:Int),((q-1:Nat):Int),())))else some (.inr ((18446744073709551608:Int),s,(d:Int),q1,(u:Int),(q:Int),())):=by
 have c:wrap .u64 ((q:Int)-1)=(((q-1:Nat)):Int)∨q=0:=by
  rcases Nat.eq_zero_or_pos q with h|h;exact .inr h;left;rw[a0G (by omega)];omega
 have a:wrap .u64 ((r:Int)+4294967295)=((r+4294967295:Nat):Int):=by rw[a0G (by omega)];omega
 have b:decide (wrap .u64 ((r:Int)+4294967295)≥(4294967296:Int))=decide (4294967296≤r+4294967295):=by
  rw[a];exact decide_eq_decide.2 (by omega)
 have g:q≠0→(bif decide (wrap .u64 ((r:Int)+4294967295)≥(4294967296:Int))then(some (.inr ((18446744073709551608:Int),s,(d:Int),q1,(u:Int),(wrap .u64 ((q:Int)-1)),())):Option (_ ⊕ (Int×Int×Int×Int×Int×Int×Unit)))else some (.inl ((18446744073709551608:Int),s,(4294967295:Int),(4294967288:Int),(d:Int),q1,(wrap .u64 ((r:Int)+4294967295)),(u:Int),(wrap .u64 ((q:Int)-1)),()))) =
   (if 4294967296≤r+4294967295 then some (.inr ((18446744073709551608:Int),s,(d:Int),q1,(u:Int),((q-1:Nat):Int),()))else some (.inl ((18446744073709551608:Int),s,(4294967295:Int),(4294967288:Int),(d:Int),q1,((r+4294967295:Nat):Int),(u:Int),((q-1:Nat):Int),()))):=fun e=>by
  rw[b,c.resolve_right e,a];exact b7p ..
 by_cases h1:4294967296≤q
 have f:decide ((q:Int)≥(4294967296:Int))=true:=decide_eq_true (by omega);rw[if_pos (.inl h1),←g (by omega)];unfold a1P;dsimp only;rw[f,cT,oB];have f:decide ((q:Int)≥(4294967296:Int))=false:=decide_eq_false (by omega);have m:wrap .u64 ((q:Int)*4294967288)=((q*4294967288:Nat):Int):=by rw[a0G (by omega)];omega
 have o:wrap .u64 (wrap .u64 ((4294967296:Int)*(r:Int))+(d:Int))=((4294967296*r+d:Nat):Int):=by rw[a0G (n:=4294967296*(r:Int)) (by omega),a0G (by omega)];omega
 by_cases h2:4294967296*r+d<q*4294967288
 have k:decide (wrap .u64 ((q:Int)*4294967288) > wrap .u64 (wrap .u64 ((4294967296:Int)*(r:Int))+(d:Int)))=true:=decide_eq_true (by omega);rw[if_pos (.inr h2),←g (by omega)];unfold a1P;dsimp only;rw[f,cF,k,cT,oB];have k:decide (wrap .u64 ((q:Int)*4294967288) > wrap .u64 (wrap .u64 ((4294967296:Int)*(r:Int))+(d:Int)))=false:=decide_eq_false (by omega);rw[if_neg (by unfold a8K;omega)];unfold a1P;dsimp only;rw[f,cF,k,cF,oB]
theorem d4R{u d:Nat}{s q1:Int}(a:u<4294967295*4294967296+4294967288)(k:d<4294967296):
  y0s a1P ((18446744073709551608:Int),s,(4294967295:Int),(4294967288:Int),(d:Int),q1,((u%4294967295:Nat):Int),(u:Int),((u / 4294967295:Nat):Int),())=some ((18446744073709551608:Int),s,(d:Int),q1,(u:Int),((b5Q u d 4294967295 4294967288:Nat):Int),()):=by
 have h:u / 4294967295≤4294967297:=by omega
 have g:u%4294967295<4294967295:=a09 _ (by omega);unfold b5Q
 revert h g
 generalize u / 4294967295=q;generalize u%4294967295=r;intro h g;have f:=b7r (s:=s) (q1:=q1) (u:=u) k h (Nat.lt_succ_of_lt g)
 by_cases c1:a8K 4294967288 d q r
 ·rw[if_pos c1]at f⊢
  by_cases c2:4294967296≤r+4294967295
  simp_all[a0C]
  ·rw[if_neg c2]at f⊢;rw[a0E f];have b:=b7r (s:=s) (q1:=q1) (u:=u) (q:=q-1) (r:=r+4294967295) k (by omega) (by omega)
   by_cases c3:a8K 4294967288 d (q-1) (r+4294967295)
   all_goals simp_all[Nat.sub_sub,a0C]
 simp_all[a0C]
theorem d7t(n:Int):wrap .u64 n=n%18446744073709551616:=by rfl
theorem d3Q{u d Q:Nat}(h:Q*18446744073709551608≤u*4294967296+d)(g:u*4294967296+d<Q*18446744073709551608+18446744073709551608):
  wrap .u64 (wrap .u64 (wrap .u64 ((u:Int)*4294967296)+(d:Int))-wrap .u64 ((Q:Int)*18446744073709551608))=(((u*4294967296+d)%18446744073709551608:Nat):Int):=by
 grind[d7t]
theorem c7d{u:Nat}(h:u<18446744073709551616):wrap .u64 ((u:Int)-wrap .u64 (((u / 4294967295:Nat):Int)*4294967295))=((u%4294967295:Nat):Int):=by
 grind[a0G]
theorem sh3(n:Nat):A0n .u64 (n:Int) 3=((n*8%18446744073709551616:Nat):Int):=by
 rfl
theorem d1X(lo:Nat):a2B (0,(lo:Int),(2305843009213693951:Int))=some (wrap .u64 (a30 (lo:Int) 2305843009213693951),((lo%2305843009213693951:Nat):Int)):=by
 rfl
theorem d7u:wrap .u64 3=3:=by rfl
theorem d4S:wrap .u64 (64-3)=((61:Nat):Int):=by rfl
theorem d7v:A0n .u64 2305843009213693951 3=18446744073709551608:=by rfl
theorem d7w:A0o .u64 18446744073709551608 32=4294967295:=by rfl
theorem d7x:bits .u64 .and 18446744073709551608 4294967295=4294967288:=by rfl
theorem d7y:((2305843009213693951:Int)==0)=false:=by rfl
theorem d7z:decide ((3:Int)<0)=false:=by rfl
theorem d7A:decide (((61:Nat):Int)<0)=false:=by rfl
theorem d7B:((4294967295:Int)==0)=false:=by rfl
theorem d0Q{u d Q v:Nat}(hv:(u*4294967296+d)%18446744073709551608=v)(h:Q*18446744073709551608≤u*4294967296+d)(g:u*4294967296+d<Q*18446744073709551608+18446744073709551608):
  wrap .u64 (wrap .u64 (wrap .u64 ((u:Int)*4294967296)+(d:Int))-wrap .u64 ((Q:Int)*18446744073709551608))=(v:Int):=by
 simp_all[d3Q]
theorem d3l{u:Nat}(h:u<18446744073709551616):wrap .u64 ((u / 4294967295:Nat):Int)=((u / 4294967295:Nat):Int):=a0G (by omega)
theorem d3R{hi lo u d e v r:Nat}(hv:(u*4294967296+d)%18446744073709551608=v)(o:(v*4294967296+e)%18446744073709551608=r)(z:hi≠0)(A:hi<2305843009213693951)(p:hi*8+lo / 2305843009213693952=u)(j:lo*8%18446744073709551616 / 4294967296=d)(l:lo*8%18446744073709551616%4294967296=e)(B:lo<18446744073709551616)
  (h:u<4294967295*4294967296+4294967288)(f:d<4294967296)(a:e<4294967296):
  ∃q:Int,a2B ((hi:Int),(lo:Int),(2305843009213693951:Int))=some (q,((r / 8:Nat):Int)):=by
 have b:((hi:Int)==0)=false:=by simp_all
 have c:decide ((2305843009213693951:Int)≤(hi:Int))=false:=decide_eq_false (by omega);have i:hi*8%18446744073709551616=hi*8:=by omega
 have m:bits .u64 .or ((hi*8:Nat):Int) (A0o .u64 (lo:Int) ((61:Nat):Int))=(u:Int):=by
  rw[c5o (k:=61) (by omega),show 2^61=2305843009213693952 from rfl,e1Z (by omega) (by omega),p]
 have t:=d4Q (u0:=e) (s:=3) h f;have C:=d0Q hv (c9g rfl h f).1 (c9g rfl h f).2.1;have g:v<4294967295*4294967296+4294967288:=by grind
 have l1:=d4R (s:=3) (q1:=((b5Q u d 4294967295 4294967288:Nat):Int)) g a;have D:=d0Q o (c9g rfl g a).1 (c9g rfl g a).2.1;have w:=c7d (u:=u) (a05 h (by simp));have r2:=c7d (u:=v) (a05 g (by simp));have x:wrap .u64 ((u / 4294967295:Nat):Int)=((u / 4294967295:Nat):Int):=d3l (a05 h (by simp));have y:wrap .u64 ((v / 4294967295:Nat):Int)=((v / 4294967295:Nat):Int):=d3l (a05 g (by simp));have q1:a30 (u:Int) 4294967295=((u / 4294967295:Nat):Int):=rfl;have E:a30 (v:Int) 4294967295=((v / 4294967295:Nat):Int):=rfl;have g8:∀n:Nat,A0o .u64 (n:Int) 3=((n / 8:Nat):Int):=fun n=>c5o (k:=3) (by omega);unfold a2B;dsimp only;rw[d7y,cF,c,cF,b,cF,d4P,oB,d7u,d7z,cF,cF,d4S,d7A,cF,cF,d7v,d7w,d7B,cF,d7x,sh3 hi,i,m,sh3 lo,d0P,j,d3k,l,q1,x,w,t,oB];simp_all
theorem d3S{hi lo:Nat}(h:hi<prm)(g:lo<18446744073709551616):∃q:Int,a2B ((hi:Int),(lo:Int),(2305843009213693951:Int))=some (q,(((hi*18446744073709551616+lo)%prm:Nat):Int)):=by
 by_cases h0:hi=0
 subst h0;rw[Nat.zero_mul,a24];exact⟨_,d1X lo⟩;rw[←d4N hi lo];exact d3R rfl rfl h0 h rfl rfl rfl g (d1V h g) (Nat.div_lt_of_lt_mul (Nat.lt_of_lt_of_le (a09 _ (by omega)) (by omega))) (a09 _ (by omega))
theorem b6h{a b c:Nat}(g:a<prm)(hb:b<prm)(f:c≤prm):a4U ((a:Int),(b:Int),(c:Int))=some (((a*b+c)%prm:Nat):Int):=by
 have k:=d0O g hb f;unfold prm at g hb f k;have l:=d1W (a:=a) (b:=b) (by omega) (by omega);have j:a7O (((a*b%18446744073709551616:Nat):Int),(c:Int),(0:Int))=some ((((a*b%18446744073709551616+c)%18446744073709551616:Nat):Int),(((a*b%18446744073709551616+c) / 18446744073709551616:Nat):Int)):=rfl;obtain⟨hi,h⟩:∃hi,(a*b+c) / 18446744073709551616=hi:=⟨_,rfl⟩;rw[h]at k;have i:wrap .u64 (((a*b / 18446744073709551616:Nat):Int)+((a*b%18446744073709551616+c) / 18446744073709551616:Nat))=(hi:Int):=by
  grind[a0G]
 obtain⟨q,d⟩:=d3S (hi:=hi) (lo:=(a*b%18446744073709551616+c)%18446744073709551616) (by unfold prm;omega) (by omega);have e:hi*18446744073709551616+(a*b%18446744073709551616+c)%18446744073709551616=a*b+c:=by omega
 rw[e]at d;have t:Int.tmod (hi:Int) 2305843009213693951=(hi:Int):=by
  grind
 unfold a4U a7P;simp_all
theorem b7s(l:List Int)(n i:Int):∀(j k:Nat)(s:Int),k+j=8→y0s a6t (s,l,n,i,(k:Int),())=some (rep e32 j s,l,n,i,())
 |0,k,s,h=>by
  obtain rfl:k=8:=by omega
  rfl
 |j+1,k,s,h=>by
  have d:decide ((k:Int)<8)=true:=by grind
  rw[a0E (s':=(e32 s,l,n,i,((k+1:Nat):Int),())) (by
   simp only[a6t,d,cT,a0A (show k<1000000 by omega),e32]
   grind)]
  exact b7s l n i j (k+1) (e32 s) (by omega)
theorem b9O{l:List Int}(k:short l):∀(rest done:List Int)(s:BitVec 32),done++rest=l→(∀b∈rest,0≤b∧b<256)→
  y0s a4h (((s.toNat:Nat):Int),l,(l.length:Int),(done.length:Int),())=some ((((d1R s (rest.map (a19 32))).toNat:Nat):Int),())
 | [],done,s,hd,_=>by
  obtain rfl:done=l:=by simp_all
  exact a0C (by simp only[a4h,dge,cF];rfl)
 |x::rest,done,s,hd,hb=>by
  have g:done.length<l.length:=by grind
  have a:m0k l (done.length:Int)=some x:=by grind[a0B]
  have c:=hb x (by simp);have e:bits .u32 .xor ((s.toNat:Nat):Int) (wrap .u32 x)=(((s ^^^ a19 32 x).toNat:Nat):Int):=by
   rw[←b9N]
   grind[a31,wrap,IntKind.bits]
  have f:=b7s l (l.length:Int) (done.length:Int) 8 0 (bits .u32 .xor ((s.toNat:Nat):Int) (wrap .u32 x)) rfl;rw[e,b8h]at f;rw[a0E (s':=((((c5n s (a19 32 x)).toNat:Nat):Int),l,(l.length:Int),(((done++[x]).length:Nat):Int),())) (by
   simp only[a4h,dlt g,cT,a,oB,e]
   erw[f]
   simp only[oB,a0A (a05 g k)];simp[c5n])]
  exact b9O k rest (done++[x]) _ (by simp_all) (fun b h=>hb b (by grind))
theorem c5p{l:List Int}(g:short l)(hb:∀b∈l,0≤b∧b<256):a3W l=some ((a7M l:Nat):Int):=by
 have h:=b9O g l [] 0xffffffff#32 rfl hb;rw[a01]at h;unfold a3W
 erw[h]
 simp only[oB];rw[show IntKind.max .u32=(((0xffffffff#32).toNat:Nat):Int)from rfl,b9N];rfl
theorem b9P{l:List Int}(k:short l):∀(rest done:List Int)(h:Nat),done++rest=l→h<prm→(∀b∈rest,0≤b∧b<256)→
  y0s a6y ((h:Int),l,(l.length:Int),(done.length:Int),())=some (((prs h (rest.map Int.toNat):Nat):Int),())
 | [],done,h,hd,_,_=>by
  obtain rfl:done=l:=by simp_all
  exact a0C (by simp only[a6y,dge,cF];rfl)
 |x::rest,done,h,hd,hh,hb=>by
  have g:done.length<l.length:=by grind
  have d:m0k l (done.length:Int)=some x:=by grind[a0B]
  have i:=hb x (by simp);have e:wrap .u64 ((wrap .u64 x)+(1:Int))=((x.toNat+1:Nat):Int):=by grind[a0G]
  have f:=b6h (a:=h) (b:=1000003) (c:=x.toNat+1) hh (by decide) (by unfold prm;omega);rw[a0E (s':=((((h*1000003+(x.toNat+1))%prm:Nat):Int),l,(l.length:Int),(((done++[x]).length:Nat):Int),())) (by
   simp only[a6y,dlt g,cT,d,oB,e]
   erw[f]
   simp[a0A (a05 g k)])]
  exact b9P k rest (done++[x]) _ (by simp_all) (a09 _ (by decide)) (fun b h=>hb b (by grind))
theorem d1Y{l:List Int}(g:short l)(hb:∀b∈l,0≤b∧b<256):a6R l=some ((prI l:Nat):Int):=by
 have h:=b9P g l [] 0 rfl (by decide) hb;unfold a6R
 erw[h]
 rfl
theorem b4d:∀(k n p s:Nat),n<2^k→n<4611686018427387904→p<prm→s<prm→y0s a6z ((n:Int),(p:Int),(s:Int),())=some (((pwr k n p s:Nat):Int),())
 |0,n,p,s,hn,_,_,_=>by
  obtain rfl:n=0:=by omega
  rfl
 |k+1,n,p,s,hn,hn2,hp,hs=>by
  by_cases h0:n=0
  subst h0;rfl;have d:decide ((n:Int) > 0)=true:=by grind
  have f:Int.tmod (n:Int) 2=((n%2:Nat):Int):=rfl;have e:wrap .i64 (a30 (n:Int) 2)=((n / 2:Nat):Int):=by rw[show a30 (n:Int) 2=((n / 2:Nat):Int)from rfl,a0J (by omega)]
  have g:=b6h (c:=0) hs hs (by simp);have h:=b6h (c:=0) hp hs (by simp);have a:n / 2<2^k:=by omega
  simp only[a33,nZ]at g h;have m:=a09 (s*s) (show 0<prm by decide);rw[pwr,if_neg h0]
  by_cases h1:n%2=1
  rw[if_pos h1,a0E (s':=(((n / 2:Nat):Int),((p*s%prm:Nat):Int),((s*s%prm:Nat):Int),())) (by
   simp only[a6z,d,cT,f,h1,show(((1:Nat):Int)==1)=true from rfl];simp_all)]
  exact b4d k _ _ _ a (by omega) (a09 _ (by decide)) m;have b:n%2=0:=by omega
  rw[if_neg h1,a0E (s':=(((n / 2:Nat):Int),(p:Int),((s*s%prm:Nat):Int),())) (by
   simp only[a6z,d,cT,f,b,show(((0:Nat):Int)==1)=false from rfl,cF,oB];simp_all)]
  exact b4d k _ _ _ a (by omega) hp m
theorem d3T{a b n:Nat}(f:a<prm)(hb:b<prm)(h:n<4611686018427387904):b0G ((a:Int),(b:Int),(n:Int))=some ((((a*(1000003^n%prm)+b)%prm:Nat):Int),true):=by
 have hp:=b4d 62 n 1 1000003 h h (by decide) (by decide);rw[d4K 62 n 1 1000003 h (by decide),Nat.one_mul]at hp;have j:=b6h (c:=b) f (a09 (1000003^n) (show 0<prm by decide)) (Nat.le_of_lt hb);unfold prm at f hb;have k:decide ((a:Int)≥(2305843009213693951:Int))=false:=by grind
 have d:decide ((b:Int)≥(2305843009213693951:Int))=false:=by grind
 have e:decide ((n:Int)<(0:Int))=false:=by simp
 have i:v0r (n:Int) 0=(n:Int):=by rfl
 have g:a9e (n:Int)=some ((1000003^n%prm:Nat):Int):=by
  simp_all[a9e]
 simp only[b0G,k,d,e,cF,oB,g];simp_all
theorem c5q(b:a1e)(N:Int){i:Nat}:∀(rest done:List (List Int)) (out:List Int),done++rest=b.2.1→b.2.1.length≤8→(∀r∈rest,i<r.length)→out.length+rest.length<1000000→
  y0s a5F ((i:Int),N,(i:Int),b.2.1,(b.2.1.length:Int),(done.length:Int),out,b,())=some (N,(i:Int),out++rest.map (fun r=>r.getD i 0),b,())
 | [],done,out,hd,_,_,_=>by
  simp_all[a0C,a5F]
 |r::rest,done,out,hd,h8,hr,ho=>by
  have g:done.length<b.2.1.length:=by grind
  have f:m0k b.2.1 (done.length:Int)=some r:=by grind[a0B]
  have k:=hr r (by simp);have h:m0k r (i:Int)=some (r.getD i 0):=by simp_all[a0B]
  simp at ho;rw[a0E (s':=((i:Int),N,(i:Int),b.2.1,(b.2.1.length:Int),(((done++[r]).length:Nat):Int),out++[r.getD i 0],b,())) (by
   simp only[a5F,dlt g,cT,f,h,oB,a0N (show out.length+1<2147483648 by omega),a0A (show done.length<1000000 by omega)]
   simp)]
  rw[c5q b N rest (done++[r]) _ (by simp_all) h8 (fun q a=>hr q (by grind)) (by grind)]
  simp
theorem c5r{b:a1e}(hb:a1Z b):a4t b=some (wvB b):=by
 obtain⟨g1,g2,g3,g4,g5,g6,g7⟩:=id hb;have hlen:∀r∈b.2.1,r.length=a0T b:=fun r hr=>by
  simp_all
 have hw:∀i,i≤4096→(wv i b.2.1).length≤32768:=fun i hi=>by
  rw[c5m]
  calc i*b.2.1.length≤4096*8:=a16 hi g4
   _=32768:=rfl
 have h:=a1t (f:=a5G) (fun i=>(((a0T b:Nat):Int),(i:Int),wv i b.2.1,b,())) (a0T b) (b:=(wv (a0T b) b.2.1,())) (fun i hi=>by
  have h0:=c5q b ((a0T b:Nat):Int) (i:=i) b.2.1 [] (wv i b.2.1) rfl g4 (fun r hr=>by simp_all) (by grind);rw[a01]at h0;simp only[a5G,dlt hi,cT]
  grind[a0A,wv,a35]) (by simp_all[a5G])
 unfold a4t;simp[b2l,hb,a7g]
 erw[h]
 rfl
theorem b3E{b:a1e}:(wvB b).length=a0T b*b.2.1.length:=c5m _
theorem c7e{b:a1e}(hb:a1Z b):(wvB b).all (fun x=>a1E x b.1)=true:=by
 obtain⟨g,f,k,a,c,d,e⟩:=hb;refine lA.2 fun x h=>?_
 unfold wvB wv at h
 grind
theorem d3U{b:a1e}(hb:a1Z b):a9d b=some (a1r b.1 (wvB b),0):=by
 have hl:(wvB b).length≤1000000:=by
  rw[b3E]
  calc a0T b*b.2.1.length≤4096*8:=a16 hb.2.2.2.2.2.1 hb.2.2.2.1
   _≤1000000:=by simp
 unfold a9d;simp only[b2l,hb,decide_true,oB,bT,cF,c5r hb,c1W ⟨hb.1,hb.2.1⟩ hl (c7e hb)]
theorem c2x{b:a1e}(hb:a1Z b){w:Int}(h:b.1=w)(d:List Int):a3P (((prI (a1r w d):Nat):Int),b)=some (((prI (a1r w (d++wvB b)):Nat):Int),true):=by
 subst h;have g:=b9M ⟨hb.1,hb.2.1⟩ (wvB b);have f:(wvB b).length≤4096*8:=by rw[b3E];exact a16 hb.2.2.2.2.2.1 hb.2.2.2.1
 have k:=d3T (c5l (a1r b.1 d)) (c5l (a1r b.1 (wvB b))) (n:=(a1r b.1 (wvB b)).length) (by omega);unfold a3P;simp only[d3U hb,oB,show((0:Int) != 0)=false from rfl,cF,d1Y (show short (a1r b.1 (wvB b))by unfold short;omega) (b5N _ _),c9b,d3O];simp_all
theorem c5s(a b:Nat):(a%prm+b)%prm=(a+b)%prm:=by simp
theorem d4T(n:Nat):(n%2305843009213693952+n / 2305843009213693952)%prm=n%prm:=by
 grind[prm]
theorem d3V(a:Nat):(a%1099511627776*1000003%prm+(a / 1099511627776*1000003*1099511627776%2305843009213693952+a / 1099511627776*1000003 / 2097152)%prm)%prm=a*1000003%prm:=by
 rw[c5s,b2p];have h:a / 1099511627776*1000003 / 2097152=a / 1099511627776*1000003*1099511627776 / 2305843009213693952:=by
  omega
 rw[h,←b2p,d4T,b2p,show a%1099511627776*1000003+a / 1099511627776*1000003*1099511627776=a*1000003 by omega]
theorem c5t{α β:Type}{g:α→Option β}:∀{l:List α}{r:List β},a7Y g l=some r→∀b∈r,∃a∈l,g a=some b
 | [],r,h,b,hb=>by cases h;cases hb
 |a::l,r,h,b,hb=>by
  simp only[a7Y,a04]at h;obtain⟨c,k,m,d,e⟩:=h;cases e;rcases mC.1 hb with rfl|hb;exact⟨a,by simp,k⟩;obtain⟨f,i,j⟩:=c5t d b hb;exact⟨f,by simp[i],j⟩
theorem c9h:∀(k:Int)(l:List Int){r},upO k l=some r→r.length=l.length:=fun k l r h=>by
 unfold upO at h;cases hc:l.all (fun x=>a0D x&&a0D (A0n .i64 x k))with
 |false=>rw[hc]at h;cases h
 |true=>rw[hc]at h;cases h;simp
theorem c6M{s:Sub}(u:SmallS s){n:Int}{r:List Int}(h:a1x s n=some r):((r.length:Nat):Int)=n:=by
 unfold a1x at h
 split at h
 rename_i hp;obtain⟨v,w,x,y,z,A,B,a,C,q,t,b⟩:=hp;unfold c1I at h
 split at h
 cases h;simp;omega;rename_i c;obtain⟨l,g,p⟩:=a04.1 h;rw[c9h _ _ p];unfold backP at g;unfold a0Y at a b
 split at g
 rename_i k;cases g;simp only[k]at a;simpa using a;rename_i d;obtain⟨f,-⟩:=b ⟨c,d⟩
 split at g
 rename_i k;rw[b7c g];simp[k]at a f;omega;rename_i e
 split at g
 rename_i k;rw[a6q g];simp[k]at a f;omega;rename_i i
 split at g
 rename_i k;obtain⟨m,o,g⟩:=a04.1 g;rw[b5u g,a6q o];simp[k]at a f;omega;rename_i j;rw[b4m g];simp only[c,d,e,i,j,if_false,or_self]at f;omega;cases h
theorem b4e{f:a0S}(o:∀s∈f.2.2.2.2.1,SmallS s){b:a1e}(h:a2m f=some b):a1Z b∧b.1=f.2.2.1.2.2.1∧f.2.1=((a0T b:Nat):Int):=by
 obtain⟨t,p,-⟩:=b2m h;unfold a2m at h
 split at h
 ·obtain⟨k,u,h⟩:=a04.1 h
  split at h
  ·rename_i e;obtain⟨g,v,h⟩:=a04.1 h
   split at h
   ·rename_i hb;cases h;refine⟨hb,rfl,?_⟩;have n:=c1R e.1;have i:∀r∈k,((r.length:Nat):Int)=f.2.1:=fun r i=>by
     obtain⟨s,j,m⟩:=c5t u r i;exact c6M (o s j) m
    have q:k.headD []∈k:=by
     have:=e.1.1
     cases k with
     |nil=>simp at this
     |cons a l=>simp
    obtain⟨w,x⟩:=c2t f.2.2.2.1 n rfl e.2.2.2.2 v;have c:1≤g.length:=hb.2.2.1;have d:g.headD []∈g:=by
     cases g with
     |nil=>simp at c
     |cons a l=>simp
    have:=(w _ d).1
    show f.2.1=(((g.headD []).length:Nat):Int);rw[this];exact(i _ q).symm
   cases h
  cases h
 cases h
theorem b7t{a b:Nat}(h:a+b<18446744073709551616):b0V ((a:Int),(b:Int))=some (((a+b)%prm:Nat):Int):=by
 unfold b0V;simp only[];rw[show((a:Int)+(b:Int))=((a+b:Nat):Int)from rfl,a0G (by omega)];rfl
theorem d1Z(a:Nat):Int.tmod ((a:Nat):Int) (2305843009213693951:Int)=((a%prm:Nat):Int):=by
 rw[show(2305843009213693951:Int)=((prm:Nat):Int)from rfl,Int.ofNat_tmod]
theorem d4U(M:Nat):A0n .u64 (M:Int) (40:Int)=((M*1099511627776%18446744073709551616:Nat):Int):=by
 unfold A0n;show wrap .u64 ((M:Int)*2^(min (((40:Nat):Int)).toNat 64))=_;rw[tN,Nat.min_eq_left (by omega),d3j];have e:(M:Int)*2^40=((M*1099511627776:Nat):Int):=by omega
 rw[e];generalize M*1099511627776=K;omega
theorem c6N{a:Nat}(h:a<prm):b2A (a:Int)=some ((a*1000003%prm:Nat):Int):=by
 have m:a<2305843009213693951:=h;have c:bits .u64 .and (a:Int) (1099511627775:Int)=((a%1099511627776:Nat):Int):=by
  have:=b2d (y:=a) (k:=40) (by omega) (by omega)
  rw[show wrap .u64 (A0n .u64 1 ((40:Nat):Int)-1)=(1099511627775:Int)from by kernel_rfl]at this;exact this
 have d:A0o .u64 (a:Int) (40:Int)=((a / 1099511627776:Nat):Int):=a3G (o:=40) (by omega);have e:wrap .u64 (((a%1099511627776:Nat):Int)*(1000003:Int))=((a%1099511627776*1000003:Nat):Int):=by rw[a0G (by omega)];omega
 have g:wrap .u64 (((a / 1099511627776:Nat):Int)*(1000003:Int))=((a / 1099511627776*1000003:Nat):Int):=by rw[a0G (by omega)];omega
 obtain⟨M,f⟩:∃M:Nat,M=a / 1099511627776*1000003:=⟨_,rfl⟩;have p:M<2097158291456:=by omega
 have g:wrap .u64 (((a / 1099511627776:Nat):Int)*(1000003:Int))=(M:Int):=by rw[f];exact g
 have i:A0n .u64 (M:Int) (40:Int)=((M*1099511627776%18446744073709551616:Nat):Int):=d4U M;have j:bits .u64 .and ((M*1099511627776%18446744073709551616:Nat):Int) (2305843009213693951:Int)=((M*1099511627776%2305843009213693952:Nat):Int):=by
  have:=b2d (y:=M*1099511627776%18446744073709551616) (k:=61) (by omega) (by omega)
  rw[show wrap .u64 (A0n .u64 1 ((61:Nat):Int)-1)=(2305843009213693951:Int)from by kernel_rfl]at this;rw[this]
  have:M*1099511627776%18446744073709551616%2^61=M*1099511627776%2305843009213693952:=by omega
  rw[this]
 have l:A0o .u64 (M:Int) (21:Int)=((M / 2097152:Nat):Int):=a3G (o:=21) (by omega);have e8:wrap .u64 (((M*1099511627776%2305843009213693952:Nat):Int)+((M / 2097152:Nat):Int))=((M*1099511627776%2305843009213693952+M / 2097152:Nat):Int):=by rw[a0G (by omega)];omega
 have l1:a%1099511627776*1000003%prm<prm:=a09 _ (by decide);have l2:(M*1099511627776%2305843009213693952+M / 2097152)%prm<prm:=a09 _ (by decide);have hp:prm=2305843009213693951:=rfl;have k:=b7t (a:=a%1099511627776*1000003%prm) (b:=(M*1099511627776%2305843009213693952+M / 2097152)%prm) (by omega);unfold b2A;simp only[c,d,e,g,i,j,l,e8,d1Z,k,oB];subst f;exact congrArg (fun n:Nat=>some ((n:Nat):Int)) (d3V a)
theorem b3F{l:List Int}(k:short l):∀(rest done:List Int)(h:Nat),done++rest=l→h<prm→(∀b∈rest,0≤b∧b<256)→
  y0s a8y (l,(h:Int),(done.length:Int),())=some (((prs h (rest.map Int.toNat):Nat):Int),())
 | [],done,h,hd,_,_=>by
  obtain rfl:done=l:=by simpa using hd
  exact a0C (by simp only[a8y,dge,cF];rfl)
 |x::rest,done,h,hd,hh,hb=>by
  have g:done.length<l.length:=by rw[←hd];simp
  have c:m0k l (done.length:Int)=some x:=by rw[a0B g];subst hd;simp
  have i:=hb x (by simp);have e:wrap .u64 ((wrap .u64 x)+(1:Int))=((x.toNat+1:Nat):Int):=by rw[a0G (n:=x) (by omega),a0G (by omega)];omega
  have d:h*1000003%prm<prm:=a09 _ (by decide);have hp:prm=2305843009213693951:=rfl;have f:=b7t (a:=h*1000003%prm) (b:=x.toNat+1) (by omega);rw[c5s]at f;rw[a0E (s':=(l,(((h*1000003+(x.toNat+1))%prm:Nat):Int),(((done++[x]).length:Nat):Int),())) (by
   simp only[a8y,dlt g,cT,c,oB,e,c6N hh];rw[f];simp[a0A (a05 g k)])]
  exact b3F k rest (done++[x]) _ (by simpa using hd) (a09 _ (by decide)) (fun b h=>hb b (by simp[h]))
theorem c5u{l:List Int}(g:short l)(hb:∀b∈l,0≤b∧b<256):b1B l=some ((prI l:Nat):Int):=by
 have h:=b3F g l [] 0 rfl (by decide) hb;unfold b1B
 erw[h]
 rfl
theorem b2R(l:List Int)(i:Int):∀(j k:Nat)(s:Int),k+j=8→y0s a7S (l,s,i,(k:Int),())=some (l,rep e32 j s,i,())
 |0,k,s,h=>by
  obtain rfl:k=8:=by omega
  exact a0C rfl
 |j+1,k,s,h=>by
  have d:decide ((k:Int)<8)=true:=by simp;omega
  rw[a0E (s':=(l,e32 s,i,((k+1:Nat):Int),())) (by
   simp only[a7S,d,cT,a0A (show k<1000000 by omega),e32];cases (bits .u32 .and s 1==1:Bool)<;>rfl)]
  exact b2R l i j (k+1) (e32 s) (by omega)
theorem b3G{l:List Int}(k:short l):∀(rest done:List Int)(s:BitVec 32),done++rest=l→(∀b∈rest,0≤b∧b<256)→
  y0s a5m (l,((s.toNat:Nat):Int),(done.length:Int),())=some ((((d1R s (rest.map (a19 32))).toNat:Nat):Int),())
 | [],done,s,hd,_=>by
  obtain rfl:done=l:=by simpa using hd
  exact a0C (by simp only[a5m,dge,cF];rfl)
 |x::rest,done,s,hd,hb=>by
  have g:done.length<l.length:=by rw[←hd];simp
  have a:m0k l (done.length:Int)=some x:=by rw[a0B g];subst hd;simp
  have c:=hb x (by simp);have e:bits .u32 .xor ((s.toNat:Nat):Int) (wrap .u32 x)=(((s ^^^ a19 32 x).toNat:Nat):Int):=by
   rw[←b9N];congr 1;rw[a31];simp[wrap,IntKind.bits,IntKind.signed];omega
  have f:=b2R l (done.length:Int) 8 0 (bits .u32 .xor ((s.toNat:Nat):Int) (wrap .u32 x)) rfl;rw[e,b8h]at f;rw[a0E (s':=(l,(((c5n s (a19 32 x)).toNat:Nat):Int),(((done++[x]).length:Nat):Int),())) (by
   simp only[a5m,dlt g,cT,a,oB,e]
   erw[f]
   simp only[oB,a0A (a05 g k)];simp[c5n])]
  exact b3G k rest (done++[x]) _ (by simpa using hd) (fun b h=>hb b (by simp[h]))
theorem b8j{l:List Int}(g:short l)(hb:∀b∈l,0≤b∧b<256):a7E l=some ((a7M l:Nat):Int):=by
 have h:=b3G g l [] 0xffffffff#32 rfl hb;rw[a01]at h;unfold a7E
 erw[h]
 simp only[oB];rw[show IntKind.max .u32=(((0xffffffff#32).toNat:Nat):Int)from rfl,b9N];unfold a7M d1T;rw[←BitVec.allOnes_xor];rfl
theorem b5R(n:Nat):∀(j:Nat)(out:List Int),j≤8→out.length+j≤8→y0s a4W ((n:Int),(j:Int)-1,out,())=some (out++a7h j n,())
 |0,out,_,_=>by
  rw[a0C (b:=(out,())) rfl];simp[a7h,leB]
 |j+1,out,h,ho=>by
  have f:wrap .u64 (wrap .i64 ((8:Int)*(j:Int)))=((8*j:Nat):Int):=by
   rw[a0J (by omega),a0G (by omega)];omega
  have g:decide (((8*j:Nat):Int)<0)=false:=by simp;omega
  have d:decide ((j:Int)≥0)=true:=by simp
  have k:wrap .u8 (A0o .u64 (n:Int) ((8*j:Nat):Int))=((n / 256^j%256:Nat):Int):=by
   rw[a3G (by omega),a2L,show(256:Nat)=2^8 from rfl,←Nat.pow_mul];omega
  rw[show((j+1:Nat):Int)-1=(j:Int)by omega,a0E (s':=((n:Int),(j:Int)-1,out++[((n / 256^j%256:Nat):Int)],())) (by
   simp only[a4W,d,cT,f,g,cF,a0N (show out.length+1<2147483648 by omega),k,a0J (n:=(j:Int)-1) (by omega),a26])]
  rw[b5R n j _ (by omega) (by rw[lN,a00];omega)];unfold a7h;rw[b1R]
  simp
theorem b9Q{n k:Nat}(g:k=8∨k=4):a4X ((n:Int),(k:Int))=some (a7h k n):=by
 have h:=b5R n k [] (by omega) (by simp;omega);unfold a4X;rw[show wrap .i64 (v0r (v0s (k:Int) 8) 0-1)=(k:Int)-1 from by rcases g with rfl|rfl<;>rfl,h];rfl
theorem b7u(b:a1e):a7y b=some ((a0T b:Nat):Int):=by
 unfold a7y a0T;cases hc:b.2.1 with
 |nil=>rfl
 |cons r c=>
  have d:((((r::c).length:Nat):Int)==0)=false:=by simp;omega
  simp only[d,cF,show m0k (r::c) (0:Int)=some r from rfl,oB,List.headD_cons]
theorem b5S(b:a1e){i:Nat}:∀(rest done:List (List Int)) (out:List Int),done++rest=b.2.1→b.2.1.length≤8→(∀r∈rest,i<r.length)→out.length+rest.length<1000000→
  y0s a7z ((i:Int),(done.length:Int),out,b,())=some ((i:Int),out++rest.map (fun r=>r.getD i 0),b,())
 | [],done,out,hd,_,_,_=>by
  have e:done=b.2.1:=by simpa using hd
  rw[a0C (b:=((i:Int),out,b,())) (by rw[e];simp only[a7z,dge,cF])]
  simp
 |r::rest,done,out,hd,h8,hr,ho=>by
  have g:done.length<b.2.1.length:=by rw[←hd];simp
  have k:m0k b.2.1 (done.length:Int)=some r:=by rw[a0B g];simp[←hd]
  have h:=hr r (by simp);have f:m0k r (i:Int)=some (r.getD i 0):=by rw[a0B h,lD,lG h];rfl
  simp only[lC]at ho;rw[a0E (s':=((i:Int),(((done++[r]).length:Nat):Int),out++[r.getD i 0],b,())) (by
   simp only[a7z,dlt g,cT,k,f,oB,a0N (show out.length+1<2147483648 by omega),a0A (show done.length<1000000 by omega)]
   simp)]
  rw[b5S b rest (done++[r]) _ (by simpa using hd) h8 (fun q a=>hr q (by simp[a])) (by simp only[lN,a00];omega)]
  simp
theorem c5v{b:a1e}(hb:a1Z b):b0M b=some (wvB b):=by
 obtain⟨g1,g2,g3,g4,g5,g6,g7⟩:=id hb;have hlen:∀r∈b.2.1,r.length=a0T b:=fun r hr=>by
  have:=lA.1 g7 r hr
  simp only[bA,dT]at this;exact this.1
 have hw:∀i,i≤4096→(wv i b.2.1).length≤32768:=fun i hi=>by
  rw[c5m]
  calc i*b.2.1.length≤4096*8:=a16 hi g4
   _=32768:=rfl
 have h:=a1t (f:=a7A) (fun i=>((i:Int),wv i b.2.1,b,())) (a0T b) (b:=(wv (a0T b) b.2.1,())) (fun i hi=>by
  have h0:=b5S b (i:=i) b.2.1 [] (wv i b.2.1) rfl g4 (fun r hr=>by rw[hlen r hr];exact hi) (by have:=hw i (by omega);omega);rw[a01]at h0;simp only[a7A,b7u,oB,dlt hi,cT]
  erw[h0]
  simp only[oB,a0A (show i<1000000 by omega)];unfold wv;rw[a35,a27]
  simp) (by simp only[a7A,b7u,oB,dge,cF])
 unfold b0M;simp only[b2Q,hb,decide_true,oB,bT,cF]
 erw[h]
 rfl
theorem a3r{α:Type}(a:List α)(x:α)(b:List α):m0k (a++x::b) (a.length:Int)=some x:=by
 simp_all[a0B]
theorem b9R:∀(a b:List Pc)(st off:Nat),a2n st off (a++b)=a2n st off a++a2n (st+a1S a) (off+(a1T a).length) b
 | [],b,st,off=>by rfl
 |y::a,b,st,off=>by
  simp_all[a2n,b9R,a1S,a1T,a28]
theorem b5T{α:Type}(a:List α)(x d:α)(b:List α):(a++x::b).getD a.length d=x:=by
 rw[lD];simp
theorem c2y{all:List (List Int)}(g:all.length≤256)(h:∀p∈all,p.length≤700800):∀(rest done:List (List Int)) (out:List Int),done++rest=all→out.length+700800*rest.length≤190000000→
  y0s a7v ((all.length:Int),(done.length:Int),out,all,())=some (out++rest.flatten,())
 | [],done,out,hd,_=>by
  obtain rfl:done=all:=by simpa using hd
  rw[a0C (b:=(out,())) (by simp only[a7v,dge,cF])]
  simp
 |p::rest,done,out,hd,ho=>by
  have f:done.length<all.length:=by rw[←hd];simp
  have hp:all.getD done.length []=p:=by rw[←hd];exact b5T done p [] rest
  have a:=h p (by rw[←hd];simp);have k:decide ((0:Int)≤(done.length:Int))=true:=decide_eq_true (a22 _);simp only[lC]at ho;rw[a0E (s':=((all.length:Int),(((done++[p]).length:Nat):Int),out++p,all,())) (by
   simp only[a7v,dlt f,k,a29,cT,tN,hp,a0N (show out.length+p.length<2147483648 by omega),a0A (show done.length<1000000 by omega)]
   simp)]
  rw[c2y g h rest (done++[p]) (out++p) (by simpa using hd) (by simp only[lN];omega)]
  simp
theorem c6O:∀(l:List Nat),(∀n∈l,n<9223372036854775808)→∀b∈l.flatMap a1f,0≤b∧b<256:=fun l h b hb=>by
 obtain⟨n,g,hb⟩:=List.mem_flatMap.1 hb;exact b9E 8 n (by rw[show(128:Nat)^(8+1)=9223372036854775808 from by decide];exact h n g) b hb
theorem b5U{all:List a1e}(f:all.length≤256):∀(rest done:List a1e)(out:List Int),done++rest=all→(∀b∈rest,a1Z b)→out.length+32768*rest.length≤9000000→
  y0s a4A ((all.length:Int),(done.length:Int),out,all,())=some (out++rest.flatMap wvB,())
 | [],done,out,hd,_,_=>by
  obtain rfl:done=all:=by simpa using hd
  rw[a0C (b:=(out,())) (by simp only[a4A,dge,cF])]
  simp
 |p::rest,done,out,hd,hb,ho=>by
  have k:done.length<all.length:=by rw[←hd];simp
  have hp:all.getD done.length ((0:Int),([]:List (List Int)),())=p:=by rw[←hd];exact b5T done p _ rest
  have g:=hb p (by simp);have c:(wvB p).length≤4096*8:=by rw[b3E];exact a16 g.2.2.2.2.2.1 g.2.2.2.1
  have a:decide ((0:Int)≤(done.length:Int))=true:=decide_eq_true (a22 _);simp only[lC]at ho;rw[a0E (s':=((all.length:Int),(((done++[p]).length:Nat):Int),out++wvB p,all,())) (by
   simp only[a4A,dlt k,a,a29,cT,tN,hp,c5r g,oB,a0N (show out.length+(wvB p).length<2147483648 by omega),a0A (show done.length<1000000 by omega)]
   simp)]
  rw[b5U f rest (done++[p]) (out++wvB p) (by simpa using hd) (fun b h=>hb b (by simp[h])) (by simp only[lN];omega)]
  simp
def a4o(f:a0S):List Int:=((a2p f).getD ([],0)).1
def pcV(fm:a0M)(st:Nat)(x:Pc):Prop:=
 x.1.1=(st:Int)∧x.1.2.1=((a0T x.2.1:Nat):Int)∧x.1.2.2.1=fm∧a2d x.1=some (x.2.1,0)∧a2p x.1=some (x.2.2,0)∧
  (a2h x.1=some (x.2.1,true)∧a1A x.1=some (x.2.2,0))∧a1Z x.2.1∧x.2.1.1=fm.2.2.1∧a0T x.2.1≤4096∧1≤x.2.2.length∧x.2.2.length≤700800
def a4e(fm:a0M):Nat→List Pc→Prop
 |_,[]=>True
 |st,x::xs=>pcV fm st x∧a4e fm (st+a0T x.2.1) xs
theorem b7v{fm:a0M}:∀{xs:List Pc}{st:Nat},a4e fm st xs→(a1T xs).length≤700800*xs.length
 | [],_,_=>by simp[a1T]
 |x::xs,st,h=>by
  have:=b7v h.2
  have:=h.1.2.2.2.2.2.2.2.2.2.2
  simp only[a1T,a23,lN,lC]at *;omega
theorem b4f{fm:a0M}:∀{xs:List Pc}{st:Nat},a4e fm st xs→∀n∈nsP xs,n<1048704
 | [],_,_,n,hn=>by simp[nsP]at hn
 |x::xs,st,h,n,hn=>by
  have g:=h.1.2.2.2.2.2.2.2.2;simp only[nsP,a23,mA,mC,a07,or_false]at hn;rcases hn with(rfl|rfl)|hn;omega;omega;exact b4f h.2 n hn
theorem b9S{fm:a0M}:∀{xs:List Pc}{st:Nat},a4e fm st xs→xs.length≤a1S xs∧a1S xs≤4096*xs.length
 | [],_,_=>by simp[a1S]
 |x::xs,st,h=>by
  have g:=h.1.2.2.2.2.2.2.1.2.2.2.2.1;have f:=h.1.2.2.2.2.2.2.2.2.1
  have:=b9S h.2
  simp only[a1S,a18,List.sum_cons,lC]at *;omega
theorem a7i{fm:a0M}(f:a4d fm){xs:List Pc}(h:a4e fm 0 xs)(i:xs.length≤256):∀n∈a5T fm xs,n<1048704:=fun n g=>by
 simp only[a5T,mA,mC,a07,or_false]at g;obtain⟨k,a,b,c,d,e⟩:=f;rcases g with(rfl|rfl|rfl|rfl)|g;omega;omega;omega;omega;exact b4f h n g
theorem b9T{fm:a0M}(g:a4d fm){xs:List Pc}(h:a4e fm 0 xs)(k:xs.length≤256):(a2o fm xs).length≤6000:=by
 have a:=a8R (a5T fm xs) fun n f=>a05 (a7i g h k n f) (by decide);have b:(a5T fm xs).length=4+2*xs.length:=by simp[a5T,b3D];omega
 simp only[a2o,c1Y,lN,lC,a01,b2q];omega
theorem c2z{fm:a0M}{all:List Pc}(h:all.length≤256){t:a4Z}(b:t.1=fm)(a:t.2.2.2.1=a2n 0 0 all):∀(rest done:List Pc),done++rest=all→a4e fm (a1S done) rest→(a1T done).length≤700800*done.length→a1S done≤4096*done.length→
  y0s a1l (((a1S done:Nat):Int),(((a1T done).length:Nat):Int),((a2z fm done:Nat):Int),all.map (·.1),((all.map (·.1)).length:Int),(done.length:Int),done.map (·.2.2),done.map (·.2.1),t,()) =
   some (.inl (((a1S all:Nat):Int),((a2z fm all:Nat):Int),all.map (·.2.2),all.map (·.2.1),t,()))
 | [],done,hd,_,_,_=>by
  obtain rfl:done=all:=by simpa using hd
  exact a0C (by simp only[a1l,a02,dge,cF])
 |x::rest,done,hd,hr,hb,hl=>by
  obtain⟨⟨c,j,l,m,n,y,o,p,z,d,e⟩,hr2⟩:=hr;have f:done.length<(all.map (·.1)).length:=by rw[←hd];simp
  have k:all.length=done.length+(rest.length+1):=by rw[←hd];simp
  have r:m0k (all.map (·.1)) (done.length:Int)=some x.1:=by
   have:=a3r (done.map (·.1)) x.1 (rest.map (·.1))
   rw[a02]at this;rw[←hd,pA,a18];exact this
  have g:m0k t.2.2.2.1 (done.length:Int)=some (((a1S done:Nat):Int),(((a1T done).length:Nat):Int),()):=by
   have:=a3r (a2n 0 0 done) (((a1S done:Nat):Int),(((a1T done).length:Nat):Int),()) (a2n (a1S done+a0T x.2.1) ((a1T done).length+x.2.2.length) rest)
   rw[b1G]at this;rw[a,←hd,b9R];simp only[a2n,a24];exact this
  have q:eqT (.pair (.int .i64) (.pair (.int .i64) (.pair (.int .i64) .unit))) x.1.2.2.1 t.1=true:=by rw[l,b];exact b8e fm
  have s:=c2x o (w:=fm.2.2.1) p (a1y done);have n1:(x.1.1 != ((a1S done:Nat):Int))=false:=by rw[c];simp
  have n2:∀i:Int,(i != i)=false:=fun i=>by simp
  have u:((0:Int) != 0)=false:=rfl;have v:wrap .i64 (((a1S done:Nat):Int)+((a0T x.2.1:Nat):Int))=((a1S (done++[x]):Nat):Int):=by rw[b0Z,a0J (by omega)];omega
  have w2:wrap .i64 ((((a1T done).length:Nat):Int)+((x.2.2.length:Nat):Int))=(((a1T (done++[x])).length:Nat):Int):=by rw[b7o,lN,a0J (by omega)];omega
  rw[a0E (s':=(((a1S (done++[x]):Nat):Int),(((a1T (done++[x])).length:Nat):Int),((a2z fm (done++[x]):Nat):Int),all.map (·.1),((all.map (·.1)).length:Int),(((done++[x]).length:Nat):Int),(done++[x]).map (·.2.2),(done++[x]).map (·.2.1),t,())) (by
   simp only[a1l,dlt f,cT,r,oB];rw[q];simp only[bT,cF,oB,n1,g,n2,m,u,n]
   erw[s]
   simp only[oB,bT,cF,a02,a0N (show done.length+1<2147483648 by omega),cT,j,v,w2,a0A (show done.length<1000000 by omega)];simp[a2z,c9d])]
  exact c2z h b a rest (done++[x]) (by simpa using hd) (by rw[b0Z];exact hr2) (by rw[b7o];simp only[lN,a00];omega) (by rw[b0Z];simp only[lN,a00];omega)
theorem c7f{fm:a0M}(b:a4d fm){xs:List Pc}(c:a4e fm 0 xs)(g:xs.length≤256):a3E (mkT fm xs)=some (xs.map (·.2.2),xs.map (·.2.1),true):=by
 have h:=c2z g (t:=mkT fm xs) rfl rfl xs [] rfl c (by simp[a1T]) (by simp[a1S]);have a:a1K (mkT fm xs).1=some true:=by rw[a9V,decide_eq_true (show a4d (mkT fm xs).1 from b)]
 have f:decide (((a03 (mkT fm xs).2.2.2.2.1:Nat):Int) > (4096:Int))=false:=by simp[mkT];omega
 have k:(((a03 (mkT fm xs).2.2.2.1:Nat):Int) != ((a03 (mkT fm xs).2.2.2.2.1:Nat):Int))=false:=by simp[mkT,b1G]
 unfold a3E;simp only[a,oB,bT,cF,f,k]
 erw[h]
 simp only[oB,mkT,bne_self_eq_false,cF]
theorem b9U{fm:a0M}{all:List Pc}(h:all.length≤256)(t:a4Z)(A:List Nat)(e:A.length=4):∀(rest done:List Pc)(st:Nat),done++rest=all→a4e fm st rest→
  y0s a7u (all.map (·.1),((all.map (·.1)).length:Int),(done.length:Int),all.map (·.2.2),asI (A++nsP done),t,())=some (all.map (·.2.2),asI (A++nsP all),t,())
 | [],done,st,hd,_=>by
  obtain rfl:done=all:=by simpa using hd
  exact a0C (by simp only[a7u,a02,dge,cF])
 |x::rest,done,st,hd,hr=>by
  obtain⟨⟨m,d,n,o,p,q,r,s,u,b,c⟩,hr2⟩:=hr;have k:done.length<(all.map (·.1)).length:=by rw[←hd];simp
  have g:done.length<(all.map (·.2.2)).length:=by rw[←hd];simp
  have j:m0k (all.map (·.1)) (done.length:Int)=some x.1:=by
   have:=a3r (done.map (·.1)) x.1 (rest.map (·.1))
   rw[a02]at this;rw[←hd,pA,a18];exact this
  have hp:(all.map (·.2.2)).getD done.length []=x.2.2:=by
   have:=b5T (done.map (·.2.2)) x.2.2 [] (rest.map (·.2.2))
   rw[a02]at this;rw[←hd,pA,a18];exact this
  have a:decide ((0:Int)≤(done.length:Int))=true:=decide_eq_true (a22 _);have i:done.length<all.length:=by rw[←hd];simp
  have f:(asI (A++nsP done)).length+2<2147483648:=by simp only[asI,a02,lN,b3D];omega
  have l:wrap .u64 ((x.2.2.length:Nat):Int)=((x.2.2.length:Nat):Int):=a0G (by omega);have w2:wrap .u64 ((a0T x.2.1:Nat):Int)=((a0T x.2.1:Nat):Int):=a0G (by omega);rw[a0E (s':=(all.map (·.1),((all.map (·.1)).length:Int),(((done++[x]).length:Nat):Int),all.map (·.2.2),asI (A++nsP (done++[x])),t,())) (by
   simp only[a7u,dlt k,dlt g,a,a29,cT,j,oB,a0N f,tN,hp,l,d,w2,a0A (show done.length<1000000 by omega)];simp[d1U,asI])]
  exact b9U h t A e rest (done++[x]) _ (by simpa using hd) hr2
theorem b7w{fm:a0M}:∀{xs:List Pc}{st:Nat},a4e fm st xs→∀p∈xs.map (·.2.2),p.length≤700800
 | [],_,_,p,hp=>by simp at hp
 |x::xs,st,h,p,hp=>by
  rcases mC.1 hp with rfl|hp;exact h.1.2.2.2.2.2.2.2.2.2.2;exact b7w h.2 p hp
theorem b5V{fm:a0M}(g:a4d fm){xs:List Pc}(h:a4e fm 0 xs)(k:xs.length≤256):∀b∈a2o fm xs,0≤b∧b<256:=fun b hb=>by
 unfold a2o at hb;rcases mA.1 hb with hb|hb;simp only[c1Y,mC,a07,or_false]at hb;omega;rcases mA.1 hb with hb|hb;exact c6O _ (fun n f=>a05 (a7i g h k n f) (by decide)) b hb;exact c9e _ _ b hb
theorem c9i{fm:a0M}(f:a4d fm){xs:List Pc}(g:a4e fm 0 xs)(h:xs.length≤256):a4V (mkT fm xs)=some (b5P fm xs,0):=by
 obtain⟨s,t,u,v,w,x⟩:=id f;have c:=b9U h (mkT fm xs) [fm.1.toNat,fm.2.1.toNat,fm.2.2.1.toNat,xs.length] rfl xs [] 0 rfl g;have hp:=b5E (ns:=a5T fm xs) (fun n j=>a05 (a7i f g h n j) (by decide)) (by simp only[a5T,lN,b3D,lC,a01];omega);have hv:=a8R (a5T fm xs) fun n i=>a05 (a7i f g h n i) (by decide);have z:(a5T fm xs).length≤516:=by simp only[a5T,lN,b3D,lC,a01];omega
 have y:=b9T f g h;have e:=b5O (n:=a2z fm xs) (k:=8) (by have:=c5l (a1r fm.2.2.1 (a1y xs));unfold prm at this;unfold a2z;omega) (by omega);have d:=b5O (n:=a7M (a2o fm xs)) (k:=4) (by have:=b8i (a2o fm xs);omega) (by omega);have m:=c5p (l:=a2o fm xs) (by unfold short;omega) (b5V f g h);have hb:=c2y (all:=xs.map (·.2.2)) (by simpa using h) (b7w g) (xs.map (·.2.2)) [] (a2o fm xs++a7h 4 (a7M (a2o fm xs))) rfl (by simp only[lN,a02,b2q];omega);have o:wrap .u64 fm.1=((fm.1.toNat:Nat):Int):=by rw[a0G (by omega)];omega
 have w2:wrap .u64 fm.2.1=((fm.2.1.toNat:Nat):Int):=by rw[a0G (by omega)];omega
 have p:wrap .u64 fm.2.2.1=((fm.2.2.1.toNat:Nat):Int):=by rw[a0G (by omega)];omega
 have q:wrap .u64 ((a03 (xs.map (·.1)):Nat):Int)=((xs.length:Nat):Int):=by rw[a02,a0G (by omega)]
 have r:wrap .u64 ((a7M (a2o fm xs):Nat):Int)=((a7M (a2o fm xs):Nat):Int):=a0G (by have:=b8i (a2o fm xs);omega);unfold a4V;rw[c7f f g h];simp only[oB,bT,cF,mkT,o,w2,p,q]
 erw[c]
 simp only[oB]
 erw[hp]
 simp only[oB,a0N (show 4+((a5T fm xs).flatMap a1f).length<2147483648 by omega),cT]
 erw[e]
 have b:a34 (a34 ([(75:Int),(78:Int),(83:Int),(68:Int)]:List Int) ((a5T fm xs).flatMap a1f)) (a7h 8 (a2z fm xs))=a2o fm xs:=aA ..;have a:(a34 ([(75:Int),(78:Int),(83:Int),(68:Int)]:List Int) ((a5T fm xs).flatMap a1f)).length+(a7h 8 (a2z fm xs)).length<2147483648:=by
  have:=congrArg a03 b
  simp only[a26,lN]at this⊢;omega
 simp only[oB,a0N a,cT,b,m,r]
 erw[d]
 simp only[oB,a0N (show(a2o fm xs).length+(a7h 4 (a7M (a2o fm xs))).length<2147483648 by rw[b2q];omega),cT]
 erw[hb]
 simp only[oB,b5P,a1T,List.flatMap_def,aA]
theorem c2A{fm:a0M}:∀{xs:List Pc}{st:Nat},a4e fm st xs→∀b∈xs.map (·.2.1),a1Z b
 | [],_,_,p,hp=>by simp at hp
 |x::xs,st,h,p,hp=>by
  rcases mC.1 hp with rfl|hp;exact h.1.2.2.2.2.2.2.1;exact c2A h.2 p hp
theorem c6P{fm:a0M}(k:a4d fm){xs:List Pc}(f:a4e fm 0 xs)(g:xs.length≤256):a2s (mkT fm xs)=some (a1y xs,0):=by
 have h:=b5U (all:=xs.map (·.2.1)) (by simpa using g) (xs.map (·.2.1)) [] [] rfl (c2A f) (by simp;omega);unfold a2s;rw[c7f k f g];simp only[oB,bT,cF]
 erw[h]
 simp[a1y,List.flatMap_map]
theorem b3f{f:a0S}(g:∀s∈f.2.2.2.2.1,SmallS s){b:a1e}(h:a2m f=some b):
  a2d f=some (b,0)∧a2p f=some (a4o f,0)∧(a2h f=some (b,true)∧a1A f=some (a4o f,0))∧1≤(a4o f).length∧(a4o f).length≤700800:=by
 have c:=b8d g;have d:=b5L g;rw[h]at c d;obtain⟨a,w,n⟩:=b2m h;have j:f.2.2.2.2.1.length≤8:=by have:=a.1.2.2.2.1;omega
 have l:a4T f=some true:=by rw[d0I g,h];rfl
 obtain⟨q,t,u,m,v,k⟩:=b5I l a j (fun s i=>⟨g s i,n s i⟩);obtain⟨p,e,q1,o⟩:=c3G g;have hp:a4o f=b9I f (a0W q):=by unfold a4o;rw[k];rfl
 rw[k]at q1;simp only[sj,pJ]at q1;obtain⟨rfl,rfl⟩:=q1;have r:=b8b a m;refine⟨c,by rw[hp];exact k,⟨d,by rw[hp];exact o⟩,?_,?_⟩;rw[hp];simp only[b9I,lN,lC];omega;rw[hp];simp only[b9I,lN,lC,a01];omega
theorem b9V{f:a0S}(k:∀s∈f.2.2.2.2.1,SmallS s)(h:a2m f=none):a2d f=some (a5A,1)∧a1A f=some ([],1):=by
 have g:=b8d k;rw[h]at g;refine⟨g,?_⟩;unfold a1A;rw[b9L k,h];rfl
def a3j(fm:a0M):Nat→List a0S→Option (List Pc)
 |_,[]=>some []
 |st,f::fs=>if f.2.2.1=fm∧f.1=(st:Int)then(a2m f).bind fun b=>(a3j fm (st+a0T b) fs).bind fun xs=>some ((f,b,a4o f)::xs)else none
theorem a7j{fm:a0M}:∀{fs:List a0S}{st:Nat}{xs:List Pc},(∀f∈fs,∀s∈f.2.2.2.2.1,SmallS s)→a3j fm st fs=some xs→a4e fm st xs∧xs.map (·.1)=fs
 | [],st,xs,_,h=>by cases h;exact⟨trivial,rfl⟩
 |f::fs,st,xs,hS,h=>by
  unfold a3j at h
  split at h
  rename_i a;obtain⟨b,hb,h⟩:=a04.1 h;obtain⟨ys,e,h⟩:=a04.1 h;cases h;have k:=hS f (by simp);obtain⟨i,j,l,m,n⟩:=b3f k hb;obtain⟨b1,b2,c⟩:=b4e k hb;obtain⟨o,r2⟩:=a7j (fun g d=>hS g (by simp[d])) e;exact⟨⟨⟨a.2,c,a.1,i,j,l,b1,by rw[b2,←a.1],b1.2.2.2.2.2.1,m,n⟩,o⟩,by simp[r2]⟩;cases h
theorem a1p(x y:a0M):eqT (.pair (.int .i64) (.pair (.int .i64) (.pair (.int .i64) .unit))) x y=decide (x=y):=by
 obtain⟨a,b,c,u⟩:=x;obtain⟨h,g,f,k⟩:=y;show((a==h)&&((b==g)&&((c==f)&&true)))=_;rw[a36]
 simp
@[reducible] def b4g:Type:=Int×(Int×Unit)
theorem b5W(x y:b4g):eqT (.pair (.int .i64) (.pair (.int .i64) .unit)) x y=decide (x=y):=by
 obtain⟨a,b,u⟩:=x;obtain⟨h,g,f⟩:=y;show((a==h)&&((b==g)&&true))=_;rw[a36]
 simp
def d3W:Bool×(List (List Int)×(List a1e×Unit)):=(false,[],[],())
open Classical in

def b5X (fm:a0M) (st off:Nat) (fs:List a0S) (sk:List b4g):Option (List Pc):=(a3j fm st fs).bind fun xs=>if sk=a2n st off xs then some xs else none
theorem d2a(fm:a0M)(st off:Nat):b5X fm st off [] []=some []:=by simp[b5X,a3j,a2n]
theorem d0R{fm:a0M}{st off:Nat}{f:a0S}{fs:List a0S}{s:b4g}{sk:List b4g}:b5X fm st off (f::fs) (s::sk) =
  if f.2.2.1=fm∧f.1=(st:Int)∧s.1=(st:Int)∧s.2.1=(off:Int)then(a2m f).bind fun b=>(b5X fm (st+a0T b) (off+(a4o f).length) fs sk).bind fun h=>some ((f,b,a4o f)::h)else none:=by
 unfold b5X;rw[a3j]
 by_cases h1:f.2.2.1=fm
 rotate_left;simp[h1]
 by_cases h2:f.1=(st:Int)
 rotate_left;simp[h2];rw[if_pos ⟨h1,h2⟩];cases hb:a2m f with
 |none=>simp
 |some b=>
  simp only[oB];obtain⟨g,k,u⟩:=s;cases hp:a3j fm (st+a0T b) fs with
  |none=>simp
  |some h=>
   simp only[oB,a2n,List.cons.injEq]
   by_cases h3:g=(st:Int)
   by_cases h4:k=(off:Int)
   by_cases h5:sk=a2n (st+a0T b) (off+(a4o f).length) h
   simp[h1,h2,h3,h4,←h5];simp[h1,h2,h3,h4,h5];simp[h4];simp[h3]
theorem c7g{fm:a0M}{t:a4Z}(m:t.1=fm)(z:t.2.2.2.2.1.length≤200):∀(rest doneF:List a0S)(k doneS:List b4g)(st off:Nat)(d:List Int)(A:List (List Int)) (B:List a1e),
  doneF++rest=t.2.2.2.2.1→doneS++k=t.2.2.2.1→doneS.length=doneF.length→k.length=rest.length→(∀f∈rest,∀s∈f.2.2.2.2.1,SmallS s)→
  A.length=doneF.length→B.length=doneF.length→st≤4096*doneF.length→off≤700800*doneF.length→
  y0s a1l ((st:Int),(off:Int),((prI (a1r fm.2.2.1 d):Nat):Int),t.2.2.2.2.1,(t.2.2.2.2.1.length:Int),(doneF.length:Int),A,B,t,()) =
   some (match b5X fm st off rest k with
    |some xs=>.inl (((st+a1S xs:Nat):Int),((prI (a1r fm.2.2.1 (d++a1y xs)):Nat):Int),A++xs.map (·.2.2),B++xs.map (·.2.1),t,())
    |none=>.inr d3W)
 | [],doneF,k,doneS,st,off,d,A,B,hF,hSk,h1,h2,hS,hA,hB,hst,hoff=>by
  obtain rfl:k=[]:=by simpa using h2
  have e:t.2.2.2.2.1.length=doneF.length:=by rw[←hF];simp
  rw[d2a];refine a0C ?_
  simp only[a1l,e,dge,cF];simp[a1S,a1y]
 |f::rest,doneF,k,doneS,st,off,d,A,B,hF,hSk,h1,h2,hS,hA,hB,hst,hoff=>by
  obtain⟨s,k,rfl⟩:∃s r,k=s::r:=by
   cases k with
   |nil=>simp at h2
   |cons s r=>exact⟨s,r,rfl⟩
  simp only[lC,Nat.add_right_cancel_iff]at h2;have a:doneF.length<t.2.2.2.2.1.length:=by rw[←hF];simp
  have j:m0k t.2.2.2.2.1 (doneF.length:Int)=some f:=by rw[←hF];exact a3r _ _ _
  have c:m0k t.2.2.2.1 (doneF.length:Int)=some s:=by rw[←hSk,←h1];exact a3r _ _ _
  rw[d0R];have n2:∀i:Int,(i != i)=false:=fun i=>by simp
  have y:((0:Int) != 0)=false:=rfl;have n1:((1:Int) != 0)=true:=rfl
  by_cases c1:f.2.2.1=fm
  rotate_left;rw[if_neg (fun h=>c1 h.1)];refine a0C ?_
  simp only[a1l,dlt a,cT,j,oB,a1p,m,decide_eq_false c1,a06,cT];rfl
  by_cases c2:f.1=(st:Int)
  rotate_left;rw[if_neg (fun h=>c2 h.2.1)]
  have:(f.1 != (st:Int))=true:=by simpa using c2
  refine a0C ?_
  simp only[a1l,dlt a,cT,j,oB,a1p,m,decide_eq_true c1,bT,cF,this];rfl
  by_cases c3:s.1=(st:Int)
  rotate_left;rw[if_neg (fun h=>c3 h.2.2.1)]
  have:(s.1 != (st:Int))=true:=by simpa using c3
  refine a0C ?_
  simp only[a1l,dlt a,cT,j,oB,a1p,m,decide_eq_true c1,bT,cF,c2,n2,c,this];rfl
  by_cases c4:s.2.1=(off:Int)
  rotate_left;rw[if_neg (fun h=>c4 h.2.2.2)]
  have:(s.2.1 != (off:Int))=true:=by simpa using c4
  refine a0C ?_
  simp only[a1l,dlt a,cT,j,oB,a1p,m,decide_eq_true c1,bT,cF,c2,n2,c,c3,this];rfl;rw[if_pos ⟨c1,c2,c3,c4⟩];have l:=hS f (by simp);cases hb:a2m f with
  |none=>
   obtain⟨n,-⟩:=b9V l hb;refine a0C ?_
   simp only[a1l,dlt a,cT,j,oB,a1p,m,decide_eq_true c1,bT,cF,c2,n2,c,c3,c4,n,n1];rfl
  |some b=>
   obtain⟨n,x,-,D,E⟩:=b3f l hb;obtain⟨b1,b2,p⟩:=b4e l hb;have u:=c2x b1 (w:=fm.2.2.1) (by rw[b2,c1]) d;have q:=b1.2.2.2.2.2.1;have o:t.2.2.2.2.1.length=doneF.length+(rest.length+1):=by rw[←hF];simp
   have C:wrap .i64 ((st:Int)+((a0T b:Nat):Int))=((st+a0T b:Nat):Int):=by rw[a0J (by omega)];omega
   have w2:wrap .i64 ((off:Int)+(((a4o f).length:Nat):Int))=((off+(a4o f).length:Nat):Int):=by rw[a0J (by omega)];omega
   rw[a0E (s':=(((st+a0T b:Nat):Int),((off+(a4o f).length:Nat):Int),((prI (a1r fm.2.2.1 (d++wvB b)):Nat):Int),t.2.2.2.2.1,(t.2.2.2.2.1.length:Int),(((doneF++[f]).length:Nat):Int),A++[a4o f],B++[b],t,())) (by
    simp only[a1l,dlt a,cT,j,oB,a1p,m,decide_eq_true c1,bT,cF,c2,n2,c,c3,c4,n,y,x]
    erw[u]
    simp only[oB,bT,cF,a0N (show A.length+1<2147483648 by omega),a0N (show B.length+1<2147483648 by omega),cT,p,C,w2,a0A (show doneF.length<1000000 by omega)]
    simp)]
   have v:=c7g m z rest (doneF++[f]) k (doneS++[s]) (st+a0T b) (off+(a4o f).length) (d++wvB b) (A++[a4o f]) (B++[b]) (by simpa using hF) (by simpa using hSk) (by simp[h1]) h2
    (fun g j=>hS g (by simp[j])) (by simp[hA]) (by simp[hB]) (by simp only[lN,a00];omega) (by simp only[lN,a00];omega)
   rw[v];simp only[oB];cases b5X fm (st+a0T b) (off+(a4o f).length) rest k with
   |none=>rfl
   |some xs=>
    simp only[oB];simp[a1S,a1y,a28]
open Classical in

def a4m (t:a4Z):Option (List Pc):=
 if a4d t.1∧t.2.2.2.2.1.length≤4096 then(a3j t.1 0 t.2.2.2.2.1).bind fun xs=>if t=mkT t.1 xs then some xs else none else none
def d4V:Option (List Pc)→List (List Int)×(List a1e×Bool)
 |some xs=>(xs.map (·.2.2),xs.map (·.2.1),true)
 |none=>([],[],false)
theorem c7h{t:a4Z}{xs:List Pc}(h:xs.map (·.1)=t.2.2.2.2.1):t=mkT t.1 xs↔t.2.1=((a1S xs:Nat):Int)∧t.2.2.1=((a2z t.1 xs:Nat):Int)∧t.2.2.2.1=a2n 0 0 xs:=by
 obtain⟨fm,a,b,c,e,u⟩:=t;simp only[mkT,pJ];constructor
 rintro⟨-,g,f,k,-⟩;exact⟨g,f,k⟩
 rintro⟨g,f,k⟩;exact⟨trivial,g,f,k,h.symm,trivial⟩
theorem d3X{t:a4Z}(d:t.2.2.2.2.1.length≤200)(g:∀f∈t.2.2.2.2.1,∀s∈f.2.2.2.2.1,SmallS s):a3E t=some (d4V (a4m t)):=by
 unfold a3E a4m;rw[a9V]
 by_cases hf:a4d t.1
 rotate_left;simp only[hf,decide_false,oB,a06,cT,false_and,if_false];rfl;have a:decide (((a03 t.2.2.2.2.1:Nat):Int) > (4096:Int))=false:=by simp;omega
 rw[if_pos ⟨hf,by omega⟩];simp only[hf,decide_true,oB,bT,cF,a]
 by_cases hl:t.2.2.2.1.length=t.2.2.2.2.1.length
 rotate_left
 ·have:(((a03 t.2.2.2.1:Nat):Int) != ((a03 t.2.2.2.2.1:Nat):Int))=true:=by simp;omega
  simp only[this,cT];cases hp:a3j t.1 0 t.2.2.2.2.1 with
  |none=>rfl
  |some xs=>
   simp only[oB];rw[if_neg];rfl;rw[c7h (a7j g hp).2]
   rintro⟨-,-,h⟩
   have:=congrArg a03 h
   rw[b1G]at this;have c:=congrArg a03 (a7j g hp).2;rw[a02]at c;omega
 have:(((a03 t.2.2.2.1:Nat):Int) != ((a03 t.2.2.2.2.1:Nat):Int))=false:=by simp;omega
 simp only[this,cF];have h:=c7g (t:=t) rfl d t.2.2.2.2.1 [] t.2.2.2.1 [] 0 0 [] [] [] rfl rfl rfl hl g rfl rfl (by simp) (by simp);have z:prI (a1r t.1.2.2.1 [])=0:=rfl;rw[z]at h;simp only[nZ,a01,a20,a24]at h
 erw[h]
 simp only[oB];unfold b5X;cases hp:a3j t.1 0 t.2.2.2.2.1 with
 |none=>rfl
 |some xs=>
  simp only[oB];have k:=c7h (a7j g hp).2
  by_cases hk:t.2.2.2.1=a2n 0 0 xs
  rotate_left;rw[if_neg hk,if_neg (fun h=>hk (k.1 h).2.2)];rfl;rw[if_pos hk];simp only[]
  by_cases hs:t.2.1=((a1S xs:Nat):Int)
  rotate_left
  have:(t.2.1 != ((a1S xs:Nat):Int))=true:=by simpa using hs
  rw[if_neg (fun h=>hs (k.1 h).1)];simp only[this,cT,oB];rfl
  by_cases hq:t.2.2.1=((a2z t.1 xs:Nat):Int)
  rotate_left
  have:(t.2.2.1 != ((prI (a1r t.1.2.2.1 (a1y xs)):Nat):Int))=true:=by unfold a2z at hq;simpa using hq
  rw[if_neg (fun h=>hq (k.1 h).2.1)];have e:(t.2.1 != ((a1S xs:Nat):Int))=false:=by simp[hs]
  simp only[e,this,cT,cF,oB];rfl;rw[if_pos (k.2 ⟨hs,hq,hk⟩)];have e:(t.2.1 != ((a1S xs:Nat):Int))=false:=by simp[hs]
  have b:(t.2.2.1 != ((prI (a1r t.1.2.2.1 (a1y xs)):Nat):Int))=false:=by rw[hq];simp[a2z]
  simp only[e,b,cF,oB];rfl
theorem a8l{t:a4Z}(k:∀f∈t.2.2.2.2.1,∀s∈f.2.2.2.2.1,SmallS s){xs:List Pc}(h:a4m t=some xs):a4d t.1∧t=mkT t.1 xs∧a4e t.1 0 xs∧xs.map (·.1)=t.2.2.2.2.1:=by
 unfold a4m at h
 split at h
 rename_i a;obtain⟨ys,g,h⟩:=a04.1 h
 split at h
 rename_i b;cases h;obtain⟨c,r2⟩:=a7j k g;exact⟨a.1,b,c,r2⟩;cases h;cases h
set_option maxRecDepth 100000 in
theorem d3Y:b2Y ()=some true:=by kernel_rfl
def zT:a4Z:=((0,0,0,()),0,0,[],[],())
theorem c2B{fm:a0M}:∀{ys:List Pc}{st:Nat}{x:Pc},a4e fm st (ys++[x])→pcV fm (st+a1S ys) x
 | [],st,x,h=>by simpa[a1S]using h.1
 |y::ys,st,x,h=>by
  have:=c2B h.2
  simpa[a1S,a28]using this
theorem c9j{fm:a0M}{fs:List a0S}(o:fs.length≤200)(i:∀f∈fs,∀s∈f.2.2.2.2.1,SmallS s):∃e,b2y fs=some e∧∀k,a3j fm 0 fs=some k→e=((a1S k:Nat):Int):=by
 rcases a25 fs with rfl|⟨g,f,rfl⟩;exact⟨0,rfl,fun k h=>by cases h;rfl⟩;have d:((((g.concat f).length:Nat):Int)==0)=false:=by simp;omega
 have m:(g.concat f).length=g.length+1:=by simp
 have l:m0k (g.concat f) (g.length:Int)=some f:=by rw[a08];exact a3r _ _ _
 refine⟨wrap .i64 (f.1+f.2.1),?_,fun k h=>?_⟩;unfold b2y;rw[d,cF,show wrap .i64 ((((g.concat f).length:Nat):Int)-1)=(g.length:Int)from by rw[m,a0J (by omega)];omega,l];rfl;obtain⟨b,r2⟩:=a7j i h;rcases a25 k with rfl|⟨ys,x,rfl⟩;simp at r2;rw[a08,pA,a08]at r2;have j:=List.append_inj' r2 rfl;have n:x.1=f:=by simpa using j.2
 rw[a08]at b;have hv:=c2B b;have a:=b9S b;have p:(ys++[x]).length≤200:=by
  have:=congrArg a03 r2
  simp only[lN,a02,a00]at this;simp at o
  simp
  omega
 have:=hv.1
 have c:=hv.2.1;rw[n]at this c;rw[this,c,a08,b0Z];rw[b0Z]at a;rw[a0J (by omega)];omega
theorem b3H{fm:a0M}(e d:Int){fs:List a0S}(u:fs.length≤200):∀(rest doneF:List a0S)(st off:Nat)(S:List b4g),doneF++rest=fs→(∀f∈rest,∀s∈f.2.2.2.2.1,SmallS s)→S.length=doneF.length→st≤4096*doneF.length→off≤700800*doneF.length→
  y0s a2R (fs,(st:Int),(off:Int),(doneF.length:Int),zT,(fm,e,d,S,fs,()),fm,()) =
   some (match a3j fm st rest with
    |some j=>.inl (fs,zT,(fm,e,d,S++a2n st off j,fs,()),fm,())
    |none=>.inr (false,zT,()))
 | [],doneF,st,off,S,hF,hS,hL,hst,hoff=>by
  have q:fs.length=doneF.length:=by rw[←hF];simp
  refine a0C ?_
  simp only[a2R,q,dge,cF,a3j,a2n,List.append_nil]
 |f::rest,doneF,st,off,S,hF,hS,hL,hst,hoff=>by
  have k:doneF.length<fs.length:=by rw[←hF];simp
  have c:m0k fs (doneF.length:Int)=some f:=by rw[←hF];exact a3r _ _ _
  have m:((0:Int) != 0)=false:=rfl;have n1:((1:Int) != 0)=true:=rfl;have n2:∀i:Int,(i != i)=false:=fun i=>by simp
  have a:=hS f (by simp);cases hb:a2m f with
  |none=>
   obtain⟨-,t⟩:=b9V a hb;rw[show a3j fm st (f::rest)=none from by rw[a3j,hb];split<;>rfl];refine a0C ?_
   simp only[a2R,dlt k,cT,c,oB,t,n1];rfl
  |some b=>
   obtain⟨-,-,⟨-,l⟩,k4,k5⟩:=b3f a hb;obtain⟨b1,b2,o⟩:=b4e a hb
   by_cases c1:f.2.2.1=fm
   rotate_left;rw[show a3j fm st (f::rest)=none from by rw[a3j,if_neg (fun h=>c1 h.1)]];refine a0C ?_
   simp only[a2R,dlt k,cT,c,oB,l,m,cF,a1p,decide_eq_false c1,a06];rfl
   by_cases c2:f.1=(st:Int)
   rotate_left;rw[show a3j fm st (f::rest)=none from by rw[a3j,if_neg (fun h=>c2 h.2)]]
   have:(f.1 != (st:Int))=true:=by simpa using c2
   refine a0C ?_
   simp only[a2R,dlt k,cT,c,oB,l,m,cF,a1p,decide_eq_true c1,bT,this];rfl;have p:=b1.2.2.2.2.2.1;have n:fs.length=doneF.length+(rest.length+1):=by rw[←hF];simp
   have v:wrap .i64 ((st:Int)+((a0T b:Nat):Int))=((st+a0T b:Nat):Int):=by rw[a0J (by omega)];omega
   have w2:wrap .i64 ((off:Int)+(((a4o f).length:Nat):Int))=((off+(a4o f).length:Nat):Int):=by rw[a0J (by omega)];omega
   rw[a0E (s':=(fs,((st+a0T b:Nat):Int),((off+(a4o f).length:Nat):Int),(((doneF++[f]).length:Nat):Int),zT,(fm,e,d,S++[((st:Int),(off:Int),())],fs,()),fm,())) (by
    simp only[a2R,dlt k,cT,c,oB,l,m,cF,a1p,decide_eq_true c1,bT,c2,n2,a0N (show S.length+1<2147483648 by omega),o,v,w2,a0A (show doneF.length<1000000 by omega)]
    simp)]
   have r:=b3H (fm:=fm) e d u rest (doneF++[f]) (st+a0T b) (off+(a4o f).length) (S++[((st:Int),(off:Int),())]) (by simpa using hF) (fun g c=>hS g (by simp[c])) (by simp[hL])
    (by simp only[lN,a00];omega) (by simp only[lN,a00];omega)
   rw[r,show a3j fm st (f::rest)=(a3j fm (st+a0T b) rest).bind fun j=>some ((f,b,a4o f)::j)from by rw[a3j,if_pos ⟨c1,c2⟩,hb];rfl];cases a3j fm (st+a0T b) rest with
   |none=>rfl
   |some j=>simp[a2n]
theorem b5Y{fm:a0M}:∀{xs:List Pc}{st:Nat},a4e fm st xs→(a1y xs).length≤32768*xs.length
 | [],_,_=>by simp[a1y]
 |x::xs,st,h=>by
  have g:=b5Y h.2;have hb:=h.1.2.2.2.2.2.2.1;have f:(wvB x.2.1).length≤4096*8:=by rw[b3E];exact a16 hb.2.2.2.2.2.1 hb.2.2.2.1
  simp only[a1y,a23,lN,lC]at *;omega
theorem c2C{fm:a0M}:∀{xs:List Pc}{st:Nat},a4e fm st xs→(a1y xs).all (fun x=>a1E x fm.2.2.1)=true
 | [],_,_=>rfl
 |x::xs,st,h=>by
  have f:=c2C h.2;have g:=c7e h.1.2.2.2.2.2.2.1;rw[h.1.2.2.2.2.2.2.2.1]at g;show((wvB x.2.1++a1y xs).all _)=true;rw[List.all_append,f,g];rfl
theorem b3I{fm:a0M}{fs:List a0S}(a:fs.length≤200):∀(rest:List Pc)(doneF:List a0S)(st:Nat)(out:List Int),doneF++rest.map (·.1)=fs→a4e fm st rest→out.length≤32768*doneF.length→
  y0s a7B (fs,(doneF.length:Int),out,())=some (.inl (out++a1y rest,()))
 | [],doneF,st,out,hF,_,_=>by
  have g:fs.length=doneF.length:=by rw[←hF];simp
  refine a0C ?_
  simp only[a7B,g,dge,cF];simp[a1y]
 |x::rest,doneF,st,out,hF,hr,ho=>by
  have h:doneF.length<fs.length:=by rw[←hF];simp
  have f:m0k fs (doneF.length:Int)=some x.1:=by rw[←hF];exact a3r _ _ _
  have hb:=hr.1.2.2.2.2.2.2.1;have k:=hr.1.2.2.2.2.2.1.1;have b:(wvB x.2.1).length≤4096*8:=by rw[b3E];exact a16 hb.2.2.2.2.2.1 hb.2.2.2.1
  rw[a0E (s':=(fs,(((doneF++[x.1]).length:Nat):Int),out++wvB x.2.1,())) (by
   simp only[a7B,dlt h,cT,f,oB,k,bT,cF,c5v hb,a0N (show out.length+(wvB x.2.1).length<2147483648 by omega),a0A (show doneF.length<1000000 by omega)]
   simp)]
  rw[b3I a rest (doneF++[x.1]) _ (out++wvB x.2.1) (by simpa using hF) hr.2 (by simp only[lN,a00];omega)];simp[a1y]
theorem b5Z{fm:a0M}{xs:List Pc}{st:Nat}(h:a4e fm st xs)(g:xs.length≤200):a8i (xs.map (·.1))=some (a1y xs,true):=by
 have:=b3I (fs:=xs.map (·.1)) (by simpa using g) xs [] st [] rfl h (by simp)
 unfold a8i;simp only[a01,nZ,a20]at this;rw[this];rfl
theorem c1Z{fm:a0M}(g:a4d fm){xs:List Pc}{st:Nat}(h:a4e fm st xs)(a:xs.length≤8):a8z (a1y xs,fm.2.2.1)=some ((a2z fm xs:Nat):Int):=by
 have k:=b5Y h;have f:=b9M ⟨g.2.2.2.2.1,g.2.2.2.2.2⟩ (a1y xs);unfold a8z;simp only[c6L ⟨g.2.2.2.2.1,g.2.2.2.2.2⟩ (show(a1y xs).length≤1000000 by omega) (c2C h),oB,c5u (show short (a1r fm.2.2.1 (a1y xs))by unfold short;omega) (b5N _ _)];rfl
theorem c5w{fm:a0M}{fs:List a0S}(j:fs.length≤8)(g:∀f∈fs,∀s∈f.2.2.2.2.1,SmallS s):
  b0N (fm,fs)=some (match (if a4d fm∧fs.length≤4096 then a3j fm 0 fs else none)with|some xs=>(mkT fm xs,true)|none=>(zT,false)):=by
 unfold b0N;rw[b5J]
 by_cases hf:a4d fm
 rotate_left;simp only[hf,decide_false,oB,a06,cT,false_and,if_false];rfl;have b:decide (((a03 fs:Nat):Int) > (4096:Int))=false:=by simp;omega
 rw[if_pos ⟨hf,by omega⟩];obtain⟨e,c,i⟩:=c9j (fm:=fm) (fs:=fs) (by omega) g;have h:=b3H (fm:=fm) e 0 (fs:=fs) (by omega) fs [] 0 0 [] rfl g rfl (by simp) (by simp);simp only[nZ,a01,a20]at h;simp only[hf,decide_true,oB,bT,cF,b,c]
 erw[h]
 simp only[oB];cases hp:a3j fm 0 fs with
 |none=>rfl
 |some xs=>
  obtain⟨a,r2⟩:=a7j g hp;have d:xs.length≤8:=by
   have:=congrArg a03 r2
   rw[a02]at this;omega
  have k:=b5Z a (by omega);rw[r2]at k;simp only[k,oB,c1Z hf a d];rw[i xs hp];unfold mkT;rw[r2]
theorem b9W{x y:a4Z}:∀(r1 r2 d1 d2:List b4g),d1++r1=x.2.2.2.1→d2++r2=y.2.2.2.1→d1.length=d2.length→r1.length=r2.length→x.2.2.2.1.length≤1000→
  y0s a3b ((d1.length:Int),x,y,())=some (if r1=r2 then .inl (x,y,())else .inr (false,()))
 | [],r2,d1,d2,h1,h2,h3,h4,h5=>by
  obtain rfl:r2=[]:=by simpa using h4.symm
  have e:x.2.2.2.1.length=d1.length:=by rw[←h1];simp
  refine a0C ?_
  simp only[a3b,e,dge,cF,if_true]
 |a::r1,r2,d1,d2,h1,h2,h3,h4,h5=>by
  obtain⟨b,r2,rfl⟩:∃b r,r2=b::r:=by
   cases r2 with
   |nil=>simp at h4
   |cons s r=>exact⟨s,r,rfl⟩
  have f:d1.length<x.2.2.2.1.length:=by rw[←h1];simp
  have k:m0k x.2.2.2.1 (d1.length:Int)=some a:=by rw[←h1];exact a3r _ _ _
  have g:m0k y.2.2.2.1 (d1.length:Int)=some b:=by rw[←h2,h3];exact a3r _ _ _
  by_cases c:a=b
  rw[a0E (s':=((((d1++[a]).length:Nat):Int),x,y,())) (by
   simp only[a3b,dlt f,cT,k,g,oB,b5W,decide_eq_true c,bT,cF,a0A (show d1.length<1000000 by omega)]
   simp)]
  rw[b9W r1 r2 (d1++[a]) (d2++[b]) (by simpa using h1) (by simpa using h2) (by simp[h3]) (by simpa using h4) h5];simp[c];rw[if_neg (fun h=>c (List.cons.inj h).1)];refine a0C ?_
  simp only[a3b,dlt f,cT,k,g,oB,b5W,decide_eq_false c,a06]
theorem c6Q{x y:a4Z}(h:x.2.2.2.2.1=y.2.2.2.2.1)(c:x.2.2.2.2.1.length≤1000)(g:∀f∈x.2.2.2.2.1,(∀s∈f.2.2.2.2.1,SmallS s)∧f.2.2.2.1.length<1000000∧f.2.2.2.2.1.length<1000000):
  y0s a3c (0,x,y,())=some (.inl ()):=by
 have:=a0X (f:=a3c) (β:=Unit ⊕ (Bool×Unit)) x.2.2.2.2.1 (fun i=>((i:Int),x,y,())) (fun _=>true) (bt:=Sum.inl ()) (bf:=Sum.inr (false,()))
  (fun i hi _=>by
   obtain⟨k,a,b⟩:=g _ (List.getElem_mem hi);simp only[a3c,dlt hi,cT,←h,a0B hi,oB,c1T k a b,bT,cF,a0A (show i<1000000 by omega)])
  (fun i hi hp=>by cases hp) (by simp only[a3c,dge,cF])
 simp only[nZ]at this;rw[this]
 have:x.2.2.2.2.1.all (fun _=>true)=true:=by simp
 rw[this];rfl
open Classical in
theorem c5x {x y:a4Z} (h:x.2.2.2.2.1=y.2.2.2.2.1) (hl:x.2.2.2.2.1.length≤1000) (hk:x.2.2.2.1.length≤1000) (hS:∀f∈x.2.2.2.2.1,(∀s∈f.2.2.2.2.1,SmallS s)∧f.2.2.2.1.length<1000000∧f.2.2.2.2.1.length<1000000):
  a6C (x,y)=some (decide (x=y)):=by
 have key:x=y↔x.1=y.1∧x.2.1=y.2.1∧x.2.2.1=y.2.2.1∧x.2.2.2.1=y.2.2.2.1:=by
  obtain⟨a,b,c,d,e,u⟩:=x
  obtain⟨a',b',c',d',e',u'⟩:=y
  simp only at h
  simp[h]
 unfold a6C
 by_cases c1:x.1=y.1
 rotate_left
 ·rw[decide_eq_false (fun h=>c1 (key.1 h).1)]
  simp only[a1p,decide_eq_false c1,a06,cT,oB]
 by_cases c2:x.2.1=y.2.1
 rotate_left
 ·rw[decide_eq_false (fun h=>c2 (key.1 h).2.1)]
  have:(x.2.1 != y.2.1)=true:=by simpa using c2
  simp only[a1p,decide_eq_true c1,bT,cF,this,cT,oB]
 by_cases c3:x.2.2.1=y.2.2.1
 rotate_left
 ·rw[decide_eq_false (fun h=>c3 (key.1 h).2.2.1)]
  have:(x.2.2.1 != y.2.2.1)=true:=by simpa using c3
  simp only[a1p,decide_eq_true c1,bT,cF,c2,bne_self_eq_false,this,cT,oB]
 by_cases c4:x.2.2.2.1.length=y.2.2.2.1.length
 rotate_left
 ·rw[decide_eq_false (fun h=>c4 (congrArg a03 (key.1 h).2.2.2))]
  have:(((x.2.2.2.1.length:Nat):Int) != ((y.2.2.2.1.length:Nat):Int))=true:=by simp;omega
  simp only[a1p,decide_eq_true c1,bT,cF,c2,c3,bne_self_eq_false,this,cT,oB]
 have hs:=b9W (x:=x) (y:=y) x.2.2.2.1 y.2.2.2.1 [] [] rfl rfl rfl c4 hk
 simp only[a01,nZ]at hs
 simp only[a1p,decide_eq_true c1,bT,cF,c2,c3,bne_self_eq_false,c4,h,oB]
 rw[hs]
 by_cases c5:x.2.2.2.1=y.2.2.2.1
 ·rw[if_pos c5,decide_eq_true (key.2 ⟨c1,c2,c3,c5⟩)]
  simp only[oB,c6Q h hl hS]
 ·rw[if_neg c5,decide_eq_false (fun h=>c5 (key.1 h).2.2.2)]
  rfl
def c9k(t:a4Z):Prop:=t.2.2.2.2.1.length≤6∧t.2.2.2.1.length≤10∧∀f∈t.2.2.2.2.1,(∀s∈f.2.2.2.2.1,SmallS s)∧f.2.2.2.2.1.length≤10∧f.2.2.2.1.length≤20
open Classical in
theorem a9A {t:a4Z} (h:c9k t):a3Q t=some (a4m t).isSome:=by
 obtain⟨h6,h10,hS⟩:=h
 have hS1:∀f∈t.2.2.2.2.1,∀s∈f.2.2.2.2.1,SmallS s:=fun f hf=>(hS f hf).1
 unfold a3Q a4m
 rw[c5w (by omega) hS1]
 by_cases hc:a4d t.1∧t.2.2.2.2.1.length≤4096
 rotate_left
 ·rw[if_neg hc,if_neg hc];rfl
 rw[if_pos hc,if_pos hc]
 cases hp:a3j t.1 0 t.2.2.2.2.1 with
 |none=>rfl
 |some xs=>
  obtain⟨r1,r2⟩:=a7j hS1 hp
  simp only[oB,cT]
  rw[c5x (x:=t) (y:=mkT t.1 xs) (by simp[mkT,r2]) (by omega) (by omega) (fun f hf=>⟨(hS f hf).1,by have:=(hS f hf).2.2;omega,by have:=(hS f hf).2.1;omega⟩)]
  by_cases he:t=mkT t.1 xs
  ·rw[if_pos he,decide_eq_true he];rfl
  ·rw[if_neg he,decide_eq_false he];rfl
theorem b4s{fm:a0M}{all:List Pc}(d:all.length≤200){t:a4Z}(h:t.2.2.2.2.1=all.map (·.1)):∀(rest done:List Pc)(st:Nat)(out by_:List Int),done++rest=all→a4e fm st rest→out.length≤100+18*done.length→by_.length≤700800*done.length→
  y0s a5n ((done.length:Int),out,by_,t,())=some (out++(nsP rest).flatMap a1f,by_++a1T rest,t,())
 | [],done,st,out,by_,hd,_,_,_=>by
  have e:t.2.2.2.2.1.length=done.length:=by rw[h,←hd];simp
  refine a0C ?_
  simp only[a5n,e,dge,cF];simp[nsP,a1T]
 |x::rest,done,st,out,by_,hd,hr,ho,hb=>by
  have g:done.length<t.2.2.2.2.1.length:=by rw[h,←hd];simp
  have a:all.length=done.length+(rest.length+1):=by rw[←hd];simp
  have c:m0k t.2.2.2.2.1 (done.length:Int)=some x.1:=by
   rw[h,←hd,pA,a18]
   have:=a3r (done.map (·.1)) x.1 (rest.map (·.1))
   rwa [a02]at this
  obtain⟨h1,h2,h3,h4,h5,⟨i,b⟩,h8,h9,h10,h11,h12⟩:=hr.1;have e:([wrap .u64 ((x.2.2.length:Nat):Int),wrap .u64 x.1.2.1]:List Int)=asI [x.2.2.length,a0T x.2.1]:=by
   rw[h2,a0G (by omega),a0G (by omega)];rfl
  have k:=a4R (ns:=[x.2.2.length,a0T x.2.1]) (fun n f=>by simp only[mC,a07,or_false]at f;omega) (by simp);have hv:=a8R [x.2.2.length,a0T x.2.1] (fun n f=>by simp only[mC,a07,or_false]at f;omega);simp only[lC,a01]at hv;rw[a0E (s':=((((done++[x]).length:Nat):Int),out++[x.2.2.length,a0T x.2.1].flatMap a1f,by_++x.2.2,t,())) (by
   simp only[a5n,dlt g,cT,c,oB,b,e,k,a0N (show out.length+([x.2.2.length,a0T x.2.1].flatMap a1f).length<2147483648 by omega),a0N (show by_.length+x.2.2.length<2147483648 by omega),a0A (show done.length<1000000 by omega)]
   simp)]
  rw[b4s d h rest (done++[x]) _ _ _ (by simpa using hd) hr.2 (by simp only[lN,a00];omega) (by simp only[lN,a00];omega)];simp[nsP,a1T]
theorem b9X{t:a4Z}(h:c9k t):a7F t=some (match a4m t with|some xs=>(b5P t.1 xs,0)|none=>([],1)):=by
 have d:∀f∈t.2.2.2.2.1,∀s∈f.2.2.2.2.1,SmallS s:=fun f a=>(h.2.2 f a).1;unfold a7F;rw[a9A h];cases hg:a4m t with
 |none=>rfl
 |some xs=>
  obtain⟨a,q,c,e⟩:=a8l d hg;have b:xs.length≤6:=by
   have:=congrArg a03 e
   rw[a02]at this
   have:=h.1
   omega
  generalize hfm:t.1=fm at *;have i:t.2.2.2.2.1.length=xs.length:=by rw[←e];simp
  have v:=a7i a c (by omega);obtain⟨w,x,y,z,A,B⟩:=id a;have o:([wrap .u64 fm.1,wrap .u64 fm.2.1,wrap .u64 fm.2.2.1,wrap .u64 ((a03 t.2.2.2.2.1:Nat):Int)]:List Int)=asI [fm.1.toNat,fm.2.1.toNat,fm.2.2.1.toNat,xs.length]:=by
   rw[i,a0G (by omega),a0G (by omega),a0G (by omega),a0G (by omega)];simp only[asI,a18,List.map_nil,a21 (show(0:Int)≤fm.1 by omega),a21 (show(0:Int)≤fm.2.1 by omega),a21 (show(0:Int)≤fm.2.2.1 by omega)]
  have u:=a4R (ns:=[fm.1.toNat,fm.2.1.toNat,fm.2.2.1.toNat,xs.length]) (fun n b=>by simp only[mC,a07,or_false]at b;omega) (by simp);have hv:=a8R [fm.1.toNat,fm.2.1.toNat,fm.2.2.1.toNat,xs.length] (fun n b=>by simp only[mC,a07,or_false]at b;omega);simp only[lC,a01]at hv;have hp:=b4s (fm:=fm) (all:=xs) (by omega) (t:=t) e.symm xs [] 0 (c1Y++[fm.1.toNat,fm.2.1.toNat,fm.2.2.1.toNat,xs.length].flatMap a1f) [] rfl c (by simp only[lN,c1Y,lC,a01];omega) (by simp);simp only[a01,nZ,a20]at hp;have l:=a8R (nsP xs) (fun n b=>a05 (b4f c n b) (by decide));rw[b3D]at l;have j:t.2.2.1=((a2z fm xs:Nat):Int):=by rw[q];rfl
  have g:(c1Y++[fm.1.toNat,fm.2.1.toNat,fm.2.2.1.toNat,xs.length].flatMap a1f++(nsP xs).flatMap a1f)++a7h 8 (a2z fm xs)=a2o fm xs:=by
   unfold a2o a5T;rw[a27];simp only[aA]
  have r:=b9T a c (by omega);have hb:=b5V a c (by omega);have p:=b7v c;simp only[a32,bT,cF,oB,o,u,a0N (show 4+([fm.1.toNat,fm.2.1.toNat,fm.2.2.1.toNat,xs.length].flatMap a1f).length<2147483648 by omega),cT]
  erw[hp]
  simp only[oB,j];rw[show a4X (((a2z fm xs:Nat):Int),8)=some (a7h 8 (a2z fm xs))from b9Q (k:=8) (by omega)];simp only[oB,a26,g];rw[a0N (by
   have:=congrArg a03 g
   rw[lN]at this;omega),cT,b8j (show short (a2o fm xs)by unfold short;omega) hb]
  simp only[oB];have m:=b8i (a2o fm xs);rw[a0G (n:=((a7M (a2o fm xs):Nat):Int)) (by omega),show a4X (((a7M (a2o fm xs):Nat):Int),4)=some (a7h 4 (a7M (a2o fm xs)))from b9Q (k:=4) (by omega)];simp only[oB];rw[a0N (by rw[b2q];omega),cT,a0N (by rw[lN,b2q];omega),cT];unfold b5P;rw[aA]
theorem b4F{t:a4Z}(h:c9k t):a4N t=some (match a4m t with|some xs=>(a1y xs,0)|none=>([],1)):=by
 have g:∀f∈t.2.2.2.2.1,∀s∈f.2.2.2.2.1,SmallS s:=fun f k=>(h.2.2 f k).1;unfold a4N;rw[a9A h];cases hg:a4m t with
 |none=>rfl
 |some xs=>
  obtain⟨k,d,c,a⟩:=a8l g hg;have e:xs.length≤6:=by
   have:=congrArg a03 a
   rw[a02]at this
   have:=h.1
   omega
  have b:=b5Z c (by omega);rw[a]at b;simp only[a32,bT,cF,oB,b]
def a9Y(s:Int)(f:a0S):Bool:=!(decide (f.1 > s))&&(!(decide (f.2.1≤0))&&decide ((wrap .u64 ((wrap .u64 s)-(wrap .u64 f.1)))<(wrap .u64 f.2.1)))
def b6i(s:Int):Nat→List a0S→Unit ⊕ (Int×Int×Unit)
 |_,[]=>.inl ()
 |i,f::fs=>bif a9Y s f then .inr ((i:Int),0,())else b6i s (i+1) fs
theorem c2D(s:Int){fs:List a0S}(b:fs.length≤200):∀(rest done:List a0S),done++rest=fs→y0s a2t (s,fs,(fs.length:Int),(done.length:Int),())=some (b6i s done.length rest)
 | [],done,hd=>by
  have e:fs.length=done.length:=by rw[←hd];simp
  refine a0C ?_
  simp only[a2t,e,dge,cF];rfl
 |f::rest,done,hd=>by
  have h:done.length<fs.length:=by rw[←hd];simp
  have g:m0k fs (done.length:Int)=some f:=by rw[←hd];exact a3r _ _ _
  have w:=a0A (show done.length<1000000 by omega);have k:=c2D s b rest (done++[f]) (by simpa using hd);rw[lN,a00]at k;rw[b6i];cases h1:decide (f.1 > s)with
  |true=>
   rw[a0E (s':=(s,fs,(fs.length:Int),((done.length+1:Nat):Int),())) (by simp only[a2t,dlt h,cT,g,oB,h1,w]),k];simp[a9Y,h1]
  |false=>
   cases h2:decide (f.2.1≤0)with
   |true=>
    rw[a0E (s':=(s,fs,(fs.length:Int),((done.length+1:Nat):Int),())) (by simp only[a2t,dlt h,cT,g,oB,h1,h2,cF,w]),k];simp[a9Y,h2]
   |false=>
    cases h3:decide ((wrap .u64 ((wrap .u64 s)-(wrap .u64 f.1)))<(wrap .u64 f.2.1))with
    |true=>
     have a:a9Y s f=true:=by simp only[a9Y,h1,h2,h3];rfl
     rw[a];refine a0C ?_
     simp only[a2t,dlt h,cT,g,oB,h1,h2,h3,cF]
    |false=>
     have a:a9Y s f=false:=by simp only[a9Y,h1,h2,h3];rfl
     rw[a0E (s':=(s,fs,(fs.length:Int),((done.length+1:Nat):Int),())) (by simp only[a2t,dlt h,cT,g,oB,h1,h2,h3,cF,w]),k,a];rfl
theorem b4t(s:Int){t:a4Z}(d:t.2.2.2.2.1.length≤200):∀(rest done:List a0S),done++rest=t.2.2.2.2.1→y0s a1H (s,(done.length:Int),t,())=some (b6i s done.length rest)
 | [],done,hd=>by
  have e:t.2.2.2.2.1.length=done.length:=by rw[←hd];simp
  refine a0C ?_
  simp only[a1H,e,dge,cF];rfl
 |f::rest,done,hd=>by
  have h:done.length<t.2.2.2.2.1.length:=by rw[←hd];simp
  have a:m0k t.2.2.2.2.1 (done.length:Int)=some f:=by rw[←hd];exact a3r _ _ _
  have w:=a0A (show done.length<1000000 by omega);have b:=b4t s d rest (done++[f]) (by simpa using hd);rw[lN,a00]at b;have g:decide (s≥f.1)=!(decide (f.1 > s)):=by rw[←decide_not];congr 1;simp
  have k:decide (f.2.1 > 0)=!(decide (f.2.1≤0)):=by rw[←decide_not];congr 1;simp
  rw[b6i];cases h1:decide (f.1 > s)with
  |true=>
   rw[a0E (s':=(s,((done.length+1:Nat):Int),t,())) (by
    simp only[a1H,dlt h,cT,a,oB,g,k,h1,w];cases decide (f.2.1≤0)<;>simp only[bT,a06,cT,cF,oB,w]),b]
   simp[a9Y,h1]
  |false=>
   cases h2:decide (f.2.1≤0)with
   |true=>
    rw[a0E (s':=(s,((done.length+1:Nat):Int),t,())) (by simp only[a1H,dlt h,cT,a,oB,g,k,h1,h2,bT,cF,w]),b];simp[a9Y,h2]
   |false=>
    cases h3:decide ((wrap .u64 ((wrap .u64 s)-(wrap .u64 f.1)))<(wrap .u64 f.2.1))with
    |true=>
     have c:a9Y s f=true:=by simp only[a9Y,h1,h2,h3];rfl
     rw[c];refine a0C ?_
     simp only[a1H,dlt h,cT,a,oB,g,k,h1,h2,h3,a06]
    |false=>
     have c:a9Y s f=false:=by simp only[a9Y,h1,h2,h3];rfl
     rw[a0E (s':=(s,((done.length+1:Nat):Int),t,())) (by simp only[a1H,dlt h,cT,a,oB,g,k,h1,h2,h3,a06,cF,w]),b,c];rfl
theorem d0S(t:a4Z)(s:Int)(f:t.2.2.2.2.1.length≤200):∃r,a6S (t,s)=some r∧a6L (t,s)=some r:=by
 have h:=c2D s f t.2.2.2.2.1 [] rfl;have g:=b4t s f t.2.2.2.2.1 [] rfl;unfold a6S a6L;simp only[a01,nZ]at h g;rw[h,g];cases b6i s 0 t.2.2.2.2.1 with
 |inl a=>exact⟨_,rfl,rfl⟩
 |inr b=>exact⟨_,rfl,rfl⟩
theorem b7x(s:Int){t:a4Z}(i:t.2.2.2.2.1.length≤6)(d:∀f∈t.2.2.2.2.1,∀s∈f.2.2.2.2.1,s.2.2.2.2.2.2.1.length=3):∀(rest done:List a0S),done++rest=t.2.2.2.2.1→(∀f∈done,(∀s∈f.2.2.2.2.1,SmallS s)∧f.2.2.2.2.1.length≤10∧f.2.2.2.1.length≤20)→
  y0s a1X (s,(done.length:Int),t,())=some (.inr (true,()))∨
  (y0s a1X (s,(done.length:Int),t,())=some (.inl (s,t,()))∧∀f∈t.2.2.2.2.1,(∀s∈f.2.2.2.2.1,SmallS s)∧f.2.2.2.2.1.length≤10∧f.2.2.2.1.length≤20)
 | [],done,h,hs=>by
  have h:done=t.2.2.2.2.1:=by simpa using h
  refine .inr ⟨a0C ?_,h▸hs⟩;rw[h];simp only[a1X,dge,cF]
 |f::rest,done,h,hs=>by
  have a:done.length<t.2.2.2.2.1.length:=by rw[←h];simp
  have k:m0k t.2.2.2.2.1 (done.length:Int)=some f:=by rw[←h];exact a3r _ _ _
  obtain⟨b,c,e⟩:=d0J (f:=f) (d f (by rw[←h];simp)) (m:=40) (by omega);rw[show((40:Nat):Int)=40 from rfl]at c;cases b with
  |false=>exact .inl (a0C (by simp only[a1X,dlt a,cT,k,oB,c,a06]))
  |true=>
   rw[a0E (s':=(s,(((done++[f]).length:Nat):Int),t,())) (by
    simp only[a1X,dlt a,cT,k,oB,c,bT,cF,a0A (show done.length<1000000 by omega)]
    simp)]
   exact b7x s i d rest (done++[f]) (by simpa using h) (fun g k=>by
    rcases mA.1 k with k|k;exact hs g k;rw[List.mem_singleton.1 k];exact e rfl)
theorem c2a(x:a4Z×Int)(v:∀f∈x.1.2.2.2.2.1,∀s∈f.2.2.2.2.1,s.2.2.2.2.2.2.1.length=3):a8E x=some true:=by
 obtain⟨t,s⟩:=x;unfold a8E;simp only[d3Y,oB,bT,cF]
 by_cases c1:((t.2.2.2.2.1.length:Nat):Int) > 6
 simp only[decide_eq_true c1,cT,oB];simp only[decide_eq_false c1,cF,oB]
 by_cases c2:((t.2.2.2.1.length:Nat):Int) > 10
 simp only[decide_eq_true c2,cT];simp only[decide_eq_false c2,cF];have h:=b7x s (t:=t) (by omega) v t.2.2.2.2.1 [] rfl (by simp);simp only[a01,nZ]at h;rcases h with h|⟨h,p⟩;rw[h];rfl;rw[h];have g:c9k t:=⟨by omega,by omega,p⟩;have k:∀f∈t.2.2.2.2.1,∀s∈f.2.2.2.2.1,SmallS s:=fun f u=>(p f u).1;have n:=d3X (t:=t) (by omega) k;obtain⟨r,l,m⟩:=d0S t s (by omega);have c:b0O t=some (a4m t).isSome:=by
  unfold b0O;rw[n];cases a4m t<;>rfl
 have o:a2s t=some (match a4m t with|some xs=>(a1y xs,0)|none=>([],1)):=by
  cases hg:a4m t with
  |none=>
   unfold a2s;rw[n,hg];rfl
  |some xs=>
   obtain⟨e,i,a,b⟩:=a8l k hg;have q:xs.length≤6:=by
    have:=congrArg a03 b
    rw[a02]at this;omega
   have:=c6P e a (by omega)
   rwa [←i]at this
 have d:a4V t=some (match a4m t with|some xs=>(b5P t.1 xs,0)|none=>([],1)):=by
  cases hg:a4m t with
  |none=>
   unfold a4V;rw[n,hg];rfl
  |some xs=>
   obtain⟨e,i,a,b⟩:=a8l k hg;have q:xs.length≤6:=by
    have:=congrArg a03 b
    rw[a02]at this;omega
   have:=c9i e a (by omega)
   rwa [←i]at this
 simp only[oB,o,b4F g,d,b9X g,l,m,c,a9A g,beq_self_eq_true,cT,d0K];have j:short (match a4m t with|some xs=>(a1y xs,(0:Int))|none=>(([]:List Int),(1:Int))).1:=by
  cases hg:a4m t with
  |none=>simp[short]
  |some xs=>
   obtain⟨e,i,a,b⟩:=a8l k hg;have q:xs.length≤6:=by
    have:=congrArg a03 b
    rw[a02]at this;omega
   have:=b5Y a
   show(a1y xs).length<1000000;omega
 rw[a8k j]
 simp
end Go.Ab
namespace Go.Proofs.YtbadoabamddpfaaGreatDoor
open Go.Ab Go.ChangeShapes Go.WideShapes Go.ChangeAt Go.RowKit
theorem b6a{α:Type}{f:Nat→Option (α×a0z×List Nat)}:∀(L:List α)(i:Nat),(∀(j:Nat) x,L[j]?=some x→f (i+j)=some (x,[],[]))→a0d f L.length i=some (L,[],[])
 | [],_,_=>rfl
 |a::L,i,h=>by
  have g:=h 0 a rfl;have k:=b6a L (i+1) (fun j x b=>by have:=h (j+1) x (by simpa using b);rw[←this];congr 1;omega);simp only[lC,a0d];simp only[a33]at g;rw[g,k];rfl
section
variable {H:Type} {enc:TypeId×Value→H} {P:Program} {w:World} {base:Nat} {spare:Nat→Bool} {held:Bool}
theorem c3H{k:IntKind}{n:Nat}{t e:TypeId}{fuel:Nat}{cs:List Value}{L:List Int}{p:List MemPlace}(B:P.underlying t=some (.array n e))(u:P.underlying e=some (.int k))(s:P.cellsOf e=1)
  (h:DataW.trod enc P w base spare held fuel t cs=some (.agg (L.map fun i=>.lit (.int k i)),p)):L.length=n∧∀(j:Nat) x,L[j]?=some x→cs[j]?=some (.int k x):=by
 obtain⟨C,m,rfl,b,-,A,a⟩:=DataW.trod_array B h;simp only[pJ,DataW.agg.injEq]at b;have z:L.length=n:=by rw[←A];simpa using congrArg a03 b.1
 refine⟨z,fun j x c=>?_⟩;obtain⟨v,-⟩:=lS.1 c;have g:=a j (by omega);rw[s]at g;obtain⟨y,d⟩:∃y,C[j]?=some y:=⟨_,lG (by omega)⟩;rw[d]at g;obtain⟨i,o,q,-⟩:=DataW.trod_int u g;have f:=congrArg (fun l=>l[j]?) b.1;simp only[List.getElem?_map,c,d,Option.map_some,q]at f;simp only[sj,DataW.lit.injEq,Lit.int.injEq,true_and]at f;subst f;have r:=congrArg (fun l=>l[0]?) o;simpa[List.getElem?_drop,List.getElem?_take]using r
end
def c7i : String := (Rows.frameTurnedRow.laid.map Prod.fst).headD ""
theorem e2a:Tryz.prog.globalNamed c7i=some 0:=by kernel_rfl
def d2b:TypeId:=((Tryz.prog.globals[0]?).map (·.type)).getD 0
theorem d3Z:(Tryz.prog.globals[0]?).map (·.type)=some d2b:=by kernel_rfl
def d2c:TypeId:=match Tryz.prog.underlying d2b with
 |some (.array _ e)=>e
 |_=>0
theorem e2b:Tryz.prog.underlying d2b=some (.array 64 d2c):=by kernel_rfl
theorem d7C:Tryz.prog.underlying d2c=some (.int .u8):=by kernel_rfl
theorem d7D:Tryz.prog.cellsOf d2c=1:=by kernel_rfl
@[reducible] def laidTab:List (String×DataW Unit):=[(c7i,Rows.laid_math_bits_deBruijn64tab)]

theorem d4W {g:Nat} {t:Ty} {x:t.den} (h:G0 g=some ⟨t,x⟩):g=0∧(⟨t,x⟩:(t:Ty)×t.den)=⟨.arr 64 (.int .u8),b2r⟩:=by
 unfold G0 find at h
 cases g with
 |zero=>exact⟨rfl,(Option.some.inj h).symm⟩
 |succ n=>exact absurd h (by simp[find])
theorem c5y{W:World}(h:laidMetH Tryz.prog laidTab W):∀g t x,G0 g=some ⟨t,x⟩→g<W.heap.size∧dec (a0a W none) t ((Src.at g 0).rd (a0a W none))=some (x,[],[]):=by
 rw[MakeChecks.laidMetH_plain _ _ _ (by kernel_rfl)]at h;obtain⟨ps,⟨r,w,m,q,u,v,b,c,d,a,_⟩,_,_⟩:=h;obtain rfl:=Option.some.inj (e2a.symm.trans b);obtain rfl:=Option.some.inj (d3Z.symm.trans c);have n:(Rows.laid_math_bits_deBruijn64tab:DataW Unit)=.agg (b2r.map fun i=>.lit (.int .u8 i)):=rfl;rw[n]at a;obtain⟨s,p⟩:=c3H e2b d7C d7D a;have k:∀(j:Nat) x,b2r[j]?=some x→W.cell? ⟨0,j,none⟩=some (.int .u8 x):=fun j x l=>by
  rw[World.var?_cell b d j];simpa using p j x l
 intro g t x o;obtain⟨rfl,e⟩:=d4W o;cases e;refine⟨z0m (k 0 0 rfl),?_⟩;exact b6a (f:=fun i=>dec (a0a W none) (.int .u8) fun j=>(Src.at 0 0).rd (a0a W none) (i*1+j)) b2r 0 (fun j x l=>by
  have:=k j x l
  simp only[dec,Src.rd,a0a,a24,Nat.mul_one,a33,this,if_true])
set_option maxRecDepth 100000 in
theorem d2d (os:Os) (args:Array Value):laidMetH Tryz.prog laidTab ((World.doorLaid Tryz.prog 400 os).forCall (fun _ _=>0) ⟨#[],args,[]⟩).memory:=
 laidMetH_of_parts3 (fuel:=8) (laidMet_of_run' 8 (by kernel_rfl) (by kernel_rfl)) (by kernel_rfl) (by kernel_rfl)
end Go.Proofs.YtbadoabamddpfaaGreatDoor
