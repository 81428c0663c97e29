/- Part of the proof: QUL. Conditions: as each statement tells. -/
import Derived.KernelRfl
import Derived.Test.YtbadoabamddpfaaGreatDoorRows
import Derived.ProofKit
import Derived.LaidMore
import Derived.LaidLaws
import Derived.LaidHandle
import Derived.LaidByTextLater
import Derived.OpenShut
import Derived.Handed
import Derived.Test.YtbadoabamddpfaaGreatDoorMF
noncomputable section
set_option linter.unusedSimpArgs false
set_option linter.unusedVariables false
open BitVec renaming ofInt→a00,xor_assoc→a03,toNat_ofInt→a05,getLsbD_ushiftRight→a18,eq_of_getLsbD_eq→a43,toNat_and→a47,getLsbD→a58,msb_eq_getLsbD_last→a61,xor_comm→a71,eq_of_toNat_eq→a75,getLsbD_xor→a86,xor_zero→b03,toNat→b05
open Bool renaming and_self→a09,not_false→a79
open Int renaming natCast_nonneg→a04,tdiv→a23,fdiv_eq_ediv_of_nonneg→a36,tmod→a46,toNat→a53,natCast_mul→a54
open List renaming length_map→a01,range→a02,length_nil→a06,length_singleton→a07,map_cons→a08,length→a21,mem_range→a22,foldl_append→a24,map_congr_left→a26,append_nil→a28,flatMap_cons→a29,replicate→a31,mem_map→a32,map_map→a33,getElem_mem→a34,not_mem_nil→a35,range_succ→a39,range_add→a44,getElem?_map→a45,cons_append→a48,take_length→a51,flatMap_append→a56,getElem?_range→a57,filter_append→a59,take→a62,length_range→a64,mem_flatMap→a65,ext_getElem→a66,flatMap_def→a67,nil_append→a70,foldl_cons→a72,drop→a73,eq_replicate_iff→a76,append_eq→a77,take_left→a78,all_cons→a82,getD_cons_succ→a84,getElem?_drop→a85,length_take→a96,append→a98,mem_filter→a99,length_set→b02,drop_left→b04
open Nat renaming mod_lt→a16,lt_trans→a19,mul_le_mul→a20,mul_le_mul_right→a25,and_two_pow_sub_one_eq_mod→a27,mul_mod→a30,mod_eq_of_lt→a37,add_mul→a38,mul_comm→a40,pow_succ→a41,zero_add→a42,add_mod→a49,mul_assoc→a50,pow_le_pow_right→a52,le_of_lt→a55,mul_div_cancel→a60,add_assoc→a63,zero_mul→a68,min_eq_left→a69,div_lt_iff_lt_mul→a74,le_sub_one_of_lt→a80,div_lt_of_lt_mul→a81,mul_le_mul_left→a83,pos_of_ne_zero→a87,eq_zero_or_pos→a88,lt_of_lt_of_le→a89,pow_zero→a90,add_zero→a91,lt_succ_of_lt→a92,mod_mod→a93,mul_one→a94,mul_add→a95,mul_mod_left→a97,div_le_self→b00,not_lt_zero→b01
namespace Go.Ab
open IntKind(wrap)
theorem c4a(x:a0L):eqT (.pair (.int .i64) (.pair (.int .i64) (.pair (.int .i64) .unit))) x x=true:=by
 show((x.1==x.1)&&((x.2.1==x.2.1)&&((x.2.2.1==x.2.2.1)&&true)))=true
 simp
theorem b7z{x w:Int}(h:4≤w∧w≤24):b2p (x,w)=some (a1j x w):=by
 have:=c4I (x:=x) (w:=w.toNat) (by omega)
 grind
theorem d1t{x w:Int}(b:4≤w∧w≤24)(h:a1j x w=true):-16777216≤x∧x≤16777216:=by
 unfold a1j at h;simp at h;obtain⟨-,-,f,g⟩:=h;obtain⟨o,k⟩:∃o:Nat,w-1=(o:Int):=⟨(w-1).toNat,by omega⟩;rw[k]at f g;rw[c3x (by omega)]at g;have hp:2^o≤2^24:=a52 (by omega) (by omega);have a:A0j .i64 (-1) (o:Int)=wrap .i64 (-((2^o:Nat):Int)):=by
  unfold A0j;show wrap .i64 (-1*2^(min (o:Int).toNat 64))=_
  grind
 grind[a0C]
theorem c7T{x w:Int}(g:4≤w∧w≤24)(h:a1j x w=true):a0A x=true:=a1H.2 (by have:=d1t g h;omega)
theorem b6n{b:a1p}(h:a3T b):a3p b.2.1 (a0Y b)∧a2D b.2.1:=by
 obtain⟨k,a,c,d,e,i,g⟩:=h;have j:a3p b.2.1 (a0Y b):=fun r f=>by
  have:=lA.1 g r f
  simp only[bA,dT]at this
  grind[c7T]
 grind[b9d]
theorem c6P{b:a1p}(hb:a3T b){l:List a0L}(c:a5b l (b.2.1.length:Int)){rows:List (List Int)}(n:doO l b.2.1=some rows){ss:List Sub}(q:a7w (fun s=>a2j s ((a0Y b:Nat):Int)) ss=some rows)
  {start rate:Int}(h:0≤start∧start≤4194304-((a0Y b:Nat):Int))(p:1≤rate∧rate≤1048576):
  a9h (start,((a0Y b:Nat):Int),(rate,((b.2.1.length:Nat):Int),b.1,()),l,ss,())=some b:=by
 obtain⟨m,y⟩:=b6n hb;obtain⟨x,z⟩:=b3q l m rfl c.2.2.2 n;have o:=b9f q;obtain⟨e,i,r,t,u,j,v⟩:=hb;have a:frP (start,((a0Y b:Nat):Int),(rate,((b.2.1.length:Nat):Int),b.1,()),l,ss,()):=⟨⟨p.1,p.2,by grind,by grind,e,i⟩,by grind,by grind,h.1,h.2,c⟩;have k:((ss.length:Nat):Int)=((b.2.1.length:Nat):Int):=by omega
 have g:a2D rows:=b9d x (by omega) (by omega) j;have d:a5b l ((rows.length:Nat):Int):=by simp_all
 have w:=c5p l m rfl c.2.2.2 n;have f:((b.1,b.2.1,()):a1p)=b:=rfl;unfold a9h;rw[if_pos ⟨a,k⟩];simp only[q,oB];rw[if_pos ⟨g,d⟩,w];simp only[oB,f];rw[if_pos ⟨e,i,r,t,u,j,v⟩]
def c0Q:a1o:=(0,0,(0,0,0,()),[],[],())
theorem c9f(k:Nat)(a:k≤62)(y:Int):∃v:Nat,bits .i64 .and y ((2^k-1:Nat):Int)=(v:Int)∧v<2^k:=by
 have hp:2^k≤2^62:=a52 (by omega) a;have f:0<2^k:=Nat.pow_pos (by omega);have h:((a00 64 y) &&& (a00 64 ((2^k-1:Nat):Int))).toNat=(a00 64 y).toNat%2^k:=by
  rw[a47];have e:(a00 64 ((2^k-1:Nat):Int)).toNat=2^k-1:=by
   rw[a05];generalize 2^k=p at *;omega
  rw[e,a27]
 have g:=a16 (a00 64 y).toNat f;refine⟨(a00 64 y).toNat%2^k,?_,g⟩;show wrap .i64 ((((a00 64 y) &&& (a00 64 ((2^k-1:Nat):Int))).toNat:Nat):Int)=_;rw[h];generalize (a00 64 y).toNat%2^k=z at *;exact a0C (by omega)
theorem c0R(c:List (List Int))(n i:Int){r:List Int}(a:short r):∀(k j:Nat)(s:Int),2≤j→j+k=r.length∨(k=0∧r.length≤j)→∃s',y0o a6E (s,r,(j:Int),c,n,i,())=some (s',c,n,i,())
 |0,j,s,h2,h=>⟨s,a0E (by
   have d:decide ((j:Int)<(r.length:Int))=false:=by grind
   simp only[a6E,d,cF])⟩
 |k+1,j,s,h2,h=>by
  have f:j<r.length:=by omega
  unfold short at a;have b:wrap .i64 ((j:Int)-1)=((j-1:Nat):Int):=by grind[a0C]
  have e:wrap .i64 ((j:Int)-2)=((j-2:Nat):Int):=by grind[a0C]
  have m:=a0D (l:=r) (i:=j-1) (by omega);have o:=a0D (l:=r) (i:=j-2) (by omega);obtain⟨s',g⟩:=c0R c n i a k (j+1) (wrap .i64 (s+v0n (wrap .i64 (wrap .i64 (r[j]-wrap .i64 (2*r[j-1]))+r[j-2])) (wrap .i64 (0-wrap .i64 (wrap .i64 (r[j]-wrap .i64 (2*r[j-1]))+r[j-2]))))) (by omega) (by omega);refine⟨s',?_⟩;rw[←g];exact a0F (by simp only[a6E,dlt f,cT,a0D f,oB,b,e,m,o,a0B (show j<1000000 by omega)])
theorem c2o{c:List (List Int)}{n:Nat}(h:a3p c n)(m:n≤4096)(l:c.length<1000):∃w,a6Z c=some w:=by
 unfold a6Z;simp only[c1B,oB]
 by_cases hq:a2D c
 rotate_left;simp_all;simp[hq];have f:∀(k i:Nat)(s:Int),i+k=c.length→∃s',y0o a6F (s,c,(c.length:Int),(i:Int),())=some (s',()):=by
  intro k
  induction k with
  |zero=>
   intro i s hi;obtain rfl:i=c.length:=by omega
   simp_all[a0E,a6F]
  |succ k ih=>
   intro i s hi;have g:i<c.length:=by omega
   have o:=(h _ (a34 g)).1;obtain⟨e,a⟩:=c0R c (c.length:Int) (i:Int) (r:=c[i]) (by unfold short;omega) (c[i].length-2) 2 s (Nat.le_refl _) (by omega);obtain⟨j,b⟩:=ih (i+1) e (by omega);refine⟨j,?_⟩;rw[←b];rw[show((2:Nat):Int)=2 from rfl]at a;exact a0F (by simp only[a6F,dlt g,cT,a0D g,oB,a,a0B (show i<1000000 by omega)])
 obtain⟨s',d⟩:=f c.length 0 0 (by omega);simp_all
def a4Q(m:Nat):List a0L:=match m with
 | 1=>[(0,1,-256,())]
 | 2=>[(1,0,-256,())]
 | 3=>[(1,0,-256,()),(0,1,128,())]
 | 4=>[(1,0,-106,()),(0,1,181,()),(1,0,-106,())]
 |_=>[]
theorem b9g{m:Nat}(h:m≤4):b0F (m:Int)=some (a4Q m):=by
 match m,h with
 |0,_=>rfl
 | 1,_=>rfl
 | 2,_=>rfl
 | 3,_=>rfl
 | 4,_=>rfl
theorem c2p{m:Nat}(h:m≤4):a5b (a4Q m) 2:=by
 match m,h with
 |0,_=>decide
 | 1,_=>decide
 | 2,_=>decide
 | 3,_=>decide
 | 4,_=>decide
theorem b4E{p:List (List Int)}{n:Nat}(hp:a3p p n)(b:p.length=2)(f:a2D p)(a:n≤4096):∀(k m best:Nat)(least:Int),m+k=5→best≤4→(doO (a4Q best) p).isSome=true→
  ∃best',y0o a6d (p,(best:Int),least,(m:Int),())=some (((best':Nat):Int),())∧best'≤4∧(doO (a4Q best') p).isSome=true
 |0,m,best,least,hm,hb,hd=>by
  obtain rfl:m=5:=by omega
  exact⟨best,a0E rfl,hb,hd⟩
 |k+1,m,best,least,hm,hb,hd=>by
  have d:decide ((m:Int)<5)=true:=by grind
  have e:wrap .i64 ((m:Int)+1)=((m+1:Nat):Int):=a0B (by omega);have g:a5b (a4Q m) (p.length:Int):=by grind[c2p]
  cases hdo:doO (a4Q m) p with
  |none=>
   have j:((6:Int) != 0)=true:=rfl;rw[a0F (s':=(p,(best:Int),least,((m+1:Nat):Int),())) (by
    simp only[a6d,d,cT,b9g (show m≤4 by omega),oB,c2R,if_pos (show a2D p∧a5b (a4Q m) (p.length:Int)from⟨f,g⟩),hdo,b9e,j,e])]
   exact b4E hp b f a k (m+1) best least (by omega) hb hd
  |some r=>
   have i:((0:Int) != 0)=false:=rfl;obtain⟨l,o⟩:=b3q (a4Q m) hp rfl g.2.2.2 hdo
   obtain⟨w,c⟩:=c2o l a (by omega);have h:a6d (p,(best:Int),least,(m:Int),())=bif decide (w<least)then some (.inl (p,(m:Int),w,((m+1:Nat):Int),()))else some (.inl (p,(best:Int),least,((m+1:Nat):Int),())):=by
    simp only[a6d,d,cT,b9g (show m≤4 by omega),oB,c2R,if_pos (show a2D p∧a5b (a4Q m) (p.length:Int)from⟨f,g⟩),hdo,b9e,i,cF,c,e]
   cases hlt:decide (w<least)with
   |true=>
    rw[hlt]at h;rw[a0F h];exact b4E hp b f a k (m+1) m w (by omega) (by omega) (by simp_all)
   |false=>
    rw[hlt]at h;rw[a0F h];exact b4E hp b f a k (m+1) best least (by omega) hb hd
theorem d1u{p:List (List Int)}{n:Nat}(hp:a3p p n)(g:p.length=2)(h:n≤4096):∃m,m≤4∧b1S p=some (a4Q m)∧(doO (a4Q m) p).isSome=true:=by
 have k:=b9d hp (by omega) (by omega) h;obtain⟨w,c⟩:=c2o hp h (by omega);obtain⟨m,a,f,b⟩:=b4E hp g k h 4 1 0 w rfl (by omega) rfl
 grind[b1S,b9g]
def b2v(i:Nat)(s:a0L):a0L:=(s.1+(i:Int),s.2.1+(i:Int),s.2.2.1,())
theorem c9g{i N:Nat}(h:i+2≤N){s:a0L}(k:a2u 2 s=true):a2u (N:Int) (b2v i s)=true:=by
 obtain⟨a1,a,b,c,d,g,f⟩:=a2T.1 k;exact a2T.2 ⟨by show 0≤s.1+(i:Int);omega,by show s.1+(i:Int)<(N:Int);omega,by show 0≤s.2.1+(i:Int);omega,by show s.2.1+(i:Int)<(N:Int);omega,by show s.1+(i:Int)≠s.2.1+(i:Int);omega,g,f⟩
def c2S(i:Nat)(c c' p:List (List Int)):Prop:=c'.length=c.length∧p.length=2∧c'.getD i []=p.getD 0 []∧c'.getD (i+1) []=p.getD 1 []∧∀j,j≠i→j≠i+1→c'.getD j []=c.getD j []
theorem c6Q{i:Nat}{c0 c p p':List (List Int)}(hi:i+2≤c0.length)(h:c2S i c0 c p){s:a0L}(n:a2u 2 s=true)(g:a3I 1 s p=some p'):∃c',a3I 1 (b2v i s) c=some c'∧c2S i c0 c' p':=by
 obtain⟨y,z,A,B,C⟩:=h;obtain⟨a1,k,a,b,q,t,u⟩:=a2T.1 n;unfold a3I at g⊢;simp only at g⊢;have f:∀x:Int,0≤x→x<2→c.getD (x+(i:Int)).toNat []=p.getD x.toNat []:=fun x E o=>by
  grind
 have v:=f s.1 a1 k;have w:=f s.2.1 a b;simp only[b2v];have m:a9E 1 s.2.2.1 (c.getD (s.1+(i:Int)).toNat []) (c.getD (s.2.1+(i:Int)).toNat [])=a9E 1 s.2.2.1 (p.getD s.1.toNat []) (p.getD s.2.1.toNat []):=by simp_all
 simp only[m]
 split at g
 rename_i d;cases g;rw[if_pos d];generalize a9E 1 s.2.2.1 (p.getD s.1.toNat []) (p.getD s.2.1.toNat [])=r at *;refine⟨_,rfl,by grind,by grind,?_,?_,fun j D l=>?_⟩
 have:s.2.1=0∨s.2.1=1:=by omega
 rcases this with e|e;rw[e,show((0:Int)+(i:Int)).toNat=i from by omega,a7s _ (by omega),show(0:Int).toNat=0 from rfl,a7s _ (by omega)];rw[e,show((1:Int)+(i:Int)).toNat=i+1 from by omega,b2i _ (by omega),show(1:Int).toNat=1 from rfl,b2i _ (by omega)];omega
 have:s.2.1=0∨s.2.1=1:=by omega
 rcases this with e|e;simp_all;rw[e,show((1:Int)+(i:Int)).toNat=i+1 from by omega,a7s _ (by omega),show(1:Int).toNat=1 from rfl,a7s _ (by omega)];rw[b2i _ (by omega)];simp_all;simp_all
theorem c4b{i:Nat}{c0:List (List Int)}(hi:i+2≤c0.length):∀(l:List a0L){c p p':List (List Int)},l.all (a2u 2)=true→c2S i c0 c p→doO l p=some p'→∃g,doO (l.map (b2v i)) c=some g∧c2S i c0 g p'
 | [],c,p,p',_,h,hd=>by cases hd;exact⟨c,rfl,h⟩
 |s::l,c,p,p',hl,h,hd=>by
  simp only[a82,bA]at hl;simp[doO,Option.bind_eq_some_iff]at hd;obtain⟨q,f,k⟩:=hd;obtain⟨d,a,b⟩:=c6Q hi h hl.1 f;obtain⟨g,j1,j2⟩:=c4b hi l hl.2 b k;exact⟨g,by simp only[a08,doO,a,oB];exact j1,j2⟩
theorem c5r:∀(l m:List a0L)(c:List (List Int)),doO (l++m) c=(doO l c).bind (doO m)
 | [],m,c=>rfl
 |s::l,m,c=>by
  simp only[a48,doO];cases a3I 1 s c with
  |none=>rfl
  |some d=>exact c5r l m d
theorem c7U{α β:Type}(f:α→β):∀l:List α,l.flatMap (fun x=>[f x])=l.map f
 | []=>rfl
 |x::l=>by simp[c7U f l]
theorem c4W(b:a1p)(first:Nat)(s:first≤100){y:List a0L}(d:y.all (a2u 2)=true)(r:y.length≤10)(out:List a0L)(t:out.length≤1000):
  y0o a6e ((first:Int),(y.length:Int),(0:Int),out,y,b,())=some ((first:Int),out++y.map (b2v first),b,()):=by
 have:=a1R (f:=a6e) (β:=Int×(List a0L×(a1p×Unit))) y (fun i (a:List a0L)=>((first:Int),(y.length:Int),(i:Int),a,y,b,())) (fun a x=>.inl (a++[b2v first x])) (fun i a=>a.length=out.length+i) (fun a=>((first:Int),a,b,()))
  (fun i hi a k=>⟨fun e h=>by
   simp at h;subst h;obtain⟨a1,j,l,m,o,p,q⟩:=a2T.1 (lA.1 d _ (a34 hi));have g:decide ((0:Int)≤(i:Int))=true:=by simp
   have c:List.getD y (a53 (i:Int)) ((0:Int),(0:Int),(0:Int),())=y[i]:=by simp_all
   refine⟨?_,by grind⟩;simp only[a6e,dlt hi,cT,g,a09,a0V (show a.length+1<2147483648 by omega),c,a0B (show i<1000000 by omega),a77];rw[a0C (n:=y[i].1+(first:Int)) (by omega),a0C (n:=y[i].2.1+(first:Int)) (by omega)]
   rfl,fun b hb=>by grind⟩)
  (fun a k=>by simp_all[a6e]) (a:=out) (by simp)
 simp_all[b3Z,a8Q,c7U]
theorem d4C{c:List (List Int)}{i:Nat}(h:i+2≤c.length):a73 i (a62 (i+2) c)=[c.getD i [],c.getD (i+1) []]:=by
 apply List.ext_getElem?;intro j;rw[a85]
 grind
theorem c0S{b:a1p}{n:Nat}(o:a3p b.2.1 n)(p:n≤4096)(z:b.2.1.length≤8):∀(k j:Nat)(out:List a0L)(c:List (List Int)),j+k=5→out.length≤3*j→out.all (a2u (b.2.1.length:Int))=true→doO out b.2.1=some c→(∀i,2*j≤i→c.getD i []=b.2.1.getD i [])→3*j≤12∨b.2.1.length≤2*j→
  ∃l f,y0o a8s (((2*j:Nat):Int),out,b,())=some (l,())∧l.length≤16∧l.all (a2u (b.2.1.length:Int))=true∧doO l b.2.1=some f
 |k,j,out,c,hk,hol,hob,hdo,hag,h12=>by
  have g:wrap .i64 (((2*j:Nat):Int)+1)=((2*j+1:Nat):Int):=by grind[a0C]
  by_cases hlt:2*j+1<b.2.1.length
  ·cases k with
   |zero=>omega
   |succ k=>
    have e:wrap .i64 (((2*j:Nat):Int)+2)=((2*j+2:Nat):Int):=by grind[a0C]
    have hp:a3p [b.2.1.getD (2*j) [],b.2.1.getD (2*j+1) []] n:=fun r q=>by
     simp only[mC,a35,or_false]at q;rcases q with rfl|rfl
     all_goals grind[a8c]
    obtain⟨m,u,N,E⟩:=d1u hp rfl p;obtain⟨p',d⟩:=Option.isSome_iff_exists.1 E;have h:=(c2p u).2.2.2;have C:(a4Q m).length≤3:=by
     match m,u with
     |0,_=>decide
     | 1,_=>decide
     | 2,_=>decide
     | 3,_=>decide
     | 4,_=>decide
    have A:c.length=b.2.1.length:=(b3q out o rfl hob hdo).2;obtain⟨f,F,G,H,I,K,L⟩:=c4b (i:=2*j) (c0:=c) (by omega) (a4Q m) h ⟨rfl,rfl,hag _ (Nat.le_refl _),hag _ (by omega),fun _ _ _=>rfl⟩ d;have B:=c4W b (2*j) (by omega) h (by omega) out (by omega);have a:decide (((2*j+1:Nat):Int)<((b.2.1.length:Nat):Int))=true:=by grind
    have v:decide ((0:Int)≤((2*j+2:Nat):Int))=true:=by rfl
    have w:decide (((2*j+2:Nat):Int)≤((b.2.1.length:Nat):Int))=true:=by grind
    have x:decide ((0:Int)≤((2*j:Nat):Int))=true:=by rfl
    have y:decide (((2*j:Nat):Int)≤((2*j+2:Nat):Int))=true:=by grind
    rw[a0F (s':=(((2*(j+1):Nat):Int),out++(a4Q m).map (b2v (2*j)),b,())) (by
     simp only[a8s,g,a,cT,e,v,w,a09,tN,x,y]
     grind[d4C])]
    refine c0S o p z k (j+1) (out++(a4Q m).map (b2v (2*j))) f (by omega) (by grind) ?_ (by simp_all[c5r]) (fun i hi=>by grind) (by omega);rw[List.all_append,hob,Bool.true_and,lA];intro s D;obtain⟨t,M,rfl⟩:=a32.1 D
    grind[c9g]
  refine⟨out,c,a0E ?_,by omega,hob,hdo⟩;have a:decide (((2*j+1:Nat):Int)<((b.2.1.length:Nat):Int))=false:=by grind
  simp only[a8s,g,a,cF]
termination_by k=>k
theorem c4c{b:a1p}(hb:a3T b):∃l h,a7q b=some l∧a5b l (b.2.1.length:Int)∧doO l b.2.1=some h:=by
 obtain⟨c,-⟩:=b6n hb;have a:=hb.2.2.2.1;obtain⟨l,h,d,g,f,k⟩:=c0S c hb.2.2.2.2.2.1 a 5 0 [] b.2.1 rfl (by simp) rfl rfl (fun _ _=>rfl) (by omega);refine⟨l,h,?_,⟨by have:=hb.2.2.1;omega,by omega,g,f⟩,k⟩;unfold a7q;simp[a8d,decide_eq_true hb];simp_all
theorem c9h{r:List Int}{n:Nat}(h:r.length=n∧r.all a0A=true)(a:1≤n)(b:n≤256){k:Int}(f:0≤k)(c:k≤3):
  ∃s,a5v (r,k)=some (s,0)∧SmallS s∧a2j s (n:Int)=some r∧a4Y s (n:Int)≤((13+a0I r*n:Nat):Int):=by
 obtain⟨e,g⟩:=h;have d:=a6M (l:=r) (by omega) g
 grind[c6F,d2C]
theorem c0T{effort:Int}(k:0≤effort)(c:effort≤3){rows:List (List Int)}{n:Nat}(i:a3p rows n)(a:1≤n)(b:n≤256)(l:rows.length≤8)(f:a1o):∀(rest d:List (List Int)) (done:List Sub),d++rest=rows→done.length=d.length→
  ∃outs,y0o a5w (effort,rows,(rows.length:Int),(d.length:Int),c0Q,a8H f done,())=some (.inl (c0Q,a8H f (done++outs),()))∧a7w (fun s=>a2j s (n:Int)) outs=some rest∧(∀s∈outs,SmallS s)∧a7w (fun r=>a5v (r,effort)) rest=some (outs.map fun s=>(s,0))
 | [],d,done,hd,hdl=>by
  have e:d=rows:=by simp_all
  subst e;refine⟨[],?_,rfl,by simp,rfl⟩;simp_all[a0E,a5w]
 |r::rest,d,done,hd,hdl=>by
  have g:d.length<rows.length:=by grind
  have m:m0h rows (d.length:Int)=some r:=by grind[a0D]
  obtain⟨s,j,o,p,-⟩:=c9h (i r (by grind)) a b k c;have z0:((0:Int) != 0)=false:=rfl;have h:a5w (effort,rows,(rows.length:Int),(d.length:Int),c0Q,a8H f done,())=some (.inl (effort,rows,(rows.length:Int),(((d++[r]).length:Nat):Int),c0Q,a8H f (done++[s]),())):=by
   simp only[a5w,dlt g,cT,m,oB,j,z0,cF];rw[show(a8H f done).2.2.2.2.1=done from rfl,a0V (show done.length+1<2147483648 by omega),cT,a0B (show d.length<1000000 by omega)];rw[show(((d++[r]).length:Nat):Int)=((d.length+1:Nat):Int)from by simp];rfl
  rw[a0F h];obtain⟨outs,u,v,w,x⟩:=c0T k c i a b l f rest (d++[r]) (done++[s]) (by simp_all) (by simp_all);refine⟨s::outs,?_,?_,fun t q=>?_,?_⟩;simp_all;simp_all[a7w]
  grind
  simp_all[a7w]
theorem c6R{b:a1p}(hb:a3T b)(k:a0Y b≤256){rate start effort:Int}(n:1≤rate∧rate≤1048576)(B:0≤start∧start≤4194304-((a0Y b:Nat):Int))(y:0≤effort)(z:effort≤3):
  ∃l g outs,a4I (b,(rate,((b.2.1.length:Nat):Int),b.1,()),start,effort)=some ((start,((a0Y b:Nat):Int),(rate,((b.2.1.length:Nat):Int),b.1,()),l,outs,()),0)∧
   a5b l (b.2.1.length:Int)∧doO l b.2.1=some g∧a7w (fun s=>a2j s ((a0Y b:Nat):Int)) outs=some g∧(∀s∈outs,SmallS s)∧a7w (fun r=>a5v (r,effort)) g=some (outs.map fun s=>(s,0))∧
   (effort=0→l=[])∧(0<effort→a7q b=some l):=by
 obtain⟨A,m⟩:=b6n hb;have i:=hb;obtain⟨w,x,D,E,F,G,-⟩:=i;have j:a3y (rate,((b.2.1.length:Nat):Int),b.1,()):=⟨n.1,n.2,by grind,by grind,w,x⟩;have f:∃l g,a5b l (b.2.1.length:Int)∧doO l b.2.1=some g∧(effort=0→l=[])∧(0<effort→a7q b=some l):=by
  by_cases he:effort=0
  exact⟨[],b.2.1,⟨by omega,by omega,by simp,rfl⟩,rfl,fun _=>rfl,fun h=>by omega⟩
  grind[c4c]
 obtain⟨l,g,e,d,a,c⟩:=f;obtain⟨C,H⟩:=b3q l A rfl e.2.2.2 d;obtain⟨outs,j1,j2,j3,j4⟩:=c0T y z C (by omega) k (by omega) (start,((a0Y b:Nat):Int),(rate,((b.2.1.length:Nat):Int),b.1,()),l,([]:List Sub),()) g [] [] rfl rfl;refine⟨l,g,outs,?_,e,d,j2,j3,j4,a,c⟩;have u:(b.1 != b.1)=false:=bne_self_eq_false _;have v:(((b.2.1.length:Nat):Int) != ((b.2.1.length:Nat):Int))=false:=bne_self_eq_false _;have o:decide (effort<0)=false:=by simp_all
 have p:decide (effort > 3)=false:=by simp_all
 have q:decide (start<0)=false:=by simp_all
 have t:decide (start > wrap .i64 (4194304-((a0Y b:Nat):Int)))=false:=by grind[a0C]
 have z0:((0:Int) != 0)=false:=rfl;unfold a4I;simp only[a8d,decide_eq_true hb,oB,bT,cF,a4y,decide_eq_true j,u,v,o,p,q,a6r,t];cases he:decide (effort > 0)with
 |true=>
  have:=c (by simp_all)
  simp[this,c2R,if_pos (show a2D b.2.1∧a5b l (b.2.1.length:Int)from⟨m,e⟩),d,b9e]
  erw[j1]
  rfl
 |false=>
  have:=a (by grind)
  subst this;simp only[cF,oB,c2R,if_pos (show a2D b.2.1∧a5b ([]:List a0L) (b.2.1.length:Int)from⟨m,e⟩),d,b9e,z0]
  erw[j1]
  rfl
theorem made{b:a1p}(hb:a3T b)(f:a0Y b≤256){rate start effort:Int}(e:1≤rate∧rate≤1048576)(a:0≤start∧start≤4194304-((a0Y b:Nat):Int))(j:0≤effort)(n:effort≤3):
  ∃g:Int×(a0L×(List a0L×(List Sub×Unit))),a4I (b,(rate,((b.2.1.length:Nat):Int),b.1,()),start,effort)=some ((start,g),0)∧g.1=((a0Y b:Nat):Int)∧g.2.1=(rate,((b.2.1.length:Nat):Int),b.1,())∧
   g.2.2.1.length≤16∧g.2.2.2.1.length≤8∧(∀s∈g.2.2.2.1,SmallS s)∧∀h,0≤h∧h≤4194304-((a0Y b:Nat):Int)→a9h (h,g)=some b:=by
 obtain⟨l,i,outs,m,k,c,d,o,-⟩:=c6R hb f e a j n;obtain⟨p,-⟩:=b6n hb;have t:=b9f d;have q:=(b3q l p rfl k.2.2.2 c).2;exact⟨_,m,rfl,rfl,k.2.2.1,by have:=hb.2.2.2.1;show outs.length≤8;omega,o,fun h r=>c6P hb k c d r e⟩
theorem d1v(y:Int):bits .i64 .and y 255=y%256:=by
 have h:((a00 64 y) &&& (a00 64 255)).toNat=(y%18446744073709551616).toNat%256:=by
  rw[a47,a05];have e:(a00 64 255).toNat=2^8-1:=by decide
  rw[e,a27];rfl
 show wrap .i64 ((((a00 64 y) &&& (a00 64 255)).toNat:Nat):Int)=_;rw[h,a0C (by omega)];omega
theorem d8r(x:Int){j:Nat}(g:j<8):A0k .i64 x ((8*j:Nat):Int)=x.fdiv (256^j):=by
 have h:min (a53 ((8*j:Nat):Int)) (IntKind.bits .i64)=8*j:=by
  simp only[tN,IntKind.bits];omega
 unfold A0k;rw[h,show(256:Int)=2^8 from rfl,←Int.pow_mul]
def smB(k:Nat)(x:Int):List Int:=leB k (x%18446744073709551616).toNat
theorem d1w(x:Int)(j:Nat)(g:j<8):((((x%18446744073709551616).toNat) / 256^j%256:Nat):Int)=x.fdiv (256^j)%256:=by
 have h:j=0∨j=1∨j=2∨j=3∨j=4∨j=5∨j=6∨j=7:=by omega
 rcases h with rfl|rfl|rfl|rfl|rfl|rfl|rfl|rfl<;>rw[a36 _ (by decide)]<;>simp only[Nat.reducePow,Int.reducePow]<;>omega
theorem b6o(k:Nat)(x:Int):(smB k x).length=k:=b0U _ _
theorem c9i(k:Nat)(h:k<8)(x:Int):smB (k+1) x=smB k x++[x.fdiv (256^k)%256]:=by
 unfold smB;rw[b8P,d1w x k h]
theorem b7A:∀(k n:Nat),∀b∈leB k n,0≤b∧b<256
 |0,_=>by simp[leB]
 |k+1,n=>fun b hb=>by
  rcases mC.1 hb with rfl|hb;omega;exact b7A k _ b hb
def a3z(w:Int)(l:List Int):List Int:=l.flatMap (smB ((w+7) / 8).toNat)
theorem c4d{k:Nat}{g:Int→List Int}(h:∀x,(g x).length=k):∀(l:List Int),(l.flatMap g).length=l.length*k
 | []=>by simp
 |x::l=>by
  rw[a29,lN,h,c4d h l,lC,a38];omega
theorem c6S{w:Int}(hw:4≤w∧w≤24)(l:List Int):(a3z w l).length≤3*l.length:=by
 unfold a3z;rw[c4d (b6o _)]
 have:((w+7) / 8).toNat≤3:=by omega
 calc l.length*((w+7) / 8).toNat≤l.length*3:=a83 _ this
  _=3*l.length:=a40 ..
theorem c6T(w:Int)(a b:List Int):a3z w (a++b)=a3z w a++a3z w b:=a56
theorem c4e(w:Int)(l:List Int):∀b∈a3z w l,0≤b∧b<256:=fun b hb=>by
 obtain⟨x,-,h⟩:=a65.1 hb;exact b7A _ _ b h
theorem d1x(b x n:Int)(i:Int)(l:List Int){k:Nat}(e:k≤8)(out:List Int)(m:out.length<100000000):
  y0o a4E (b,(k:Int),x,l,n,i,(k:Int),(0:Int),out,())=some (b,(k:Int),l,n,i,out++smB k x,()):=by
 have h:=a1B (f:=a4E) (fun j=>(b,(k:Int),x,l,n,i,(k:Int),(j:Int),out++smB j x,()))
  k (b:=(b,(k:Int),l,n,i,out++smB k x,())) (fun j d=>by
   have c:wrap .i64 ((8:Int)*(j:Int))=((8*j:Nat):Int):=by rw[a0C (by omega)];omega
   have g:decide (((8*j:Nat):Int)<0)=false:=by simp;omega
   simp only[a4E];rw[dlt d,a0V (show(out++smB j x).length+1<2147483648 by rw[lN,b6o];omega),c,g,a0B (show j<1000000 by omega),d1v,d8r x (by omega),a7f,Int.emod_emod_of_dvd _ (by decide),c9i j (by omega),←aA];rfl) (by simp only[a4E,dge,cF])
 have a:out++smB 0 x=out:=by simp[smB,leB]
 simp only[a]at h;exact h
theorem d2H{w:Int}(h:4≤w∧w≤24):wrap .i64 (a23 (wrap .i64 (w+(7:Int))) (8:Int))=((((w+7) / 8).toNat:Nat):Int):=by
 rw[a0C (n:=w+7) (by omega),Int.tdiv_eq_ediv_of_nonneg (by omega),a0C (by omega)];omega
theorem c2q{w:Int}(g:4≤w∧w≤24)(l:List Int)(c:l.length≤1000000){k:Nat}(a:k≤3):∀(rest done out:List Int),done++rest=l→rest.all (fun x=>a1j x w)=true→out.length+3*rest.length<100000000→
  y0o a6D (w,(k:Int),l,(l.length:Int),(done.length:Int),out,())=some (.inl (out++rest.flatMap (smB k),()))
 | [],done,out,hd,_,_=>by
  obtain rfl:done=l:=by simpa using hd
  rw[a0E (b:=Sum.inl (out,())) (by simp only[a6D,dge,cF])]
  simp
 |x::rest,done,out,hd,hf,ho=>by
  have h:done.length<l.length:=by rw[←hd];simp
  have f:m0h l (done.length:Int)=some x:=by rw[a0D h];subst hd;simp
  simp only[a82,bA]at hf;simp only[lC]at ho;rw[a0F (s':=(w,(k:Int),l,(l.length:Int),(((done++[x]).length:Nat):Int),out++smB k x,())) (by
   simp only[a6D,dlt h,cT,f,oB,b4b g,hf.1,bT,cF,d1x w x _ _ l (show k≤8 by omega) out (by omega),a0B (show done.length<1000000 by omega)]
   simp)]
  rw[c2q g l c a rest (done++[x]) (out++smB k x) (by simpa using hd) hf.2 (by rw[lN,b6o];omega)]
  simp
theorem c1C{w:Int}(g:4≤w∧w≤24){l:List Int}(c:l.length≤1000000)(b:l.all (fun x=>a1j x w)=true):a9p (l,w)=some (a3z w l,0):=by
 have f:decide (w<(4:Int))=false:=by simp;omega
 have a:decide (w > (24:Int))=false:=by simp;omega
 have h:=c2q g l c (k:=((w+7) / 8).toNat) (by omega) l [] [] rfl b (by simp;omega);rw[a06]at h;simp only[a9p,f,cF,oB,a,d2H g]
 erw[h]
 rfl
def a9F(d:List Int)(ch c:Nat):List Int:=((a02 d.length).filter fun i=>i%ch==c).map fun i=>d.getD i 0
def a2E(d:List Int)(ch:Nat):List (List Int):=(a02 ch).map (a9F d ch)
def wv(n:Nat)(rows:List (List Int)):List Int:=(a02 n).flatMap fun i=>rows.map fun r=>r.getD i 0
theorem c9j{α:Type}{a b:List α}{i:Nat}{d:α}(h:i<a.length):(a++b).getD i d=a.getD i d:=by
 rw[lD,List.getElem?_append_left h,←lD]
theorem c7V(d:List Int)(x:Int)(ch c:Nat):a9F (d++[x]) ch c=if d.length%ch=c then a9F d ch c++[x]else a9F d ch c:=by
 unfold a9F;rw[lN,a07,a39,a59,pA];have h:((a02 d.length).filter fun i=>i%ch==c).map (fun i=>(d++[x]).getD i 0)=((a02 d.length).filter fun i=>i%ch==c).map fun i=>d.getD i 0:=
  a26 fun i hi=>c9j (a22.1 (a99.1 hi).1)
 rw[h]
 by_cases e:d.length%ch=c
 rw[if_pos e];simp[e];rw[if_neg e];simp[e]
theorem c4f(c:Nat):∀ch,(a02 ch).filter (·==c)=if c<ch then[c]else[]
 |0=>rfl
 |ch+1=>by
  rw[a39,a59,c4f c ch]
  by_cases e:ch=c
  subst e;simp
  have:(c<ch+1)↔c<ch:=by omega
  simp[e,this]
theorem c4g{ch c:Nat}(h:c<ch):∀n,(a02 (n*ch)).filter (fun i=>i%ch==c)=(a02 n).map fun i=>i*ch+c
 |0=>by simp
 |n+1=>by
  rw[Nat.succ_mul,a44,a59,c4g h n,a39,pA,List.filter_map];congr 1;have e:∀i∈a02 ch,((fun i=>i%ch==c)∘fun x=>n*ch+x) i=(i==c):=fun i hi=>by
   have:=a22.1 hi
   simp only[Function.comp];rw[a40 n ch,Nat.mul_add_mod,a37 this]
  rw[List.filter_congr e,c4f,if_pos h];rfl
theorem c2r{d:List Int}{n ch c:Nat}(g:d.length=n*ch)(h:c<ch):a9F d ch c=(a02 n).map fun i=>d.getD (i*ch+c) 0:=by
 unfold a9F;rw[g,c4g h,a33];rfl
theorem d2I(f:Nat→Int)(ch:Nat):∀n,(a02 n).flatMap (fun i=>(a02 ch).map fun c=>f (i*ch+c))=(a02 (n*ch)).map f
 |0=>by simp
 |n+1=>by
  rw[a39,a56,d2I f ch n,Nat.succ_mul,a44,pA,a33];simp[Function.comp_def]
theorem c6U(d:List Int):(a02 d.length).map (fun i=>d.getD i 0)=d:=
 a66 (by simp) fun i g h=>by simp[lD,h]
theorem c1D{n i:Nat}(f:Nat→Int)(h:i<n):((a02 n).map f).getD i 0=f i:=by
 rw[lD,a45,a57 h];rfl
theorem c6V{α β:Type}{l:List α}{f g:α→List β}(h:∀a∈l,f a=g a):l.flatMap f=l.flatMap g:=by
 rw[a67,a67,a26 h]
theorem d1y{d:List Int}{n ch:Nat}(h:d.length=n*ch):wv n (a2E d ch)=d:=by
 have:wv n (a2E d ch)=(a02 n).flatMap fun i=>(a02 ch).map fun c=>d.getD (i*ch+c) 0:=
  c6V fun i hi=>by
   unfold a2E;rw[a33];refine a26 fun c g=>?_
   show(a9F d ch c).getD i 0=_;rw[c2r h (a22.1 g),c1D _ (a22.1 hi)]
 rw[this,d2I (fun i=>d.getD i 0),←h,c6U]
def prm:Nat:=2305843009213693951
def prs(h:Nat)(l:List Nat):Nat:=l.foldl (fun h c=>(h*1000003+(c+1))%prm) h
theorem d1z(h:Nat):prs h []=h:=rfl
theorem c4h(h c:Nat)(l:List Nat):prs h (c::l)=prs ((h*1000003+(c+1))%prm) l:=rfl
theorem c6W(h:Nat)(a b:List Nat):prs h (a++b)=prs (prs h a) b:=a24 ..
theorem c4i{h:Nat}(g:h<prm)(l:List Nat):prs h l<prm:=by
 induction l generalizing h with
 |nil=>exact g
 |cons c l ih=>exact ih (a16 _ (by decide))
theorem b6p(a b c:Nat):(a%prm*b+c)%prm=(a*b+c)%prm:=by
 rw[a49,a30,a93,←a30,←a49]
theorem c4j(a b:Nat):(a+b%prm)%prm=(a+b)%prm:=by
 rw[a49,a93,←a49]
theorem c9k(l:List Nat)(h:Nat):prs h l%prm=(h*1000003^l.length+prs 0 l)%prm:=by
 induction l generalizing h with
 |nil=>simp[d1z]
 |cons c l ih=>
  rw[c4h,c4h,ih,b6p,←c4j (h*_),ih ((0*1000003+(c+1))%prm),b6p,c4j,lC,a41];congr 1;rw[a68,a42,a38,a63,a50,a40 (1000003^_) 1000003]
theorem c9l(a b:List Nat):prs 0 (a++b)=(prs 0 a*(1000003^b.length%prm)+prs 0 b)%prm:=by
 rw[c6W,←a37 (c4i (c4i (by decide) a) b),c9k,a40 (prs 0 a) (_%prm),b6p,a40 (prs 0 a)]
def pwr:Nat→Nat→Nat→Nat→Nat
 |0,_,p,_=>p
 |k+1,n,p,s=>if n=0 then p else pwr k (n / 2) (if n%2=1 then p*s%prm else p) (s*s%prm)
theorem c9m(a b:Nat):a%prm*b%prm=a*b%prm:=b6p a b 0
theorem c4k(a n:Nat):(a%prm)^n%prm=a^n%prm:=by rw[←Nat.pow_mod]
theorem d2J(k n p s:Nat)(h:n<2^k)(hp:p<prm):pwr k n p s=p*s^n%prm:=by
 induction k generalizing n p s with
 |zero=>rw[show n=0 by simp at h;exact h,pwr,a90,a94,a37 hp]
 |succ k ih=>
  rw[pwr]
  by_cases h0:n=0
  rw[if_pos h0,h0,a90,a94,a37 hp];rw[if_neg h0];have g:n / 2<2^k:=by rw[a41]at h;omega
  have f:(s*s)^(n / 2)=s^(2*(n / 2)):=by rw[Nat.pow_mul,Nat.pow_two]
  by_cases h1:n%2=1
  rw[if_pos h1,ih _ _ _ g (a16 _ (by decide)),a30,c4k,f,←a30,c9m,a50,←Nat.pow_succ'];congr 3;omega;rw[if_neg h1,ih _ _ _ g hp,a30,c4k,f,←a30];congr 3;omega
theorem c7W{u d y1 y0 q r:Nat}(g:u=q*y1+r)(h:q*y0≤4294967296*r+d):q*(y1*4294967296+y0)≤u*4294967296+d:=by
 rw[g,a95,a38,←a50];omega
theorem d2K{u d y1 y0 q r:Nat}(g:u=q*y1+r)(h:4294967296*r+d<q*y0):u*4294967296+d<q*(y1*4294967296+y0):=by
 rw[g,a95,a38,←a50];omega
theorem d1A(u d e y:Nat):((u*4294967296+d)%y*4294967296+e)%y=((u*4294967296+d)*4294967296+e)%y:=by
 rw[a49,a30,a93,←a30,←a49]
theorem c7X(n k y:Nat)(h:0<k):n*k%(y*k) / k=n%y:=by
 rw[Nat.mul_mod_mul_right,a60 _ h]
@[reducible] def Pc:Type:=a1o×(a1p×List Int)
def c4l(fm:a0L)(st:Nat)(x:Pc):Prop:=
 x.1.1=(st:Int)∧x.1.2.1=((a0Y x.2.1:Nat):Int)∧x.1.2.2.1=fm∧a3M x.1=some (x.2.1,0)∧a4m x.1=some (x.2.2,0)∧
  (∀R:List Int,R.length≤200000000→a6i (x.2.2++R)=some (x.1,(x.2.2.length:Int),(0:Int)))∧a3T x.2.1∧x.2.1.1=fm.2.2.1∧a0Y x.2.1≤64∧1≤x.2.2.length∧x.2.2.length≤700800
def a2W(fm:a0L):Nat→List Pc→Prop
 |_,[]=>True
 |st,x::xs=>c4l fm st x∧a2W fm (st+a0Y x.2.1) xs
def a3f:Nat→Nat→List Pc→List (Int×Int×Unit)
 |_,_,[]=>[]
 |st,off,x::xs=>((st:Int),(off:Int),())::a3f (st+a0Y x.2.1) (off+x.2.2.length) xs
def a1l(xs:List Pc):Nat:=(xs.map fun x=>a0Y x.2.1).sum
def a0Q(xs:List Pc):List Int:=xs.flatMap fun x=>x.2.2
def wvB(b:a1p):List Int:=wv (a0Y b) b.2.1
def a6N(xs:List Pc):List Int:=xs.flatMap fun x=>wvB x.2.1
def prI(l:List Int):Nat:=prs 0 (l.map a53)
def a1F(fm:a0L)(xs:List Pc):Nat:=prI (a3z fm.2.2.1 (a6N xs))
theorem c0U(l:List Int):prI l<prm:=c4i (by decide) _
theorem d1B(a b:List Int):prI (a++b)=(prI a*(1000003^b.length%prm)+prI b)%prm:=by
 unfold prI;rw[pA,c9l,a01]
theorem a5G(h:List Pc)(x:Pc):a1l (h++[x])=a1l h+a0Y x.2.1:=by simp[a1l]
theorem a9i(h:List Pc)(x:Pc):a0Q (h++[x])=a0Q h++x.2.2:=by simp[a0Q]
theorem b3j(h:List Pc)(x:Pc):a6N (h++[x])=a6N h++wvB x.2.1:=by simp[a6N]
theorem c7Y{rows:List (List Int)}:∀n,(wv n rows).length=n*rows.length:=fun n=>by
 unfold wv;rw[List.length_flatMap];simp only[a01];rw[List.map_const',List.sum_replicate_nat,a64]
theorem c2s{fm:a0L}:∀{xs:List Pc}{st:Nat}{x:Pc},a2W fm st xs→c4l fm (st+a1l xs) x→a2W fm st (xs++[x])
 | [],st,x,_,h=>⟨by simpa[a1l]using h,trivial⟩
 |y::xs,st,x,h,h2=>⟨h.1,c2s h.2 (by simpa[a1l,a63]using h2)⟩
theorem b5f:∀(xs:List Pc)(st off:Nat)(x:Pc),a3f st off (xs++[x])=a3f st off xs++[(((st+a1l xs:Nat):Int),((off+(a0Q xs).length:Nat):Int),())]
 | [],st,off,x=>by simp[a3f,a1l,a0Q]
 |y::xs,st,off,x=>by
  simp only[a48,a3f,b5f xs];simp[a1l,a0Q,a63]
theorem b1c:∀(xs:List Pc)(st off:Nat),(a3f st off xs).length=xs.length
 | [],_,_=>rfl
 |_::xs,_,_=>congrArg (·+1) (b1c xs _ _)
theorem a8J{fm:a0L}:∀{xs:List Pc}{st:Nat},a2W fm st xs→(a0Q xs).length≤700800*xs.length
 | [],_,_=>by simp[a0Q]
 |x::xs,st,h=>by
  have:=a8J h.2
  have:=h.1.2.2.2.2.2.2.2.2.2.2
  simp only[a0Q,a29,lN,lC]at *;omega
theorem d1C{b:a1p}{fm:a0L}(hb:a3T b)(i:a0Y b≤64)(j:1≤fm.1∧fm.1≤1048576)(d:fm.2.1=((b.2.1.length:Nat):Int))(h:fm.2.2.1=b.1){st:Nat}(q:st+a0Y b≤4194304){effort:Int}(m:0≤effort)(n:effort≤3):
  ∃g p,a4I (b,fm,(st:Int),effort)=some (((st:Int),g),0)∧c4l fm st (((st:Int),g),b,p):=by
 obtain⟨rate,ch,bits,u⟩:=fm;cases u;simp only at j d h;subst d h;obtain⟨g,r,s,t,x,y,l,v⟩:=made hb (by omega) (rate:=rate) (start:=(st:Int)) (effort:=effort) j (by omega) m n;have a:=v (st:Int) (by omega);obtain⟨L,o,-,e,c⟩:=c6O (f:=((st:Int),g)) l a;have k:=c3Z (f:=((st:Int),g)) l;rw[a]at k;have w:=b9c (b7y a).1 o;refine⟨g,a3Z ((st:Int),g) L,r,rfl,s,t,k,e,c,hb,rfl,i,?_,?_⟩;show 1≤(a3Z _ L).length;simp only[a3Z,lN,lC];omega;show(a3Z _ L).length≤700800;simp only[a3Z,lN,lC,a06];omega
theorem c4m{d:List Int}{n ch c:Nat}(g:d.length=n*ch)(h:c<ch):(a9F d ch c).length=n:=by rw[c2r g h];simp
theorem c9n{d:List Int}{ch c:Nat}{x:Int}(h:x∈a9F d ch c):x∈d:=by
 unfold a9F at h;obtain⟨i,hi,rfl⟩:=a32.1 h;have hi:=a22.1 (a99.1 hi).1;rw[lD,lG hi];exact a34 hi
def a8e(w:Int)(d:List Int)(ch:Nat):a1p:=(w,a2E d ch,())
theorem b9h{w:Int}{d:List Int}{n ch:Nat}(g:d.length=n*ch)(h:0<ch):a0Y (a8e w d ch)=n:=by
 obtain⟨k,rfl⟩:∃k,ch=k+1:=⟨ch-1,by omega⟩;show((a2E d (k+1)).headD []).length=n;unfold a2E;rw[List.range_succ_eq_map];exact c4m g (by omega)
theorem d1D{w:Int}{d:List Int}{n ch:Nat}(k:d.length=n*ch)(h:1≤ch∧ch≤8)(a:1≤n∧n≤4096)(b:4≤w∧w≤24)(e:d.all (fun x=>a1j x w)=true):a3T (a8e w d ch):=by
 have f:=b9h (w:=w) k (show 0<ch by omega);have g:(a2E d ch).length=ch:=by simp[a2E]
 refine⟨b.1,b.2,by rw[show(a8e w d ch).2.1.length=ch from g];exact h.1,by rw[show(a8e w d ch).2.1.length=ch from g];exact h.2,by rw[f];exact a.1,by rw[f];exact a.2,?_⟩;rw[f];refine lA.2 fun r i=>?_
 obtain⟨c,g,rfl⟩:=a32.1 (show r∈(a02 ch).map (a9F d ch)from i);rw[bA,dT];exact⟨c4m k (a22.1 g),lA.2 fun x j=>lA.1 e x (c9n j)⟩
theorem d1E{w:Int}{d:List Int}{n ch:Nat}(g:d.length=n*ch)(h:0<ch):wvB (a8e w d ch)=d:=by
 unfold wvB;rw[b9h g h];exact d1y g
def b1C(n:Nat)(l:List Int):Nat:=l.foldl (fun n c=>n*256+c.toNat) n
def a3A(k n:Nat):List Int:=(leB k n).reverse
theorem b4c:∀(k n:Nat),n<256^k→b1C 0 (a3A k n)=n
 |0,n,h=>by simp at h;subst h;rfl
 |k+1,n,h=>by
  have g:=b4c k (n / 256) (by rw[a74 (by omega)];rw[a41]at h;exact h);unfold b1C a3A at *;rw[leB,List.reverse_cons,a24,g]
  simp
  omega
theorem c4n:∀(l l':List Int)(n n':Nat),l.length=l'.length→(∀b∈l,0≤b∧b<256)→(∀b∈l',0≤b∧b<256)→b1C n l=b1C n' l'→n=n'∧l=l'
 | [],[],n,n',_,_,_,h=>⟨h,rfl⟩
 |x::l,y::l',n,n',hl,h1,h2,h=>by
  obtain⟨e,rfl⟩:=c4n l l' (n*256+x.toNat) (n'*256+y.toNat) (by simpa using hl) (fun b hb=>h1 b (by simp[hb])) (fun b hb=>h2 b (by simp[hb])) h
  have:=h1 x (by simp)
  have:=h2 y (by simp)
  obtain⟨rfl,rfl⟩:n=n'∧x=y:=by omega
  exact⟨rfl,rfl⟩
theorem a1D(k n:Nat):(a3A k n).length=k:=by simp[a3A,b0U]
theorem a2v(k n:Nat):∀b∈a3A k n,0≤b∧b<256:=fun b hb=>b7A k n b (List.mem_reverse.1 hb)
theorem c1E{n k:Nat}(j:n<18446744073709551616)(d:k≤8):a5f ((n:Int),(k:Int))=some (leB k n):=by
 have c:a2S (k:Int)=some (k:Int):=by
  simp only[a2S,b5p,b3k];congr 1;omega
 simp only[a5f,c,oB];have h:=a1B (f:=a1Q) (fun i=>(((n / 256^i:Nat):Int),(k:Int),(i:Int),leB i n,())) k (b:=(leB k n,())) (fun i hi=>by
   have g:wrap .u64 (a23 ((n / 256^i:Nat):Int) 256)=((n / 256^(i+1):Nat):Int):=by
    have e:a23 ((n / 256^i:Nat):Int) 256=((n / 256^i / 256:Nat):Int):=rfl;rw[e,Nat.div_div_eq_div_mul,←a41]
    have:=b00 n (256^(i+1))
    revert this
    generalize n / 256^(i+1)=m;intro this;exact a0K (by omega)
   have a:wrap .u8 (a46 ((n / 256^i:Nat):Int) 256)=((n / 256^i%256:Nat):Int):=by
    have e:a46 ((n / 256^i:Nat):Int) 256=((n / 256^i%256:Nat):Int):=rfl;rw[e,a7f];omega
   simp only[a1Q];rw[dlt hi,a0V (show(leB i n).length+1<2147483648 by rw[b0U];omega),g,a0B (show i<1000000 by omega),a,b8P];rfl) (by simp only[a1Q,dge,cF])
 simp only[a90,Nat.div_one,leB]at h;rw[show((0:Nat):Int)=0 from rfl]at h;rw[h];rfl
theorem b7B{n k:Nat}(g:n<18446744073709551616)(h:k≤8):a4l ((n:Int),(k:Int))=some (a3A k n):=by
 unfold a4l a1O;simp only[c1E g h,oB];rw[decide_eq_true (by rw[b0U];omega)];rfl
def c32(s:BitVec 32):BitVec 32:=bif s.getLsbD 0 then(s >>> 1) ^^^ 0xedb88320#32 else s >>> 1
theorem c5s(s:BitVec 32):(c32 s).getLsbD 31=s.getLsbD 0:=by
 unfold c32;cases h:s.getLsbD 0 with
 |true=>rw[cT,a86,a18];simp
 |false=>rw[cF,a18];simp
theorem d1F{s t:BitVec 32}(h:c32 s=c32 t):s=t:=by
 have hb:s.getLsbD 0=t.getLsbD 0:=by rw[←c5s,h,c5s]
 have g:s >>> 1=t >>> 1:=by
  unfold c32 at h;rw[←hb]at h;cases hc:s.getLsbD 0 with
  |true=>
   rw[hc,cT,cT]at h
   have:=congrArg (· ^^^ 0xedb88320#32) h
   simpa[a03]using this
  |false=>rw[hc,cF,cF]at h;exact h
 refine a43 fun i hi=>?_
 cases i with
 |zero=>exact hb
 |succ i=>
  have:=congrArg (fun x=>a58 x i) g
  simpa[a18,Nat.add_comm]using this
def c4o:Nat→BitVec 32→BitVec 32
 |0,s=>s
 |k+1,s=>c4o k (c32 s)
theorem c4p{k:Nat}{s t:BitVec 32}(h:c4o k s=c4o k t):s=t:=by
 induction k generalizing s t with
 |zero=>exact h
 |succ k ih=>exact d1F (ih h)
def b9i(s x:BitVec 32):BitVec 32:=c4o 8 (s ^^^ x)
def b9j(s:BitVec 32)(l:List (BitVec 32)):BitVec 32:=l.foldl b9i s
theorem c6X{s t x:BitVec 32}(h:b9i s x=b9i t x):s=t:=by
 have:=congrArg (· ^^^ x) (c4p h)
 simpa[a03]using this
theorem c7Z{s x y:BitVec 32}(h:b9i s x=b9i s y):x=y:=by
 have:=congrArg (s ^^^ ·) (c4p h)
 simpa[←a03]using this
theorem c6Y{s t:BitVec 32}{l:List (BitVec 32)}(h:b9j s l=b9j t l):s=t:=by
 induction l generalizing s t with
 |nil=>exact h
 |cons x l ih=>exact c6X (ih h)
theorem c4X{s x y:BitVec 32}{p t:List (BitVec 32)}(h:x≠y):b9j s (p++x::t)≠b9j s (p++y::t):=fun e=>by
 unfold b9j at e;rw[a24,a24]at e;exact h (c7Z (c6Y (l:=t) e))
theorem c9o(s:BitVec 32):a00 32 ((s.toNat:Nat):Int)=s:=by
 rw[BitVec.ofInt_natCast,BitVec.ofNat_toNat,BitVec.setWidth_eq]
theorem d2L(s:BitVec 32):wrap .u32 ((s.toNat:Nat):Int)=((s.toNat:Nat):Int):=by
 have:=s.isLt
 simp[wrap,IntKind.bits,IntKind.signed];omega
theorem c6Z(s t:BitVec 32):bits .u32 .xor ((s.toNat:Nat):Int) ((t.toNat:Nat):Int)=(((s ^^^ t).toNat:Nat):Int):=by
 show wrap .u32 (((a00 32 _ ^^^ a00 32 _).toNat:Nat):Int)=_;rw[c9o,c9o,d2L]
theorem d4D(s:BitVec 32):(bits .u32 .and ((s.toNat:Nat):Int) 1==(1:Int))=s.getLsbD 0:=by
 have h:bits .u32 .and ((s.toNat:Nat):Int) 1=(((s &&& 1#32).toNat:Nat):Int):=by
  show wrap .u32 (((a00 32 _ &&& a00 32 1).toNat:Nat):Int)=_;rw[c9o,show a00 32 1=1#32 from rfl,d2L]
 rw[h,a47,show(1#32).toNat=1 from rfl,Nat.and_one_is_mod,a58,Nat.testBit_zero];rcases Nat.mod_two_eq_zero_or_one s.toNat with e|e<;>rw[e]<;>rfl
theorem d4E(s:BitVec 32):A0k .u32 ((s.toNat:Nat):Int) 1=(((s >>> 1).toNat:Nat):Int):=by
 unfold A0k;rw[show min (a53 1) (IntKind.bits .u32)=1 from rfl,a36 _ (by decide),BitVec.toNat_ushiftRight,Nat.shiftRight_eq_div_pow]
 norm_cast
def e32(s:Int):Int:=bif (bits .u32 .and s 1)==(1:Int)then bits .u32 .xor (A0k .u32 s 1) 3988292384 else A0k .u32 s 1
theorem d2M(s:BitVec 32):e32 ((s.toNat:Nat):Int)=(((c32 s).toNat:Nat):Int):=by
 unfold e32 c32;rw[d4D,d4E,show(3988292384:Int)=(((0xedb88320#32).toNat:Nat):Int)from rfl,c6Z];cases s.getLsbD 0<;>rfl
theorem c4q:∀(k:Nat)(s:BitVec 32),rep e32 k ((s.toNat:Nat):Int)=(((c4o k s).toNat:Nat):Int)
 |0,_=>rfl
 |k+1,s=>by
  rw[show rep e32 (k+1) ((s.toNat:Nat):Int)=rep e32 k (e32 ((s.toNat:Nat):Int))from rfl,d2M,c4q k];rfl
def c1F(l:List Int):BitVec 32:=b9j 0xffffffff#32 (l.map (a00 32))
def a1w(l:List Int):Nat:=(~~~ c1F l).toNat
theorem b1D(l:List Int):a1w l<4294967296:=(~~~ c1F l).isLt
theorem c4r{a b:Int}{p t:List Int}(g:0≤a∧a<256)(hb:0≤b∧b<256)(h:a≠b):a1w (p++a::t)≠a1w (p++b::t):=fun e=>by
 have e:c1F (p++a::t)=c1F (p++b::t):=by
  have:=congrArg (fun x=>~~~ x) (a75 e)
  simpa using this
 unfold c1F at e;rw[pA,pA,a08,a08]at e;refine c4X (fun e=>h ?_) e
 have:=congrArg b05 e
 rw[a05,a05]at this;omega
@[reducible] def b9k:Type:=a0L×(Int×(Int×(List (Int×(Int×Unit))×(List a1o×Unit))))
def mkT(fm:a0L)(xs:List Pc):b9k:=(fm,((a1l xs:Nat):Int),((a1F fm xs:Nat):Int),a3f 0 0 xs,xs.map (·.1),())
def nsP(xs:List Pc):List Nat:=xs.flatMap fun x=>[x.2.2.length,a0Y x.2.1]
def a2F(fm:a0L)(xs:List Pc):List Nat:=[fm.1.toNat,fm.2.1.toNat,fm.2.2.1.toNat,xs.length]++nsP xs
def a8f:List Int:=[75,78,83,68]
def a0T(fm:a0L)(xs:List Pc):List Int:=a8f++((a2F fm xs).flatMap a0J++a3A 8 (a1F fm xs))
def a1G(fm:a0L)(xs:List Pc):List Int:=a0T fm xs++(a3A 4 (a1w (a0T fm xs))++a0Q xs)
def b2j(l:List Int)(ch st en:Nat):List Int:=(l.take (en*ch)).drop (st*ch)
theorem c8a{l:List Int}{ch st en:Nat}(h:en*ch≤l.length):(b2j l ch st en).length=(en-st)*ch:=by
 unfold b2j;rw[List.length_drop,a96,a69 h,Nat.sub_mul]
theorem c8b{l:List Int}{ch st en:Nat}(g:st≤en):l.take (st*ch)++b2j l ch st en=l.take (en*ch):=by
 unfold b2j;have h:st*ch≤en*ch:=a25 _ g;rw[←a69 h,←List.take_take,a69 h,List.take_append_drop]
theorem c8c{l:List Int}{p:Int→Bool}{ch st en:Nat}(h:l.all p=true):(b2j l ch st en).all p=true:=
 lA.2 fun x g=>lA.1 h x (List.mem_of_mem_take (List.mem_of_mem_drop g))
theorem b5I(h:List Pc):(nsP h).length=2*h.length:=by
 induction h with
 |nil=>rfl
 |cons x h ih=>simp only[nsP,a29,lN,lC,a06]at *;omega
theorem c9p(h:List Pc)(x:Pc):nsP (h++[x])=nsP h++[x.2.2.length,a0Y x.2.1]:=by simp[nsP]
theorem c2t{fm:a0L}:∀{xs:List Pc}{st:Nat},a2W fm st xs→∀n∈nsP xs,n<1048704
 | [],_,_,n,hn=>by simp[nsP]at hn
 |x::xs,st,h,n,hn=>by
  have g:=h.1.2.2.2.2.2.2.2.2;simp only[nsP,a29,mA,mC,a35,or_false]at hn;rcases hn with(rfl|rfl)|hn;omega;omega;exact c2t h.2 n hn
theorem b7C{fm:a0L}:∀{xs:List Pc}{st:Nat},a2W fm st xs→xs.length≤a1l xs∧a1l xs≤64*xs.length
 | [],_,_=>by simp[a1l]
 |x::xs,st,h=>by
  have g:=h.1.2.2.2.2.2.2.1.2.2.2.2.1;have f:=h.1.2.2.2.2.2.2.2.2.1
  have:=b7C h.2
  simp only[a1l,a08,List.sum_cons,lC]at *;omega
theorem b4F:∀(l:List Nat),(∀n∈l,n<9223372036854775808)→(l.flatMap a0J).length≤9*l.length
 | [],_=>by simp
 |n::l,h=>by
  have:=(a8F (h n (by simp))).2
  have:=b4F l fun m g=>h m (by simp[g])
  simp only[a29,lN,lC];omega
theorem a7t{fm:a0L}(f:a3y fm){xs:List Pc}(h:a2W fm 0 xs)(i:xs.length≤200):∀n∈a2F fm xs,n<1048704:=fun n g=>by
 simp only[a2F,mA,mC,a35,or_false]at g;obtain⟨k,a,b,c,d,e⟩:=f;rcases g with(rfl|rfl|rfl|rfl)|g;omega;omega;omega;omega;exact c2t h n g
theorem b4G{fm:a0L}(g:a3y fm){xs:List Pc}(h:a2W fm 0 xs)(k:xs.length≤200):(a0T fm xs).length≤4000:=by
 have a:=b4F (a2F fm xs) fun n f=>a19 (a7t g h k n f) (by decide);have b:(a2F fm xs).length=4+2*xs.length:=by simp[a2F,b5I];omega
 simp only[a0T,a8f,lN,lC,a06,a1D];omega
def a9G(y0 d q r:Nat):Prop:=4294967296≤q∨4294967296*r+d<q*y0
instance (y0 d q r:Nat):Decidable (a9G y0 d q r):=inferInstanceAs (Decidable (_∨_))
def b7D(u d y1 y0:Nat):Nat:=
 if a9G y0 d (u / y1) (u%y1)then
  if 4294967296≤u%y1+y1 then u / y1-1
  else if a9G y0 d (u / y1-1) (u%y1+y1)then u / y1-2 else u / y1-1
 else u / y1
theorem d1G{u d y1 y0:Nat}(v:2147483648≤y1)(s:y0<4294967296)(x:u<y1*4294967296+y0)(w:d<4294967296):
  b7D u d y1 y0=(u*4294967296+d) / (y1*4294967296+y0):=by
 have hp:0<y1:=by omega
 have e:u=u / y1*y1+u%y1:=(Nat.div_add_mod' u y1).symm;have n:=a16 u hp;have l:u / y1≤4294967297:=by
  have:u / y1<4294967298:=(a74 hp).2 (by omega)
  exact Nat.le_of_lt_succ this
 have t:u*4294967296+d<(u / y1+1)*(y1*4294967296+y0):=by
  have:u+1≤(u / y1+1)*y1:=by rw[a38];omega
  have:(u+1)*4294967296≤(u / y1+1)*y1*4294967296:=a25 _ this
  rw[a95,←a50];omega
 have over:∀{q r:Nat},u=q*y1+r→a9G y0 d q r→u*4294967296+d<q*(y1*4294967296+y0):=by
  intro q r g f;rcases f with f|f
  have:=a25 (y1*4294967296+y0) f
  omega;exact d2K g f
 have fits:∀{q r:Nat},u=q*y1+r→¬ a9G y0 d q r→q*(y1*4294967296+y0)≤u*4294967296+d:=
  fun g f=>c7W g (Nat.le_of_not_lt fun h=>f (.inr h))
 have i:∀{q r:Nat},u=q*y1+r→q≤4294967296→4294967296≤r→q*(y1*4294967296+y0)≤u*4294967296+d:=by
  intro q r g l n;refine c7W g ?_
  have a:=a20 l (a55 s);have b:=a83 4294967296 n;omega
 unfold b7D;generalize u / y1=q at *;generalize u%y1=r at *;have done:∀{m:Nat},m*(y1*4294967296+y0)≤u*4294967296+d→u*4294967296+d<(m+1)*(y1*4294967296+y0)→m=(u*4294967296+d) / (y1*4294967296+y0):=
  fun a b=>(Nat.div_eq_of_lt_le a b).symm
 by_cases c:a9G y0 d q r
 rw[if_pos c];have o:=over e c;have q1:1≤q:=a87 fun z=>by rw[z,a68]at o;exact absurd o (b01 _)
 obtain⟨q,rfl⟩:∃k,q=k+1:=⟨q-1,by omega⟩;rw[Nat.add_sub_cancel];have j:u=q*y1+(r+y1):=by rw[e,a38];omega
 by_cases c1:4294967296≤r+y1
 rw[if_pos c1];exact done (i j (by omega) c1) o;rw[if_neg c1]
 by_cases c2:a9G y0 d q (r+y1)
 rw[if_pos c2];have o1:=over j c2;have y:1≤q:=a87 fun z=>by rw[z,a68]at o1;exact absurd o1 (b01 _)
 obtain⟨q,rfl⟩:∃k,q=k+1:=⟨q-1,by omega⟩;have p:u=q*y1+(r+y1+y1):=by rw[j,a38];omega
 exact done (m:=q) (i p (by omega) (by omega)) o1;rw[if_neg c2];exact done (fits j c2) o;rw[if_neg c];exact done (fits e c) t
theorem d2N(hi lo:Nat):
  (((hi*8+lo / 2305843009213693952)*4294967296+lo*8%18446744073709551616 / 4294967296)%18446744073709551608*4294967296+lo*8%18446744073709551616%4294967296)%18446744073709551608 / 8
   = (hi*18446744073709551616+lo)%prm:=by
 have e:((hi*8+lo / 2305843009213693952)*4294967296+lo*8%18446744073709551616 / 4294967296)*4294967296+lo*8%18446744073709551616%4294967296=(hi*18446744073709551616+lo)*8:=by omega
 rw[d1A,e];exact c7X _ 8 prm (by decide)
theorem c9q{hi lo:Nat}(h:hi<prm)(g:lo<18446744073709551616):hi*8+lo / 2305843009213693952<4294967295*4294967296+4294967288:=by
 unfold prm at h;omega
theorem c8d{a b c:Nat}(h:a<prm)(hb:b<prm)(g:c≤prm):(a*b+c) / 18446744073709551616<prm:=by
 have:=a20 (a80 h) (a80 hb)
 unfold prm at *;omega
theorem d2O{a b x0 x1 y0 y1 t:Nat}(d:x0=a%4294967296)(i:x1=a / 4294967296)(j:y0=b%4294967296)(l:y1=b / 4294967296)(r:t=x1*y0+x0*y0 / 4294967296)
  (n:a<18446744073709551616)(hb:b<18446744073709551616):
  x1*y1+t / 4294967296+(t%4294967296+x0*y1) / 4294967296=a*b / 18446744073709551616∧x0*y0<18446744073709551616∧t<18446744073709551616∧t%4294967296+x0*y1<18446744073709551616:=by
 have h:a=x1*4294967296+x0:=by omega
 have g:b=y1*4294967296+y0:=by omega
 have e:a*b=x1*y1*18446744073709551616+(x1*y0+x0*y1)*4294967296+x0*y0:=by
  rw[h,g];grind
 have m:∀{p q:Nat},p<4294967296→q<4294967296→p*q≤4294967295*4294967295:=fun hp o=>a20 (by omega) (by omega);have f:=m (show x0<4294967296 by omega) (show y0<4294967296 by omega);have c:=m (show x1<4294967296 by omega) (show y0<4294967296 by omega);have k:=m (show x0<4294967296 by omega) (show y1<4294967296 by omega);rw[e];generalize x0*y0=p00 at *;generalize x1*y0=p10 at *;generalize x0*y1=p01 at *;generalize x1*y1=p11 at *;omega
theorem c2T(n:Nat):wrap .u64 (n:Int)=((n%18446744073709551616:Nat):Int):=by
 simp[wrap,IntKind.bits,IntKind.signed]
theorem c4s{n k:Nat}(g:k≤64):A0k .u64 (n:Int) (k:Int)=((n / 2^k:Nat):Int):=by
 have h:min (a53 (k:Int)) (IntKind.bits .u64)=k:=by simp only[tN,IntKind.bits];omega
 unfold A0k;rw[h,a36 _ (by exact_mod_cast Nat.zero_le _)]
 norm_cast
theorem c8e(n:Nat):A0k .u64 (n:Int) 32=((n / 4294967296:Nat):Int):=c4s (k:=32) (by omega)
theorem d0Q(n:Nat):bits .u64 .and (n:Int) 4294967295=((n%4294967296:Nat):Int):=by
 show wrap .u64 (((a00 64 (n:Int) &&& a00 64 4294967295).toNat:Nat):Int)=_;have g:(a00 64 4294967295).toNat=4294967295:=rfl;have h:(a00 64 (n:Int)).toNat=n%18446744073709551616:=by rw[a05];omega
 rw[a47,h,g,show 4294967295=2^32-1 from rfl,a27,c2T];omega
theorem d8s{a b:Nat}(f:a<2305843009213693952)(hb:b<8):bits .u64 .or ((a*8:Nat):Int) (b:Int)=((a*8+b:Nat):Int):=by
 show wrap .u64 (((a00 64 ((a*8:Nat):Int) ||| a00 64 (b:Int)).toNat:Nat):Int)=_;have h:(a00 64 ((a*8:Nat):Int)).toNat=2^3*a:=by rw[a05];omega
 have g:(a00 64 (b:Int)).toNat=b:=by rw[a05];omega
 rw[BitVec.toNat_or,h,g,←Nat.two_pow_add_eq_or_of_lt (i:=3) hb a,c2T];omega
theorem c9r{a b:Nat}(f:a<18446744073709551616)(hb:b<18446744073709551616):a5R ((a:Int),(b:Int))=some (((a*b / 18446744073709551616:Nat):Int),((a*b%18446744073709551616:Nat):Int)):=by
 obtain⟨k,c,d,e⟩:=d2O (a:=a) (b:=b) rfl rfl rfl rfl rfl f hb;unfold a5R;simp only[c8e,d0Q,←a54,←Int.natCast_add,c2T,sj,pJ,Int.natCast_inj];refine⟨?_,trivial⟩
 revert k c d e
 generalize a%4294967296*(b%4294967296)=p00;generalize a / 4294967296*(b%4294967296)=p10;generalize a%4294967296*(b / 4294967296)=p01;have i:a*b / 18446744073709551616<18446744073709551616:=a81 (Nat.lt_of_le_of_lt (a20 (a55 f) (a55 hb)) (by omega:18446744073709551616*18446744073709551616<18446744073709551616*18446744073709551616+1) |> fun h=>by
  rcases Nat.lt_or_ge (a*b) (18446744073709551616*18446744073709551616)with g|g;exact g
  have:=Nat.mul_lt_mul_of_lt_of_le f (a55 hb) (by omega);omega)
 revert i
 generalize a*b / 18446744073709551616=q;generalize a / 4294967296*(b / 4294967296)=p11;intro i k c d e;omega
theorem b8E{α:Type}(p:Prop)[Decidable p](a b:α):(bif decide p then a else b)=if p then a else b:=by
 by_cases h:p<;>simp[h]
theorem d2P:a3O 2305843009213693951=some 3:=by kernel_rfl
theorem c7a{u d q:Nat}(h:q=b7D u d 4294967295 4294967288)(f:u<4294967295*4294967296+4294967288)(g:d<4294967296):q*18446744073709551608≤u*4294967296+d∧u*4294967296+d<q*18446744073709551608+18446744073709551608∧q<4294967296:=by
 rw[d1G (by omega) (by omega) f g]at h;omega
theorem b8F{u d u0 q r:Nat}{s:Int}(i:d<4294967296)(j:q≤4294967297)(l:r<4294967296):a1W ((18446744073709551608:Int),s,(4294967295:Int),(4294967288:Int),(u:Int),(d:Int),(u0:Int),(q:Int),(r:Int),()) =
  if a9G 4294967288 d q r then(if 4294967296≤r+4294967295 then some (.inr ((18446744073709551608:Int),s,(4294967295:Int),(4294967288:Int),(u:Int),(d:Int),(u0:Int),((q-1:Nat):Int),()))else some (.inl ((18446744073709551608:Int),s,(4294967295:Int),(4294967288:Int),(u:Int),(d:Int),(u0:Int),((q-1:Nat):Int),((r+4294967295:Nat):Int),())))else some (.inr ((18446744073709551608:Int),s,(4294967295:Int),(4294967288:Int),(u:Int),(d:Int),(u0:Int),(q:Int),())):=by
 have c:wrap .u64 ((q:Int)-1)=(((q-1:Nat)):Int)∨q=0:=by
  rcases a88 q with h|h;exact .inr h;left;rw[a0K (by omega)];omega
 have f:wrap .u64 ((r:Int)+4294967295)=((r+4294967295:Nat):Int):=by rw[a0K (by omega)];omega
 have b:decide (wrap .u64 ((r:Int)+4294967295)≥(4294967296:Int))=decide (4294967296≤r+4294967295):=by
  rw[f];exact decide_eq_decide.2 (by omega)
 have tail:q≠0→(bif decide (wrap .u64 ((r:Int)+4294967295)≥(4294967296:Int))then(some (.inr ((18446744073709551608:Int),s,(4294967295:Int),(4294967288:Int),(u:Int),(d:Int),(u0:Int),(wrap .u64 ((q:Int)-1)),())):Option (_ ⊕ (Int×Int×Int×Int×Int×Int×Int×Int×Unit)))else some (.inl ((18446744073709551608:Int),s,(4294967295:Int),(4294967288:Int),(u:Int),(d:Int),(u0:Int),(wrap .u64 ((q:Int)-1)),(wrap .u64 ((r:Int)+4294967295)),()))) =
   (if 4294967296≤r+4294967295 then some (.inr ((18446744073709551608:Int),s,(4294967295:Int),(4294967288:Int),(u:Int),(d:Int),(u0:Int),((q-1:Nat):Int),()))else some (.inl ((18446744073709551608:Int),s,(4294967295:Int),(4294967288:Int),(u:Int),(d:Int),(u0:Int),((q-1:Nat):Int),((r+4294967295:Nat):Int),()))):=fun e=>by
  rw[b,c.resolve_right e,f];exact b8E ..
 by_cases h1:4294967296≤q
 have c0:decide ((q:Int)≥(4294967296:Int))=true:=decide_eq_true (by omega);rw[if_pos (.inl h1),←tail (by omega)];unfold a1W;dsimp only;rw[c0,cT,oB];have c0:decide ((q:Int)≥(4294967296:Int))=false:=decide_eq_false (by omega);have k:wrap .u64 ((q:Int)*4294967288)=((q*4294967288:Nat):Int):=by rw[a0K (by omega)];omega
 have a:wrap .u64 (wrap .u64 ((4294967296:Int)*(r:Int))+(d:Int))=((4294967296*r+d:Nat):Int):=by rw[a0K (n:=4294967296*(r:Int)) (by omega),a0K (by omega)];omega
 by_cases h2:4294967296*r+d<q*4294967288
 have g:decide (wrap .u64 ((q:Int)*4294967288) > wrap .u64 (wrap .u64 ((4294967296:Int)*(r:Int))+(d:Int)))=true:=decide_eq_true (by rw[k,a];omega);rw[if_pos (.inr h2),←tail (by omega)];unfold a1W;dsimp only;rw[c0,cF,g,cT,oB];have g:decide (wrap .u64 ((q:Int)*4294967288) > wrap .u64 (wrap .u64 ((4294967296:Int)*(r:Int))+(d:Int)))=false:=decide_eq_false (by rw[k,a];omega);rw[if_neg (by unfold a9G;omega)];unfold a1W;dsimp only;rw[c0,cF,g,cF,oB]
theorem d2Q{u d u0:Nat}{s:Int}(a:u<4294967295*4294967296+4294967288)(k:d<4294967296):
  y0o a1W ((18446744073709551608:Int),s,(4294967295:Int),(4294967288:Int),(u:Int),(d:Int),(u0:Int),((u / 4294967295:Nat):Int),((u%4294967295:Nat):Int),())=some ((18446744073709551608:Int),s,(4294967295:Int),(4294967288:Int),(u:Int),(d:Int),(u0:Int),((b7D u d 4294967295 4294967288:Nat):Int),()):=by
 have g:u / 4294967295≤4294967297:=by omega
 have f:u%4294967295<4294967295:=a16 _ (by omega);unfold b7D
 revert g f
 generalize u / 4294967295=q;generalize u%4294967295=r;intro g f;have s0:=b8F (u0:=u0) (s:=s) (u:=u) k g (a92 f)
 by_cases c1:a9G 4294967288 d q r
 rw[if_pos c1]at s0⊢
 by_cases c2:4294967296≤r+4294967295
 rw[if_pos c2]at s0⊢;exact a0E s0;rw[if_neg c2]at s0⊢;rw[a0F s0];have h:=b8F (u0:=u0) (s:=s) (u:=u) (q:=q-1) (r:=r+4294967295) k (by omega) (by omega)
 by_cases c3:a9G 4294967288 d (q-1) (r+4294967295)
 rw[if_pos c3,if_pos (by omega),Nat.sub_sub]at h;rw[if_pos c3];exact a0E h;rw[if_neg c3]at h;rw[if_neg c3];exact a0E h;rw[if_neg c1]at s0⊢;exact a0E s0
theorem b8G{u d q r:Nat}{s q1:Int}(i:d<4294967296)(j:q≤4294967297)(l:r<4294967296):a1X ((18446744073709551608:Int),s,(4294967295:Int),(4294967288:Int),(d:Int),q1,(r:Int),(u:Int),(q:Int),()) =
  if a9G 4294967288 d q r then(if 4294967296≤r+4294967295 then some (.inr ((18446744073709551608:Int),s,(d:Int),q1,(u:Int),((q-1:Nat):Int),()))else some (.inl ((18446744073709551608:Int),s,(4294967295:Int),(4294967288:Int),(d:Int),q1,((r+4294967295:Nat):Int),(u:Int),((q-1:Nat):Int),())))else some (.inr ((18446744073709551608:Int),s,(d:Int),q1,(u:Int),(q:Int),())):=by
 have c:wrap .u64 ((q:Int)-1)=(((q-1:Nat)):Int)∨q=0:=by
  rcases a88 q with h|h;exact .inr h;left;rw[a0K (by omega)];omega
 have f:wrap .u64 ((r:Int)+4294967295)=((r+4294967295:Nat):Int):=by rw[a0K (by omega)];omega
 have b:decide (wrap .u64 ((r:Int)+4294967295)≥(4294967296:Int))=decide (4294967296≤r+4294967295):=by
  rw[f];exact decide_eq_decide.2 (by omega)
 have tail:q≠0→(bif decide (wrap .u64 ((r:Int)+4294967295)≥(4294967296:Int))then(some (.inr ((18446744073709551608:Int),s,(d:Int),q1,(u:Int),(wrap .u64 ((q:Int)-1)),())):Option (_ ⊕ (Int×Int×Int×Int×Int×Int×Unit)))else some (.inl ((18446744073709551608:Int),s,(4294967295:Int),(4294967288:Int),(d:Int),q1,(wrap .u64 ((r:Int)+4294967295)),(u:Int),(wrap .u64 ((q:Int)-1)),()))) =
   (if 4294967296≤r+4294967295 then some (.inr ((18446744073709551608:Int),s,(d:Int),q1,(u:Int),((q-1:Nat):Int),()))else some (.inl ((18446744073709551608:Int),s,(4294967295:Int),(4294967288:Int),(d:Int),q1,((r+4294967295:Nat):Int),(u:Int),((q-1:Nat):Int),()))):=fun e=>by
  rw[b,c.resolve_right e,f];exact b8E ..
 by_cases h1:4294967296≤q
 have c0:decide ((q:Int)≥(4294967296:Int))=true:=decide_eq_true (by omega);rw[if_pos (.inl h1),←tail (by omega)];unfold a1X;dsimp only;rw[c0,cT,oB];have c0:decide ((q:Int)≥(4294967296:Int))=false:=decide_eq_false (by omega);have k:wrap .u64 ((q:Int)*4294967288)=((q*4294967288:Nat):Int):=by rw[a0K (by omega)];omega
 have a:wrap .u64 (wrap .u64 ((4294967296:Int)*(r:Int))+(d:Int))=((4294967296*r+d:Nat):Int):=by rw[a0K (n:=4294967296*(r:Int)) (by omega),a0K (by omega)];omega
 by_cases h2:4294967296*r+d<q*4294967288
 have g:decide (wrap .u64 ((q:Int)*4294967288) > wrap .u64 (wrap .u64 ((4294967296:Int)*(r:Int))+(d:Int)))=true:=decide_eq_true (by rw[k,a];omega);rw[if_pos (.inr h2),←tail (by omega)];unfold a1X;dsimp only;rw[c0,cF,g,cT,oB];have g:decide (wrap .u64 ((q:Int)*4294967288) > wrap .u64 (wrap .u64 ((4294967296:Int)*(r:Int))+(d:Int)))=false:=decide_eq_false (by rw[k,a];omega);rw[if_neg (by unfold a9G;omega)];unfold a1X;dsimp only;rw[c0,cF,g,cF,oB]
theorem d2R{u d:Nat}{s q1:Int}(a:u<4294967295*4294967296+4294967288)(k:d<4294967296):
  y0o a1X ((18446744073709551608:Int),s,(4294967295:Int),(4294967288:Int),(d:Int),q1,((u%4294967295:Nat):Int),(u:Int),((u / 4294967295:Nat):Int),())=some ((18446744073709551608:Int),s,(d:Int),q1,(u:Int),((b7D u d 4294967295 4294967288:Nat):Int),()):=by
 have g:u / 4294967295≤4294967297:=by omega
 have f:u%4294967295<4294967295:=a16 _ (by omega);unfold b7D
 revert g f
 generalize u / 4294967295=q;generalize u%4294967295=r;intro g f;have s0:=b8G (s:=s) (q1:=q1) (u:=u) k g (a92 f)
 by_cases c1:a9G 4294967288 d q r
 rw[if_pos c1]at s0⊢
 by_cases c2:4294967296≤r+4294967295
 rw[if_pos c2]at s0⊢;exact a0E s0;rw[if_neg c2]at s0⊢;rw[a0F s0];have h:=b8G (s:=s) (q1:=q1) (u:=u) (q:=q-1) (r:=r+4294967295) k (by omega) (by omega)
 by_cases c3:a9G 4294967288 d (q-1) (r+4294967295)
 rw[if_pos c3,if_pos (by omega),Nat.sub_sub]at h;rw[if_pos c3];exact a0E h;rw[if_neg c3]at h;rw[if_neg c3];exact a0E h;rw[if_neg c1]at s0⊢;exact a0E s0
theorem d4F(n:Int):wrap .u64 n=n%18446744073709551616:=by simp[wrap,IntKind.bits,IntKind.signed]
theorem d1H{u d Q:Nat}(g:Q*18446744073709551608≤u*4294967296+d)(f:u*4294967296+d<Q*18446744073709551608+18446744073709551608):
  wrap .u64 (wrap .u64 (wrap .u64 ((u:Int)*4294967296)+(d:Int))-wrap .u64 ((Q:Int)*18446744073709551608))=(((u*4294967296+d)%18446744073709551608:Nat):Int):=by
 have:u*4294967296+d=Q*18446744073709551608+(u*4294967296+d)%18446744073709551608:=by omega
 have h:(u*4294967296+d)%18446744073709551608<18446744073709551608:=a16 _ (by omega)
 revert this h
 generalize (u*4294967296+d)%18446744073709551608=v;intro this h;clear g f;simp only[d4F];omega
theorem c5t{u:Nat}(h:u<18446744073709551616):wrap .u64 ((u:Int)-wrap .u64 (((u / 4294967295:Nat):Int)*4294967295))=((u%4294967295:Nat):Int):=by
 rw[a0K (n:=((u / 4294967295:Nat):Int)*4294967295) (by omega),a0K (by omega)];omega
theorem sh3(n:Nat):A0j .u64 (n:Int) 3=((n*8%18446744073709551616:Nat):Int):=by
 unfold A0j;rw[show(2:Int)^(min (a53 3) (IntKind.bits .u64))=((8:Nat):Int)from rfl,←a54,c2T]
theorem c9s(lo:Nat):a2c (0,(lo:Int),(2305843009213693951:Int))=some (wrap .u64 (a23 (lo:Int) 2305843009213693951),((lo%2305843009213693951:Nat):Int)):=by
 unfold a2c;simp only[show((2305843009213693951:Int)==0)=false from rfl,cF,show decide ((2305843009213693951:Int)≤0)=false from rfl,beq_self_eq_true,cT];rfl
theorem d4G:wrap .u64 3=3:=by kernel_rfl
theorem d2S:wrap .u64 (64-3)=((61:Nat):Int):=by kernel_rfl
theorem d4H:A0j .u64 2305843009213693951 3=18446744073709551608:=by kernel_rfl
theorem d4I:A0k .u64 18446744073709551608 32=4294967295:=by kernel_rfl
theorem d4J:bits .u64 .and 18446744073709551608 4294967295=4294967288:=by kernel_rfl
theorem d4K:((2305843009213693951:Int)==0)=false:=by kernel_rfl
theorem d0R:decide ((3:Int)<0)=false:=by kernel_rfl
theorem d4L:decide (((61:Nat):Int)<0)=false:=by kernel_rfl
theorem d0S:((4294967295:Int)==0)=false:=by kernel_rfl
theorem c8f{u d Q v:Nat}(hv:(u*4294967296+d)%18446744073709551608=v)(h:Q*18446744073709551608≤u*4294967296+d)(g:u*4294967296+d<Q*18446744073709551608+18446744073709551608):
  wrap .u64 (wrap .u64 (wrap .u64 ((u:Int)*4294967296)+(d:Int))-wrap .u64 ((Q:Int)*18446744073709551608))=(v:Int):=by
 subst hv;exact d1H h g
theorem d0T{u:Nat}(h:u<18446744073709551616):wrap .u64 ((u / 4294967295:Nat):Int)=((u / 4294967295:Nat):Int):=a0K (by omega)
theorem d1I{hi lo u d e v r:Nat}(hv:(u*4294967296+d)%18446744073709551608=v)(o:(v*4294967296+e)%18446744073709551608=r)(C:hi≠0)(D:hi<2305843009213693951)(p:hi*8+lo / 2305843009213693952=u)(j:lo*8%18446744073709551616 / 4294967296=d)(l:lo*8%18446744073709551616%4294967296=e)(E:lo<18446744073709551616)
  (h:u<4294967295*4294967296+4294967288)(f:d<4294967296)(a:e<4294967296):
  ∃q:Int,a2c ((hi:Int),(lo:Int),(2305843009213693951:Int))=some (q,((r / 8:Nat):Int)):=by
 have c0:((hi:Int)==0)=false:=by simp;omega
 have c:decide ((2305843009213693951:Int)≤(hi:Int))=false:=decide_eq_false (by omega);have i:hi*8%18446744073709551616=hi*8:=by omega
 have m:bits .u64 .or ((hi*8:Nat):Int) (A0k .u64 (lo:Int) ((61:Nat):Int))=(u:Int):=by
  rw[c4s (k:=61) (by omega),show 2^61=2305843009213693952 from rfl,d8s (by omega) (by omega),p]
 have t:=d2Q (u0:=e) (s:=3) h f;have x:=c8f hv (c7a rfl h f).1 (c7a rfl h f).2.1;have g:v<4294967295*4294967296+4294967288:=by rw[←hv];exact a89 (a16 _ (by omega)) (by omega)
 have w:=d2R (s:=3) (q1:=((b7D u d 4294967295 4294967288:Nat):Int)) g a;have y:=c8f o (c7a rfl g a).1 (c7a rfl g a).2.1;have A:=c5t (u:=u) (a19 h (by decide));have r2:=c5t (u:=v) (a19 g (by decide));have B:wrap .u64 ((u / 4294967295:Nat):Int)=((u / 4294967295:Nat):Int):=d0T (a19 h (by decide));have b:wrap .u64 ((v / 4294967295:Nat):Int)=((v / 4294967295:Nat):Int):=d0T (a19 g (by decide));have q1:a23 (u:Int) 4294967295=((u / 4294967295:Nat):Int):=rfl;have z:a23 (v:Int) 4294967295=((v / 4294967295:Nat):Int):=rfl;have g8:∀n:Nat,A0k .u64 (n:Int) 3=((n / 8:Nat):Int):=fun n=>c4s (k:=3) (by omega);unfold a2c;dsimp only;rw[d4K,cF,c,cF,c0,cF,d2P,oB,d4G,d0R,cF,cF,d2S,d4L,cF,cF,d4H,d4I,d0S,cF,d4J,sh3 hi,i,m,sh3 lo,c8e,j,d0Q,l,q1,B,A,t,oB];dsimp only;rw[d0S,cF,x,z,b,r2,w,oB];dsimp only;rw[d0R,cF,y,g8];exact⟨_,rfl⟩
theorem d1J{hi lo:Nat}(h:hi<prm)(g:lo<18446744073709551616):∃q:Int,a2c ((hi:Int),(lo:Int),(2305843009213693951:Int))=some (q,(((hi*18446744073709551616+lo)%prm:Nat):Int)):=by
 by_cases h0:hi=0
 subst h0;rw[a68,a42];exact⟨_,c9s lo⟩;rw[←d2N hi lo];exact d1I rfl rfl h0 h rfl rfl rfl g (c9q h g) (a81 (a89 (a16 _ (by omega)) (by omega))) (a16 _ (by omega))
theorem b7M{a b c:Nat}(f:a<prm)(hb:b<prm)(k:c≤prm):a5I ((a:Int),(b:Int),(c:Int))=some (((a*b+c)%prm:Nat):Int):=by
 have h:=c8d f hb k;unfold prm at f hb k h;have l:=c9r (a:=a) (b:=b) (by omega) (by omega);have j:a8M (((a*b%18446744073709551616:Nat):Int),(c:Int),(0:Int))=some ((((a*b%18446744073709551616+c)%18446744073709551616:Nat):Int),(((a*b%18446744073709551616+c) / 18446744073709551616:Nat):Int)):=rfl;obtain⟨hi,g⟩:∃hi,(a*b+c) / 18446744073709551616=hi:=⟨_,rfl⟩;rw[g]at h;have i:wrap .u64 (((a*b / 18446744073709551616:Nat):Int)+((a*b%18446744073709551616+c) / 18446744073709551616:Nat))=(hi:Int):=by
  rw[a0K (by omega)];omega
 obtain⟨q,d⟩:=d1J (hi:=hi) (lo:=(a*b%18446744073709551616+c)%18446744073709551616) (by unfold prm;omega) (by omega);have e:hi*18446744073709551616+(a*b%18446744073709551616+c)%18446744073709551616=a*b+c:=by omega
 rw[e]at d;have t:a46 (hi:Int) 2305843009213693951=(hi:Int):=by
  show(((hi%2305843009213693951:Nat)):Int)=_;rw[a37 h]
 unfold a5I a8N;simp only[l,j,oB,i,show((2305843009213693951:Int)==0)=false from rfl,cF,t,d]
theorem b8H(l:List Int)(n i:Int):∀(j k:Nat)(s:Int),k+j=8→y0o a7v (s,l,n,i,(k:Int),())=some (rep e32 j s,l,n,i,())
 |0,k,s,h=>by
  obtain rfl:k=8:=by omega
  exact a0E rfl
 |j+1,k,s,h=>by
  have d:decide ((k:Int)<8)=true:=by simp;omega
  rw[a0F (s':=(e32 s,l,n,i,((k+1:Nat):Int),())) (by
   simp only[a7v,d,cT,a0B (show k<1000000 by omega),e32];cases (bits .u32 .and s 1==1:Bool)<;>rfl)]
  exact b8H l n i j (k+1) (e32 s) (by omega)
theorem c0V{l:List Int}(k:short l):∀(rest done:List Int)(s:BitVec 32),done++rest=l→(∀b∈rest,0≤b∧b<256)→
  y0o a4U (((s.toNat:Nat):Int),l,(l.length:Int),(done.length:Int),())=some ((((b9j s (rest.map (a00 32))).toNat:Nat):Int),())
 | [],done,s,hd,_=>by
  obtain rfl:done=l:=by simpa using hd
  exact a0E (by simp only[a4U,dge,cF];rfl)
 |x::rest,done,s,hd,hb=>by
  have g:done.length<l.length:=by rw[←hd];simp
  have a:m0h l (done.length:Int)=some x:=by rw[a0D g];subst hd;simp
  have c:=hb x (by simp);have e:bits .u32 .xor ((s.toNat:Nat):Int) (wrap .u32 x)=(((s ^^^ a00 32 x).toNat:Nat):Int):=by
   rw[←c6Z];congr 1;rw[a05];simp[wrap,IntKind.bits,IntKind.signed];omega
  have f:=b8H l (l.length:Int) (done.length:Int) 8 0 (bits .u32 .xor ((s.toNat:Nat):Int) (wrap .u32 x)) rfl;rw[e,c4q]at f;rw[a0F (s':=((((b9i s (a00 32 x)).toNat:Nat):Int),l,(l.length:Int),(((done++[x]).length:Nat):Int),())) (by
   simp only[a4U,dlt g,cT,a,oB,e]
   erw[f]
   simp only[oB,a0B (a19 g k)];simp[b9i])]
  exact c0V k rest (done++[x]) _ (by simpa using hd) (fun b h=>hb b (by simp[h]))
theorem b7E{l:List Int}(g:short l)(hb:∀b∈l,0≤b∧b<256):a4J l=some ((a1w l:Nat):Int):=by
 have h:=c0V g l [] 0xffffffff#32 rfl hb;rw[a06]at h;unfold a4J
 erw[h]
 simp only[oB];rw[show IntKind.max .u32=(((0xffffffff#32).toNat:Nat):Int)from rfl,c6Z];unfold a1w c1F;rw[←BitVec.allOnes_xor];rfl
theorem c0W{l:List Int}(k:short l):∀(rest done:List Int)(h:Nat),done++rest=l→h<prm→(∀b∈rest,0≤b∧b<256)→
  y0o a7B ((h:Int),l,(l.length:Int),(done.length:Int),())=some (((prs h (rest.map a53):Nat):Int),())
 | [],done,h,hd,_,_=>by
  obtain rfl:done=l:=by simpa using hd
  exact a0E (by simp only[a7B,dge,cF];rfl)
 |x::rest,done,h,hd,hh,hb=>by
  have g:done.length<l.length:=by rw[←hd];simp
  have d:m0h l (done.length:Int)=some x:=by rw[a0D g];subst hd;simp
  have i:=hb x (by simp);have e:wrap .u64 ((wrap .u64 x)+(1:Int))=((x.toNat+1:Nat):Int):=by rw[a0K (n:=x) (by omega),a0K (by omega)];omega
  have f:=b7M (a:=h) (b:=1000003) (c:=x.toNat+1) hh (by decide) (by unfold prm;omega);rw[a0F (s':=((((h*1000003+(x.toNat+1))%prm:Nat):Int),l,(l.length:Int),(((done++[x]).length:Nat):Int),())) (by
   simp only[a7B,dlt g,cT,d,oB,e]
   erw[f]
   simp[a0B (a19 g k)])]
  exact c0W k rest (done++[x]) _ (by simpa using hd) (a16 _ (by decide)) (fun b h=>hb b (by simp[h]))
theorem c9t{l:List Int}(g:short l)(hb:∀b∈l,0≤b∧b<256):a7P l=some ((prI l:Nat):Int):=by
 have h:=c0W g l [] 0 rfl (by decide) hb;unfold a7P
 erw[h]
 rfl
theorem b6q:∀(k n p s:Nat),n<2^k→n<4611686018427387904→p<prm→s<prm→y0o a7C ((n:Int),(p:Int),(s:Int),())=some (((pwr k n p s:Nat):Int),())
 |0,n,p,s,hn,_,_,_=>by
  obtain rfl:n=0:=by simpa using hn
  exact a0E rfl
 |k+1,n,p,s,hn,hn2,hp,hs=>by
  by_cases h0:n=0
  subst h0;exact a0E rfl;have d:decide ((n:Int) > 0)=true:=by simp;omega
  have f:a46 (n:Int) 2=((n%2:Nat):Int):=rfl;have a:wrap .i64 (a23 (n:Int) 2)=((n / 2:Nat):Int):=by rw[show a23 (n:Int) 2=((n / 2:Nat):Int)from rfl,a0C (by omega)]
  have h:=b7M (c:=0) hs hs (by decide);have g:=b7M (c:=0) hp hs (by decide);have b:n / 2<2^k:=by rw[a41]at hn;omega
  simp only[a91,nZ]at h g;have m:=a16 (s*s) (show 0<prm by decide);rw[pwr,if_neg h0]
  by_cases h1:n%2=1
  rw[if_pos h1,a0F (s':=(((n / 2:Nat):Int),((p*s%prm:Nat):Int),((s*s%prm:Nat):Int),())) (by
   simp only[a7C,d,cT,f,h1,show(((1:Nat):Int)==1)=true from rfl]
   erw[g]
   simp only[oB]
   erw[h]
   simp only[oB,a])]
  exact b6q k _ _ _ b (by omega) (a16 _ (by decide)) m;have e:n%2=0:=by omega
  rw[if_neg h1,a0F (s':=(((n / 2:Nat):Int),(p:Int),((s*s%prm:Nat):Int),())) (by
   simp only[a7C,d,cT,f,e,show(((0:Nat):Int)==1)=false from rfl,cF,oB]
   erw[h]
   simp only[oB,a])]
  exact b6q k _ _ _ b (by omega) hp m
theorem d1K{a b n:Nat}(f:a<prm)(hb:b<prm)(h:n<4611686018427387904):b1R ((a:Int),(b:Int),(n:Int))=some ((((a*(1000003^n%prm)+b)%prm:Nat):Int),true):=by
 have hp:=b6q 62 n 1 1000003 h h (by decide) (by decide);rw[d2J 62 n 1 1000003 h (by decide),Nat.one_mul]at hp;have j:=b7M (c:=b) f (a16 (1000003^n) (show 0<prm by decide)) (a55 hb);unfold prm at f hb;have k:decide ((a:Int)≥(2305843009213693951:Int))=false:=by simp;omega
 have d:decide ((b:Int)≥(2305843009213693951:Int))=false:=by simp;omega
 have e:decide ((n:Int)<(0:Int))=false:=by simp
 have i:v0n (n:Int) 0=(n:Int):=by rw[b3k];omega
 have g:b0E (n:Int)=some ((1000003^n%prm:Nat):Int):=by
  unfold b0E;rw[i]
  erw[hp]
  rfl
 simp only[b1R,k,d,e,cF,oB,g]
 erw[j]
 rfl
theorem c4t(b:a1p)(N:Int){i:Nat}:∀(rest done:List (List Int)) (out:List Int),done++rest=b.2.1→b.2.1.length≤8→(∀r∈rest,i<r.length)→out.length+rest.length<1000000→
  y0o a6B ((i:Int),N,(i:Int),b.2.1,(b.2.1.length:Int),(done.length:Int),out,b,())=some (N,(i:Int),out++rest.map (fun r=>r.getD i 0),b,())
 | [],done,out,hd,_,_,_=>by
  have e:done=b.2.1:=by simpa using hd
  rw[a0E (b:=(N,(i:Int),out,b,())) (by rw[e];simp only[a6B,dge,cF])]
  simp
 |r::rest,done,out,hd,h8,hr,ho=>by
  have g:done.length<b.2.1.length:=by rw[←hd];simp
  have k:m0h b.2.1 (done.length:Int)=some r:=by rw[a0D g];simp[←hd]
  have h:=hr r (by simp);have f:m0h r (i:Int)=some (r.getD i 0):=by rw[a0D h,lD,lG h];rfl
  simp only[lC]at ho;rw[a0F (s':=((i:Int),N,(i:Int),b.2.1,(b.2.1.length:Int),(((done++[r]).length:Nat):Int),out++[r.getD i 0],b,())) (by
   simp only[a6B,dlt g,cT,k,f,oB,a0V (show out.length+1<2147483648 by omega),a0B (show done.length<1000000 by omega)]
   simp)]
  rw[c4t b N rest (done++[r]) _ (by simpa using hd) h8 (fun q a=>hr q (by simp[a])) (by simp only[lN,a07];omega)]
  simp
theorem c9u{b:a1p}(hb:a3T b):a5g b=some (wvB b):=by
 obtain⟨g1,g2,g3,g4,g5,g6,g7⟩:=id hb;have hlen:∀r∈b.2.1,r.length=a0Y b:=fun r hr=>by
  have:=lA.1 g7 r hr
  simp only[bA,dT]at this;exact this.1
 have hw:∀i,i≤4096→(wv i b.2.1).length≤32768:=fun i hi=>by
  rw[c7Y]
  calc i*b.2.1.length≤4096*8:=a20 hi g4
   _=32768:=rfl
 have h:=a1B (f:=a6C) (fun i=>(((a0Y b:Nat):Int),(i:Int),wv i b.2.1,b,())) (a0Y b) (b:=(wv (a0Y b) b.2.1,())) (fun i hi=>by
  have h0:=c4t b ((a0Y b:Nat):Int) (i:=i) b.2.1 [] (wv i b.2.1) rfl g4 (fun r hr=>by rw[hlen r hr];exact hi) (by have:=hw i (by omega);omega);rw[a06]at h0;simp only[a6C,dlt hi,cT]
  erw[h0]
  simp only[oB,a0B (show i<1000000 by omega)];unfold wv;rw[a39,a56]
  simp) (by simp only[a6C,dge,cF])
 unfold a5g;simp only[a8d,hb,decide_true,oB,bT,cF,a6r]
 erw[h]
 rfl
theorem c5u{b:a1p}:(wvB b).length=a0Y b*b.2.1.length:=c7Y _
theorem d1L{b:a1p}(hb:a3T b):(wvB b).all (fun x=>a1j x b.1)=true:=by
 obtain⟨k,a,c,d,e,j,g⟩:=hb;refine lA.2 fun x h=>?_
 unfold wvB wv at h;obtain⟨i,hi,h⟩:=a65.1 h;obtain⟨r,f,rfl⟩:=a32.1 h
 have:=lA.1 g r f
 simp only[bA,dT]at this;have hi:i<r.length:=by rw[this.1];exact a22.1 hi
 rw[lD,lG hi];exact lA.1 this.2 _ (a34 hi)
theorem d1M{b:a1p}(hb:a3T b):b0D b=some (a3z b.1 (wvB b),0):=by
 have hl:(wvB b).length≤1000000:=by
  rw[c5u]
  calc a0Y b*b.2.1.length≤4096*8:=a20 hb.2.2.2.2.2.1 hb.2.2.2.1
   _≤1000000:=by decide
 unfold b0D;simp only[a8d,hb,decide_true,oB,bT,cF,c9u hb,c1C ⟨hb.1,hb.2.1⟩ hl (d1L hb)]
theorem b7F{b:a1p}(hb:a3T b){w:Int}(g:b.1=w)(d:List Int):a4w (((prI (a3z w d):Nat):Int),b)=some (((prI (a3z w (d++wvB b)):Nat):Int),true):=by
 subst g;have f:=c6S ⟨hb.1,hb.2.1⟩ (wvB b);have k:(wvB b).length≤4096*8:=by rw[c5u];exact a20 hb.2.2.2.2.2.1 hb.2.2.2.1
 have h:=d1K (c0U (a3z b.1 d)) (c0U (a3z b.1 (wvB b))) (n:=(a3z b.1 (wvB b)).length) (by omega);unfold a4w;simp only[d1M hb,oB,show((0:Int) != 0)=false from rfl,cF,c9t (show short (a3z b.1 (wvB b))by unfold short;omega) (c4e _ _),c6T,d1B]
 erw[h]
 rfl
theorem c9v(d:List Int)(x:Int){ch:Nat}(h:0<ch):(a2E d ch).set (d.length%ch) ((a2E d ch).getD (d.length%ch) []++[x])=a2E (d++[x]) ch:=by
 have f:=a16 d.length h;refine a66 (by simp[a2E]) fun i g k=>?_
 simp only[a2E,b02,a01,a64]at g;rw[List.getElem_set];simp only[a2E,List.getElem_map,List.getElem_range,c7V]
 by_cases e:d.length%ch=i
 rw[if_pos e,if_pos e,lD,a45,a57 f,e];rfl;rw[if_neg e,if_neg e]
theorem d1N{fm:a0L}(m:a3y fm){ch:Nat}(a:fm.2.1=(ch:Int)){l:List Int}{n:Nat}(s:1≤n∧n≤4096)(o:l.length=n*ch)(c:l.all (fun x=>a1j x fm.2.2.1)=true):
  b0K (l,fm)=some (a8e fm.2.2.1 l ch,0):=by
 have k:1≤ch∧ch≤8:=by have:=m.2.2.1;have:=m.2.2.2.1;omega
 have H:l.length≤4096*8:=by rw[o];exact a20 s.2 k.2
 have j:1≤l.length:=by rw[o];exact Nat.mul_pos s.1 k.1
 have y:4≤fm.2.2.1∧fm.2.2.1≤24:=m.2.2.2.2;have c0:((ch:Int)==0)=false:=by simp;omega
 have h:=a1B (f:=a7G) (fun i=>(l,((l.length:Nat):Int),(i:Int),b2u,(fm.2.2.1,a2E (l.take i) ch,()),fm,())) l.length (b:=Sum.inl (b2u,a8e fm.2.2.1 l ch,())) (fun i hi=>by
  have t:a46 (i:Int) (ch:Int)=((i%ch:Nat):Int):=rfl;have r:=a16 i k.1;have p:∀d,(a2E d ch).length=ch:=fun d=>by simp[a2E]
  have u:decide ((0:Int)≤((i%ch:Nat):Int))=true:=decide_eq_true (a04 _);have z:a1j l[i] fm.2.2.1=true:=lA.1 c _ (a34 hi);have q:(l.take i).length=i:=by rw[a96];omega
  have w:((a2E (l.take i) ch).getD (i%ch) []).length≤32768:=by
   rw[lD];unfold a2E;rw[a45,a57 r];show(a9F (l.take i) ch (i%ch)).length≤32768;unfold a9F;rw[a01];exact Nat.le_trans (List.length_filter_le _ _) (by rw[a64];omega)
  have g:=c9v (l.take i) l[i] k.1;rw[q]at g;simp only[a7G,dlt hi,cT,a0D hi,oB,b4b y,z,bT,cF,a,c0,t,u,b02,p,dlt r,a09,tN,a0V (show((a2E (l.take i) ch).getD (i%ch) []).length+1<2147483648 by omega),beq_self_eq_true,Bool.and_true,a0B (show i<1000000 by omega)]
  erw[g]
  rw[List.take_succ_eq_append_getElem hi]) (by
  simp only[a7G,dge,cF,a51];rfl)
 have v:a2E ([]:List Int) ch=a31 ch []:=by
  refine a66 (by simp[a2E]) fun i F G=>?_
  simp[a2E,a9F]
 have q1:(((l.length:Nat):Int)==0)=false:=by simp;intro e;subst e;simp at j
 have A:a46 ((l.length:Nat):Int) (ch:Int)=0:=by
  show(((l.length%ch:Nat)):Int)=0;rw[o,a97];rfl
 have B:wrap .i64 (a23 ((l.length:Nat):Int) (ch:Int))=(n:Int):=by
  rw[show a23 ((l.length:Nat):Int) (ch:Int)=((l.length / ch:Nat):Int)from rfl,o,a60 _ k.1,a0C (by omega)]
 have C:decide ((n:Int) > 4096)=false:=by simp;omega
 have D:decide ((0:Int)≤(ch:Int))=true:=by simp
 have E:decide ((ch:Int)≤(ch:Int))=true:=by simp
 unfold b0K;simp only[a4y,m,decide_true,oB,bT,cF,q1,a,c0,A,show((0:Int) != 0)=false from rfl,B,C,D,E,tN,a0V (show ch<2147483648 by omega),a09,cT];simp only[List.take_zero,v]at h
 erw[h]
 rfl
theorem b3r{α:Type}(a:List α)(x:α)(b:List α):m0h (a++x::b) (a.length:Int)=some x:=by
 rw[a0D (by simp)];simp
theorem c0X:∀(a b:List Pc)(st off:Nat),a3f st off (a++b)=a3f st off a++a3f (st+a1l a) (off+(a0Q a).length) b
 | [],b,st,off=>by simp[a3f,a1l,a0Q]
 |y::a,b,st,off=>by
  simp only[a48,a3f,c0X a];simp[a1l,a0Q,a63]
theorem c4u{fm:a0L}{all:List Pc}(h:all.length≤200){t:b9k}(b:t.1=fm)(a:t.2.2.2.1=a3f 0 0 all):∀(rest done:List Pc),done++rest=all→a2W fm (a1l done) rest→(a0Q done).length≤700800*done.length→a1l done≤64*done.length→
  y0o a8r (((a1l done:Nat):Int),(((a0Q done).length:Nat):Int),((a1F fm done:Nat):Int),all.map (·.1),((all.map (·.1)).length:Int),(done.length:Int),done.map (·.2.2),done.map (·.2.1),t,()) =
   some (.inl (((a1l all:Nat):Int),((a1F fm all:Nat):Int),all.map (·.2.2),all.map (·.2.1),t,()))
 | [],done,hd,_,_,_=>by
  obtain rfl:done=all:=by simpa using hd
  exact a0E (by simp only[a8r,a01,dge,cF])
 |x::rest,done,hd,hr,hb,hl=>by
  obtain⟨⟨c,j,l,m,n,A,o,p,B,d,e⟩,hr2⟩:=hr;have f:done.length<(all.map (·.1)).length:=by rw[←hd];simp
  have k:all.length=done.length+(rest.length+1):=by rw[←hd];simp
  have r:m0h (all.map (·.1)) (done.length:Int)=some x.1:=by
   have:=b3r (done.map (·.1)) x.1 (rest.map (·.1))
   rw[a01]at this;rw[←hd,pA,a08];exact this
  have g:m0h t.2.2.2.1 (done.length:Int)=some (((a1l done:Nat):Int),(((a0Q done).length:Nat):Int),()):=by
   have:=b3r (a3f 0 0 done) (((a1l done:Nat):Int),(((a0Q done).length:Nat):Int),()) (a3f (a1l done+a0Y x.2.1) ((a0Q done).length+x.2.2.length) rest)
   rw[b1c]at this;rw[a,←hd,c0X];simp only[a3f,a42];exact this
  have q:eqT (.pair (.int .i64) (.pair (.int .i64) (.pair (.int .i64) .unit))) x.1.2.2.1 t.1=true:=by rw[l,b];exact c4a fm
  have s:=b7F o (w:=fm.2.2.1) p (a6N done);have v:(x.1.1 != ((a1l done:Nat):Int))=false:=by rw[c];simp
  have y:∀i:Int,(i != i)=false:=fun i=>by simp
  have u:((0:Int) != 0)=false:=rfl;have z:wrap .i64 (((a1l done:Nat):Int)+((a0Y x.2.1:Nat):Int))=((a1l (done++[x]):Nat):Int):=by rw[a5G,a0C (by omega)];omega
  have w2:wrap .i64 ((((a0Q done).length:Nat):Int)+((x.2.2.length:Nat):Int))=(((a0Q (done++[x])).length:Nat):Int):=by rw[a9i,lN,a0C (by omega)];omega
  rw[a0F (s':=(((a1l (done++[x]):Nat):Int),(((a0Q (done++[x])).length:Nat):Int),((a1F fm (done++[x]):Nat):Int),all.map (·.1),((all.map (·.1)).length:Int),(((done++[x]).length:Nat):Int),(done++[x]).map (·.2.2),(done++[x]).map (·.2.1),t,())) (by
   simp only[a8r,dlt f,cT,r,oB];rw[q];simp only[bT,cF,oB,v,g,y,m,u,n]
   erw[s]
   simp only[oB,bT,cF,a01,a0V (show done.length+1<2147483648 by omega),cT,j,z,w2,a0B (show done.length<1000000 by omega)];simp[a1F,b3j])]
  exact c4u h b a rest (done++[x]) (by simpa using hd) (by rw[a5G];exact hr2) (by rw[a9i];simp only[lN,a07];omega) (by rw[a5G];simp only[lN,a07];omega)
theorem d2T{fm:a0L}(b:a3y fm){xs:List Pc}(c:a2W fm 0 xs)(g:xs.length≤200):a9c (mkT fm xs)=some (xs.map (·.2.2),xs.map (·.2.1),true):=by
 have h:=c4u g (t:=mkT fm xs) rfl rfl xs [] rfl c (by simp[a0Q]) (by simp[a1l]);have a:a1T (mkT fm xs).1=some true:=by rw[a4y,decide_eq_true (show a3y (mkT fm xs).1 from b)]
 have f:decide (((a21 (mkT fm xs).2.2.2.2.1:Nat):Int) > (4096:Int))=false:=by simp[mkT];omega
 have k:(((a21 (mkT fm xs).2.2.2.1:Nat):Int) != ((a21 (mkT fm xs).2.2.2.2.1:Nat):Int))=false:=by simp[mkT,b1c]
 unfold a9c;simp only[a,oB,bT,cF,f,k]
 erw[h]
 simp only[oB,mkT,bne_self_eq_false,cF]
theorem a9M{α:Type}(a:List α)(x d:α)(b:List α):(a++x::b).getD a.length d=x:=by
 rw[lD];simp
theorem c2u{fm:a0L}{all:List Pc}(h:all.length≤200)(t:b9k)(A:List Nat)(e:A.length=4):∀(rest done:List Pc)(st:Nat),done++rest=all→a2W fm st rest→
  y0o a8x (all.map (·.1),((all.map (·.1)).length:Int),(done.length:Int),all.map (·.2.2),asI (A++nsP done),t,())=some (all.map (·.2.2),asI (A++nsP all),t,())
 | [],done,st,hd,_=>by
  obtain rfl:done=all:=by simpa using hd
  exact a0E (by simp only[a8x,a01,dge,cF])
 |x::rest,done,st,hd,hr=>by
  obtain⟨⟨m,d,n,o,p,q,r,s,u,b,c⟩,hr2⟩:=hr;have k:done.length<(all.map (·.1)).length:=by rw[←hd];simp
  have g:done.length<(all.map (·.2.2)).length:=by rw[←hd];simp
  have j:m0h (all.map (·.1)) (done.length:Int)=some x.1:=by
   have:=b3r (done.map (·.1)) x.1 (rest.map (·.1))
   rw[a01]at this;rw[←hd,pA,a08];exact this
  have hp:(all.map (·.2.2)).getD done.length []=x.2.2:=by
   have:=a9M (done.map (·.2.2)) x.2.2 [] (rest.map (·.2.2))
   rw[a01]at this;rw[←hd,pA,a08];exact this
  have a:decide ((0:Int)≤(done.length:Int))=true:=decide_eq_true (a04 _);have i:done.length<all.length:=by rw[←hd];simp
  have f:(asI (A++nsP done)).length+2<2147483648:=by simp only[asI,a01,lN,b5I];omega
  have l:wrap .u64 ((x.2.2.length:Nat):Int)=((x.2.2.length:Nat):Int):=a0K (by omega);have w2:wrap .u64 ((a0Y x.2.1:Nat):Int)=((a0Y x.2.1:Nat):Int):=a0K (by omega);rw[a0F (s':=(all.map (·.1),((all.map (·.1)).length:Int),(((done++[x]).length:Nat):Int),all.map (·.2.2),asI (A++nsP (done++[x])),t,())) (by
   simp only[a8x,dlt k,dlt g,a,a09,cT,j,oB,a0V f,tN,hp,l,d,w2,a0B (show done.length<1000000 by omega)];simp[c9p,asI])]
  exact c2u h t A e rest (done++[x]) _ (by simpa using hd) hr2
theorem c2v{all:List (List Int)}(g:all.length≤200)(h:∀p∈all,p.length≤700800):∀(rest done:List (List Int)) (out:List Int),done++rest=all→out.length+700800*rest.length≤150000000→
  y0o a8y ((all.length:Int),(done.length:Int),out,all,())=some (out++rest.flatten,())
 | [],done,out,hd,_=>by
  obtain rfl:done=all:=by simpa using hd
  rw[a0E (b:=(out,())) (by simp only[a8y,dge,cF])]
  simp
 |p::rest,done,out,hd,ho=>by
  have f:done.length<all.length:=by rw[←hd];simp
  have hp:all.getD done.length []=p:=by rw[←hd];exact a9M done p [] rest
  have a:=h p (by rw[←hd];simp);have k:decide ((0:Int)≤(done.length:Int))=true:=decide_eq_true (a04 _);simp only[lC]at ho;rw[a0F (s':=((all.length:Int),(((done++[p]).length:Nat):Int),out++p,all,())) (by
   simp only[a8y,dlt f,k,a09,cT,tN,hp,a0V (show out.length+p.length<2147483648 by omega),a0B (show done.length<1000000 by omega)]
   simp)]
  rw[c2v g h rest (done++[p]) (out++p) (by simpa using hd) (by simp only[lN];omega)]
  simp
theorem c0Y{fm:a0L}:∀{xs:List Pc}{st:Nat},a2W fm st xs→∀p∈xs.map (·.2.2),p.length≤700800
 | [],_,_,p,hp=>by simp at hp
 |x::xs,st,h,p,hp=>by
  rcases mC.1 hp with rfl|hp;exact h.1.2.2.2.2.2.2.2.2.2.2;exact c0Y h.2 p hp
theorem b8I:∀(l:List Nat),(∀n∈l,n<9223372036854775808)→∀b∈l.flatMap a0J,0≤b∧b<256:=fun l h b hb=>by
 obtain⟨n,g,hb⟩:=a65.1 hb;exact c0I 8 n (by rw[show(128:Nat)^(8+1)=9223372036854775808 from by decide];exact h n g) b hb
theorem c4Y{fm:a0L}(g:a3y fm){xs:List Pc}(h:a2W fm 0 xs)(k:xs.length≤200):∀b∈a0T fm xs,0≤b∧b<256:=fun b hb=>by
 unfold a0T at hb;rcases mA.1 hb with hb|hb;simp only[a8f,mC,a35,or_false]at hb;omega;rcases mA.1 hb with hb|hb;exact b8I _ (fun n f=>a19 (a7t g h k n f) (by decide)) b hb;exact a2v _ _ b hb
theorem c8g{fm:a0L}(f:a3y fm){xs:List Pc}(g:a2W fm 0 xs)(h:xs.length≤200):b1W (mkT fm xs)=some (a1G fm xs,0):=by
 obtain⟨s,t,u,v,w,x⟩:=id f;have c:=c2u h (mkT fm xs) [fm.1.toNat,fm.2.1.toNat,fm.2.2.1.toNat,xs.length] rfl xs [] 0 rfl g;have hp:=b7v (ns:=a2F fm xs) (fun n j=>a19 (a7t f g h n j) (by decide)) (by simp only[a2F,lN,b5I,lC,a06];omega);have hv:=b4F (a2F fm xs) fun n i=>a19 (a7t f g h n i) (by decide);have z:(a2F fm xs).length≤404:=by simp only[a2F,lN,b5I,lC,a06];omega
 have y:=b4G f g h;have e:=b7B (n:=a1F fm xs) (k:=8) (by have:=c0U (a3z fm.2.2.1 (a6N xs));unfold prm at this;unfold a1F;omega) (by omega);have d:=b7B (n:=a1w (a0T fm xs)) (k:=4) (by have:=b1D (a0T fm xs);omega) (by omega);have m:=b7E (l:=a0T fm xs) (by unfold short;omega) (c4Y f g h);have hb:=c2v (all:=xs.map (·.2.2)) (by simpa using h) (c0Y g) (xs.map (·.2.2)) [] (a0T fm xs++a3A 4 (a1w (a0T fm xs))) rfl (by simp only[lN,a01,a1D];omega);have o:wrap .u64 fm.1=((fm.1.toNat:Nat):Int):=by rw[a0K (by omega)];omega
 have w2:wrap .u64 fm.2.1=((fm.2.1.toNat:Nat):Int):=by rw[a0K (by omega)];omega
 have p:wrap .u64 fm.2.2.1=((fm.2.2.1.toNat:Nat):Int):=by rw[a0K (by omega)];omega
 have q:wrap .u64 ((a21 (xs.map (·.1)):Nat):Int)=((xs.length:Nat):Int):=by rw[a01,a0K (by omega)]
 have r:wrap .u64 ((a1w (a0T fm xs):Nat):Int)=((a1w (a0T fm xs):Nat):Int):=a0K (by have:=b1D (a0T fm xs);omega);unfold b1W;rw[d2T f g h];simp only[oB,bT,cF,mkT,o,w2,p,q]
 erw[c]
 simp only[oB]
 erw[hp]
 simp only[oB,a0V (show 4+((a2F fm xs).flatMap a0J).length<2147483648 by omega),cT]
 erw[e]
 have b:a98 (a98 ([(75:Int),(78:Int),(83:Int),(68:Int)]:List Int) ((a2F fm xs).flatMap a0J)) (a3A 8 (a1F fm xs))=a0T fm xs:=aA ..;have a:(a98 ([(75:Int),(78:Int),(83:Int),(68:Int)]:List Int) ((a2F fm xs).flatMap a0J)).length+(a3A 8 (a1F fm xs)).length<2147483648:=by
  have:=congrArg a21 b
  simp only[a77,lN]at this⊢;omega
 simp only[oB,a0V a,cT,b,m,r]
 erw[d]
 simp only[oB,a0V (show(a0T fm xs).length+(a3A 4 (a1w (a0T fm xs))).length<2147483648 by rw[a1D];omega),cT]
 erw[hb]
 simp only[oB,a1G,a0Q,a67,aA]
theorem d1O{P A R:List Int}(b:(P++(A++R)).length<1000000000):a4W (ord P (A++R),(A.length:Int))=some (A,ord (P++A) R):=by
 simp only[lN]at b;have c:v0n (A.length:Int) 0=(A.length:Int):=by rw[b3k];omega
 have d:wrap .i64 (((P++(A++R)).length:Int)-(P.length:Int))=((A++R).length:Int):=by
  simp only[lN];rw[a0C (by omega)];omega
 have h:decide ((A.length:Int) > ((A++R).length:Int))=false:=by simp;omega
 have w2:wrap .i64 ((P.length:Int)+(A.length:Int))=(((P++A).length:Nat):Int):=by
  simp only[lN];rw[a0C (by omega)];omega
 have g:decide ((0:Int)≤(((P++A).length:Nat):Int))=true:=by simp;omega
 have f:decide ((((P++A).length:Nat):Int)≤((P++(A++R)).length:Int))=true:=by simp;omega
 have k:decide ((0:Int)≤(P.length:Int))=true:=by simp
 have a:decide ((P.length:Int)≤(((P++A).length:Nat):Int))=true:=by simp;omega
 have e:a73 P.length (a62 (P++A).length (P++(A++R)))=A:=by
  rw[←aA,a78,b04]
 unfold a4W a1I ord;simp only[show((0:Int) != 0)=false from rfl,cF,oB,c,d,h,w2,g,f,k,a,a09,cT,tN,e,a0V (show A.length<2147483648 by omega),aA]
theorem c4v{all:List Int}(a:all.length≤8)(z:List Int×(Int×Int×Unit)):∀(rest done:List Int)(n:Nat),done++rest=all→(∀b∈rest,0≤b∧b<256)→n<256^done.length→
  y0o a3F ((n:Int),(all.length:Int),(done.length:Int),all,z,())=some (((b1C n rest:Nat):Int),z,())
 | [],done,n,hd,_,_=>by
  obtain rfl:done=all:=by simpa using hd
  exact a0E (by simp only[a3F,dge,cF];rfl)
 |x::rest,done,n,hd,hb,hn=>by
  have g:done.length<all.length:=by rw[←hd];simp
  have hp:all.getD done.length 0=x:=by rw[←hd];exact a9M done x _ rest
  have d:=hb x (by simp);have f:decide ((0:Int)≤(done.length:Int))=true:=decide_eq_true (a04 _);have c:256^done.length≤256^7:=a52 (by omega) (by omega);have k:(256:Nat)^7=72057594037927936:=by decide
  have w:wrap .u64 ((wrap .u64 ((n:Int)*(256:Int)))+(wrap .u64 x))=((n*256+x.toNat:Nat):Int):=by
   rw[a0K (n:=(n:Int)*256) (by omega),a0K (n:=x) (by omega),a0K (by omega)];omega
  rw[a0F (s':=(((n*256+x.toNat:Nat):Int),(all.length:Int),(((done++[x]).length:Nat):Int),all,z,())) (by
   simp only[a3F,dlt g,f,a09,cT,tN,hp,w,a0B (show done.length<1000000 by omega)]
   simp)]
  exact c4v a z rest (done++[x]) _ (by simpa using hd) (fun b h=>hb b (by simp[h])) (by rw[lN,a07,a41];omega)
theorem c5v{P A R:List Int}{k:Nat}(a:A.length=k)(g:k≤8)(hb:∀b∈A,0≤b∧b<256)(c:(P++(A++R)).length<1000000000):a3u (ord P (A++R),(k:Int))=some (((b1C 0 A:Nat):Int),ord (P++A) R):=by
 subst a;have h:=c4v g (ord (P++A) R) A [] 0 rfl hb (by decide);have f:a2S (A.length:Int)=some (A.length:Int):=by
  simp only[a2S,b5p,b3k];congr 1;omega
 unfold a3u;simp only[f,oB,d1O c]
 erw[h]
 rfl
@[reducible] def b7N:Type:=a0L×(List Int×(List Int×(Int×(Int×(Int×Unit)))))
def a2L(xs:List Pc):List Int:=xs.map fun x=>((x.2.2.length:Nat):Int)
def a2M(xs:List Pc):List Int:=xs.map fun x=>((a0Y x.2.1:Nat):Int)
def b6r(fm:a0L)(xs:List Pc)(pr bg:Nat):b7N:=(fm,a2L xs,a2M xs,((a1l xs:Nat):Int),(pr:Int),(bg:Int),())
def b6s:b7N:=((0,0,0,()),[],[],0,0,0,())
theorem b8J{all:List Pc}(h:all.length≤200)(x:List Int)(fm:a0L)(z:b7N)(u:Int×(Int×Int×Unit)){R:List Int}:∀(rest done:List Pc)(P:List Int)(st:Nat),done++rest=all→a2W fm st rest→
  (P++((nsP rest).flatMap a0J++R)).length<1000000000→
  y0o a5x (x,(all.length:Int),(done.length:Int),z,(fm,a2L done,a2M done,u),ord P ((nsP rest).flatMap a0J++R),()) =
   some (x,z,(fm,a2L all,a2M all,u),ord (P++(nsP rest).flatMap a0J) R,())
 | [],done,P,st,hd,_,_=>by
  obtain rfl:done=all:=by simpa using hd
  exact a0E (by simp only[a5x,dge,cF];simp[nsP])
 |y::rest,done,P,st,hd,hr,hl=>by
  obtain⟨⟨o,p,q,r,s,t,v,w,A,a,b⟩,hr2⟩:=hr;have k:done.length<all.length:=by rw[←hd];simp
  have e:(nsP (y::rest)).flatMap a0J++R=a0J y.2.2.length++(a0J (a0Y y.2.1)++((nsP rest).flatMap a0J++R)):=by simp[nsP]
  rw[e]at hl⊢;have g:=a1A hl;have f:=a1A g;have i:=a2Q (n:=y.2.2.length) (most:=1048704) (by omega) (by omega) hl;have j:=a2Q (n:=a0Y y.2.1) (most:=4096) (by omega) (by omega) g;have l:wrap .i64 ((y.2.2.length:Nat):Int)=((y.2.2.length:Nat):Int):=a0C (by omega);have w2:wrap .i64 ((a0Y y.2.1:Nat):Int)=((a0Y y.2.1:Nat):Int):=a0C (by omega);have m:wrap .u64 ((done.length:Int)+1)=(((done++[y]).length:Nat):Int):=by rw[a0K (by omega)];simp
  have c:(a2L done).length=done.length:=by simp[a2L]
  have d:(a2M done).length=done.length:=by simp[a2M]
  rw[a0F (s':=(x,(all.length:Int),(((done++[y]).length:Nat):Int),z,(fm,a2L (done++[y]),a2M (done++[y]),u),ord ((P++a0J y.2.2.length)++a0J (a0Y y.2.1)) ((nsP rest).flatMap a0J++R),())) (by
   simp only[a5x,dlt k,cT,i,j,oB,c,d,a0V (show done.length+1<2147483648 by omega),l,w2,m];simp[a2L,a2M])]
  rw[b8J h x fm z u rest (done++[y]) _ _ (by simpa using hd) hr2 f];simp[nsP]
theorem c4w{all:List Pc}(h:all.length≤200)(fm:a0L)(z:b7N)(v:List Int)(u:Int×(Int×Unit)):∀(rest done:List Pc)(st:Nat),done++rest=all→a2W fm st rest→a1l done≤64*done.length→
  y0o a5y ((all.length:Int),(done.length:Int),z,(fm,v,a2M all,((a1l done:Nat):Int),u),())=some (.inl (z,(fm,v,a2M all,((a1l all:Nat):Int),u),()))
 | [],done,st,hd,_,_=>by
  obtain rfl:done=all:=by simpa using hd
  exact a0E (by simp only[a5y,dge,cF])
 |y::rest,done,st,hd,hr,ho=>by
  obtain⟨⟨i,j,l,m,n,o,d,p,q,b,c⟩,hr2⟩:=hr;have f:done.length<all.length:=by rw[←hd];simp
  have g:done.length<(a2M all).length:=by rw[←hd];simp[a2M]
  have hp:(a2M all).getD done.length 0=((a0Y y.2.1:Nat):Int):=by
   have:=a9M (a2M done) ((a0Y y.2.1:Nat):Int) 0 (a2M rest)
   rw[←hd];simp only[a2M,a01,pA,a08]at this⊢;exact this
  have k:=d.2.2.2.2.1;have e:(((a0Y y.2.1:Nat):Int)==0)=false:=by simp;omega
  have a:decide ((0:Int)≤(done.length:Int))=true:=decide_eq_true (a04 _);have w:wrap .i64 (((a1l done:Nat):Int)+((a0Y y.2.1:Nat):Int))=((a1l (done++[y]):Nat):Int):=by rw[a5G,a0C (by omega)];omega
  rw[a0F (s':=((all.length:Int),(((done++[y]).length:Nat):Int),z,(fm,v,a2M all,((a1l (done++[y]):Nat):Int),u),())) (by
   simp only[a5y,dlt f,dlt g,a,a09,cT,tN,hp,e,cF,w,a0B (show done.length<1000000 by omega)]
   simp)]
  exact c4w h fm z v u rest (done++[y]) _ (by simpa using hd) hr2 (by rw[a5G];simp only[lN,a07];omega)
theorem b5g{fm:a0L}(p:a3y fm){xs:List Pc}(i:a2W fm 0 xs)(g:xs.length≤200){A C R:List Int}(a:A.length=8)(bA:∀b∈A,0≤b∧b<256)(t:C.length=4)(G:∀b∈C,0≤b∧b<256)(hR:R.length≤150000000)
  {H:List Int}(o:H=a8f++((a2F fm xs).flatMap a0J++A)):
  a2I (H++(C++R))=some (if a1w H=b1C 0 C then(b6r fm xs (b1C 0 A) (H.length+4),0)else(b6s,5)):=by
 obtain⟨f1,f2,f3,f4,f5,f6⟩:=id p;have hv:=b4F (a2F fm xs) fun n y=>a19 (a7t p i g n y) (by decide);have hl:(a2F fm xs).length≤404:=by simp only[a2F,lN,b5I,lC,a06];omega
 have I:∀b∈H,0≤b∧b<256:=fun b hb=>by
  rw[o]at hb;rcases mA.1 hb with hb|hb;simp only[a8f,mC,a35,or_false]at hb;omega;rcases mA.1 hb with hb|hb;exact b8I _ (fun n y=>a19 (a7t p i g n y) (by decide)) b hb;exact bA b hb
 have c:H.length=4+((a2F fm xs).flatMap a0J).length+8:=by rw[o];simp only[a8f,lN,lC,a06,a];omega
 have S:=b7E (l:=H) (by unfold short;omega) I;have m:(a2F fm xs).flatMap a0J=a0J fm.1.toNat++(a0J fm.2.1.toNat++(a0J fm.2.2.1.toNat++(a0J xs.length++(nsP xs).flatMap a0J))):=by simp[a2F]
 obtain⟨V,O⟩:∃V,(a2F fm xs).flatMap a0J=V:=⟨_,rfl⟩;rw[O]at hv c m o;have ex:H++(C++R)=75::78::83::68::(V++(A++(C++R))):=by rw[o];simp[a8f]
 have h:(V++(A++(C++R))).length<1000000000:=by simp only[lN,a,t];omega
 have B:([]++(a0J fm.1.toNat++(a0J fm.2.1.toNat++(a0J fm.2.2.1.toNat++(a0J xs.length++((nsP xs).flatMap a0J++(A++(C++R)))))))).length<1000000000:=by rw[m]at h;simpa using h
 have D:=a1A B;have E:=a1A D;have F:=a1A E;have U:=a1A F;have X:=a2Q (n:=fm.1.toNat) (most:=1048576) (by omega) (by omega) B;have Y:=a2Q (n:=fm.2.1.toNat) (most:=8) (by omega) (by omega) D;have Z:=a2Q (n:=fm.2.2.1.toNat) (most:=24) (by omega) (by omega) E;have n4:=a2Q (n:=xs.length) (most:=4096) (by omega) (by omega) F;have w1:wrap .i64 ((fm.1.toNat:Nat):Int)=fm.1:=by rw[a0C (by omega)];omega
 have w2:wrap .i64 ((fm.2.1.toNat:Nat):Int)=fm.2.1:=by rw[a0C (by omega)];omega
 have w3:wrap .i64 ((fm.2.2.1.toNat:Nat):Int)=fm.2.2.1:=by rw[a0C (by omega)];omega
 have f:=b8J g (H++(C++R)) fm b6s (0,0,0,()) xs [] _ 0 rfl i U;have N:([]++a0J fm.1.toNat++a0J fm.2.1.toNat++a0J fm.2.2.1.toNat++a0J xs.length)++(nsP xs).flatMap a0J=V:=by rw[m];simp
 rw[N]at f;have n8:=c5v (P:=V) a (by omega) bA h;have n9:=c5v (P:=V++A) t (by omega) G (a1A h);have k:wrap .i64 (((V++(A++(C++R))).length:Int)-(V.length:Int))=((A++(C++R)).length:Int):=by
  simp only[lN]at h⊢;rw[a0C (by omega)];omega
 have q:decide (((A++(C++R)).length:Int)<12)=false:=by simp[a,t];omega
 have u:wrap .i64 ((4:Int)+(((V++A).length:Nat):Int))=((H.length:Nat):Int):=by
  rw[c];simp only[lN,a];rw[a0C (by omega)];omega
 have r:decide ((0:Int)≤((H.length:Nat):Int))=true:=decide_eq_true (a04 _);have s:decide (((H.length:Nat):Int)≤(((H++(C++R)).length:Nat):Int))=true:=by simp;omega
 have d:wrap .i64 (((H.length:Nat):Int)+4)=((H.length+4:Nat):Int):=by rw[a0C (by omega)];omega
 have T:wrap .u64 ((a1w H:Nat):Int)=((a1w H:Nat):Int):=a0K (by have:=b1D H;omega);have K:decide (((a21 (H++(C++R)):Nat):Int)<(4:Int))=false:=by simp;omega
 have L:decide ((4:Int)≤((a21 (H++(C++R)):Nat):Int))=true:=by simp;omega
 have v:((b2s (a62 4 (H++(C++R)))) != ([75,78,83,68]:List Int))=false:=by rw[ex];rfl
 have w:a73 4 (a62 (a21 (H++(C++R))) (H++(C++R)))=V++(A++(C++R)):=by rw[a51,ex];rfl
 have e:a5J (V++(A++(C++R)))=some (ord [] (a0J fm.1.toNat++(a0J fm.2.1.toNat++(a0J fm.2.2.1.toNat++(a0J xs.length++((nsP xs).flatMap a0J++(A++(C++R)))))))):=by
  unfold a5J;rw[a0V (by omega),cT,m];simp[ord]
 have j:=c4w g fm b6s (a2L xs) (((b1C 0 A:Nat):Int),((H.length+4:Nat):Int),()) xs [] 0 rfl i (by simp[a1l]);have x:(a2M xs).length=xs.length:=by simp[a2M]
 have Q:=(b7C i).2;have M:decide (((a1l xs:Nat):Int) > (4194304:Int))=false:=by simp;omega
 unfold a2I;simp only[K,cF,L,cT,v,w,e,oB,X,Y,Z,n4,w1,w2,w3]
 erw[f]
 simp only[oB,a3t,a1I,a3Y,ord,show((0:Int) != 0)=false from rfl,cF,k,q]
 erw[n8]
 simp only[oB,ord,u,r,s,a09,cT,tN,a78,S,T]
 erw[n9]
 simp only[oB]
 by_cases hq:a1w H=b1C 0 C
 have z:(((a1w H:Nat):Int) != ((b1C 0 C:Nat):Int))=false:=by rw[hq];simp
 simp only[z,cF,if_pos hq,a4y,p,decide_true,bT,oB,d,x]
 erw[j]
 simp only[M,oB,cF];rfl;have z:(((a1w H:Nat):Int) != ((b1C 0 C:Nat):Int))=true:=by simp;omega
 simp only[z,cT,if_neg hq];rfl
theorem c4Z{B P R:List Int}{fm:a0L}{st:Nat}{x:Pc}(w:c4l fm st x)(g:B=P++(x.2.2++R))(G:B.length<1000000000){pl:b7N}(hp:pl.1=fm){i:Int}(v:m0h pl.2.1 i=some ((x.2.2.length:Nat):Int))(h:m0h pl.2.2.1 i=some ((a0Y x.2.1:Nat):Int)):
  a4K (B,pl,i,((P.length:Nat):Int),(st:Int))=some (x.1,x.2.1,0):=by
 obtain⟨m,p,q,r,C,s,D,E,F,n,o⟩:=w;have u:B.length=P.length+(x.2.2.length+R.length):=by rw[g];simp
 have A:wrap .i64 (((a21 B:Nat):Int)-((P.length:Nat):Int))=((x.2.2.length+R.length:Nat):Int):=by rw[a0C (by omega)];omega
 have a:decide (((x.2.2.length+R.length:Nat):Int)<((x.2.2.length:Nat):Int))=false:=decide_eq_false (by omega);have w2:wrap .i64 (((P.length:Nat):Int)+((x.2.2.length:Nat):Int))=((P.length+x.2.2.length:Nat):Int):=by rw[a0C (by omega)];omega
 have b:decide ((0:Int)≤((P.length+x.2.2.length:Nat):Int))=true:=decide_eq_true (a04 _);have c:decide (((P.length+x.2.2.length:Nat):Int)≤((a21 B:Nat):Int))=true:=by simp;omega
 have d:decide ((0:Int)≤((P.length:Nat):Int))=true:=decide_eq_true (a04 _);have e:decide (((P.length:Nat):Int)≤((P.length+x.2.2.length:Nat):Int))=true:=decide_eq_true (by omega);have l:a73 P.length (a62 (P.length+x.2.2.length) B)=x.2.2:=by
  rw[g,←aA,←lN,a78,b04]
 have f:=s [] (by simp);rw[a28]at f;have k:((0:Int) != 0)=false:=rfl;have j:decide (((x.2.2.length:Nat):Int)<((x.2.2.length:Nat):Int))=false:=by simp
 have t:eqT (.pair (.int .i64) (.pair (.int .i64) (.pair (.int .i64) .unit))) x.1.2.2.1 pl.1=true:=by rw[q,hp];exact c4a fm
 have y:(x.1.1 != (st:Int))=false:=by rw[m];simp
 have z:(((a0Y x.2.1:Nat):Int) != ((a0Y x.2.1:Nat):Int))=false:=by simp
 unfold a4K;simp only[v,oB,A,a,cF,w2,b,c,d,e,a09,cT,tN,l,f,k,j];rw[t];simp only[bT,cF,y,h,oB,p,z,r,k]
def c0Z:b9k:=((0,0,0,()),0,0,[],[],())
theorem c9w{done rest:List Pc}(x:Pc):m0h (a2L (done++x::rest)) (done.length:Int)=some ((x.2.2.length:Nat):Int):=by
 have:=b3r (a2L done) ((x.2.2.length:Nat):Int) (a2L rest)
 simp only[a2L,a01,pA,a08]at this⊢;exact this
theorem d1P{done rest:List Pc}(x:Pc):m0h (a2M (done++x::rest)) (done.length:Int)=some ((a0Y x.2.1:Nat):Int):=by
 have:=b3r (a2M done) ((a0Y x.2.1:Nat):Int) (a2M rest)
 simp only[a2M,a01,pA,a08]at this⊢;exact this
theorem c2w{fm:a0L}{all tail:List Pc}(g:all.length≤200){B Hd Z:List Int}(m:B.length<1000000000){pl:b7N}(hp:pl.1=fm)(f:pl.2.1=a2L all)(k:pl.2.2.1=a2M all)(a:pl.2.2.2.2.2.1=((Hd.length:Nat):Int))(z:b9k):
  ∀(rest done:List Pc),done++(rest++tail)=all→B=Hd++(a0Q done++(a0Q rest++Z))→a2W fm (a1l done) rest→a1l done≤64*done.length→
  y0o a3G (B,((Hd.length+(a0Q done).length:Nat):Int),a2L all,(all.length:Int),(done.length:Int),z,pl,mkT fm done,()) =
   y0o a3G (B,((Hd.length+(a0Q (done++rest)).length:Nat):Int),a2L all,(all.length:Int),((done++rest).length:Int),z,pl,mkT fm (done++rest),())
 | [],done,_,_,_,_=>by rw[a28]
 |x::rest,done,hd,hB,hr,ho=>by
  obtain⟨n,d⟩:=hr;have c:done.length<all.length:=by rw[←hd];simp
  have h:B=(Hd++a0Q done)++(x.2.2++(a0Q rest++Z)):=by rw[hB];simp[a0Q]
  have t:Hd.length+(a0Q done).length+x.2.2.length≤B.length:=by rw[h];simp;omega
  have e:=c9w (done:=done) (rest:=rest++tail) x;have b:=d1P (done:=done) (rest:=rest++tail) x;rw[a48]at hd;rw[hd]at e b;have l:=c4Z n h m hp (i:=(done.length:Int)) (by rw[f];exact e) (by rw[k];exact b);rw[lN]at l;obtain⟨A,q,C,D,E,F,r,s,G,o,p⟩:=n;have j:=b7F r (w:=fm.2.2.1) s (a6N done);have u:(a3f 0 0 done).length+1<2147483648:=by rw[b1c];omega
  have v:wrap .i64 (((Hd.length+(a0Q done).length:Nat):Int)+((x.2.2.length:Nat):Int))=((Hd.length+(a0Q (done++[x])).length:Nat):Int):=by
   rw[a9i,lN,a0C (by omega)];omega
  have w2:wrap .i64 (((a1l done:Nat):Int)+((a0Y x.2.1:Nat):Int))=((a1l (done++[x]):Nat):Int):=by rw[a5G,a0C (by omega)];omega
  have y:wrap .i64 (((Hd.length+(a0Q done).length:Nat):Int)-((Hd.length:Nat):Int))=(((a0Q done).length:Nat):Int):=by rw[a0C (by omega)];omega
  rw[a0F (s':=(B,((Hd.length+(a0Q (done++[x])).length:Nat):Int),a2L all,(all.length:Int),(((done++[x]).length:Nat):Int),z,pl,mkT fm (done++[x]),())) (by
   simp only[a3G,dlt c,cT,e,oB,mkT]
   erw[l]
   simp only[oB,show((0:Int) != 0)=false from rfl,cF]
   erw[j]
   simp only[oB,a0V u,a01,a0V (show done.length+1<2147483648 by omega),cT,v,q,w2,a,y,a0B (show done.length<1000000 by omega)];simp[a1F,b3j,b5f])]
  rw[List.append_cons done x rest];exact c2w (Z:=Z) g m hp f k a z rest (done++[x]) (by simpa using hd) (by rw[h,a9i];simp) (by rw[a5G];exact d) (by rw[a5G];simp only[lN,a07];omega)
theorem c5a{fm:a0L}(a:a3y fm){xs:List Pc}(b:a2W fm 0 xs)(g:xs.length≤200){R:List Int}(k:R.length≤150000000):
  a2I (a0T fm xs++(a3A 4 (a1w (a0T fm xs))++R))=some (b6r fm xs (a1F fm xs) ((a0T fm xs).length+4),0):=by
 have f:=c0U (a3z fm.2.2.1 (a6N xs));have h:=b5g a b g (A:=a3A 8 (a1F fm xs)) (C:=a3A 4 (a1w (a0T fm xs))) (R:=R) (a1D ..) (a2v 8 _) (a1D ..) (a2v 4 _) k (H:=a0T fm xs) rfl;rw[b4c 4 _ (by have:=b1D (a0T fm xs);omega),b4c 8 _ (by unfold prm at f;unfold a1F;omega),if_pos rfl]at h;exact h
theorem c7b{fm:a0L}(d:a3y fm){xs:List Pc}(a:a2W fm 0 xs)(h:xs.length≤200):a4L (a1G fm xs)=some (mkT fm xs,0):=by
 have i:=a8J a;have l:=b4G d a h;have j:=c5a d a h (R:=a0Q xs) (by omega);have k:(a1G fm xs).length=(a0T fm xs).length+4+(a0Q xs).length:=by simp[a1G,a1D];omega
 have f:(a0T fm xs++a3A 4 (a1w (a0T fm xs))).length=(a0T fm xs).length+4:=by simp[a1D]
 have g:=c2w (fm:=fm) h (B:=a1G fm xs) (Hd:=a0T fm xs++a3A 4 (a1w (a0T fm xs))) (Z:=[]) (by omega) (pl:=b6r fm xs (a1F fm xs) ((a0T fm xs).length+4)) rfl rfl rfl (by rw[f];rfl) c0Z (tail:=[]) xs [] (by simp) (by simp[a1G,a0Q]) a (by simp[a1l]);rw[f,a70]at g;have b:y0o a3G (a1G fm xs,(((a0T fm xs).length+4+(a0Q xs).length:Nat):Int),a2L xs,(xs.length:Int),(xs.length:Int),c0Z,b6r fm xs (a1F fm xs) ((a0T fm xs).length+4),mkT fm xs,())=some (Sum.inl (a1G fm xs,(((a0T fm xs).length+4+(a0Q xs).length:Nat):Int),c0Z,b6r fm xs (a1F fm xs) ((a0T fm xs).length+4),mkT fm xs,())):=
  a0E (by simp only[a3G,dge,cF])
 rw[b]at g;have c:(a2L xs).length=xs.length:=by simp[a2L]
 have e:decide ((((a0T fm xs).length+4+(a0Q xs).length:Nat):Int)<(((a1G fm xs).length:Nat):Int))=false:=by rw[k];simp
 unfold a4L;rw[show a1G fm xs=a0T fm xs++(a3A 4 (a1w (a0T fm xs))++a0Q xs)from rfl,j];simp only[oB,show((0:Int) != 0)=false from rfl,cF,b6r,c]
 erw[g]
 simp only[oB,b6r,mkT]
 erw[e]
 simp only[cF,bne_self_eq_false]
def c1G(fm:a0L)(l:List Int)(ch sz total:Nat)(effort:Int):Nat→List Pc→Prop
 |st,[]=>total≤st
 |st,x::xs=>st<total∧x.2.1=a8e fm.2.2.1 (b2j l ch st (min (st+sz) total)) ch∧a4I (x.2.1,fm,(st:Int),effort)=some (x.1,0)∧c4l fm st x∧c1G fm l ch sz total effort (st+sz) xs
def c1a(fm:a0L)(total:Nat)(xs:List Pc):b9k:=(fm,(total:Int),((a1F fm xs:Nat):Int),a3f 0 0 xs,xs.map (·.1),())
theorem c9x{fm:a0L}(M:a3y fm){ch:Nat}(b:fm.2.1=(ch:Int)){l:List Int}{total sz:Nat}(t:l.length=total*ch)(ht:total≤200)(hs:1≤sz∧sz≤64)(i:l.all (fun x=>a1j x fm.2.2.1)=true){effort:Int}(h0:0≤effort)(h3:effort≤3):
  ∀(k st:Nat)(done:List Pc),total≤st+k→a1l done=min st total→a6N done=l.take (min st total*ch)→a2W fm 0 done→done.length≤st→st≤300→
  ∃rest,c1G fm l ch sz total effort st rest∧a2W fm 0 (done++rest)∧a1l (done++rest)=total∧a6N (done++rest)=l∧
   y0o a3X (l,(sz:Int),effort,(total:Int),(((a0Q done).length:Nat):Int),(st:Int),c1a fm total done,fm,())=some (.inl (c1a fm total (done++rest),())):=by
 obtain⟨f1,f2,f3,f4,f5,f6⟩:=id M;have s:1≤ch∧ch≤8:=by omega
 intro k
 induction k with
 |zero=>
  intro st done N h a o A K;have C:min st total=total:=by omega
  have v:decide ((st:Int)<(total:Int))=false:=by simp;omega
  rw[C]at h a;refine⟨[],by simpa[c1G]using N,by simpa using o,by simpa using h,by rw[a28,a,←t,a51],?_⟩;rw[a28];exact a0E (by simp only[a3X,v,cF])
 |succ k ih=>
  intro st done N h a o A K
  by_cases hlt:st<total
  have D:min st total=st:=by omega
  rw[D]at h a;obtain⟨en,d⟩:∃en,min (st+sz) total=en:=⟨_,rfl⟩;have e:st<en∧en≤total∧en≤st+sz:=by omega
  have B:en*ch≤l.length:=by rw[t];exact a25 _ e.2.1
  have h4:st*ch≤en*ch:=a25 _ (by omega);have h1:l.length≤200*8:=by rw[t];exact a20 ht s.2
  have f:=c8a (st:=st) B;have c:=c8c (ch:=ch) (st:=st) (en:=en) i;have j:=d1D (w:=fm.2.2.1) f s (by omega) ⟨f5,f6⟩ c;have F:=b9h (w:=fm.2.2.1) f s.1;have H:=d1E (w:=fm.2.2.1) f s.1;have G:=d1N M b (l:=b2j l ch st en) (n:=en-st) (by omega) f c;obtain⟨g,p,S,q⟩:=d1C (fm:=fm) j (by omega) ⟨f1,f2⟩ (by rw[b];simp[a8e,a2E]) rfl (st:=st) (by omega) h0 h3;have m:=q.2.2.2.2.1;have L:=b7F j (w:=fm.2.2.1) rfl (a6N done);obtain⟨x,u⟩:∃x:Pc,x=(((st:Int),g),a8e fm.2.2.1 (b2j l ch st en) ch,p):=⟨_,rfl⟩;have T:x.1=((st:Int),g):=by rw[u]
  have r:x.2.1=a8e fm.2.2.1 (b2j l ch st en) ch:=by rw[u]
  have U:x.2.2=p:=by rw[u]
  rw[←u]at q;have E:=q.2.2.2.2.2.2.2.2.2.2;rw[U]at E;have h2:=a8J o;have y:a1l (done++[x])=min (st+sz) total:=by rw[a5G,r,F,h];omega
  have z:a6N (done++[x])=l.take (min (st+sz) total*ch):=by rw[b3j,r,H,a,d,c8b (by omega)]
  have I:a2W fm 0 (done++[x]):=c2s o (by rw[a42,h];exact q);obtain⟨rest,k1,O,P,Q,R⟩:=ih (st+sz) (done++[x]) (by omega) y z I (by simp only[lN,a07];omega) (by omega);have ea:done++[x]++rest=done++x::rest:=by simp
  rw[ea]at O P Q R;refine⟨x::rest,⟨hlt,by rw[d];exact r,by rw[r,T];exact S,q,k1⟩,O,P,Q,?_⟩;rw[←R];have q1:wrap .i64 ((v0o (wrap .i64 ((st:Int)+(sz:Int))) (total:Int))*(ch:Int))=((en*ch:Nat):Int):=by
   rw[a0C (n:=(st:Int)+(sz:Int)) (by omega),b5p,show min ((st:Int)+(sz:Int)) (total:Int)=(en:Int)from by omega,←a54,a0C (by omega)]
  have q2:wrap .i64 ((st:Int)*(ch:Int))=((st*ch:Nat):Int):=by rw[←a54,a0C (by omega)]
  have V:decide ((0:Int)≤((en*ch:Nat):Int))=true:=decide_eq_true (a04 _);have X:decide (((en*ch:Nat):Int)≤((l.length:Nat):Int))=true:=decide_eq_true (by omega);have Y:decide ((0:Int)≤((st*ch:Nat):Int))=true:=decide_eq_true (a04 _);have Z:decide (((st*ch:Nat):Int)≤((en*ch:Nat):Int))=true:=decide_eq_true (by omega);have ec:a73 (st*ch) (a62 (en*ch) l)=b2j l ch st en:=rfl;have n0:((0:Int) != 0)=false:=rfl;have w1:wrap .i64 ((((a0Q done).length:Nat):Int)+((p.length:Nat):Int))=(((a0Q (done++[x])).length:Nat):Int):=by
   rw[a9i,lN,U,a0C (by omega)];omega
  have w2:wrap .i64 ((st:Int)+(sz:Int))=((st+sz:Nat):Int):=by rw[a0C (by omega)];omega
  refine a0F ?_
  simp only[a3X,dlt hlt,cT,b,q1,q2,V,X,Y,Z,a09,tN,ec,G,oB,n0,cF,S,m,c1a]
  erw[L]
  simp only[oB,b1c,a01,a0V (show done.length+1<2147483648 by omega),cT,w1,w2];simp only[a1F,b3j,b5f,pA,a08,List.map_nil,T,r,a42,h];rfl;have C:min st total=total:=by omega
  have v:decide ((st:Int)<(total:Int))=false:=by simp;omega
  rw[C]at h a;refine⟨[],by simp only[c1G];omega,by simpa using o,by simpa using h,by rw[a28,a,←t,a51],?_⟩;rw[a28];exact a0E (by simp only[a3X,v,cF])
theorem b8K{l:List Int}(a:l.length≤10000){fm:a0L}(f:4≤fm.2.2.1∧fm.2.2.1≤24)(sz effort h:Int):∀(rest done:List Int),done++rest=l→rest.all (fun x=>a1j x fm.2.2.1)=true→
  y0o a5T (l,sz,effort,h,l,(l.length:Int),(done.length:Int),fm,())=some (.inl (l,sz,effort,h,fm,()))
 | [],done,hd,_=>by
  obtain rfl:done=l:=by simpa using hd
  exact a0E (by simp only[a5T,dge,cF])
 |x::rest,done,hd,hfit=>by
  have g:done.length<l.length:=by rw[←hd];simp
  have k:m0h l (done.length:Int)=some x:=by rw[a0D g];subst hd;simp
  simp only[a82,bA]at hfit;rw[a0F (s':=(l,sz,effort,h,l,(l.length:Int),(((done++[x]).length:Nat):Int),fm,())) (by
   simp only[a5T,dlt g,cT,k,oB,b4b f,hfit.1,bT,cF,a0B (show done.length<1000000 by omega)]
   simp)]
  exact b8K a f sz effort h rest (done++[x]) (by simpa using hd) hfit.2
theorem c8h{fm:a0L}(k:a3y fm){ch:Nat}(f:fm.2.1=(ch:Int)){l:List Int}{total sz:Nat}(a:l.length=total*ch)(j:total≤200)(E:1≤sz∧sz≤64)(g:l.all (fun x=>a1j x fm.2.2.1)=true){effort:Int}(A:0≤effort)(B:effort≤3):
  ∃h,c1G fm l ch sz total effort 0 h∧a2W fm 0 h∧a1l h=total∧a6N h=l∧h.length≤200∧a6h (fm,l,(sz:Int),effort)=some (a1G fm h,0):=by
 obtain⟨h,F,b,d,o,p⟩:=c9x k f a j E g A B 200 0 [] (by omega) (by simp[a1l]) (by simp[a6N]) trivial (by simp) (by omega);rw[a70]at b d o p;have m:h.length≤200:=by have:=(b7C b).1;omega
 obtain⟨I,K,L,M,y,z⟩:=id k;have e:1≤ch∧ch≤8:=by omega
 have D:l.length≤200*8:=by rw[a];exact a20 j e.2
 have c:=b8K (l:=l) (fm:=fm) (by omega) ⟨y,z⟩ (sz:Int) effort (total:Int) l [] rfl g;have r:decide ((sz:Int)<1)=false:=by simp;omega
 have s:decide ((sz:Int) > 4096)=false:=by simp;omega
 have t:decide (effort<0)=false:=by simp;omega
 have u:decide (effort > 3)=false:=by simp;omega
 have c0:((ch:Int)==0)=false:=by simp;omega
 have G:a46 ((l.length:Nat):Int) (ch:Int)=0:=by
  show(((l.length%ch:Nat)):Int)=0;rw[a,a97];rfl
 have H:wrap .i64 (a23 ((l.length:Nat):Int) (ch:Int))=(total:Int):=by
  rw[show a23 ((l.length:Nat):Int) (ch:Int)=((l.length / ch:Nat):Int)from rfl,a,a60 _ e.1,a0C (by omega)]
 have v:decide ((total:Int) > 4194304)=false:=by simp;omega
 have s0:((sz:Int)==0)=false:=by simp;omega
 have w:decide ((wrap .i64 (a23 (wrap .i64 ((wrap .i64 ((total:Int)+(sz:Int)))-(1:Int))) (sz:Int))) > (4096:Int))=false:=by
  rw[a0C (n:=(total:Int)+(sz:Int)) (by omega),a0C (n:=(total:Int)+(sz:Int)-1) (by omega),show((total:Int)+(sz:Int)-1)=((total+sz-1:Nat):Int)from by omega,show a23 ((total+sz-1:Nat):Int) (sz:Int)=(((total+sz-1) / sz:Nat):Int)from rfl];have i:=b00 (total+sz-1) sz
  revert i
  generalize (total+sz-1) / sz=q;intro i;rw[a0C (by omega)];exact decide_eq_false (by omega)
 have C:c1a fm total h=mkT fm h:=by unfold c1a mkT;rw[d]
 have hp:=c8g k b m;refine⟨h,F,b,d,o,m,?_⟩;unfold a6h;simp only[a4y,k,decide_true,oB,bT,cF,r,s,t,u,f,c0,G,show((0:Int) != 0)=false from rfl,H,v,s0,w]
 erw[c]
 simp only[oB]
 erw[p]
 simp only[oB,C,hp]
theorem c4x(f:a0L):b2a f=some (decide (a3y f)):=by
 unfold b2a a3y
 grind
def crE(s:BitVec 16):BitVec 16:=bif s.msb then(s <<< 1) ^^^ 32773#16 else s <<< 1
theorem c5w(s t:BitVec 16):crE (s ^^^ t)=crE s ^^^ crE t:=by
 unfold crE;rw[BitVec.msb_xor,BitVec.shiftLeft_xor_distrib];cases s.msb<;>cases t.msb<;>simp only[cT,cF,Bool.xor_true,Bool.xor_false,bT,a79];rw[a03];rw[a03,a03,a71 (t <<< 1)];rw[a03,a71 32773#16,a03,BitVec.xor_self,b03]
theorem c9y{s:BitVec 16}(h:crE s=0):s=0:=by
 unfold crE at h;cases hm:s.msb with
 |true=>
  rw[hm,cT]at h
  have:=congrArg (fun x=>a58 x 0) h
  simp at this
 |false=>
  rw[hm,cF]at h;refine a43 fun i hi=>?_
  by_cases h15:i=15
  subst h15;rw[a61]at hm;simpa using hm
  have:=congrArg (fun x=>a58 x (i+1)) h
  simp at this;simpa using this (by omega)
theorem d4M:crE 0=0:=by decide
theorem b9l{s:BitVec 16}:∀{n:Nat},rep crE n s=0→s=0
 |0,h=>h
 |n+1,h=>c9y (b9l (n:=n) h)
theorem d0U:∀n:Nat,rep crE n 0=0
 |0=>rfl
 |n+1=>by
  show rep crE n (crE 0)=0;rw[d4M,d0U n]
def crB(b:Bool):BitVec 16:=bif b then 32768#16 else 0#16
def crS(s:BitVec 16)(b:Bool):BitVec 16:=crE (s ^^^ crB b)
def crT:List Bool→BitVec 16
 | []=>0#16
 |b::w=>crB b ^^^ (crT w >>> 1)
theorem d1Q(b:Bool)(j:Nat):(crB b).getLsbD j=(b&&decide (j=15)):=by
 cases b with
 |false=>simp[crB]
 |true=>
  simp only[crB,cT,Bool.true_and];rw[show(32768#16)=BitVec.ofNat 16 (2^15)from rfl,BitVec.getLsbD_ofNat,Nat.testBit_two_pow]
  by_cases h:j=15
  subst h;rfl;rw[decide_eq_false (by omega:¬ (15=j)),decide_eq_false h,Bool.and_false]
theorem b7O:∀(w:List Bool)(j:Nat),(crT w).getLsbD j=(decide (j<16)&&w.getD (15-j) false)
 | [],j=>by simp[crT]
 |b::w,j=>by
  rw[crT,a86,d1Q,a18,b7O w]
  by_cases h:j=15
  subst h;simp
  by_cases h2:j<16
  rw[show 15-j=(15-(1+j))+1 from by omega,a84];simp[h,h2,show 1+j<16 from by omega];simp[h,h2,show ¬ (1+j<16)from by omega]
theorem c9z{w:List Bool}(h:w.length≤15):crE (crT w >>> 1)=crT w:=by
 have f:(crT w >>> 1).msb=false:=by
  rw[a61,a18,b7O];simp
 unfold crE;rw[f,cF];refine a43 fun i hi=>?_
 rw[BitVec.getLsbD_shiftLeft,a18];cases i with
 |zero=>
  have g:(crT w).getLsbD 0=false:=by
   rw[b7O,lD,List.getElem?_eq_none (by omega)];rfl
  rw[g];simp
 |succ i=>rw[show 1+(i+1-1)=i+1 from by omega];simp[hi]
theorem d2U:∀(w:List Bool)(s:BitVec 16),w.length≤16→w.foldl crS s=rep crE w.length (s ^^^ crT w)
 | [],s,_=>by simp[crT,rep]
 |b::w,s,h=>by
  rw[lC]at h;rw[a72,d2U w _ (by omega),crT,←a03];show _=rep crE w.length (crE (s ^^^ crB b ^^^ (crT w >>> 1)));rw[c5w,c9z (by omega)];rfl
theorem c4y{α:Type}(f g:α→Bool):∀(L:List α)(s t:BitVec 16),(L.map fun j=>xor (f j) (g j)).foldl crS (s ^^^ t)=(L.map f).foldl crS s ^^^ (L.map g).foldl crS t
 | [],_,_=>rfl
 |a::L,s,t=>by
  simp only[a08,a72];rw[←c4y f g L];congr 1;unfold crS;rw[←c5w];congr 1
  have:crB (xor (f a) (g a))=crB (f a) ^^^ crB (g a):=by cases f a<;>cases g a<;>rfl
  rw[this];simp only[a03];rw[←a03 t,a71 t,a03]
theorem b6t:∀(n:Nat)(s:BitVec 16),(a31 n false).foldl crS s=rep crE n s
 |0,_=>rfl
 |n+1,s=>by
  rw[List.replicate_succ,a72,b6t n];show rep crE n (crE (s ^^^ 0#16))=rep crE n (crE s);rw[b03]
theorem d4N{w:List Bool}(h:w.length≤16)(f:true∈w)(k m:Nat):(a31 k false++(w++a31 m false)).foldl crS 0≠0:=by
 rw[a24,a24,b6t,b6t,d0U,d2U w _ h];intro e;have e:=b9l (b9l e);have e:crT w=0:=by simpa using e
 obtain⟨i,hi,g⟩:=List.mem_iff_getElem.1 f
 have:=b7O w (15-i)
 rw[e,show 15-(15-i)=i from by omega,lD,lG hi,g]at this;simp at this;omega
def byb(c:Int):List Bool:=[7,6,5,4,3,2,1,0].map fun i=>c.toNat.testBit i
def b7P(p:List Int):List Bool:=p.flatMap byb
def dead(T:List Int)(a:Int):List Int×(Int×Int×Unit):=(T,a,(3:Int),())
def d2V(c:Int):Prop:=0≤c∧c<256
def a9N(p:List Int)(j:Nat):Bool:=(p.getD (j / 8) 0).toNat.testBit (7-j%8)
theorem b9m:∀p:List Int,b7P p=(a02 (8*p.length)).map (a9N p)
 | []=>rfl
 |c::p=>by
  have e:b7P (c::p)=byb c++b7P p:=rfl;rw[e,b9m p,lC,show 8*(p.length+1)=8+8*p.length from by omega,a44,pA,a33];congr 1;refine a26 fun j _=>?_
  show a9N p j=a9N (c::p) (8+j);unfold a9N;rw[show(8+j) / 8=j / 8+1 from by omega,a84,show(8+j)%8=j%8 from by omega]
structure Turn (b k i:Nat) (p0 p:List Int) (sm:Bool):Prop where
 len:p.length=p0.length
 ok:∀c∈p,d2V c
 bit:∀j,a9N p j=xor (a9N p0 j) (decide (k≤j∧j<k+i)&&b.testBit (j-k))
 smk:sm=true↔∃t,t<i∧b.testBit t=true
 pre:p.take (k / 8)=p0.take (k / 8)
 same:sm=false→p=p0
theorem turned{b k:Nat}{p0 q:List Int}{s:Bool}(w:k<8*p0.length)(i:(b7P p0).foldl crS 0=0)(g:Turn b k (min 16 (8*p0.length-k)) p0 q s)(u:s=true):(b7P q).foldl crS 0≠0:=by
 obtain⟨n,r⟩:∃n,min 16 (8*p0.length-k)=n:=⟨_,rfl⟩;rw[r]at g;have e:b7P q=(a02 (8*p0.length)).map fun j=>xor (a9N p0 j) (decide (k≤j∧j<k+n)&&b.testBit (j-k)):=by
  rw[b9m,g.len];exact a26 fun j _=>g.bit j
 have h:=c4y (a9N p0) (fun j=>decide (k≤j∧j<k+n)&&b.testBit (j-k)) (a02 (8*p0.length)) 0 0;have a:∀x:BitVec 16,(0:BitVec 16) ^^^ x=x:=fun _=>BitVec.zero_xor;rw[a,←e,←b9m,i,a]at h;rw[h];obtain⟨m,p⟩:∃m,8*p0.length=k+(n+m):=⟨8*p0.length-k-n,by omega⟩;rw[p,a44,a44,pA,pA,pA,a33,a33,a33];have c:(a02 k).map (fun j=>decide (k≤j∧j<k+n)&&b.testBit (j-k))=a31 k false:=by
  rw[a76];refine⟨by simp,fun x f=>?_⟩;obtain⟨j,o,rfl⟩:=a32.1 f
  grind
 have d:(a02 m).map (((fun j=>decide (k≤j∧j<k+n)&&b.testBit (j-k))∘(k+·))∘(n+·))=a31 m false:=by
  rw[a76];refine⟨by simp,fun x f=>?_⟩;obtain⟨j,o,rfl⟩:=a32.1 f
  grind
 rw[c,d];refine d4N (by simp;omega) ?_ k m;obtain⟨t,l,v⟩:=g.smk.1 u;refine a32.2 ⟨t,a22.2 l,?_⟩;simp_all
set_option maxRecDepth 100000 in
theorem d1R:b4U ()=some true:=by kernel_rfl
theorem c8i(f:a0L)(l:List Int)(m:Nat)(p:m≤1000):∃t,b3a (f,l,(m:Int))=some t∧(t=true→a3y f∧l.length≤m∧l.all (fun x=>a1j x f.2.2.1)=true∧∃ch n:Nat,f.2.1=(ch:Int)∧l.length=n*ch):=by
 unfold b3a;simp only[c4x,oB]
 by_cases hf:a3y f
 ·simp only[hf,decide_true,bT,cF];cases hd:decide (((l.length:Nat):Int) > (m:Int))with
  |true=>exact⟨false,rfl,fun h=>by cases h⟩
  |false=>
   have k:l.length≤m:=by simp at hd;omega
   obtain⟨d,e,j,o,a,b⟩:=id hf;obtain⟨ch,g⟩:∃ch:Nat,f.2.1=(ch:Int):=⟨f.2.1.toNat,by omega⟩;have c0:((ch:Int)==0)=false:=by simp;omega
   have tm:a46 ((l.length:Nat):Int) (ch:Int)=((l.length%ch:Nat):Int):=rfl;simp only[cF,g,c0,tm,oB];cases c:(((l.length%ch:Nat):Int) != 0)with
   |true=>exact⟨false,rfl,fun h=>by cases h⟩
   |false=>
    have c:l.length%ch=0:=by simp at c;omega
    have h:=a2i (f:=a7e) l (fun i=>(l,(i:Int),f,())) (fun x=>a1j x f.2.2.1) (bt:=Sum.inl ()) (bf:=Sum.inr (false,()))
     (fun i hi hp=>by simp only[a7e,dlt hi,cT,a0D hi,oB,b7z ⟨a,b⟩,hp,bT,cF,a0B (show i<1000000 by omega)])
     (fun i hi hp=>by simp only[a7e,dlt hi,cT,a0D hi,oB,b7z ⟨a,b⟩,hp,a79])
     (by simp only[a7e,dge,cF])
    simp only[cF]
    erw[h]
    cases ha:l.all (fun x=>a1j x f.2.2.1)with
    |true=>exact⟨true,rfl,fun _=>⟨trivial,k,rfl,ch,l.length / ch,rfl,by have:=Nat.div_add_mod l.length ch;rw[a40];omega⟩⟩
    |false=>exact⟨false,rfl,fun h=>by cases h⟩
 simp only[hf,decide_false,a79,cT];exact⟨false,rfl,fun h=>by cases h⟩
theorem d1S{fm:a0L}(c:a3y fm){ch:Nat}(f:fm.2.1=(ch:Int)){l:List Int}{total:Nat}(j:l.length=total*ch)(m:total≤200)(g:l.all (fun x=>a1j x fm.2.2.1)=true)(size effort:Int):
  ∃(sz:Nat)(eff:Int)(h:List Pc),1≤sz∧sz≤64∧wrap .i64 (1+bits .i64 .and size 63)=(sz:Int)∧bits .i64 .and effort 3=eff∧0≤eff∧eff≤3∧c1G fm l ch sz total eff 0 h∧a2W fm 0 h∧a1l h=total∧a6N h=l∧h.length≤200∧
   b3b (fm,l,size,effort)=some (a1G fm h,mkT fm h,true):=by
 obtain⟨v,hv,k⟩:=c9f 6 (by omega) size;obtain⟨w,a,b⟩:=c9f 2 (by omega) effort;rw[show((2^6-1:Nat):Int)=63 from rfl]at hv;rw[show((2^2-1:Nat):Int)=3 from rfl]at a;have n:v<64:=k;have o:w<4:=b;have d:wrap .i64 (1+(v:Int))=((v+1:Nat):Int):=by rw[a0C (by omega)];omega
 obtain⟨h,p,e,q,r,i,s⟩:=c8h c f j m (sz:=v+1) (by omega) g (effort:=(w:Int)) (by omega) (by omega);refine⟨v+1,w,h,by omega,by omega,by rw[hv];exact d,a,by omega,by omega,p,e,q,r,i,?_⟩;unfold b3b;simp only[hv,a,d,s,oB,c7b c e i,beq_self_eq_true,cT]
theorem b9n{α:Type}:∀(l:List α)(j:Nat),j<l.length→∃u a v,l=u++a::v∧u.length=j
 | [],j,h=>by simp at h
 |x::l,0,_=>⟨[],x,l,rfl,rfl⟩
 |x::l,j+1,h=>by
  obtain⟨u,a,v,e,g⟩:=b9n l j (by simpa using h);exact⟨x::u,a,v,by rw[e];rfl,by simp[g]⟩
theorem c4z{α:Type}(a:List α)(x y:α)(b:List α):(a++x::b).set a.length y=a++y::b:=by simp
theorem d2W{a b:Int}(i:0≤a∧a<256)(hb:0≤b∧b<256)(h:b≠0):0≤bits .u8 .xor a b∧bits .u8 .xor a b<256∧bits .u8 .xor a b≠a:=by
 have e:bits .u8 .xor a b=(((a00 8 a ^^^ a00 8 b).toNat:Nat):Int):=by
  show wrap .u8 (((a00 8 a ^^^ a00 8 b).toNat:Nat):Int)=_
  have:=(a00 8 a ^^^ a00 8 b).isLt
  rw[a7f];omega
 have c:=(a00 8 a ^^^ a00 8 b).isLt;rw[e];refine⟨by omega,by omega,fun j=>h ?_⟩;have d:(a00 8 a).toNat=a.toNat:=by rw[a05];omega
 have f:a00 8 a ^^^ a00 8 b=a00 8 a:=a75 (by omega);have k:a00 8 b=0#8:=by
  have:=congrArg (a00 8 a ^^^ ·) f
  simpa[←a03]using this
 have g:=congrArg b05 k;rw[a05]at g;simp at g;omega
theorem d1T{n:Int}(h:Wf (.int .u8) n):0≤n∧n<256:=by
 have h:(decide (IntKind.min .u8≤n)&&decide (n≤IntKind.max .u8))=true:=h;simp only[bA,dT]at h;have g:IntKind.min .u8=0:=rfl;have f:IntKind.max .u8=255:=rfl;omega
theorem b8L{fm:a0L}{all:List Pc}(h:all.length≤200)(t:b9k)(g:t.2.2.2.2.1=all.map (·.1)){N:Nat}(u:N≤1000000000):∀(rest done:List Pc)(st:Nat)(m:Nat),done++rest=all→a2W fm st rest→m+(a0Q rest).length=N→
  y0o a7J (((m+(a0Q rest).length:Nat):Int),(done.length:Int),t,())=some ((m:Int),())
 | [],done,st,m,hd,_,_=>by
  obtain rfl:done=all:=by simpa using hd
  have d:decide ((done.length:Int)<(t.2.2.2.2.1.length:Int))=false:=by rw[g];simp
  exact a0E (by simp only[a7J,d,cF];simp[a0Q])
 |x::rest,done,st,m,hd,hr,hm=>by
  obtain⟨⟨j,l,n,o,b,p,q,r,s,k,a⟩,hr2⟩:=hr;have f:done.length<t.2.2.2.2.1.length:=by rw[g,←hd];simp
  have c:done.length<all.length:=by rw[←hd];simp
  have i:m0h t.2.2.2.2.1 (done.length:Int)=some x.1:=by
   have:=b3r (done.map (·.1)) x.1 (rest.map (·.1))
   rw[a01]at this;rw[g,←hd,pA,a08];exact this
  have e:(a0Q (x::rest)).length=x.2.2.length+(a0Q rest).length:=by simp[a0Q]
  rw[e]at hm⊢;have w:wrap .i64 (((m+(x.2.2.length+(a0Q rest).length):Nat):Int)-((x.2.2.length:Nat):Int))=((m+(a0Q rest).length:Nat):Int):=by rw[a0C (by omega)];omega
  rw[a0F (s':=(((m+(a0Q rest).length:Nat):Int),(((done++[x]).length:Nat):Int),t,())) (by
   simp only[a7J,dlt f,cT,i,oB,b,w,a0B (show done.length<1000000 by omega)]
   simp)]
  exact b8L h t g (N:=m+(a0Q rest).length) (by omega) rest (done++[x]) _ m (by simpa using hd) hr2 rfl
theorem c8j{fm:a0L}(a:a3y fm){xs:List Pc}(f:a2W fm 0 xs)(g:xs.length≤200):b0P (a1G fm xs,mkT fm xs)=some (((a0T fm xs).length+4:Nat):Int):=by
 have k:(a1G fm xs).length=((a0T fm xs).length+4)+(a0Q xs).length:=by simp[a1G,a1D];omega
 have b:=b4G a f g;have hb:=a8J f;have h:=b8L g (mkT fm xs) rfl (N:=(a1G fm xs).length) (by omega) xs [] 0 ((a0T fm xs).length+4) rfl f k.symm;unfold b0P;rw[k]
 erw[h]
 simp only[oB,b3k];congr 1
theorem c8k:b0R (c0Z,c0Z)=some true:=by kernel_rfl
theorem c5b{fm:a0L}(D:a3y fm){xs:List Pc}(s:a2W fm 0 xs)(k:xs.length≤200){j:Nat}(K:j<12){by':Int}(hb:0≤by'∧by'<256)(y:by'≠0):
  a2I ((a1G fm xs).set ((a0T fm xs).length-8+j) (bits .u8 .xor ((a1G fm xs).getD ((a0T fm xs).length-8+j) 0) by'))=some (b6s,5):=by
 obtain⟨V,B⟩:∃V,(a2F fm xs).flatMap a0J=V:=⟨_,rfl⟩;have i:a0T fm xs=(a8f++V)++a3A 8 (a1F fm xs):=by rw[←B];simp[a0T]
 have E:(a0T fm xs).length-8=(a8f++V).length:=by rw[i,lN,a1D];omega
 have G:=a8J s;rw[E]
 by_cases h8:j<8
 obtain⟨u,a,v,e,w⟩:=b9n (a3A 8 (a1F fm xs)) j (by rw[a1D];exact h8);have l:=a2v 8 (a1F fm xs) a (by rw[e];simp);obtain⟨m,n,x⟩:=d2W l hb y;have o:a1G fm xs=((a8f++V)++u)++a::(v++(a3A 4 (a1w (a0T fm xs))++a0Q xs)):=by
  show a0T fm xs++(a3A 4 (a1w (a0T fm xs))++a0Q xs)=_
  conv=>lhs;lhs;rw[i,e]
  simp
 have q:(a8f++V).length+j=((a8f++V)++u).length:=by simp only[lN,w]
 rw[q,o,a9M,c4z];have r:(u++bits .u8 .xor a by'::v).length=8:=by have:=congrArg a21 e;rw[a1D]at this;simpa using this.symm
 have f:∀b∈u++bits .u8 .xor a by'::v,0≤b∧b<256:=fun b g=>by
  rcases mA.1 g with g|g;exact a2v 8 (a1F fm xs) b (by rw[e];simp[g]);rcases mC.1 g with rfl|g;exact⟨m,n⟩;exact a2v 8 (a1F fm xs) b (by rw[e];simp[g])
 have c:a1w (a8f++(V++(u++bits .u8 .xor a by'::v)))≠a1w (a0T fm xs):=by
  have:=c4r (p:=(a8f++V)++u) (t:=v) ⟨m,n⟩ l x
  rw[i,e];simpa using this
 have h:=b5g D s k (C:=a3A 4 (a1w (a0T fm xs))) (R:=a0Q xs) r f (a1D ..) (a2v 4 _) (by omega) (H:=a8f++((a2F fm xs).flatMap a0J++(u++bits .u8 .xor a by'::v))) rfl;rw[B,b4c 4 _ (by have:=b1D (a0T fm xs);omega),if_neg c]at h;rw[←h]
 simp
 obtain⟨u,a,v,e,w⟩:=b9n (a3A 4 (a1w (a0T fm xs))) (j-8) (by rw[a1D];omega);have l:=a2v 4 (a1w (a0T fm xs)) a (by rw[e];simp);obtain⟨m,n,x⟩:=d2W l hb y;have o:a1G fm xs=(a0T fm xs++u)++a::(v++a0Q xs):=by
  show a0T fm xs++(a3A 4 (a1w (a0T fm xs))++a0Q xs)=_;rw[e]
  simp
 have q:(a8f++V).length+j=(a0T fm xs++u).length:=by rw[i];simp only[lN,w,a1D];omega
 rw[q,o,a9M,c4z];have d:(u++bits .u8 .xor a by'::v).length=4:=by have:=congrArg a21 e;rw[a1D]at this;simpa using this.symm
 have f:∀b∈u++bits .u8 .xor a by'::v,0≤b∧b<256:=fun b g=>by
  rcases mA.1 g with g|g;exact a2v 4 _ b (by rw[e];simp[g]);rcases mC.1 g with rfl|g;exact⟨m,n⟩;exact a2v 4 _ b (by rw[e];simp[g])
 have c:a1w (a0T fm xs)≠b1C 0 (u++bits .u8 .xor a by'::v):=fun I=>by
  have F:=b4c 4 (a1w (a0T fm xs)) (by have:=b1D (a0T fm xs);omega);have z:=(c4n _ _ 0 0 (by rw[a1D,d]) (a2v 4 _) f (F.trans I)).2;rw[e]at z
  have:=List.append_cancel_left z
  exact x (List.cons.inj this).1.symm
 have h:=b5g D s k (A:=a3A 8 (a1F fm xs)) (R:=a0Q xs) (a1D ..) (a2v 8 _) d f (by omega) (H:=a0T fm xs) rfl;rw[if_neg c]at h;rw[←h]
 simp
theorem c2M(x:a0L×(List Int×(Int×Int×Int)))(C:0≤x.2.2.2.2∧x.2.2.2.2<256):b0S x=some true:=by
 obtain⟨fm,l,size,i,g⟩:=x;unfold b0S;simp only[d1R,oB,bT,cF];obtain⟨t,j,u⟩:=c8i fm l 100 (by omega);rw[show((100:Nat):Int)=100 from rfl]at j;simp only[j,oB];cases t with
 |false=>rfl
 |true=>
  simp only[bT,cF,oB];cases hz:(g==(0:Int))with
  |true=>rfl
  |false=>
   have s:g≠0:=by simpa using hz
   obtain⟨f,N,k,ch,n,c,A⟩:=u rfl;obtain⟨F,G,H,I,K,L⟩:=id f;have w:1≤ch:=by omega
   have d:n≤200:=Nat.le_trans (Nat.le_mul_of_pos_right n w) (by omega);obtain⟨sz,r,h,R,S,T,U,V,X,O,a,P,Q,e,D⟩:=d1S f c A d k size 0;obtain⟨p,hp,B⟩:=c9f 16 (by omega) i;rw[show((2^16-1:Nat):Int)=65535 from rfl]at hp;have M:=b4G f a e;have hb:=a8J a;have v:12≤(a0T fm h).length:=by simp only[a0T,a8f,lN,a1D,lC,a06];omega
   have m:(a1G fm h).length=((a0T fm h).length+4)+(a0Q h).length:=by simp[a1G,a1D];omega
   have b:decide ((((a0T fm h).length+4:Nat):Int)<12)=false:=by simp;omega
   have tm:a46 (p:Int) 12=((p%12:Nat):Int):=rfl;have z:p%12<12:=a16 _ (by omega);have E:wrap .i64 ((wrap .i64 ((((a0T fm h).length+4:Nat):Int)-12))+((p%12:Nat):Int))=(((a0T fm h).length-8+p%12:Nat):Int):=by
    rw[a0C (n:=(((a0T fm h).length+4:Nat):Int)-12) (by omega),a0C (by omega)];omega
   have o:decide ((0:Int)≤(((a0T fm h).length-8+p%12:Nat):Int))=true:=decide_eq_true (a04 _);have q:decide ((((a0T fm h).length-8+p%12:Nat):Int)<(((a1G fm h).length:Nat):Int))=true:=decide_eq_true (by omega);have y:=c5b f a e z C s;simp only[cF,D,c8j f a e,bT,oB,b,a0V (show 0+(a1G fm h).length<2147483648 by omega),cT,hp,tm,E,a77,a70,o,q,a09,tN];unfold a4L b0N;simp only[y,oB,show((5:Int) != 0)=true from rfl,cT,beq_self_eq_true,a06]
   erw[c8k]
   rfl
end Go.Ab
namespace Go.Proofs.YtbadoabamddpfaaGreatDoor
open Go.Ab Go.ChangeShapes Go.WideShapes Go.ChangeAt Go.RowKit
theorem b7G{α:Type}{f:Nat→Option (α×a0z×List Nat)}:∀(L:List α)(i:Nat),(∀(j:Nat) x,L[j]?=some x→f (i+j)=some (x,[],[]))→a0d f L.length i=some (L,[],[])
 | [],_,_=>rfl
 |a::L,i,h=>by
  have g:=h 0 a rfl;have k:=b7G L (i+1) (fun j x b=>by have:=h (j+1) x (by simpa using b);rw[←this];congr 1;omega);simp only[lC,a0d];simp only[a91]at g;rw[g,k];rfl
section
variable {H:Type} {enc:TypeId×Value→H} {P:Program} {w:World} {base:Nat} {spare:Nat→Bool} {held:Bool}
theorem c2N{k:IntKind}{n:Nat}{t e:TypeId}{fuel:Nat}{cs:List Value}{L:List Int}{p:List MemPlace}(B:P.underlying t=some (.array n e))(u:P.underlying e=some (.int k))(s:P.cellsOf e=1)
  (h:DataW.trod enc P w base spare held fuel t cs=some (.agg (L.map fun i=>.lit (.int k i)),p)):L.length=n∧∀(j:Nat) x,L[j]?=some x→cs[j]?=some (.int k x):=by
 obtain⟨C,m,rfl,b,-,A,a⟩:=DataW.trod_array B h;simp only[pJ,DataW.agg.injEq]at b;have z:L.length=n:=by rw[←A];simpa using congrArg a21 b.1
 refine⟨z,fun j x c=>?_⟩;obtain⟨v,-⟩:=lS.1 c;have g:=a j (by omega);rw[s]at g;obtain⟨y,d⟩:∃y,C[j]?=some y:=⟨_,lG (by omega)⟩;rw[d]at g;obtain⟨i,o,q,-⟩:=DataW.trod_int u g;have f:=congrArg (fun l=>l[j]?) b.1;simp only[a45,c,d,Option.map_some,q]at f;simp only[sj,DataW.lit.injEq,Lit.int.injEq,true_and]at f;subst f;have r:=congrArg (fun l=>l[0]?) o;simpa[a85,List.getElem?_take]using r
end
def c5x : String := (Rows.frameTurnedRow.laid.map Prod.fst).headD ""
theorem d8t:Tryz.prog.globalNamed c5x=some 0:=by kernel_rfl
def c9A:TypeId:=((Tryz.prog.globals[0]?).map (·.type)).getD 0
theorem d1U:(Tryz.prog.globals[0]?).map (·.type)=some c9A:=by kernel_rfl
def c9B:TypeId:=match Tryz.prog.underlying c9A with
 |some (.array _ e)=>e
 |_=>0
theorem d8u:Tryz.prog.underlying c9A=some (.array 64 c9B):=by kernel_rfl
theorem d4O:Tryz.prog.underlying c9B=some (.int .u8):=by kernel_rfl
theorem d4P:Tryz.prog.cellsOf c9B=1:=by kernel_rfl
@[reducible] def laidTab:List (String×DataW Unit):=[(c5x,Rows.laid_math_bits_deBruijn64tab)]

theorem d2X {g:Nat} {t:Ty} {x:t.den} (h:G0 g=some ⟨t,x⟩):g=0∧(⟨t,x⟩:(t:Ty)×t.den)=⟨.arr 64 (.int .u8),b1E⟩:=by
 unfold G0 find at h
 cases g with
 |zero=>exact⟨rfl,(Option.some.inj h).symm⟩
 |succ n=>exact absurd h (by simp[find])
theorem c4A{W:World}(h:laidMetH Tryz.prog laidTab W):∀g t x,G0 g=some ⟨t,x⟩→g<W.heap.size∧dec (a0a W none) t ((Src.at g 0).rd (a0a W none))=some (x,[],[]):=by
 rw[MakeChecks.laidMetH_plain _ _ _ (by kernel_rfl)]at h;obtain⟨ps,⟨r,w,m,q,u,v,b,c,d,a,_⟩,_,_⟩:=h;obtain rfl:=Option.some.inj (d8t.symm.trans b);obtain rfl:=Option.some.inj (d1U.symm.trans c);have n:(Rows.laid_math_bits_deBruijn64tab:DataW Unit)=.agg (b1E.map fun i=>.lit (.int .u8 i)):=rfl;rw[n]at a;obtain⟨s,p⟩:=c2N d8u d4O d4P a;have k:∀(j:Nat) x,b1E[j]?=some x→W.cell? ⟨0,j,none⟩=some (.int .u8 x):=fun j x l=>by
  rw[World.var?_cell b d j];simpa using p j x l
 intro g t x o;obtain⟨rfl,e⟩:=d2X o;cases e;refine⟨z0i (k 0 0 rfl),?_⟩;exact b7G (f:=fun i=>dec (a0a W none) (.int .u8) fun j=>(Src.at 0 0).rd (a0a W none) (i*1+j)) b1E 0 (fun j x l=>by
  have:=k j x l
  simp only[dec,Src.rd,a0a,a42,a94,a91,this,if_true])
set_option maxRecDepth 100000 in
theorem c9C (os:Os) (args:Array Value):laidMetH Tryz.prog laidTab ((World.doorLaid Tryz.prog 400 os).forCall (fun _ _=>0) ⟨#[],args,[]⟩).memory:=
 laidMetH_of_parts3 (fuel:=8) (laidMet_of_run' 8 (by kernel_rfl) (by kernel_rfl)) (by kernel_rfl) (by kernel_rfl)
end Go.Proofs.YtbadoabamddpfaaGreatDoor
