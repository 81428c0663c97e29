/- Part of the proof: QUL, QUM, QUN, QUO, QUP, QUQ, QUR, QUS, QUT, QUW, QUX, QUY, R. Conditions: as each statement tells. -/
import Derived.Test.YtimgpmdfgkgobaaGreatDoorRows
import Derived.ProofKit
import Derived.LaidMore
import Derived.LaidLaws
import Derived.LaidHandle
import Derived.LaidByTextLater
import Derived.OpenShut
import Derived.Handed
import Derived.KernelRfl
import Derived.Test.YtimgpmdfgkgobaaGreatDoorMF
noncomputable section
set_option linter.unusedSimpArgs false
set_option linter.unusedVariables false
open BitVec renaming ofInt→a00
open Bool renaming not_false→a16
open List renaming getElem?_take→a01,getElem_mem→a02,map_cons→a05,getElem?_drop→a06,foldr_cons→a09
open Nat renaming pow_le_pow_right→a04,add_zero→a07,le_refl→a08
open Option renaming bind_eq_some_iff→a03
namespace Go.Ab
open IntKind(wrap)
theorem c7e{x:List (List Int)}(h:∀r∈x,short r)(hl:x.length<1000000):a9N (x,x)=some true:=by
 unfold a9N
 have:=a1K (f:=a6T) (β:=Unit ⊕ (Bool×Unit)) x (fun i=>(x,x,(i:Int),())) (fun _=>true) (bt:=Sum.inl ()) (bf:=Sum.inr (false,()))
  (fun i hi _=>by simp only[a6T,dlt hi,cT,a0c hi,oB,c9P (h _ (a02 hi)),decide_true,bT,cF,a0d (show i<1000000 by omega)])
  (fun i hi hp=>by grind) (by simp_all[a6T])
 grind
theorem c5y{b:a1L}(h:∀r∈b.2.1,short r)(hl:b.2.1.length<1000000):a6q (b,b)=some true:=by
 simp_all[a6q,c7e]
def d8a(b:a1L)(m:Nat):Prop:=b.2.1.length≤12∧∀r∈b.2.1,r.length≤m
theorem d4i(b:a1L)(m:Nat):∃t,b4I (b,(m:Int))=some t∧(t=true→d8a b m):=by
 unfold b4I
 by_cases h1:((b.2.1.length:Nat):Int) > 12
 simp_all;have d1:decide (((b.2.1.length:Nat):Int) > 12)=false:=decide_eq_false h1
 have:=a1K (f:=a8n) (β:=Unit ⊕ (Bool×Unit)) b.2.1 (fun i=>((m:Int),(i:Int),b,())) (fun r=>decide (r.length≤m)) (bt:=Sum.inl ()) (bf:=Sum.inr (false,()))
  (fun i hi hp=>by
   have e:decide (((b.2.1[i].length:Nat):Int) > (m:Int))=false:=by simp_all
   simp only[a8n,dlt hi,cT,a0c hi,oB,e,cF,a0d (show i<1000000 by omega)])
  (fun i hi hp=>by
   have e:decide (((b.2.1[i].length:Nat):Int) > (m:Int))=true:=by simp_all
   simp_all[a8n,a0c]) (by simp_all[a8n])
 simp at this;simp only[d1,cF];rw[this];cases hA:b.2.1.all (fun r=>decide (r.length≤m))with
 |true=>exact⟨true,rfl,fun _=>⟨by omega,fun r hr=>by simp_all⟩⟩
 |false=>simp
theorem d5B{c:List (List Int)}:b3x c=some (decide (1≤c.length∧c.length≤8∧c.all (fun r=>decide (r.length=(c.headD []).length))=true)):=by
 unfold b3x
 by_cases h1:((c.length:Nat):Int)<1
 grind
 by_cases h2:((c.length:Nat):Int) > 8
 grind
 have hc:0<c.length:=by omega
 have hg:a0q c 0=some (c.headD []):=by rw[show(0:Int)=((0:Nat):Int)from rfl,a0c hc,b3Z (d:=[]) hc]
 have:=a1K (f:=a7n) (β:=Unit ⊕ (Bool×Unit)) c (fun i=>(c,(i:Int),())) (fun r=>decide (r.length=(c.headD []).length)) (bt:=Sum.inl ()) (bf:=Sum.inr (false,()))
  (fun i hi hp=>by
   simp only[dT]at hp;have e:((((c[i]).length:Nat):Int) != (((c.headD []).length:Nat):Int))=false:=by simp_all
   simp only[a7n,dlt hi,cT,a0c hi,oB,hg,e,cF,a0d (show i<1000000 by omega)])
  (fun i hi hp=>by
   simp only[decide_eq_false_iff_not]at hp;have e:((((c[i]).length:Nat):Int) != (((c.headD []).length:Nat):Int))=true:=by grind
   simp only[a7n,dlt hi,cT,a0c hi,oB,hg,e]) (by simp_all[a7n])
 grind
theorem c0U{x w:Int}(h:4≤w∧w≤24):b3U (x,w)=some (a1U x w):=by
 have:=c9S (x:=x) (w:=w.toNat) (by omega)
 grind
theorem c4A(b:a1L):a7o b=some (decide (a3G b)):=by
 unfold a7o
 by_cases h1:b.1<4
 rw[decide_eq_true h1,decide_eq_false (fun h:a3G b=>by have:=h.1;omega)];rfl
 by_cases h2:b.1 > 24
 rw[decide_eq_false h1,decide_eq_true h2,decide_eq_false (fun h:a3G b=>by have:=h.2.1;omega)];rfl;simp only[decide_eq_false h1,decide_eq_false h2,cF,d5B,oB]
 by_cases h3:1≤b.2.1.length∧b.2.1.length≤8∧b.2.1.all (fun r=>decide (r.length=(b.2.1.headD []).length))=true
 rotate_left;rw[decide_eq_false h3,decide_eq_false (fun h:a3G b=>h3 ⟨h.2.2.1,h.2.2.2.1,lA.2 fun r hr=>by
  have:=lA.1 h.2.2.2.2.2.2 r hr
  simp only[bA]at this;exact this.1⟩)];rfl
 have hc:0<b.2.1.length:=by omega
 have hg:a0q b.2.1 0=some (b.2.1.headD []):=by rw[show(0:Int)=((0:Nat):Int)from rfl,a0c hc,b3Z (d:=[]) hc]
 simp only[decide_eq_true h3,bT,cF,hg,oB]
 by_cases h4:(((b.2.1.headD []).length:Nat):Int)<1
 rw[decide_eq_true h4,decide_eq_false (fun h:a3G b=>by have:=h.2.2.2.2.1;grind[a1V])];rfl
 by_cases h5:(((b.2.1.headD []).length:Nat):Int) > 4096
 rw[decide_eq_false h4,decide_eq_true h5,decide_eq_false (fun h:a3G b=>by have:=h.2.2.2.2.2.1;grind[a1V])];rfl;simp only[decide_eq_false h4,decide_eq_false h5,cF,oB];have hb:4≤b.1∧b.1≤24:=by omega
 have inner:∀(i:Nat)(hi:i<b.2.1.length),a0h a3L ((i:Int),(0:Int),b,())=some (bif (b.2.1[i]).all (fun x=>a1U x b.1)then Sum.inl ((i:Int),b,())else Sum.inr (false,())):=fun i hi=>by
  have hl:(b.2.1[i]).length=(b.2.1.headD []).length:=by simp_all
  have:=a1K (f:=a3L) (β:=(Int×a1L×Unit) ⊕ (Bool×Unit)) b.2.1[i] (fun j=>((i:Int),(j:Int),b,())) (fun x=>a1U x b.1) (bt:=Sum.inl ((i:Int),b,())) (bf:=Sum.inr (false,()))
   (fun j h hp=>by simp only[a3L,a0c hi,oB,dlt h,cT,a0c h,c0U hb,hp,bT,cF,a0d (show j<1000000 by omega)])
   (fun j h hp=>by simp only[a3L,a0c hi,oB,dlt h,cT,a0c h,c0U hb,hp,a16])
   (by simp_all[a3L,a0c])
  omega
 have hall:=a1K (f:=a4V) (β:=Unit ⊕ (Bool×Unit)) b.2.1 (fun i=>((i:Int),b,())) (fun r=>r.all fun x=>a1U x b.1) (bt:=Sum.inl ()) (bf:=Sum.inr (false,()))
  (fun i h hp=>by
   have hi:=inner i h;rw[hp,cT]at hi;simp only[a4V,dlt h,cT]
   grind[a0d])
  (fun i h hp=>by
   have hi:=inner i h;rw[hp,cF]at hi;simp_all[a4V])
  (by simp_all[a4V])
 simp at hall;rw[hall]
 by_cases hA:b.2.1.all (fun r=>r.all fun x=>a1U x b.1)=true
 rw[hA,decide_eq_true (p:=a3G b) (⟨hb.1,hb.2,h3.1,h3.2.1,by unfold a1V;omega,by unfold a1V;omega,lA.2 fun r hr=>by
  have g1:=lA.1 h3.2.2 r hr;have g2:=lA.1 hA r hr;simp_all[a1V]⟩:a3G b)]
 rfl;rw[Bool.eq_false_iff.2 hA,decide_eq_false (p:=a3G b) (fun h=>hA (lA.2 fun r hr=>by
  have:=lA.1 h.2.2.2.2.2.2 r hr
  simp_all))]
 rfl
theorem d0g{b:a1L}(hs:∀r∈b.2.1,r.length≤100):∃t,a7o b=some t∧(t=true→a3G b):=⟨_,c4A b,of_decide_eq_true⟩
theorem d7d{x w:Int}(hw:4≤w∧w≤24)(h:a1U x w=true):-16777216≤x∧x≤16777216:=by
 unfold a1U at h;simp at h;obtain⟨-,-,h1,h2⟩:=h;obtain⟨o,ho⟩:∃o:Nat,w-1=(o:Int):=⟨(w-1).toNat,by omega⟩;rw[ho]at h1 h2;rw[c8G (by omega)]at h2;have hp:2^o≤2^24:=a04 (by omega) (by omega);have hm:a0A .i64 (-1) (o:Int)=wrap .i64 (-((2^o:Nat):Int)):=by
  unfold a0A;show wrap .i64 (-1*2^(min (o:Int).toNat 64))=_
  grind
 grind[a0g]
theorem d4j{x w:Int}(hw:4≤w∧w≤24)(h:a1U x w=true):a0b x=true:=a2h.2 (by have:=d7d hw h;omega)
theorem b5Z{b:a1L}(h:a3G b):a4u b.2.1 (a1V b)∧a3l b.2.1:=by
 obtain⟨h1,h2,h3,h4,h5,h6,h7⟩:=h;have hN:a4u b.2.1 (a1V b):=fun r hr=>by
  have:=lA.1 h7 r hr
  simp only[bA,dT]at this
  grind[d4j]
 grind[c2Q]
theorem b9k{b:a1L}(hb:a3G b){l:List a0V}(hl:a5U l (b.2.1.length:Int)){rows:List (List Int)}(hd:doO l b.2.1=some rows){ss:List Sub}(hs:a5J (fun s=>a2M s ((a1V b:Nat):Int)) ss=some rows)
  {start rate:Int}(hst:0≤start∧start≤4194304-((a1V b:Nat):Int))(hr:1≤rate∧rate≤1048576):
  b0w (start,((a1V b:Nat):Int),(rate,((b.2.1.length:Nat):Int),b.1,()),l,ss,())=some b:=by
 obtain⟨hN,hQ⟩:=b5Z hb;obtain⟨k1,k2⟩:=b2V l hN rfl hl.2.2.2 hd;have hlen:=c2S hs;obtain⟨h1,h2,h3,h4,h5,h6,h7⟩:=hb;have hfr:frP (start,((a1V b:Nat):Int),(rate,((b.2.1.length:Nat):Int),b.1,()),l,ss,()):=⟨⟨hr.1,hr.2,by grind,by grind,h1,h2⟩,by grind,by grind,hst.1,hst.2,hl⟩;have hch:((ss.length:Nat):Int)=((b.2.1.length:Nat):Int):=by omega
 have hQ':a3l rows:=c2Q k1 (by omega) (by omega) h6;have hm':a5U l ((rows.length:Nat):Int):=by simp_all
 have hu:=d0J l hN rfl hl.2.2.2 hd;have hbe:((b.1,b.2.1,()):a1L)=b:=rfl;unfold b0w;rw[if_pos ⟨hfr,hch⟩];simp only[hs,oB];rw[if_pos ⟨hQ',hm'⟩,hu];simp only[oB,hbe];rw[if_pos ⟨h1,h2,h3,h4,h5,h6,h7⟩]
end Go.Ab
namespace Go.Ab
open IntKind(wrap)
def c4B:a1I:=(0,0,(0,0,0,()),[],[],())
theorem e2C(k:Nat)(hk:k≤62)(y:Int):∃v:Nat,bits .i64 .and y ((2^k-1:Nat):Int)=(v:Int)∧v<2^k:=by
 have hp:2^k≤2^62:=a04 (by omega) hk;have h0:0<2^k:=Nat.pow_pos (by omega);have h:((a00 64 y) &&& (a00 64 ((2^k-1:Nat):Int))).toNat=(a00 64 y).toNat%2^k:=by
  rw[BitVec.toNat_and];have e:(a00 64 ((2^k-1:Nat):Int)).toNat=2^k-1:=by
   rw[BitVec.toNat_ofInt];generalize 2^k=p at *;omega
  rw[e,Nat.and_two_pow_sub_one_eq_mod]
 have hlt:=Nat.mod_lt (a00 64 y).toNat h0;refine⟨(a00 64 y).toNat%2^k,?_,hlt⟩;show wrap .i64 ((((a00 64 y) &&& (a00 64 ((2^k-1:Nat):Int))).toNat:Nat):Int)=_;rw[h];generalize (a00 64 y).toNat%2^k=z at *;exact a0g (by omega)
end Go.Ab
namespace Go.Ab
open IntKind(wrap)
theorem c4C(c:List (List Int))(n i:Int){r:List Int}(hr:short r):∀(k j:Nat)(s:Int),2≤j→j+k=r.length∨(k=0∧r.length≤j)→∃s',a0h a7O (s,r,(j:Int),c,n,i,())=some (s',c,n,i,())
 |0,j,s,h2,h=>⟨s,a0o (by
   have d:decide ((j:Int)<(r.length:Int))=false:=by simp;omega
   simp only[a7O,d,cF])⟩
 |k+1,j,s,h2,h=>by
  have hj:j<r.length:=by omega
  unfold short at hr;have e1:wrap .i64 ((j:Int)-1)=((j-1:Nat):Int):=by rw[a0g (by omega)];omega
  have e2:wrap .i64 ((j:Int)-2)=((j-2:Nat):Int):=by rw[a0g (by omega)];omega
  have g1:=a0c (l:=r) (i:=j-1) (by omega);have g2:=a0c (l:=r) (i:=j-2) (by omega);obtain⟨s',hs'⟩:=c4C c n i hr k (j+1) (wrap .i64 (s+a2y (wrap .i64 (wrap .i64 (r[j]-wrap .i64 (2*r[j-1]))+r[j-2])) (wrap .i64 (0-wrap .i64 (wrap .i64 (r[j]-wrap .i64 (2*r[j-1]))+r[j-2]))))) (by omega) (by omega);refine⟨s',?_⟩;rw[←hs'];exact a0p (by simp only[a7O,dlt hj,cT,a0c hj,oB,e1,e2,g1,g2,a0d (show j<1000000 by omega)])
theorem c6D{c:List (List Int)}{n:Nat}(h:a4u c n)(hn:n≤4096)(hl:c.length<1000):∃w,a8m c=some w:=by
 unfold a8m;simp only[c5x,oB]
 by_cases hq:a3l c
 rotate_left;exact⟨0,by simp only[hq,decide_false,a16,cT]⟩;simp only[hq,decide_true,bT,cF];have loop:∀(k i:Nat)(s:Int),i+k=c.length→∃s',a0h a7P (s,c,(c.length:Int),(i:Int),())=some (s',()):=by
  intro k
  induction k with
  |zero=>
   intro i s hi;obtain rfl:i=c.length:=by omega
   exact⟨s,a0o (by simp only[a7P,dge,cF])⟩
  |succ k ih=>
   intro i s hi;have hlt:i<c.length:=by omega
   have hr:=(h _ (a02 hlt)).1;obtain⟨s1,h1⟩:=c4C c (c.length:Int) (i:Int) (r:=c[i]) (by unfold short;omega) (c[i].length-2) 2 s (a08 _) (by omega);obtain⟨s2,h2⟩:=ih (i+1) s1 (by omega);refine⟨s2,?_⟩;rw[←h2];rw[show((2:Nat):Int)=2 from rfl]at h1;exact a0p (by simp only[a7P,dlt hlt,cT,a0c hlt,oB,h1,a0d (show i<1000000 by omega)])
 obtain⟨s',hs'⟩:=loop c.length 0 0 (by omega);rw[show((0:Nat):Int)=0 from rfl]at hs';rw[hs'];exact⟨s',rfl⟩
def a5K(m:Nat):List a0V:=match m with
 | 1=>[(0,1,-256,())]
 | 2=>[(1,0,-256,())]
 | 3=>[(1,0,-256,()),(0,1,128,())]
 | 4=>[(1,0,-106,()),(0,1,181,()),(1,0,-106,())]
 |_=>[]
theorem c2T{m:Nat}(h:m≤4):b2e (m:Int)=some (a5K m):=by
 match m,h with
 |0,_=>rfl
 | 1,_=>rfl
 | 2,_=>rfl
 | 3,_=>rfl
 | 4,_=>rfl
theorem c6E{m:Nat}(h:m≤4):a5U (a5K m) 2:=by
 match m,h with
 |0,_=>decide
 | 1,_=>decide
 | 2,_=>decide
 | 3,_=>decide
 | 4,_=>decide
theorem b6I{p:List (List Int)}{n:Nat}(hp:a4u p n)(h2:p.length=2)(hq:a3l p)(hn:n≤4096):∀(k m best:Nat)(least:Int),m+k=5→best≤4→(doO (a5K best) p).isSome=true→
  ∃best',a0h a7l (p,(best:Int),least,(m:Int),())=some (((best':Nat):Int),())∧best'≤4∧(doO (a5K best') p).isSome=true
 |0,m,best,least,hm,hb,hd=>by
  obtain rfl:m=5:=by omega
  exact⟨best,a0o rfl,hb,hd⟩
 |k+1,m,best,least,hm,hb,hd=>by
  have d:decide ((m:Int)<5)=true:=by simp;omega
  have hw:wrap .i64 ((m:Int)+1)=((m+1:Nat):Int):=a0d (by omega);have hmay:a5U (a5K m) (p.length:Int):=by rw[h2];exact c6E (by omega)
  cases hdo:doO (a5K m) p with
  |none=>
   have b1:((6:Int) != 0)=true:=rfl;rw[a0p (s':=(p,(best:Int),least,((m+1:Nat):Int),())) (by
    simp only[a7l,d,cT,c2T (show m≤4 by omega),oB,c7p,if_pos (show a3l p∧a5U (a5K m) (p.length:Int)from⟨hq,hmay⟩),hdo,c2R,b1,hw])]
   exact b6I hp h2 hq hn k (m+1) best least (by omega) hb hd
  |some r=>
   have b0:((0:Int) != 0)=false:=rfl;obtain⟨k1,k2⟩:=b2V (a5K m) hp rfl hmay.2.2.2 hdo
   obtain⟨w,hwt⟩:=c6D k1 hn (by omega);have step:a7l (p,(best:Int),least,(m:Int),())=bif decide (w<least)then some (.inl (p,(m:Int),w,((m+1:Nat):Int),()))else some (.inl (p,(best:Int),least,((m+1:Nat):Int),())):=by
    simp only[a7l,d,cT,c2T (show m≤4 by omega),oB,c7p,if_pos (show a3l p∧a5U (a5K m) (p.length:Int)from⟨hq,hmay⟩),hdo,c2R,b0,cF,hwt,hw]
   cases hlt:decide (w<least)with
   |true=>
    rw[hlt]at step;rw[a0p step];exact b6I hp h2 hq hn k (m+1) m w (by omega) (by omega) (by rw[hdo];rfl)
   |false=>
    rw[hlt]at step;rw[a0p step];exact b6I hp h2 hq hn k (m+1) best least (by omega) hb hd
theorem d7e{p:List (List Int)}{n:Nat}(hp:a4u p n)(h2:p.length=2)(hn:n≤4096):∃m,m≤4∧b3w p=some (a5K m)∧(doO (a5K m) p).isSome=true:=by
 have hq:=c2Q hp (by omega) (by omega) hn;obtain⟨w,hw⟩:=c6D hp hn (by omega);obtain⟨m,h1,h2',h3⟩:=b6I hp h2 hq hn 4 1 0 w rfl (by omega) rfl;refine⟨m,h2',?_,h3⟩;unfold b3w;simp only[hw,oB]
 erw[h1]
 simp only[oB,c2T h2']
end Go.Ab
namespace Go.Ab
open IntKind(wrap)
def b2q(i:Nat)(s:a0V):a0V:=(s.1+(i:Int),s.2.1+(i:Int),s.2.2.1,())
theorem d5C{i N:Nat}(h:i+2≤N){s:a0V}(hs:a2q 2 s=true):a2q (N:Int) (b2q i s)=true:=by
 obtain⟨a1,a2,a3,a4,a5,a6,a7⟩:=a3Q.1 hs;exact a3Q.2 ⟨by show 0≤s.1+(i:Int);omega,by show s.1+(i:Int)<(N:Int);omega,by show 0≤s.2.1+(i:Int);omega,by show s.2.1+(i:Int)<(N:Int);omega,by show s.1+(i:Int)≠s.2.1+(i:Int);omega,a6,a7⟩
def c7q(i:Nat)(c c' p:List (List Int)):Prop:=c'.length=c.length∧p.length=2∧c'.getD i []=p.getD 0 []∧c'.getD (i+1) []=p.getD 1 []∧∀j,j≠i→j≠i+1→c'.getD j []=c.getD j []
theorem d2E{i:Nat}{c0 c p p':List (List Int)}(hi:i+2≤c0.length)(h:c7q i c0 c p){s:a0V}(hs:a2q 2 s=true)(hst:a4H 1 s p=some p'):∃c',a4H 1 (b2q i s) c=some c'∧c7q i c0 c' p':=by
 obtain⟨h1,h2,h3,h4,h5⟩:=h;obtain⟨a1,a2,a3,a4,a5,a6,a7⟩:=a3Q.1 hs;unfold a4H at hst⊢;simp only at hst⊢;have key:∀x:Int,0≤x→x<2→c.getD (x+(i:Int)).toNat []=p.getD x.toNat []:=fun x hx hx2=>by
  have:x=0∨x=1:=by omega
  rcases this with rfl|rfl;rw[show((0:Int)+(i:Int)).toNat=i from by omega];exact h3;rw[show((1:Int)+(i:Int)).toNat=i+1 from by omega];exact h4
 have e1:=key s.1 a1 a2;have e2:=key s.2.1 a3 a4;simp only[b2q];have hr:b1i 1 s.2.2.1 (c.getD (s.1+(i:Int)).toNat []) (c.getD (s.2.1+(i:Int)).toNat [])=b1i 1 s.2.2.1 (p.getD s.1.toNat []) (p.getD s.2.1.toNat []):=by rw[e1,e2]
 simp only[hr]
 split at hst
 rename_i hA;cases hst;rw[if_pos hA];generalize b1i 1 s.2.2.1 (p.getD s.1.toNat []) (p.getD s.2.1.toNat [])=r at *;refine⟨_,rfl,by simp[h1],by simp[h2],?_,?_,fun j hj hj1=>?_⟩
 have:s.2.1=0∨s.2.1=1:=by omega
 rcases this with e|e;rw[e,show((0:Int)+(i:Int)).toNat=i from by omega,a8G _ (by omega),show(0:Int).toNat=0 from rfl,a8G _ (by omega)];rw[e,show((1:Int)+(i:Int)).toNat=i+1 from by omega,a6N _ (by omega),show(1:Int).toNat=1 from rfl,a6N _ (by omega)];exact h3
 have:s.2.1=0∨s.2.1=1:=by omega
 rcases this with e|e;rw[e,show((0:Int)+(i:Int)).toNat=i from by omega,a6N _ (by omega),show(0:Int).toNat=0 from rfl,a6N _ (by omega)];exact h4;rw[e,show((1:Int)+(i:Int)).toNat=i+1 from by omega,a8G _ (by omega),show(1:Int).toNat=1 from rfl,a8G _ (by omega)];rw[a6N _ (by omega)];exact h5 j hj hj1;cases hst
theorem c9l{i:Nat}{c0:List (List Int)}(hi:i+2≤c0.length):∀(l:List a0V){c p p':List (List Int)},l.all (a2q 2)=true→c7q i c0 c p→doO l p=some p'→∃c',doO (l.map (b2q i)) c=some c'∧c7q i c0 c' p'
 | [],c,p,p',_,h,hd=>by cases hd;exact⟨c,rfl,h⟩
 |s::l,c,p,p',hl,h,hd=>by
  simp only[List.all_cons,bA]at hl;simp only[doO,a03]at hd;obtain⟨q,g1,g2⟩:=hd;obtain⟨d,k1,k2⟩:=d2E hi h hl.1 g1;obtain⟨c',j1,j2⟩:=c9l hi l hl.2 k2 g2;exact⟨c',by simp only[a05,doO,k1,oB];exact j1,j2⟩
theorem d0L:∀(l m:List a0V)(c:List (List Int)),doO (l++m) c=(doO l c).bind (doO m)
 | [],m,c=>rfl
 |s::l,m,c=>by
  simp only[List.cons_append,doO];cases a4H 1 s c with
  |none=>rfl
  |some d=>exact d0L l m d
theorem d4k{α β:Type}(f:α→β):∀l:List α,l.flatMap (fun x=>[f x])=l.map f
 | []=>rfl
 |x::l=>by simp[d4k f l]
theorem d0h(b:a1L)(first:Nat)(hf:first≤100){y:List a0V}(hy:y.all (a2q 2)=true)(h3:y.length≤10)(out:List a0V)(ho:out.length≤1000):
  a0h a7m ((first:Int),(y.length:Int),(0:Int),out,y,b,())=some ((first:Int),out++y.map (b2q first),b,()):=by
 have:=a2t (f:=a7m) (β:=Int×(List a0V×(a1L×Unit))) y (fun i (a:List a0V)=>((first:Int),(y.length:Int),(i:Int),a,y,b,())) (fun a x=>.inl (a++[b2q first x])) (fun i a=>a.length=out.length+i) (fun a=>((first:Int),a,b,()))
  (fun i hi a ha=>⟨fun a' ha'=>by
   simp only[Sum.inl.injEq]at ha';subst ha';obtain⟨a1,a2,a3,a4,a5,a6,a7⟩:=a3Q.1 (lA.1 hy _ (a02 hi));have d0:decide ((0:Int)≤(i:Int))=true:=by simp
   have hg:List.getD y (Int.toNat (i:Int)) ((0:Int),(0:Int),(0:Int),())=y[i]:=by rw[tN,lD,lG hi];rfl
   refine⟨?_,by simp[ha];omega⟩;simp only[a7m,dlt hi,cT,d0,Bool.and_self,a1t (show a.length+1<2147483648 by omega),hg,a0d (show i<1000000 by omega),List.append_eq];rw[a0g (n:=y[i].1+(first:Int)) (by omega),a0g (n:=y[i].2.1+(first:Int)) (by omega)]
   rfl,fun b hb=>by cases hb⟩)
  (fun a ha=>by simp only[a7m,dge,cF]) (a:=out) (by simp)
 rw[b5W (fun x:a0V=>[b2q first x])]at this
 simp only[nZ]at this;rw[this];simp only[b0e,d4k]
theorem d9y{c:List (List Int)}{i:Nat}(h:i+2≤c.length):List.drop i (List.take (i+2) c)=[c.getD i [],c.getD (i+1) []]:=by
 apply List.ext_getElem?;intro j;rw[a06]
 match j with
 |0=>rw[a01,if_pos (by omega),a07,lD,lG (by omega)];rfl
 | 1=>rw[a01,if_pos (by omega),lD,lD,lG (by omega)];rfl
 |j+2=>rw[a01,if_neg (by omega)];rfl
theorem c4D{b:a1L}{n:Nat}(hN:a4u b.2.1 n)(hn:n≤4096)(h8:b.2.1.length≤8):∀(k j:Nat)(out:List a0V)(c:List (List Int)),j+k=5→out.length≤3*j→out.all (a2q (b.2.1.length:Int))=true→doO out b.2.1=some c→(∀i,2*j≤i→c.getD i []=b.2.1.getD i [])→3*j≤12∨b.2.1.length≤2*j→
  ∃l c',a0h a9W (((2*j:Nat):Int),out,b,())=some (l,())∧l.length≤16∧l.all (a2q (b.2.1.length:Int))=true∧doO l b.2.1=some c'
 |k,j,out,c,hk,hol,hob,hdo,hag,h12=>by
  have hw1:wrap .i64 (((2*j:Nat):Int)+1)=((2*j+1:Nat):Int):=by rw[a0g (by omega)];omega
  by_cases hlt:2*j+1<b.2.1.length
  ·cases k with
   |zero=>omega
   |succ k=>
    have hw2:wrap .i64 (((2*j:Nat):Int)+2)=((2*j+2:Nat):Int):=by rw[a0g (by omega)];omega
    have hp:a4u [b.2.1.getD (2*j) [],b.2.1.getD (2*j+1) []] n:=fun r hr=>by
     simp only[mC,List.not_mem_nil,or_false]at hr;rcases hr with rfl|rfl;exact a7C hN (by omega);exact a7C hN (by omega)
    obtain⟨m,m1,m2,m3⟩:=d7e hp rfl hn;obtain⟨p',hp'⟩:=Option.isSome_iff_exists.1 m3;have hmay:=(c6E m1).2.2.2;have hnl:(a5K m).length≤3:=by
     match m,m1 with
     |0,_=>decide
     | 1,_=>decide
     | 2,_=>decide
     | 3,_=>decide
     | 4,_=>decide
    have hcl:c.length=b.2.1.length:=(b2V out hN rfl hob hdo).2;obtain⟨c',g1,g2,g3,g4,g5,g6⟩:=c9l (i:=2*j) (c0:=c) (by omega) (a5K m) hmay ⟨rfl,rfl,hag _ (a08 _),hag _ (by omega),fun _ _ _=>rfl⟩ hp';have hin:=d0h b (2*j) (by omega) hmay (by omega) out (by omega);have d1:decide (((2*j+1:Nat):Int)<((b.2.1.length:Nat):Int))=true:=by simp only[dT];omega
    have d2:decide ((0:Int)≤((2*j+2:Nat):Int))=true:=by simp only[dT];omega
    have d3:decide (((2*j+2:Nat):Int)≤((b.2.1.length:Nat):Int))=true:=by simp only[dT];omega
    have d4:decide ((0:Int)≤((2*j:Nat):Int))=true:=by simp only[dT];omega
    have d5:decide (((2*j:Nat):Int)≤((2*j+2:Nat):Int))=true:=by simp only[dT];omega
    rw[a0p (s':=(((2*(j+1):Nat):Int),out++(a5K m).map (b2q (2*j)),b,())) (by
     simp only[a9W,hw1,d1,cT,hw2,d2,d3,Bool.and_self,tN,d4,d5];rw[d9y (by omega),m2];simp only[oB];rw[hin];simp only[oB,hw2];rfl)]
    refine c4D hN hn h8 k (j+1) (out++(a5K m).map (b2q (2*j))) c' (by omega) (by simp;omega) ?_ (by rw[d0L,hdo];exact g1) (fun i hi=>by rw[g6 i (by omega) (by omega)];exact hag i (by omega)) (by omega);rw[List.all_append,hob,Bool.true_and,lA];intro s hs;obtain⟨t,ht,rfl⟩:=List.mem_map.1 hs;exact d5C (by omega) (lA.1 hmay t ht)
  refine⟨out,c,a0o ?_,by omega,hob,hdo⟩;have d1:decide (((2*j+1:Nat):Int)<((b.2.1.length:Nat):Int))=false:=by simp only[decide_eq_false_iff_not];omega
  simp only[a9W,hw1,d1,cF]
termination_by k=>k
theorem c9m{b:a1L}(hb:a3G b):∃l c',a8D b=some l∧a5U l (b.2.1.length:Int)∧doO l b.2.1=some c':=by
 obtain⟨hN,-⟩:=b5Z hb;have h8:=hb.2.2.2.1;obtain⟨l,c',h1,h2,h3,h4⟩:=c4D hN hb.2.2.2.2.2.1 h8 5 0 [] b.2.1 rfl (by simp) rfl rfl (fun _ _=>rfl) (by omega);refine⟨l,c',?_,⟨by have:=hb.2.2.1;omega,by omega,h2,h3⟩,h4⟩;unfold a8D;simp only[b5Y,decide_eq_true hb,oB,bT,cF];rw[show((2*0:Nat):Int)=0 from rfl]at h1;rw[h1];rfl
end Go.Ab
namespace Go.Ab
open IntKind(wrap)
theorem c2U{r:List Int}{n:Nat}(hr:r.length=n∧r.all a0b=true)(h1:1≤n)(h2:n≤256){k:Int}(h0:0≤k)(h3:k≤3):
  ∃s,a3a (r,k)=some (s,0)∧SmallS s∧a2M s (n:Int)=some r∧a3U s (n:Int)≤((13+a0l r*n:Nat):Int):=by
 obtain⟨hl,hw⟩:=hr;have hd:=a6D (l:=r) (by omega) hw;obtain⟨s,k1,k2,k3,-,-,k6,-⟩:=b9d (l:=r) (by omega) (by omega) hw (d3L (by have:=hd.1;omega)) h0 h3;exact⟨s,k1,k2,by rw[hl]at k3;exact k3,by rw[hl]at k6;exact k6⟩
theorem c4E{effort:Int}(h0:0≤effort)(h3:effort≤3){rows:List (List Int)}{n:Nat}(hN:a4u rows n)(h1:1≤n)(h2:n≤256)(h8:rows.length≤8)(f:a1I):∀(rest d:List (List Int)) (done:List Sub),d++rest=rows→done.length=d.length→
  ∃outs,a0h a6A (effort,rows,(rows.length:Int),(d.length:Int),c4B,a9Y f done,())=some (.inl (c4B,a9Y f (done++outs),()))∧a5J (fun s=>a2M s (n:Int)) outs=some rest∧(∀s∈outs,SmallS s)∧a5J (fun r=>a3a (r,effort)) rest=some (outs.map fun s=>(s,0))
 | [],d,done,hd,hdl=>by
  have e:d=rows:=by simpa using hd
  subst e;refine⟨[],?_,rfl,by simp,rfl⟩;rw[List.append_nil];exact a0o (by simp only[a6A,dge,cF])
 |r::rest,d,done,hd,hdl=>by
  have hlt:d.length<rows.length:=by rw[←hd];simp
  have hg:a0q rows (d.length:Int)=some r:=by rw[a0c hlt];subst hd;simp
  obtain⟨s,b1,b2,b3,-⟩:=c2U (hN r (by rw[←hd];simp)) h1 h2 h0 h3;have z0:((0:Int) != 0)=false:=rfl;have step:a6A (effort,rows,(rows.length:Int),(d.length:Int),c4B,a9Y f done,())=some (.inl (effort,rows,(rows.length:Int),(((d++[r]).length:Nat):Int),c4B,a9Y f (done++[s]),())):=by
   simp only[a6A,dlt hlt,cT,hg,oB,b1,z0,cF];rw[show(a9Y f done).2.2.2.2.1=done from rfl,a1t (show done.length+1<2147483648 by omega),cT,a0d (show d.length<1000000 by omega)];rw[show(((d++[r]).length:Nat):Int)=((d.length+1:Nat):Int)from by simp];rfl
  rw[a0p step];obtain⟨outs,k1,k2,k3,k4⟩:=c4E h0 h3 hN h1 h2 h8 f rest (d++[r]) (done++[s]) (by simpa using hd) (by simp[hdl]);refine⟨s::outs,?_,?_,fun t ht=>?_,?_⟩;rw[k1];simp;simp only[a5J,b3,k2,oB];rcases mC.1 ht with rfl|ht;exact b2;exact k3 t ht;simp only[a5J,b1,k4,oB,a05]
theorem b9l{b:a1L}(hb:a3G b)(h256:a1V b≤256){rate start effort:Int}(hr:1≤rate∧rate≤1048576)(hst:0≤start∧start≤4194304-((a1V b:Nat):Int))(h0:0≤effort)(h3:effort≤3):
  ∃l rows outs,a4z (b,(rate,((b.2.1.length:Nat):Int),b.1,()),start,effort)=some ((start,((a1V b:Nat):Int),(rate,((b.2.1.length:Nat):Int),b.1,()),l,outs,()),0)∧
   a5U l (b.2.1.length:Int)∧doO l b.2.1=some rows∧a5J (fun s=>a2M s ((a1V b:Nat):Int)) outs=some rows∧(∀s∈outs,SmallS s)∧a5J (fun r=>a3a (r,effort)) rows=some (outs.map fun s=>(s,0))∧
   (effort=0→l=[])∧(0<effort→a8D b=some l):=by
 obtain⟨hN,hQ⟩:=b5Z hb;have hb':=hb;obtain⟨g1,g2,g3,g4,g5,g6,-⟩:=hb';have hfm:c2O (rate,((b.2.1.length:Nat):Int),b.1,()):=⟨hr.1,hr.2,by show(1:Int)≤((b.2.1.length:Nat):Int);omega,by show((b.2.1.length:Nat):Int)≤8;omega,g1,g2⟩;have lifts:∃l rows,a5U l (b.2.1.length:Int)∧doO l b.2.1=some rows∧(effort=0→l=[])∧(0<effort→a8D b=some l):=by
  by_cases he:effort=0
  exact⟨[],b.2.1,⟨by omega,by omega,by simp,rfl⟩,rfl,fun _=>rfl,fun h=>by omega⟩;obtain⟨l,c,k1,k2,k3⟩:=c9m hb;exact⟨l,c,k2,k3,fun h=>absurd h he,fun _=>k1⟩
 obtain⟨l,rows,hm,hd,hl0,hl1⟩:=lifts;obtain⟨k1,k2⟩:=b2V l hN rfl hm.2.2.2 hd;obtain⟨outs,j1,j2,j3,j4⟩:=c4E h0 h3 k1 (by omega) h256 (by omega) (start,((a1V b:Nat):Int),(rate,((b.2.1.length:Nat):Int),b.1,()),l,([]:List Sub),()) rows [] [] rfl rfl;refine⟨l,rows,outs,?_,hm,hd,j2,j3,j4,hl0,hl1⟩;have e1:(b.1 != b.1)=false:=bne_self_eq_false _;have e2:(((b.2.1.length:Nat):Int) != ((b.2.1.length:Nat):Int))=false:=bne_self_eq_false _;have d1:decide (effort<0)=false:=by simp only[decide_eq_false_iff_not];omega
 have d2:decide (effort > 3)=false:=by simp only[decide_eq_false_iff_not];omega
 have d3:decide (start<0)=false:=by simp only[decide_eq_false_iff_not];omega
 have d4:decide (start > wrap .i64 (4194304-((a1V b:Nat):Int)))=false:=by rw[a0g (by omega)];simp only[decide_eq_false_iff_not];omega
 have z0:((0:Int) != 0)=false:=rfl;unfold a4z;simp only[b5Y,decide_eq_true hb,oB,bT,cF,b8j,decide_eq_true hfm,e1,e2,d1,d2,d3,a9v,d4];cases he:decide (effort > 0)with
 |true=>
  have:=hl1 (by simpa using he)
  simp only[cT,this,oB,c7p,if_pos (show a3l b.2.1∧a5U l (b.2.1.length:Int)from⟨hQ,hm⟩),hd,c2R,z0,cF]
  erw[j1]
  rfl
 |false=>
  have:=hl0 (by simp only[decide_eq_false_iff_not]at he;omega)
  subst this;simp only[cF,oB,c7p,if_pos (show a3l b.2.1∧a5U ([]:List a0V) (b.2.1.length:Int)from⟨hQ,hm⟩),hd,c2R,z0]
  erw[j1]
  rfl
end Go.Ab
namespace Go.Ab
theorem made{b:a1L}(hb:a3G b)(h256:a1V b≤256){rate start effort:Int}(hr:1≤rate∧rate≤1048576)(hst:0≤start∧start≤4194304-((a1V b:Nat):Int))(h0:0≤effort)(h3:effort≤3):
  ∃g:Int×(a0V×(List a0V×(List Sub×Unit))),a4z (b,(rate,((b.2.1.length:Nat):Int),b.1,()),start,effort)=some ((start,g),0)∧g.1=((a1V b:Nat):Int)∧g.2.1=(rate,((b.2.1.length:Nat):Int),b.1,())∧
   g.2.2.1.length≤16∧g.2.2.2.1.length≤8∧(∀s∈g.2.2.2.1,SmallS s)∧∀start',0≤start'∧start'≤4194304-((a1V b:Nat):Int)→b0w (start',g)=some b:=by
 obtain⟨l,rows,outs,h1,h2,h4,h5,h6,-⟩:=b9l hb h256 hr hst h0 h3;obtain⟨hN,-⟩:=b5Z hb;have hl:=c2S h5;have hl2:=(b2V l hN rfl h2.2.2.2 h4).2;exact⟨_,h1,rfl,rfl,h2.2.2.1,by have:=hb.2.2.2.1;show outs.length≤8;omega,h6,fun start' hs=>b9k hb h2 h4 h5 hs hr⟩
end Go.Ab
namespace Go.Ab
end Go.Ab
namespace Go.Ab
end Go.Ab
namespace Go.Ab
theorem c6F:∀(k a b:Nat),b<128^(k+1)→a≤b→(a0C a).length≤(a0C b).length
 |0,a,b,h,hab=>by rw[b1v (n:=a) (by omega),b1v (n:=b) (by omega)];simp
 |k+1,a,b,h,hab=>by
  have hb:=b9g (k+1) b h
  by_cases ha:a<128
  rw[b1v ha];simpa using hb.1;have hb':¬ b<128:=by omega
  rw[b2U ha,b2U hb']
  have:=c6F k (a / 128) (b / 128) (by rw[Nat.div_lt_iff_lt_mul (by omega)];rw[Nat.pow_succ]at h;exact h) (Nat.div_le_div_right hab)
  simp only[lC];omega
theorem d2F{s:Int}{n:Int}{fm:a0V}{l:List a0V}{o o':List Sub}{L L':List Int}(h:L'.length≤L.length)(hL:L.length≤5600000):
  (a3j (s,n,fm,l,o',()) L').length≤(a3j (s,n,fm,l,o,()) L).length:=by
 have h1:=(b3Y L).1;have h2:=(b3Y L').1;have hv:=c6F 3 (a4G L').length (a4G L).length (by rw[show 128^(3+1)=268435456 from rfl];omega) (by omega);simp only[a3j,a5V,a1R,hb,lN,lC,List.length_nil];omega
theorem c6G{k k':Int}(h0:0≤k)(hk:k≤k')(h3:k'≤3){n:Nat}(h1:1≤n)(h2:n≤256):∀{rows:List (List Int)} {outs outs':List Sub},a5J (fun r=>a3a (r,k)) rows=some (outs.map fun s=>(s,0))→a5J (fun r=>a3a (r,k')) rows=some (outs'.map fun s=>(s,0))→
  (∀r∈rows,r.length=n∧r.all a0b=true)→∃c c':Nat,outs.foldr (fun s a=>a.bind fun a=>(a3z (s,(n:Int))).bind fun c=>some (c+a)) (some 0)=some (c:Int)∧outs'.foldr (fun s a=>a.bind fun a=>(a3z (s,(n:Int))).bind fun c=>some (c+a)) (some 0)=some (c':Int)∧c'≤c
 | [],outs,outs',h,h',_=>by
  have e:outs=[]:=by
   cases outs with
   |nil=>rfl
   |cons a l=>simp[a5J]at h
  have e':outs'=[]:=by
   cases outs' with
   |nil=>rfl
   |cons a l=>simp[a5J]at h'
  subst e e';exact⟨0,0,rfl,rfl,a08 _⟩
 |r::rows,outs,outs',h,h',hr=>by
  simp only[a5J,a03,sj]at h h';obtain⟨y,g1,ys,g2,g3⟩:=h;obtain⟨y',g1',ys',g2',g3'⟩:=h';cases outs with
  |nil=>cases g3
  |cons s outs=>
   cases outs' with
   |nil=>cases g3'
   |cons s' outs'=>
    simp only[a05,List.cons.injEq]at g3 g3';obtain⟨rfl,rfl⟩:=g3;obtain⟨rfl,rfl⟩:=g3';obtain⟨hl,hw⟩:=hr r (by simp);obtain⟨c,c',e1,e2,e3⟩:=c6G h0 hk h3 h1 h2 g2 g2' (fun q hq=>hr q (by simp[hq]));obtain⟨t,b1,b2,b3,-⟩:=c2U ⟨hl,hw⟩ h1 h2 h0 (show k≤3 by omega);obtain⟨t',b1',b2',b3',-⟩:=c2U ⟨hl,hw⟩ h1 h2 (show 0≤k' by omega) h3;have hd:=a6D (l:=r) (by omega) hw;have hmore:=d3O (l:=r) (by omega) (by omega) hw (d3L (by have:=hd.2.2.1;omega)) h0 hk h3 g1 g1';rw[hl]at hmore;rw[g1]at b1;rw[g1']at b1';obtain rfl:s=t:=by simpa using b1
    obtain rfl:s'=t':=by simpa using b1'
    obtain⟨zn,-,p2,-⟩:=c2N b2 (n:=(n:Int)) (by rw[b3];rfl) (L:=[]) (by simp);obtain⟨zn',-,p2',-⟩:=c2N b2' (n:=(n:Int)) (by rw[b3'];rfl) (L:=[]) (by simp);have hc:=c1g b2 (n:Int);have hc':=c1g b2' (n:Int);rw[p2]at hc;rw[p2']at hc';have hc:(((a6M s zn).length:Nat):Int)=a3U s (n:Int):=Option.some.inj hc;have hc':(((a6M s' zn').length:Nat):Int)=a3U s' (n:Int):=Option.some.inj hc';refine⟨(a6M s zn).length+c,(a6M s' zn').length+c',?_,?_,by omega⟩;simp only[a09,e1,oB,p2];congr 1;simp only[a09,e2,oB,p2'];congr 1
theorem c9n{b:a1L}(hb:a3G b)(h256:a1V b≤256){rate start k k':Int}(hr:1≤rate∧rate≤1048576)(hst:0≤start∧start≤4194304-((a1V b:Nat):Int))(h0:1≤k)(hk:k≤k')(h3:k'≤3):
  ∃f f' p p',a4z (b,(rate,((b.2.1.length:Nat):Int),b.1,()),start,k)=some (f,0)∧a4z (b,(rate,((b.2.1.length:Nat):Int),b.1,()),start,k')=some (f',0)∧
   a5g f=some (p,0)∧a5g f'=some (p',0)∧a3O f=some (b,0)∧a3O f'=some (b,0)∧p'.length≤p.length:=by
 obtain⟨l,rows,outs,m1,m2,m3,m4,m5,m6,-,m7⟩:=b9l hb h256 hr hst (effort:=k) (by omega) (by omega);obtain⟨l',rows',outs',m1',m2',m3',m4',m5',m6',-,m7'⟩:=b9l hb h256 hr hst (effort:=k') (by omega) (by omega);have hl:=(m7 (by omega)).symm.trans (m7' (by omega));obtain rfl:l=l':=Option.some.inj hl;obtain rfl:rows=rows':=Option.some.inj (m3.symm.trans m3');obtain⟨hN,-⟩:=b5Z hb;have hNr:=(b2V l hN rfl m2.2.2.2 m3).1;have h1:=hb.2.2.2.2.1;obtain⟨c,c',c1,c2,c3⟩:=c6G (show 0≤k by omega) hk h3 h1 h256 m6 m6' hNr;have hbl:=b9k hb m2 m3 m4 (start:=start) (rate:=rate) hst hr;have hbl':=b9k hb m2 m3 m4' (start:=start) (rate:=rate) hst hr;obtain⟨L,hL,hcost,hput,-,-⟩:=b9j m5 hbl;obtain⟨L',hL',hcost',hput',-,-⟩:=b9j m5' hbl';have e1:L.length=c:=by
  have:some ((L.length:Nat):Int)=some (c:Int):=hcost.trans c1
  have:=Option.some.inj this
  omega
 have e2:L'.length=c':=by
  have:some ((L'.length:Nat):Int)=some (c':Int):=hcost'.trans c2
  have:=Option.some.inj this
  omega
 exact⟨_,_,_,_,m1,m1',hput,hput',by rw[b9i m5,hbl];rfl,by rw[b9i m5',hbl'];rfl,d2F (by omega) hL⟩
theorem c4F(x:a1L×Int):b0d x=some true:=by
 obtain⟨b,start⟩:=x;unfold b0d;simp only[d7c,oB,bT,cF];obtain⟨t1,h1,s1⟩:=d4i b 40;rw[show((40:Nat):Int)=40 from rfl]at h1;simp only[h1,oB];cases t1 with
 |false=>rfl
 |true=>
  obtain⟨s1,s2⟩:=s1 rfl;obtain⟨t2,h2,hb⟩:=d0g (b:=b) (fun r hr=>by have:=s2 r hr;omega);simp only[bT,cF,h2,oB];cases t2 with
  |false=>rfl
  |true=>
   have hb:=hb rfl;simp only[bT,cF,oB];have hlb:a1V b≤40:=by
    unfold a1V;rw[←b3Z (d:=[]) (show 0<b.2.1.length by have:=hb.2.2.1;omega)];exact s2 _ (a02 _)
   obtain⟨u,hu,hu2⟩:=e2C 16 (by omega) start;rw[show((2^16-1:Nat):Int)=65535 from rfl]at hu;have hu3:u<65536:=hu2;have hsb:=c5y (b:=b) (fun r hr=>by have:=s2 r hr;unfold short;omega) (by omega);have z0:((0:Int) != 0)=false:=rfl;obtain⟨g,m1,m2,m3,m4,m5,m6,m7⟩:=made hb (by omega) (rate:=48000) (start:=(u:Int)) (effort:=0) (by omega) (by omega) (by omega) (by omega);have hbl:=m7 (u:Int) (by omega);obtain⟨L,hL,-,hput,-,-⟩:=b9j (f:=((u:Int),g)) m6 hbl;have hblk:=b9i (f:=((u:Int),g)) m6;rw[hbl]at hblk;obtain⟨f1,f2,p1,p2,a1,a2,a3,a4,a5,a6,a7⟩:=c9n hb (by omega) (rate:=48000) (start:=(u:Int)) (k:=1) (k':=2) (by omega) (by omega) (by omega) (by omega) (by omega);obtain⟨f2',f3,p2',p3,b1,b2,b3,b4,b5,b6,b7⟩:=c9n hb (by omega) (rate:=48000) (start:=(u:Int)) (k:=2) (k':=3) (by omega) (by omega) (by omega) (by omega) (by omega);rw[a2]at b1;obtain rfl:f2=f2':=by simpa using b1
   rw[a4]at b3;obtain rfl:p2=p2':=by simpa using b3
   have d0:decide ((0:Int) > 1)=false:=rfl;have d1:decide ((1:Int) > 1)=false:=rfl;have d2:decide ((2:Int) > 1)=true:=rfl;have d3:decide ((3:Int) > 1)=true:=rfl;have q2:decide (((p2.length:Nat):Int) > ((p1.length:Nat):Int))=false:=by simp only[decide_eq_false_iff_not];omega
   have q3:decide (((p3.length:Nat):Int) > ((p2.length:Nat):Int))=false:=by simp only[decide_eq_false_iff_not];omega
   have t0:decide ((0:Int)≤3)=true:=rfl;have t1':decide ((1:Int)≤3)=true:=rfl;have t2':decide ((2:Int)≤3)=true:=rfl;have t3:decide ((3:Int)≤3)=true:=rfl;rw[a0p (s':=(start,(((a3j ((u:Int),g) L).length:Nat):Int),(1:Int),(48000,((b.2.1.length:Nat):Int),b.1,()),b,())) (by
    simp only[a3B,t0,cT,hu,m1,hput,hblk,d7Y,oB,z0,cF,hsb,bT,d0];rfl)]
   rw[a0p (s':=(start,((p1.length:Nat):Int),(2:Int),(48000,((b.2.1.length:Nat):Int),b.1,()),b,())) (by
    simp only[a3B,t1',cT,hu,a1,a3,a5,oB,z0,cF,hsb,bT,d1];rfl)]
   rw[a0p (s':=(start,((p2.length:Nat):Int),(3:Int),(48000,((b.2.1.length:Nat):Int),b.1,()),b,())) (by
    simp only[a3B,t2',cT,hu,a2,a4,a6,oB,z0,cF,hsb,bT,d2,q2];rfl)]
   rw[a0p (s':=(start,((p3.length:Nat):Int),(4:Int),(48000,((b.2.1.length:Nat):Int),b.1,()),b,())) (by
    simp only[a3B,t3,cT,hu,b2,b4,b6,oB,z0,cF,hsb,bT,d3,q3];rfl)]
   rw[a0o (b:=Sum.inl ()) rfl];rfl
end Go.Ab
namespace Go.Ab
def dead(T:List Int)(a:Int):List Int×(Int×Int×Unit):=(T,a,(3:Int),())
end Go.Ab
namespace Go.Ab
end Go.Ab
namespace Go.Ab
end Go.Ab
namespace Go.Proofs.YtimgpmdfgkgobaaGreatDoor
open Go.Ab Go.ChangeShapes Go.WideShapes Go.ChangeAt Go.RowKit
theorem c0V{α:Type}{f:Nat→Option (α×a0Z×List Nat)}:∀(L:List α)(i:Nat),(∀(j:Nat) x,L[j]?=some x→f (i+j)=some (x,[],[]))→a0f f L.length i=some (L,[],[])
 | [],_,_=>rfl
 |a::L,i,h=>by
  have h0:=h 0 a rfl;have h1:=c0V L (i+1) (fun j x hx=>by have:=h (j+1) x (by simpa using hx);rw[←this];congr 1;omega);simp only[lC,a0f];simp only[a07]at h0;rw[h0,h1];rfl
section
variable {H:Type} {enc:TypeId×Value→H} {P:Program} {w:World} {base:Nat} {spare:Nat→Bool} {held:Bool}
theorem c7f{k:IntKind}{n:Nat}{t e:TypeId}{fuel:Nat}{cs:List Value}{L:List Int}{p:List MemPlace}(ht:P.underlying t=some (.array n e))(he:P.underlying e=some (.int k))(hc:P.cellsOf e=1)
  (h:DataW.trod enc P w base spare held fuel t cs=some (.agg (L.map fun i=>.lit (.int k i)),p)):L.length=n∧∀(j:Nat) x,L[j]?=some x→cs[j]?=some (.int k x):=by
 obtain⟨xs,m,rfl,hx,-,hn,hel⟩:=DataW.trod_array ht h;simp only[pJ,DataW.agg.injEq]at hx;have hl:L.length=n:=by rw[←hn];simpa using congrArg List.length hx.1
 refine⟨hl,fun j x hj=>?_⟩;obtain⟨hjl,-⟩:=lS.1 hj;have h1:=hel j (by omega);rw[hc]at h1;obtain⟨y,hy⟩:∃y,xs[j]?=some y:=⟨_,lG (by omega)⟩;rw[hy]at h1;obtain⟨i,e1,e2,-⟩:=DataW.trod_int he h1;have h2:=congrArg (fun l=>l[j]?) hx.1;simp only[List.getElem?_map,hj,hy,Option.map_some,e2]at h2;simp only[sj,DataW.lit.injEq,Lit.int.injEq,true_and]at h2;subst h2;have h3:=congrArg (fun l=>l[0]?) e1;simpa[a06,a01]using h3
end
def d0M : String := (Rows.frameTellsRow.laid.map Prod.fst).headD ""
theorem e2D:Tryz.prog.globalNamed d0M=some 0:=by kernel_rfl
def d5D:TypeId:=((Tryz.prog.globals[0]?).map (·.type)).getD 0
theorem d7f:(Tryz.prog.globals[0]?).map (·.type)=some d5D:=by kernel_rfl
def d5E:TypeId:=match Tryz.prog.underlying d5D with
 |some (.array _ e)=>e
 |_=>0
theorem e2E:Tryz.prog.underlying d5D=some (.array 64 d5E):=by kernel_rfl
theorem d9z:Tryz.prog.underlying d5E=some (.int .u8):=by kernel_rfl
theorem d9A:Tryz.prog.cellsOf d5E=1:=by kernel_rfl
@[reducible] def laidTab:List (String×DataW Unit):=[(d0M,Rows.laid_math_bits_deBruijn64tab)]

theorem d8b {g:Nat} {t:Ty} {x:t.den} (h:G0 g=some ⟨t,x⟩):g=0∧(⟨t,x⟩:(t:Ty)×t.den)=⟨.arr 64 (.int .u8),b3a⟩:=by
 unfold G0 find at h
 cases g with
 |zero=>exact⟨rfl,(Option.some.inj h).symm⟩
 |succ n=>exact absurd h (by simp[find])
theorem c9o{W:World}(h:laidMetH Tryz.prog laidTab W):∀g t x,G0 g=some ⟨t,x⟩→g<W.heap.size∧dec (a0a W none) t ((Src.at g 0).rd (a0a W none))=some (x,[],[]):=by
 rw[MakeChecks.laidMetH_plain _ _ _ (by kernel_rfl)]at h;obtain⟨ps,⟨g0,t0,cs0,f0,p0,q0,hg0,ht0,hv0,hd0,_⟩,_,_⟩:=h;obtain rfl:=Option.some.inj (e2D.symm.trans hg0);obtain rfl:=Option.some.inj (d7f.symm.trans ht0);have e0:(Rows.laid_math_bits_deBruijn64tab:DataW Unit)=.agg (b3a.map fun i=>.lit (.int .u8 i)):=rfl;rw[e0]at hd0;obtain⟨hl,hc⟩:=c7f e2E d9z d9A hd0;have hcell:∀(j:Nat) x,b3a[j]?=some x→W.cell? ⟨0,j,none⟩=some (.int .u8 x):=fun j x hx=>by
  rw[World.var?_cell hg0 hv0 j];simpa using hc j x hx
 intro g t x hG;obtain⟨rfl,e⟩:=d8b hG;cases e;refine⟨d0u (hcell 0 0 rfl),?_⟩;exact c0V (f:=fun i=>dec (a0a W none) (.int .u8) fun j=>(Src.at 0 0).rd (a0a W none) (i*1+j)) b3a 0 (fun j x hx=>by
  have:=hcell j x hx
  simp only[dec,Src.rd,a0a,Nat.zero_add,Nat.mul_one,a07,this,if_true])
set_option maxRecDepth 100000 in
theorem d5F (os:Os) (args:Array Value):laidMetH Tryz.prog laidTab ((World.doorLaid Tryz.prog 400 os).forCall (fun _ _=>0) ⟨#[],args,[]⟩).memory:=
 laidMetH_of_parts3 (fuel:=8) (laidMet_of_run' 8 (by kernel_rfl) (by kernel_rfl)) (by kernel_rfl) (by kernel_rfl)
end Go.Proofs.YtimgpmdfgkgobaaGreatDoor
