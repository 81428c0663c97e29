/- Part of the proof: QRA, QRB, QRC, QRD, QRE, QRF, QRG, QRH, QRI, QRJ, QSA, QSB, QSC, QSD, QSE, QSF, QSG, QSH, QSI, QSK, QSL, QSM, QUA, QUB, QUC, QUD, QUE, QUF, QUG, QUH, QUI, QUJ, QUK, QUL, QUM, R. Conditions: as each statement tells. -/
import Derived.KernelRfl
import Derived.Test.YtimgpmdfgkgobabGreatDoorRows
import Derived.ProofKit
import Derived.LaidMore
import Derived.LaidLaws
import Derived.LaidHandle
import Derived.LaidByTextLater
import Derived.OpenShut
import Derived.Handed
import Derived.Test.YtimgpmdfgkgobabGreatDoorME
noncomputable section
set_option linter.unusedSimpArgs false
set_option linter.unusedVariables false
open BitVec renaming ofInt→a08
open Bool renaming and_self→a01,and_eq_false_iff→a18,false_or→a20,not_false→a26,or_eq_false_iff→a30,false_and→a44
open Int renaming cast_ofNat_Int→a02,natCast_nonneg→a33,toNat→a39
open List renaming take_succ_eq_append_getElem→a00,length_map→a03,replicate→a04,length_take→a05,append_eq→a06,take_length→a07,append_nil→a09,drop_eq_getElem_cons→a16,drop_eq_nil_of_le→a17,getElem_mem→a19,all_append→a21,nil_append→a22,take_zero→a24,drop_zero→a25,length_drop→a27,drop_length→a28,range_succ→a29,all_cons→a31,map_congr_left→a32,mem_singleton→a34,map_nil→a36,all_map→a37,getD→a38,ext_getElem→a40,range→a42
open Nat renaming le_refl→a23,add_zero→a35,div_le_self→a41,mod_lt→a43
namespace Go.Ab
open IntKind(wrap)
def c4v(x:Int):Int:=a1r x (wrap .i64 (0-x))
def a6B(l:List Int):Int:=l.foldl (fun a x=>wrap .i64 (a+c4v x)) 0
theorem c2x(l:List Int)(x:Int):a6B (l++[x])=wrap .i64 (a6B l+c4v x):=by simp[a6B]
theorem d4u{x:Int}(h:a0b x=true):0≤c4v x∧c4v x≤1073741824:=by
 have:=a3h.1 h
 unfold c4v;rw[a0l (by omega)];simp only[a1r]
 by_cases h2:0-x > x
 simp only[h2,decide_true,cT];omega;simp only[h2,decide_false,cF];omega
theorem c0X:∀(n:Nat)(l:List Int),l.length=n→n≤1000000→l.all a0b=true→0≤a6B l∧a6B l≤1073741824*(n:Int)
 |0,l,h,_,_=>by
  rw[List.length_eq_zero_iff.1 h];simp[a6B]
 |n+1,l,h,hn,hw=>by
  obtain⟨L,b,rfl⟩:∃L b,l=L++[b]:=by
   rcases List.eq_nil_or_concat l with rfl|⟨L,b,e⟩;simp at h;exact⟨L,b,by rw[e,List.concat_eq_append]⟩
  rw[a21,bA]at hw;obtain⟨h1,h2⟩:=c0X n L (by simpa using h) (by omega) hw.1;have hb:=d4u (x:=b) (by simpa using hw.2);rw[c2x,a0l (by omega)];omega
theorem d0Q{l:List Int}(hn:l.length≤1000000)(hw:l.all a0b=true):0≤a6B l:=(c0X _ l rfl hn hw).1
theorem b9t{r:List Int}{i m:Nat}(hi:i<r.length)(hm:m≤i):(r.take (i+1)).drop m=(r.take i).drop m++[r[i]]:=by
 rw[a00 hi,List.drop_append_of_le_length (by rw[a05];omega)]
theorem d5H{r:List Int}{o:Nat}(ho:o≤4)(hr:r.length<100000):a6R (r,(o:Int))=some (a6B (r.drop (4-o))):=by
 have:=a0G (f:=a2v) (fun i:Nat=>((o:Int),a6B ((r.take i).drop (4-o)),r,(r.length:Int),(i:Int),())) r.length (b:=(a6B (r.drop (4-o)),()))
  (fun i hi=>by
   have w1:wrap .i64 ((i:Int)+(o:Int))=(i:Int)+(o:Int):=a0l (by omega)
   by_cases hm:4-o≤i
   have d:decide ((i:Int)+(o:Int)≥4)=true:=by simp;omega
   simp only[a2v,dlt hi,cT,a0d hi,oB,w1,d,a0c (show i<1000000 by omega)];rw[b9t hi hm,c2x];rfl;have d:decide ((i:Int)+(o:Int)≥4)=false:=by simp;omega
   simp only[a2v,dlt hi,cT,a0d hi,oB,w1,d,cF,a0c (show i<1000000 by omega)];rw[a17 (by rw[a05];omega),a17 (by rw[a05];omega)])
  (by
   have d:decide ((r.length:Int)<(r.length:Int))=false:=by simp
   simp only[a2v,d,cF,a07])
 simp only[nZ,a24,List.drop_nil,a02]at this;unfold a6R;rw[show a6B []=0 from rfl]at this;simp only[this,oB]
theorem c9S{r:List Int}{m:Nat}(hm:m≤4)(hr:r.length<100000):a9n (r,(m:Int))=some (a6B (r.drop m)):=by
 have hmx:a1r (m:Int) 0=(m:Int):=by
  have d:decide ((0:Int) > (m:Int))=false:=by simp
  simp only[a1r,d,cF]
 unfold a9n
 by_cases hl:m≤r.length
 have:=a0G (f:=a8i) (fun j:Nat=>(r,a6B ((r.take (m+j)).drop m),((m+j:Nat):Int),())) (r.length-m) (b:=(a6B (r.drop m),()))
  (fun j hj=>by
   have hi:m+j<r.length:=by omega
   simp only[a8i,dlt hi,cT,a0d hi,oB,b4S,a0c (show m+j<1000000 by omega)];rw[show m+(j+1)=(m+j)+1 from rfl,b9t hi (by omega),c2x];rfl)
  (by
   have e:m+(r.length-m)=r.length:=by omega
   rw[e];have d:decide ((r.length:Int)<(r.length:Int))=false:=by simp
   simp only[a8i,d,cF,a07])
 have e0:(r.take m).drop m=[]:=a17 (by rw[a05];omega);simp only[a35,e0]at this;rw[show a6B []=0 from rfl]at this;simp only[hmx,this,oB];have d:decide ((m:Int)<(r.length:Int))=false:=by simp;omega
 rw[hmx,a0h (b:=((0:Int),())) (by simp only[a8i,d,cF])];rw[a17 (by omega)];rfl
def a4V(l:List Int)(o:Nat):List Int×Int:=if o≤l.length then(bif (a1I o l).all a0b then(a1I o l,0)else([],6))else([],1)
theorem d4v{l:List Int}{o:Nat}(ho:o≤4)(hs:l.length<100000)(hw:l.all a0b=true):a3Y (l,(o:Int))=some (a4V l o):=by
 unfold a4V
 by_cases hn:o≤l.length
 rw[if_pos hn,b5r ho hn (by unfold short;omega) hw];rw[if_neg hn];have c1:decide ((o:Int)<0)=false:=decide_eq_false (by omega);have c2:decide ((o:Int) > 4)=false:=decide_eq_false (by omega);have c3:decide (((l.length:Nat):Int)<(o:Int))=true:=decide_eq_true (by omega);unfold a3Y;simp only[c1,c2,c3,cF,cT,oB]
theorem c9T{l:List Int}{o:Nat}(ho:o≤4)(hs:l.length<100000)(hw:l.all a0b=true):a3g (l,(o:Int))=some (a4V l o):=by
 unfold a4V
 by_cases hn:o≤l.length
 rw[if_pos hn,b7e ho hn (by unfold short;omega) hw];rw[if_neg hn];have c1:decide ((o:Int)<0)=false:=decide_eq_false (by omega);have c2:decide ((o:Int) > 4)=false:=decide_eq_false (by omega);have c3:decide (((l.length:Nat):Int)<(o:Int))=true:=decide_eq_true (by omega);unfold a3g;simp only[c1,c2,c3,cF,cT,oB]
theorem c9U{l:List Int}{o:Nat}(h:(a4V l o).2=0):(a4V l o).1.all a0b=true∧(a4V l o).1.length≤l.length:=by
 unfold a4V at h⊢
 by_cases hn:o≤l.length
 ·rw[if_pos hn]at h⊢;cases hb:(a1I o l).all a0b with
  |false=>rw[hb]at h;cases h
  |true=>exact⟨hb,by rw[cT,a5Y];omega⟩
 rw[if_neg hn]at h;cases h
theorem d3g{l:List Int}{o:Nat}(ho:o≤4)(hs:l.length<100000)(hw:l.all a0b=true):
  a7N (l,(o:Int))=some (bif (a4V l o).2 != 0 then 0 else a6B ((a4V l o).1.drop (4-o))):=by
 unfold a7N;simp only[c9T ho hs hw,oB];cases hb:((a4V l o).2 != 0)with
 |true=>simp only[cT]
 |false=>
  have h0:(a4V l o).2=0:=by simpa using hb
  have e:wrap .i64 ((4:Int)-(o:Int))=((4-o:Nat):Int):=by rw[a0l (by omega)];omega
  have:=(c9U h0).2
  simp only[cF,e,c9S (show 4-o≤4 by omega) (show(a4V l o).1.length<100000 by omega),oB]
def d8Z(a b:Int×Int):Prop:=(a=(0,-1)∧b=(-1,0))∨(a=b∧0≤a.1∧0≤a.2)
theorem b4Z{l:List Int}(hs:l.length<100000)(hw:l.all a0b=true):∀(j i:Nat)(a b:Int×Int),i+j=5→d8Z a b→
  ∃x y:Int,a0e a1x (l,a.1,a.2,(i:Int),())=some (x,())∧a0e a2N (l,b.1,b.2,(i:Int),())=some (y,())∧a1r y 0=x
 |0,i,a,b,hi,hR=>by
  obtain rfl:i=5:=by omega
  refine⟨a.1,b.1,a0h (by simp[a1x]),a0h (by simp[a2N]),?_⟩;rcases hR with⟨rfl,rfl⟩|⟨rfl,h1,-⟩;rfl;have d:decide ((0:Int) > a.1)=false:=by simp;omega
  simp only[a1r,d,cF]
 |j+1,i,a,b,hi,hR=>by
  have ho:i≤4:=by omega
  have d1:decide ((i:Int)≤4)=true:=by simp;omega
  have d2:decide ((i:Int)<5)=true:=by simp;omega
  have hpr:=d4v ho hs hw;have hrr:=c9T ho hs hw;have hrw:=d3g ho hs hw;have hwi:wrap .i64 ((i:Int)+1)=((i+1:Nat):Int):=a0c (by omega)
  by_cases h0:(a4V l i).2=0
  ·obtain⟨r1,r2⟩:=c9U h0;have hne:((a4V l i).2 != 0)=false:=by rw[h0];rfl
   have heq:((a4V l i).2==0)=true:=by rw[h0];rfl
   have hwg:=d5H (r:=(a4V l i).1) ho (by omega);have hpos:0≤a6B ((a4V l i).1.drop (4-i)):=d0Q (by rw[a27];omega) (lA.2 fun x hx=>lA.1 r1 x (List.mem_of_mem_drop hx));rw[hne,cF]at hrw;generalize hv:a6B ((a4V l i).1.drop (4-i))=v at hrw hwg hpos;rcases hR with⟨rfl,rfl⟩|⟨rfl,h1,h2⟩;obtain⟨x,y,g1,g2,g3⟩:=b4Z hs hw j (i+1) ((i:Int),v) ((i:Int),v) (by omega) (.inr ⟨rfl,by simp,hpos⟩);have e1:decide ((-1:Int)<0)=true:=rfl;refine⟨x,y,?_,?_,g3⟩;rw[a0k (s':=(l,(i:Int),v,((i+1:Nat):Int),())) (by simp only[a1x,d1,cT,hpr,oB,hne,cF,hwg,e1,hwi])];exact g1;rw[a0k (s':=(l,(i:Int),v,((i+1:Nat):Int),())) (by simp only[a2N,d2,cT,hrr,oB,heq,hrw,e1,hwi])];exact g2
   ·have e1:decide (a.2<0)=false:=by simp;omega
    have e2:decide (a.1<0)=false:=by simp;omega
    cases hlt:decide (v<a.2)with
    |true=>
     obtain⟨x,y,g1,g2,g3⟩:=b4Z hs hw j (i+1) ((i:Int),v) ((i:Int),v) (by omega) (.inr ⟨rfl,by simp,hpos⟩);refine⟨x,y,?_,?_,g3⟩;rw[a0k (s':=(l,(i:Int),v,((i+1:Nat):Int),())) (by simp only[a1x,d1,cT,hpr,oB,hne,cF,hwg,e1,hlt,hwi])];exact g1;rw[a0k (s':=(l,(i:Int),v,((i+1:Nat):Int),())) (by simp only[a2N,d2,cT,hrr,oB,heq,hrw,e2,cF,hlt,hwi])];exact g2
    |false=>
     obtain⟨x,y,g1,g2,g3⟩:=b4Z hs hw j (i+1) a a (by omega) (.inr ⟨rfl,h1,h2⟩);refine⟨x,y,?_,?_,g3⟩;rw[a0k (s':=(l,a.1,a.2,((i+1:Nat):Int),())) (by simp only[a1x,d1,cT,hpr,oB,hne,cF,hwg,e1,hlt,hwi])];exact g1;rw[a0k (s':=(l,a.1,a.2,((i+1:Nat):Int),())) (by simp only[a2N,d2,cT,hrr,oB,heq,hrw,e2,cF,hlt,hwi])];exact g2
  have hne:((a4V l i).2 != 0)=true:=by simpa using h0
  have heq:((a4V l i).2==0)=false:=by simpa using h0
  obtain⟨x,y,g1,g2,g3⟩:=b4Z hs hw j (i+1) a b (by omega) hR;refine⟨x,y,?_,?_,g3⟩;rw[a0k (s':=(l,a.1,a.2,((i+1:Nat):Int),())) (by simp only[a1x,d1,cT,hpr,oB,hne,hwi])];exact g1;rw[a0k (s':=(l,b.1,b.2,((i+1:Nat):Int),())) (by simp only[a2N,d2,cT,hrr,oB,heq,hrw,cF,hwi])];exact g2
theorem c5W{l:List Int}(hs:l.length<100000)(hw:l.all a0b=true):∃o,a4Z l=some o∧a7m l=some o:=by
 obtain⟨x,y,h1,h2,h3⟩:=b4Z hs hw 5 0 (0,-1) (-1,0) rfl (.inl ⟨rfl,rfl⟩);simp only[nZ,a02]at h1 h2;refine⟨x,?_,?_⟩;unfold a4Z;simp only[h1,oB];unfold a7m;simp only[h2,oB,h3]
end Go.Ab
namespace Go.Ab
open IntKind(wrap)
def c5X(c:List Int)(k:Int)(j:Nat):Int:=wrap .i64 (c.getD j 0-a0m .i64 (wrap .i64 (k*c.getD (c.length-1-j) 0)) 14)
def a3M(c:List Int)(k:Int)(j:Nat):List Int:=(a42 j).map (c5X c k)
theorem c3K(c:List Int)(k:Int)(j:Nat):a3M c k (j+1)=a3M c k j++[c5X c k j]:=by simp[a3M,a29]
theorem a6X(c:List Int)(k:Int)(j:Nat):(a3M c k j).length=j:=by simp[a3M]
def c2y(c:List Int)(k:Int):List Int:=a3M c k c.length++[k]
def a8q(ks:List Int)(i:Nat):List Int:=(ks.take i).foldl c2y []
theorem b8H{ks:List Int}{i:Nat}(hi:i<ks.length):a8q ks (i+1)=c2y (a8q ks i) ks[i]:=by
 unfold a8q;rw[a00 hi,List.foldl_append];rfl
theorem b5t{ks:List Int}:∀i,i≤ks.length→(a8q ks i).length=i
 |0,_=>rfl
 |i+1,h=>by
  rw[b8H (by omega),c2y,lN,a6X,b5t i (by omega)];rfl
def b0R(x:Int):Bool:=decide (-16383≤x)&&decide (x≤16383)
theorem b7g{ks:List Int}(hl:ks.length≤32):a0e a1e (ks,ks,(ks.length:Int),(0:Int),())=some (bif ks.all b0R then .inl (ks,())else .inr (([]:List Int),(1:Int),())):=by
 refine a1V (f:=a1e) ks (fun i=>(ks,ks,(ks.length:Int),(i:Int),())) b0R (bt:=.inl (ks,())) (bf:=.inr (([]:List Int),(1:Int),())) (fun i hi hp=>?_) (fun i hi hp=>?_) (by simp[a1e]);simp only[b0R,bA,dT]at hp;have h1:decide (ks[i]<(-16383:Int))=false:=by simp;omega
 have h2:decide (ks[i] > (16383:Int))=false:=by simp;omega
 simp only[a1e,dlt hi,cT,cF,a0d hi,oB,h1,h2,a0c (show i<1000000 by omega)]
 ·simp only[b0R,a18,decide_eq_false_iff_not]at hp;cases h1:decide (ks[i]<(-16383:Int))with
  |true=>simp only[a1e,dlt hi,cT,a0d hi,oB,h1]
  |false=>
   have h2:decide (ks[i] > (16383:Int))=true:=by simp at h1⊢;omega
   simp only[a1e,dlt hi,cT,cF,a0d hi,oB,h1,h2]
theorem b7X{ks:List Int}(hl:ks.length≤32):a0e a2w (ks,(0:Int),())=some (bif ks.all b0R then .inl (ks,())else .inr ((1:Int),([]:List Int),())):=by
 refine a1V (f:=a2w) ks (fun i=>(ks,(i:Int),())) b0R (bt:=.inl (ks,())) (bf:=.inr ((1:Int),([]:List Int),())) (fun i hi hp=>?_) (fun i hi hp=>?_) (by simp[a2w]);simp only[b0R,bA,dT]at hp;have h1:decide (ks[i]≤(-16384:Int))=false:=by simp;omega
 have h2:decide (ks[i]≥(16384:Int))=false:=by simp;omega
 simp only[a2w,dlt hi,cT,cF,a0d hi,oB,h1,h2,a0c (show i<1000000 by omega)]
 ·simp only[b0R,a18,decide_eq_false_iff_not]at hp;cases h1:decide (ks[i]≤(-16384:Int))with
  |true=>simp only[a2w,dlt hi,cT,a0d hi,oB,h1]
  |false=>
   have h2:decide (ks[i]≥(16384:Int))=true:=by simp at h1⊢;omega
   simp only[a2w,dlt hi,cT,cF,a0d hi,oB,h1,h2]
theorem a8M{l:List Int}{i:Nat}(h:i<l.length):l[i]=l.getD i 0:=by simp[lD,h]
theorem c4w{c a:List Int}{k n:Int}(hc:c.length≤32):
  a0e a2h (c,(c.length:Int),k,a,n,(c.length:Int),c,(c.length:Int),(0:Int),([]:List Int),())=some (k,a,n,(c.length:Int),a3M c k c.length,()):=by
 have:=a0G (f:=a2h) (fun j:Nat=>(c,(c.length:Int),k,a,n,(c.length:Int),c,(c.length:Int),(j:Int),a3M c k j,())) c.length (b:=(k,a,n,(c.length:Int),a3M c k c.length,()))
  (fun j hj=>by
   have e1:wrap .i64 ((c.length:Int)-1)=(c.length:Int)-1:=a0l (by omega);have e2:wrap .i64 ((c.length:Int)-1-(j:Int))=((c.length-1-j:Nat):Int):=by rw[a0l (by omega)];omega
   have hlim:lim ((a3M c k j).length+1)=true:=a0q (by rw[a6X];omega);simp only[a2h,dlt hj,cT,a0d hj,oB,e1,e2,a0d (show c.length-1-j<c.length by omega),hlim,a0c (show j<1000000 by omega),a06,c3K];rw[a8M hj,a8M (show c.length-1-j<c.length by omega)];rfl)
  (by simp[a2h])
 exact this
theorem c4x{A B:List Int}{x y:Int}:(A++x::B).set A.length y=A++y::B:=by simp
theorem c5Y{c ks:List Int}(hc:c.length≤32)(hi:c.length<ks.length):
  a0e a4c (ks,(c.length:Int),(0:Int),c,c,())=some (ks,(c.length:Int),a3M c ks[c.length] c.length,()):=by
 have:=a0G (f:=a4c) (fun j:Nat=>(ks,(c.length:Int),(j:Int),a3M c ks[c.length] j++c.drop j,c,())) c.length (b:=(ks,(c.length:Int),a3M c ks[c.length] c.length,()))
  (fun j hj=>by
   have e1:wrap .i64 ((c.length:Int)-1)=(c.length:Int)-1:=a0l (by omega);have e2:wrap .i64 ((c.length:Int)-1-(j:Int))=((c.length-1-j:Nat):Int):=by rw[a0l (by omega)];omega
   have d0:decide ((0:Int)≤(j:Int))=true:=by simp
   have d1:decide ((0:Int)≤((c.length-1-j:Nat):Int))=true:=by simp
   have d2:decide (((c.length-1-j:Nat):Int)<(c.length:Int))=true:=by simp;omega
   have hlen:(a3M c ks[c.length] j++c.drop j).length=c.length:=by rw[lN,a6X,a27];omega
   have d3:decide ((j:Int)<(((a3M c ks[c.length] j++c.drop j).length:Nat):Int))=true:=by rw[hlen];exact dlt hj
   have hset:(a3M c ks[c.length] j++c.drop j).set j (c5X c ks[c.length] j)=a3M c ks[c.length] (j+1)++c.drop (j+1):=by
    rw[a16 hj,c3K]
    have:=c4x (A:=a3M c ks[c.length] j) (B:=c.drop (j+1)) (x:=c[j]) (y:=c5X c ks[c.length] j)
    rw[a6X]at this;rw[this]
    simp
   simp only[a4c,dlt hj,d0,cT,a01,a0d hi,oB,e1,e2,d1,d2,d3,tN,a0c (show j<1000000 by omega)];rw[←hset];rfl)
  (by
   have d:decide ((c.length:Int)<(c.length:Int))=false:=by simp
   simp only[a4c,d,cF,a28,a09])
 simp only[nZ,a25,a02]at this;exact this
theorem d3h{ks:List Int}(h1:1≤ks.length)(hl:ks.length≤32):∃r,a4I ks=some r∧a5C ks=some r:=by
 have c1:decide (((ks.length:Nat):Int)<1)=false:=decide_eq_false (by omega);have c2:decide (((ks.length:Nat):Int) > 32)=false:=decide_eq_false (by omega);cases hall:ks.all b0R with
 |false=>
  refine⟨([],1),?_,?_⟩;unfold a4I;simp only[c1,c2,cF,oB,b7g hl,hall];unfold a5C;simp only[c1,c2,cF,oB,b7X hl,hall]
 |true=>
  have p2:=a0G (f:=a3b) (fun i:Nat=>(a8q ks i,ks,(ks.length:Int),(i:Int),())) ks.length (b:=(a8q ks ks.length,()))
   (fun i hi=>by
    have hlen:=b5t i (Nat.le_of_lt hi);have e1:wrap .i64 ((i:Int)+1)=((i+1:Nat):Int):=a0c (by omega);have d1:decide ((0:Int)≤((i+1:Nat):Int))=true:=by simp;omega
    have l1:lim (i+1)=true:=a0q (by omega);have hin:=c4w (c:=a8q ks i) (a:=ks) (k:=ks[i]) (n:=(ks.length:Int)) (by omega);have l2:lim ((a3M (a8q ks i) ks[i] i).length+1)=true:=a0q (by rw[a6X];omega);rw[hlen]at hin;simp only[a3b,dlt hi,cT,a0d hi,oB,e1,d1,tN,l1,a01,hlen,hin,l2,a06,b8H hi,c2y])
   (by simp[a3b])
  have r2:=a0G (f:=a5P) (fun i:Nat=>(ks,(i:Int),a8q ks i,())) ks.length (b:=(a8q ks ks.length,()))
   (fun i hi=>by
    have hlen:=b5t i (Nat.le_of_lt hi);have l0:lim (0+i)=true:=a0q (by omega);have hin:=c5Y (c:=a8q ks i) (ks:=ks) (by omega) (by omega);simp only[hlen]at hin;have l2:lim ((a3M (a8q ks i) ks[i] i).length+1)=true:=a0q (by rw[a6X];omega);simp only[a5P,dlt hi,cT,l0,a06,a22,hin,oB,a0d hi,l2,a0c (show i<1000000 by omega),b8H hi,c2y,hlen])
   (by simp[a5P])
  refine⟨(a8q ks ks.length,0),?_,?_⟩;unfold a4I;simp only[c1,c2,cF,oB,b7g hl,hall,cT];exact(congrArg (fun z=>Option.bind z fun w11=>some (w11.1,(0:Int))) p2).trans rfl;unfold a5C;simp only[c1,c2,cF,oB,b7X hl,hall,cT];exact(congrArg (fun z=>Option.bind z fun w11=>some (w11.1,(0:Int))) r2).trans rfl
end Go.Ab
namespace Go.Ab
open IntKind(wrap)
def b0S(x:Int):Bool:=decide (-35184372088832≤x)&&decide (x≤35184372088832)
@[reducible] def e2e:Type:=Int×(Int×((List Int)×Unit))
def d3i:e2e:=((0:Int),(1:Int),([]:List Int),())
theorem c4y{c:List Int}{w:Int}(hl:c.length≤32):a0e a1f (c,w,c,(c.length:Int),(0:Int),())=some (bif c.all b0S then .inl (c,w,())else .inr d3i):=by
 refine a1V (f:=a1f) c (fun i=>(c,w,c,(c.length:Int),(i:Int),())) b0S (bt:=.inl (c,w,())) (bf:=.inr d3i) (fun i hi hp=>?_) (fun i hi hp=>?_) (by simp[a1f]);simp only[b0S,bA,dT]at hp;have h1:decide (c[i]<(-35184372088832:Int))=false:=by simp;omega
 have h2:decide (c[i] > (35184372088832:Int))=false:=by simp;omega
 simp only[a1f,dlt hi,cT,cF,a0d hi,oB,h1,h2,a0c (show i<1000000 by omega)]
 ·simp only[b0S,a18,decide_eq_false_iff_not]at hp;cases h1:decide (c[i]<(-35184372088832:Int))with
  |true=>simp only[a1f,dlt hi,cT,a0d hi,oB,h1];rfl
  |false=>
   have h2:decide (c[i] > (35184372088832:Int))=true:=by simp at h1⊢;omega
   simp only[a1f,dlt hi,cT,cF,a0d hi,oB,h1,h2];rfl
theorem c5Z{c:List Int}{w:Int}(hl:c.length≤32):a0e a2x (c,w,(0:Int),())=some (bif c.all b0S then .inl (c,w,())else .inr d3i):=by
 refine a1V (f:=a2x) c (fun i=>(c,w,(i:Int),())) b0S (bt:=.inl (c,w,())) (bf:=.inr d3i) (fun i hi hp=>?_) (fun i hi hp=>?_) (by simp[a2x]);simp only[b0S,bA,dT]at hp;have h1:decide (c[i]<(-35184372088832:Int))=false:=by simp;omega
 have h2:decide (c[i] > (35184372088832:Int))=false:=by simp;omega
 simp only[a2x,dlt hi,cT,cF,a0d hi,oB,h1,h2,a0c (show i<1000000 by omega)]
 ·simp only[b0S,a18,decide_eq_false_iff_not]at hp;cases h1:decide (c[i]<(-35184372088832:Int))with
  |true=>simp only[a2x,dlt hi,cT,a0d hi,oB,h1];rfl
  |false=>
   have h2:decide (c[i] > (35184372088832:Int))=true:=by simp at h1⊢;omega
   simp only[a2x,dlt hi,cT,cF,a0d hi,oB,h1,h2];rfl
def a6I(s:Nat)(half x:Int):Int:=a0m .i64 (wrap .i64 (x+half)) (s:Int)
theorem b7h{c:List Int}{w s:Nat}{half:Int}(hc:c.length≤32)(hw:w≤32):∀(m j:Nat),j+m=c.length→
  ∃nx:List Int,a0e a1B (c,(w:Int),(s:Int),half,c,(c.length:Int),(j:Int),(c.take j).map (a6I s half),())=some (c,(w:Int),(s:Int),nx,())∧
   ((c.drop j).all (fun x=>a2B (a6I s half x) (w:Int))=true→nx=c.map (a6I s half))∧((c.drop j).all (fun x=>a2B (a6I s half x) (w:Int))=false→nx.length≠c.length)
 |0,j,hj=>by
  obtain rfl:j=c.length:=by omega
  refine⟨(c.take c.length).map (a6I s half),a0h (by simp[a1B]),fun _=>by rw[a07],fun h=>?_⟩;rw[a28]at h;cases h
 |m+1,j,hj=>by
  have hi:j<c.length:=by omega
  have d0:decide ((s:Int)<0)=false:=by simp
  have hfit:a6P (a0m .i64 (wrap .i64 (c[j]+half)) (s:Int),(w:Int))=some (a2B (a6I s half c[j]) (w:Int)):=a8o hw;rw[a16 hi,a31];cases hf:a2B (a6I s half c[j]) (w:Int)with
  |false=>
   rw[hf]at hfit;refine⟨(c.take j).map (a6I s half),a0h (by simp only[a1B,dlt hi,cT,a0d hi,oB,d0,cF,hfit,a26]),fun h=>(by simp at h),fun _=>?_⟩;rw[a03,a05];omega
  |true=>
   rw[hf]at hfit;have hlim:lim (((c.take j).map (a6I s half)).length+1)=true:=a0q (by rw[a03,a05];omega);obtain⟨nx,h1,h2,h3⟩:=b7h (s:=s) (half:=half) hc hw m (j+1) (by omega);refine⟨nx,?_,fun h=>h2 (by simpa using h),fun h=>h3 (by simpa using h)⟩;rw[a0k (s':=(c,(w:Int),(s:Int),half,c,(c.length:Int),((j+1:Nat):Int),(c.take (j+1)).map (a6I s half),())) (by
    simp only[a1B,dlt hi,cT,a0d hi,oB,d0,cF,hfit,bT,hlim,a06,a0c (show j<1000000 by omega)];rw[a00 hi,pA];rfl)]
   exact h1
theorem c6a{c:List Int}{w s:Nat}{half:Int}(hc:c.length≤32)(hw:w≤32)(hs:s≤14):
  a0e a2T (c,(w:Int),(s:Int),half,true,(0:Int),([]:List Int),())=some (c,(w:Int),(s:Int),c.all (fun x=>a2B (a6I s half x) (w:Int)),c.map (a6I s half),()):=by
 have eu:wrap .u64 (s:Int)=(s:Int):=a1o (by omega);have d0:decide ((s:Int)<0)=false:=by simp
 have:=a0G (f:=a2T) (fun j:Nat=>(c,(w:Int),(s:Int),half,(c.take j).all (fun x=>a2B (a6I s half x) (w:Int)),(j:Int),(c.take j).map (a6I s half),())) c.length
  (b:=(c,(w:Int),(s:Int),c.all (fun x=>a2B (a6I s half x) (w:Int)),c.map (a6I s half),()))
  (fun j hj=>by
   have hfit:b2p (a0m .i64 (wrap .i64 (c[j]+half)) (s:Int),(w:Int))=some (a2B (a6I s half c[j]) (w:Int)):=b8D hw;have hlim:lim (((c.take j).map (a6I s half)).length+1)=true:=a0q (by rw[a03,a05];omega);have et:c.take (j+1)=c.take j++[c[j]]:=a00 hj;cases ha:(c.take j).all (fun x=>a2B (a6I s half x) (w:Int))with
   |true=>
    simp only[a2T,dlt hj,cT,a0d hj,oB,eu,d0,cF,hlim,ha,hfit,a06,a0c (show j<1000000 by omega),et,a21,pA,Bool.true_and,a31,List.all_nil,Bool.and_true];rfl
   |false=>
    simp only[a2T,dlt hj,cT,a0d hj,oB,eu,d0,cF,hlim,ha,a06,a0c (show j<1000000 by omega),et,a21,pA,a44];rfl)
  (by
   have d:decide ((c.length:Int)<(c.length:Int))=false:=by simp
   simp only[a2T,d,cF,a07])
 exact this
theorem c6b{c:List Int}{w:Nat}(hc:c.length≤32)(hw:w≤32):∀(m s:Nat),s+m=15→
  ∃b,a0e a1C (c,(w:Int),(s:Int),())=some b∧a0e a4d (c,(w:Int),(s:Int),())=some b
 |0,s,hs=>by
  obtain rfl:s=15:=by omega
  exact⟨.inl (),a0h (by simp[a1C]),a0h (by simp[a4d])⟩
 |m+1,s,hs=>by
  have d:decide ((s:Int)≤14)=true:=by simp;omega
  have dl:decide ((0:Int)≤(c.length:Int))=true:=by simp
  have ll:lim c.length=true:=a0q (by omega);have hwi:wrap .i64 ((s:Int)+1)=((s+1:Nat):Int):=a0c (by omega);obtain⟨half,hp,hr⟩:∃half:Int,
    ((show Option ((List Int)×(Int×Int×Int×Unit))from
     bif decide ((s:Int) > (0:Int))then(
     bif decide ((wrap .i64 ((s:Int)-(1:Int)))<0)then none
     else some (c,(w:Int),(s:Int),a0D .i64 (1:Int) (wrap .i64 ((s:Int)-(1:Int))),()))
     else some (c,(w:Int),(s:Int),(0:Int),()))=some (c,(w:Int),(s:Int),half,()))∧
    ((show Option ((List Int)×(Int×Int×Int×Unit))from
     bif decide ((s:Int) > (0:Int))then(
     bif decide ((wrap .u64 (wrap .i64 ((s:Int)-(1:Int))))<0)then none
     else some (c,(w:Int),(s:Int),a0D .i64 (1:Int) (wrap .u64 (wrap .i64 ((s:Int)-(1:Int)))),()))
     else some (c,(w:Int),(s:Int),(0:Int),()))=some (c,(w:Int),(s:Int),half,())):=by
   by_cases h0:s=0
   subst h0;exact⟨0,rfl,rfl⟩;have e0:decide ((s:Int) > 0)=true:=by simp;omega
   have e1:wrap .i64 ((s:Int)-1)=(s:Int)-1:=a0l (by omega);have e2:wrap .u64 ((s:Int)-1)=(s:Int)-1:=a1o (by omega);have e3:decide ((s:Int)-1<0)=false:=by simp;omega
   exact⟨a0D .i64 1 ((s:Int)-1),by simp only[e0,e1,e3,cT,cF],by simp only[e0,e1,e2,e3,cT,cF]⟩
  obtain⟨nx,h1,h2,h3⟩:=b7h (c:=c) (w:=w) (s:=s) (half:=half) hc hw c.length 0 (by omega);simp only[nZ,a24,a36,a25,a02]at h1 h2 h3;have hri:=c6a (c:=c) (w:=w) (s:=s) (half:=half) hc hw (by omega);have hp':=hp;have hr':=hr;simp only[]at hp' hr';cases hall:c.all (fun x=>a2B (a6I s half x) (w:Int))with
  |true=>
   have hnx:=h2 hall;subst hnx;rw[hall]at hri;have hlen:((((c.map (a6I s half)).length:Nat):Int)==(c.length:Int))=true:=by rw[a03];simp
   refine⟨.inr (wrap .i64 ((14:Int)-(s:Int)),(0:Int),c.map (a6I s half),()),a0h ?_,a0h ?_⟩;simp only[a1C,d,cT];rw[hp'];simp only[oB,dl,tN,ll,a01,cT]
   erw[h1]
   simp only[oB,hlen,cT];simp only[a4d,d,cT];rw[hr'];simp only[oB]
   erw[hri]
   simp only[oB,cT]
  |false=>
   have hnx:=h3 hall;rw[hall]at hri;have hlen:(((nx.length:Nat):Int)==(c.length:Int))=false:=by simp only[beq_eq_false_iff_ne];omega
   obtain⟨b,g1,g2⟩:=c6b hc hw m (s+1) (by omega);refine⟨b,?_,?_⟩;rw[a0k (s':=(c,(w:Int),((s+1:Nat):Int),())) (by
    simp only[a1C,d,cT];rw[hp'];simp only[oB,dl,tN,ll,a01,cT]
    erw[h1]
    simp only[oB,hlen,cF,hwi])]
   exact g1;rw[a0k (s':=(c,(w:Int),((s+1:Nat):Int),())) (by
    simp only[a4d,d,cT];rw[hr'];simp only[oB]
    erw[hri]
    simp only[oB,cF,hwi])]
   exact g2
theorem d3j{c:List Int}{w:Nat}(h1:1≤c.length)(hl:c.length≤32)(hw:2≤w∧w≤16):∃r,a6g (c,(w:Int))=some r∧a7O (c,(w:Int))=some r:=by
 have c1:decide (((c.length:Nat):Int)<1)=false:=decide_eq_false (by omega);have c2:decide (((c.length:Nat):Int) > 32)=false:=decide_eq_false (by omega);have c3:decide ((w:Int)<2)=false:=decide_eq_false (by omega);have c4:decide ((w:Int) > 16)=false:=decide_eq_false (by omega);have hp:=c4y (c:=c) (w:=(w:Int)) hl;have hr:=c5Z (c:=c) (w:=(w:Int)) hl;obtain⟨b,g1,g2⟩:=c6b (c:=c) (w:=w) hl (by omega) 15 0 rfl;simp only[nZ,a02]at g1 g2;unfold a6g a7O;cases hall:c.all b0S with
 |false=>
  rw[hall]at hp hr;refine⟨([],0,1),?_,?_⟩;simp only[c1,c2,c3,c4,cF,oB,hp];rfl;simp only[c1,c2,c3,c4,cF,oB,hr];rfl
 |true=>
  rw[hall]at hp hr;cases b with
  |inl u=>
   refine⟨([],0,6),?_,?_⟩;simp only[c1,c2,c3,c4,cF,oB,hp,cT]
   erw[g1];rfl
   simp only[c1,c2,c3,c4,cF,oB,hr,cT]
   erw[g2];rfl
  |inr b=>
   refine⟨(b.2.2.1,b.1,b.2.1),?_,?_⟩;simp only[c1,c2,c3,c4,cF,oB,hp,cT]
   erw[g1];rfl
   simp only[c1,c2,c3,c4,cF,oB,hr,cT]
   erw[g2];rfl
end Go.Ab
namespace Go.Ab
def f20(x:Int):Bool:=decide (-1048576≤x)&&decide (x≤1048575)
theorem b9u{x:Int}:f20 x=true↔-1048576≤x∧x≤1048575:=by simp[f20]
theorem c4z(x:Int):(a2d (a1r x (-1048576)) 1048575==x)=f20 x:=by
 rw[Bool.eq_iff_iff,beq_iff_eq,b9u];unfold a2d a1r;cases h1:decide ((-1048576:Int) > x)with
 |true=>
  have h1:x < -1048576:=by simpa using h1
  show(-1048576:Int)=x↔_;omega
 |false=>
  have h1:¬ x < -1048576:=by simpa using h1
  simp only[cF];cases h2:decide ((1048575:Int)<x)with
  |true=>
   have h2:1048575<x:=by simpa using h2
   show(1048575:Int)=x↔_;omega
  |false=>
   have h2:¬ 1048575<x:=by simpa using h2
   show x=x↔_;simp only[true_iff];omega
theorem c2z(x:Int){s:Nat}(hs:s≤64):a0m .i64 x (s:Int)=x / ((2^s:Nat):Int):=by
 show Int.fdiv x (2^(min (s:Int).toNat 64))=_;rw[tN,Nat.min_eq_left hs,Int.fdiv_eq_ediv_of_nonneg _ (Int.le_of_lt (Int.pow_pos (by decide)))]
 simp
theorem d1r(x:Int){s:Nat}(hs:s≤63):a0m .i64 (a0m .i64 x (s:Int)) 1=a0m .i64 x ((s+1:Nat):Int):=by
 have h1:a0m .i64 (a0m .i64 x (s:Int)) ((1:Nat):Int)=a0m .i64 x (s:Int) / ((2^1:Nat):Int):=c2z _ (by omega);have h1':a0m .i64 (a0m .i64 x (s:Int)) 1=a0m .i64 x (s:Int) / ((2^1:Nat):Int):=h1;rw[h1',c2z x (by omega),c2z x (by omega),Int.ediv_ediv_of_nonneg (a33 _),←Int.natCast_mul,←Nat.pow_succ]
theorem d5I{x:Int}(h:f20 x=true):f20 (a0m .i64 x 1)=true:=by
 have e:a0m .i64 x 1=x / ((2^1:Nat):Int):=c2z x (s:=1) (by omega);rw[b9u]at h⊢;rw[e];omega
theorem c9V{x:Int}{s:Nat}:∀(d:Nat),s+d≤60→f20 (a0m .i64 x (s:Int))=true→f20 (a0m .i64 x ((s+d:Nat):Int))=true
 |0,_,h=>h
 |d+1,hd,h=>by
  have:=d5I (c9V d (by omega) h)
  rw[d1r x (by omega)]at this;exact this
def b5a(l:List Int)(s:Nat):Prop:=s≤10∧(∀x∈l,f20 (a0m .i64 x (s:Int))=true)∧∀t,t<s→∃x∈l,f20 (a0m .i64 x (t:Int))=false
theorem d4w{l:List Int}{s s':Nat}(h:b5a l s)(h':b5a l s'):s=s':=by
 rcases Nat.lt_trichotomy s s' with g|g|g;obtain⟨x,hx,hf⟩:=h'.2.2 s g;rw[h.2.1 x hx]at hf;cases hf;exact g;obtain⟨x,hx,hf⟩:=h.2.2 s' g;rw[h'.2.1 x hx]at hf;cases hf
theorem b9v{x:Int}(hx:a0b x=true){a l:List Int}{n i:Int}:∀(k s:Nat),s+k=10→
  ∃s':Nat,s≤s'∧s'≤10∧f20 (a0m .i64 x (s':Int))=true∧(∀t,s≤t→t<s'→f20 (a0m .i64 x (t:Int))=false)∧
   a0e a2q (a,(s:Int),x,l,n,i,())=some (a,(s':Int),l,n,i,())
 |k,s,hk=>by
  have d0:decide ((s:Int)<0)=false:=by simp
  cases hf:f20 (a0m .i64 x (s:Int))with
  |true=>
   refine⟨s,a23 _,by omega,hf,fun t h1 h2=>by omega,a0h ?_⟩;have hne:(a2d (a1r (a0m .i64 x (s:Int)) (-1048576)) 1048575 != a0m .i64 x (s:Int))=false:=by
    rw[bne,c4z,hf];rfl
   simp only[a2q,d0,cF,a2l,oB,hne]
  |false=>
   cases k with
   |zero=>
    obtain rfl:s=10:=by omega
    have:=c8t hx
    rw[b9u.2 this]at hf;cases hf
   |succ k=>
    obtain⟨s',h1,h2,h3,h4,h5⟩:=b9v hx (a:=a) (l:=l) (n:=n) (i:=i) k (s+1) (by omega);refine⟨s',by omega,h2,h3,fun t ht ht'=>?_,?_⟩
    by_cases e:t=s
    subst e;exact hf;exact h4 t (by omega) ht';have hne:(a2d (a1r (a0m .i64 x (s:Int)) (-1048576)) 1048575 != a0m .i64 x (s:Int))=true:=by
     rw[bne,c4z,hf];rfl
    rw[a0k (s':=(a,((s+1:Nat):Int),x,l,n,i,())) (by
     simp only[a2q,d0,cF,a2l,oB,hne,cT,a0c (show s<1000000 by omega)])]
    exact h5
theorem d0R{l:List Int}(hw:l.all a0b=true)(hl:l.length<100000):∃s,b5a l s∧a4b l=some (l.map fun x=>a0m .i64 x (s:Int)):=by
 have main:∀(m i s:Nat),i+m=l.length→b5a (l.take i) s→∃s',b5a l s'∧a0e a2L (l,(s:Int),l,(l.length:Int),(i:Int),())=some (l,(s':Int),()):=by
  intro m
  induction m with
  |zero=>
   intro i s hi hs;obtain rfl:i=l.length:=by omega
   rw[a07]at hs;exact⟨s,hs,a0h (by simp[a2L])⟩
  |succ m ih=>
   intro i s hi hs;have hlt:i<l.length:=by omega
   obtain⟨s',h1,h2,h3,h4,h5⟩:=b9v (lA.1 hw l[i] (a19 hlt)) (a:=l) (l:=l) (n:=(l.length:Int)) (i:=(i:Int)) (10-s) s (by have:=hs.1;omega);have hs':b5a (l.take (i+1)) s':=by
    rw[a00 hlt];refine⟨h2,fun x hx=>?_,fun t ht=>?_⟩;rcases mA.1 hx with hx|hx
    have:=c9V (s'-s) (by omega) (hs.2.1 x hx)
    rwa [Nat.add_sub_cancel' h1]at this
    rw[a34.1 hx];exact h3
    by_cases hts:t<s
    obtain⟨x,hx,hf⟩:=hs.2.2 t hts;exact⟨x,List.mem_append_left _ hx,hf⟩;exact⟨l[i],List.mem_append_right _ (a34.2 rfl),h4 t (by omega) ht⟩
   obtain⟨s2,g1,g2⟩:=ih (i+1) s' (by omega) hs';refine⟨s2,g1,?_⟩;rw[a0k (s':=(l,(s':Int),l,(l.length:Int),((i+1:Nat):Int),())) (by
    simp only[a2L,dlt hlt,cT,a0d hlt,oB,h5,a0c (show i<1000000 by omega)])]
   exact g2
 obtain⟨s,h1,h2⟩:=main l.length 0 0 (by omega) ⟨by omega,fun x hx=>by simp at hx,fun t ht=>by omega⟩;simp only[nZ,a02]at h2;refine⟨s,h1,?_⟩;have d1:decide ((0:Int)≤(l.length:Int))=true:=by simp
 have d2:decide ((l.length:Int)≤(l.length:Int))=true:=by simp
 have ll:lim l.length=true:=a0q (by omega);have hfill:=a0G (f:=a2M) (fun i:Nat=>((s:Int),l,(l.length:Int),(i:Int),(l.take i).map (fun x=>a0m .i64 x (s:Int))++a04 (l.length-i) 0,())) l.length (b:=(l.map (fun x=>a0m .i64 x (s:Int)),()))
  (fun i hi=>by
   have e0:decide ((s:Int)<0)=false:=by simp
   have e1:decide ((0:Int)≤(i:Int))=true:=by simp
   have e2:decide ((i:Int)<((((l.take i).map (fun x=>a0m .i64 x (s:Int))++a04 (l.length-i) 0).length:Nat):Int))=true:=by
    rw[lN,a03,a05,List.length_replicate];simp;omega
   have hlen:((l.take i).map (fun x=>a0m .i64 x (s:Int))).length=i:=by rw[a03,a05];omega
   have hset:=c4x (A:=(l.take i).map (fun x=>a0m .i64 x (s:Int))) (B:=a04 (l.length-(i+1)) 0) (x:=0) (y:=a0m .i64 l[i] (s:Int));rw[hlen]at hset;have hrep:a04 (l.length-i) (0:Int)=0::a04 (l.length-(i+1)) 0:=by rw[←List.replicate_succ];congr 1;omega
   simp only[a2M,dlt hi,cT,a0d hi,oB,e0,cF,e1,e2,a01,tN,a0c (show i<1000000 by omega)];rw[hrep,hset,a00 hi,pA,aA];rfl)
  (by simp[a2M])
 simp only[nZ,a24,a36,a22,Nat.sub_zero,a02]at hfill;unfold a4b;simp only[h2,oB,d1,d2,tN,ll,a01,cT,hfill]
end Go.Ab
namespace Go.Ab
theorem d4x(P:List Int)(b:Int)(R:List Int):(P++b::R).getD P.length 0=b:=by
 simp[lD]
theorem b7i{l:List Int}(hl:l.length<100000):a0e a5l (true,(0:Int),l,())=some (l.all f20,l,()):=by
 have:=a0G (f:=a5l) (fun i:Nat=>((l.take i).all f20,(i:Int),l,())) l.length (b:=(l.all f20,l,()))
  (fun i hi=>by
   have e0:decide ((0:Int)≤(i:Int))=true:=by simp
   have et:l.take (i+1)=l.take i++[l[i]]:=a00 hi;have hg:l.getD i 0=l[i]:=(a8M hi).symm;cases ha:(l.take i).all f20 with
   |true=>
    simp only[a5l,dlt hi,cT,ha,e0,a01,tN,b0C,oB,a0c (show i<1000000 by omega),hg,c4z,et,a21,Bool.true_and,a31,List.all_nil,Bool.and_true]
   |false=>
    simp only[a5l,dlt hi,cT,ha,cF,a0c (show i<1000000 by omega),et,a21,a44])
  (by
   have d:decide ((l.length:Int)<(l.length:Int))=false:=by simp
   simp only[a5l,d,cF,a07])
 exact this
theorem c4A{l:List Int}(hl:l.length<100000):a0e a7n ((0:Int),l,())=some (l.map (fun x=>a0m .i64 x 1),()):=by
 have:=a0G (f:=a7n) (fun i:Nat=>((i:Int),(l.take i).map (fun x=>a0m .i64 x 1)++l.drop i,())) l.length (b:=(l.map (fun x=>a0m .i64 x 1),()))
  (fun i hi=>by
   have e0:decide ((0:Int)≤(i:Int))=true:=by simp
   have hlen:((l.take i).map (fun x=>a0m .i64 x 1)).length=i:=by rw[a03,a05];omega
   have hlen2:((l.take i).map (fun x=>a0m .i64 x 1)++l.drop i).length=l.length:=by rw[lN,hlen,a27];omega
   have hset:=c4x (A:=(l.take i).map (fun x=>a0m .i64 x 1)) (B:=l.drop (i+1)) (x:=l[i]) (y:=a0m .i64 l[i] 1);rw[hlen]at hset;have hget:((l.take i).map (fun x=>a0m .i64 x 1)++l.drop i).getD i 0=l[i]:=by
    rw[a16 hi]
    have:=d4x ((l.take i).map (fun x=>a0m .i64 x 1)) l[i] (l.drop (i+1))
    rwa [hlen]at this
   have d1:decide ((i:Int)<((((l.take i).map (fun x=>a0m .i64 x 1)++l.drop i).length:Nat):Int))=true:=by rw[hlen2];exact dlt hi
   simp only[a7n,d1,cT,e0,a01,tN,hget,a0c (show i<1000000 by omega)];rw[a16 hi,hset,a00 hi,pA,aA];rfl)
  (by
   have d:decide ((l.length:Int)<(l.length:Int))=false:=by simp
   simp only[a7n,a07,a28,a09,a03,d,cF])
 simp only[nZ,a24,a36,a22,a25,a02]at this;exact this
theorem d3k{l:List Int}(hw:l.all a0b=true)(hl:l.length<100000):∃s,b5a l s∧a8j l=some (l.map fun x=>a0m .i64 x (s:Int)):=by
 have main:∀(m k:Nat),k+m=10→(∀t,t<k→∃x∈l,f20 (a0m .i64 x (t:Int))=false)→
   ∃s,b5a l s∧a0e a7o (l.map (fun x=>a0m .i64 x (k:Int)),())=some (l.map (fun x=>a0m .i64 x (s:Int)),()):=by
  intro m
  induction m with
  |zero=>
   intro k hk hlow;obtain rfl:k=10:=by omega
   have hall:(l.map (fun x=>a0m .i64 x ((10:Nat):Int))).all f20=true:=by
    rw[a37];exact lA.2 fun x hx=>b9u.2 (c8t (lA.1 hw x hx))
   refine⟨10,⟨a23 _,fun x hx=>b9u.2 (c8t (lA.1 hw x hx)),hlow⟩,a0h ?_⟩;simp only[a7o,b7i (l:=l.map (fun x=>a0m .i64 x ((10:Nat):Int))) (by rw[a03];exact hl),oB,hall,cT]
  |succ m ih=>
   intro k hk hlow;have hck:=b7i (l:=l.map (fun x=>a0m .i64 x (k:Int))) (by rw[a03];exact hl);cases hall:(l.map (fun x=>a0m .i64 x (k:Int))).all f20 with
   |true=>
    rw[hall]at hck;have hall':=hall;rw[a37]at hall';refine⟨k,⟨by omega,fun x hx=>lA.1 hall' x hx,hlow⟩,a0h ?_⟩;simp only[a7o,hck,oB,cT]
   |false=>
    rw[hall]at hck;have hex:∃x∈l,f20 (a0m .i64 x (k:Int))=false:=by
     rw[a37]at hall;obtain⟨x,hx,hf⟩:=List.all_eq_false.1 hall;exact⟨x,hx,by simpa using hf⟩
    obtain⟨s,h1,h2⟩:=ih (k+1) (by omega) (fun t ht=>by
     by_cases e:t=k
     subst e;exact hex;exact hlow t (by omega))
    refine⟨s,h1,?_⟩;have hhalf:=c4A (l:=l.map (fun x=>a0m .i64 x (k:Int))) (by rw[a03];exact hl);have hmm:(l.map (fun x=>a0m .i64 x (k:Int))).map (fun x=>a0m .i64 x 1)=l.map (fun x=>a0m .i64 x ((k+1:Nat):Int)):=by
     rw[List.map_map];exact a32 fun x _=>d1r x (by omega)
    rw[hmm]at hhalf;rw[a0k (s':=(l.map (fun x=>a0m .i64 x ((k+1:Nat):Int)),())) (by
     simp only[a7o,hck,oB,cF,hhalf])]
    exact h2
 obtain⟨s,h1,h2⟩:=main 10 0 rfl (fun t ht=>by omega);have h0:l.map (fun x=>a0m .i64 x ((0:Nat):Int))=l:=by
  refine(a32 fun x _=>?_).trans (List.map_id _);rw[c2z x (by omega)]
  simp
 rw[h0]at h2;refine⟨s,h1,?_⟩;have ll:lim (0+l.length)=true:=a0q (by omega);unfold a8j;simp only[ll,cT,a06,a22,h2,oB]
theorem d0S{l:List Int}(hw:l.all a0b=true)(hl:l.length<100000):∃r,a4b l=some r∧a8j l=some r∧r.length=l.length:=by
 obtain⟨s,h1,h2⟩:=d0R hw hl;obtain⟨s',g1,g2⟩:=d3k hw hl
 have:=d4w h1 g1
 subst this;exact⟨_,h2,g2,by rw[a03]⟩
end Go.Ab
namespace Go.Ab
open IntKind(wrap)
theorem c4B(n:Int):wrap .i64 n=if 9223372036854775808≤n%18446744073709551616 then n%18446744073709551616-18446744073709551616 else n%18446744073709551616:=by
 simp[wrap,IntKind.bits,IntKind.signed]
theorem c6c(a b:Int):wrap .i64 (a+wrap .i64 b)=wrap .i64 (a+b):=by
 rw[c4B b,c4B,c4B];have e:(a+if 9223372036854775808≤b%18446744073709551616 then b%18446744073709551616-18446744073709551616 else b%18446744073709551616)%18446744073709551616=(a+b)%18446744073709551616:=by
  split<;>omega
 rw[e]
theorem d4y(a b:Int):wrap .i64 (wrap .i64 a+b)=wrap .i64 (a+b):=by
 rw[Int.add_comm,c6c,Int.add_comm]
theorem d4z:a2C=a9u:=by
 funext st;unfold a2C a9u;have e:∀d a b:Int,wrap .i64 (d+wrap .i64 (wrap .i64 a+wrap .i64 b))=wrap .i64 (wrap .i64 (d+wrap .i64 a)+wrap .i64 b):=fun d a b=>by
  rw[c6c,d4y,Int.add_assoc]
 simp only[e]
theorem d3l:a3p=b3E:=rfl
theorem c6d(x:(List Int)×((List Int)×Int)):a3m x=a6u x:=by
 unfold a3m a6u b9U;rw[d4z,d3l];congr 1;funext w7;congr 1;funext w8;have e:a0D .i64 w8.1 15=wrap .i64 (w8.1*32768):=rfl;rw[e];cases h:(w8.2.1==(0:Int))with
 |true=>rfl
 |false=>
  simp only[h,cF];cases decide (Int.tmod (wrap .i64 (w8.1*32768)) w8.2.1<0)<;>rfl
end Go.Ab
namespace Go.Ab
open IntKind(wrap)
def c20(x:Int):Int:=a2d (a1r x (-1048576)) 1048575
def a4u(f b:List Int)(k:Int)(i:Nat):Int:=c20 (wrap .i64 (f.getD i 0-a0m .i64 (wrap .i64 (k*b.getD (i-1) 0)) 14))
def a4N(f b:List Int)(k:Int)(i:Nat):Int:=c20 (wrap .i64 (b.getD (i-1) 0-a0m .i64 (wrap .i64 (k*f.getD i 0)) 14))
def upd(g:Nat→Int)(f:List Int)(lo hi:Nat):List Int:=(a42 f.length).map fun i=>if lo≤i∧i<hi then g i else f.getD i 0
theorem a2X(g:Nat→Int)(f:List Int)(lo hi:Nat):(upd g f lo hi).length=f.length:=by simp[upd]
theorem b2h(g:Nat→Int)(f:List Int)(lo hi:Nat){i:Nat}(h:i<f.length):(upd g f lo hi).getD i 0=if lo≤i∧i<hi then g i else f.getD i 0:=by
 simp[upd,lD,h]
theorem b0j(g:Nat→Int)(f:List Int){lo hi:Nat}(h:hi≤lo∨f.length≤lo):upd g f lo hi=f:=by
 refine a40 (a2X _ _ _ _) fun i h1 h2=>?_
 rw[a8M h1,a8M h2,b2h g f lo hi h2,if_neg (by omega)]
theorem c2R{g:Nat→Int}{f:List Int}{lo hi lo' hi' i:Nat}(hi0:i<f.length)(h:∀j,j<f.length→((lo'≤j∧j<hi')↔(j=i∨(lo≤j∧j<hi)))):(upd g f lo hi).set i (g i)=upd g f lo' hi':=by
 refine a40 (by rw[List.length_set,a2X,a2X]) fun j h1 h2=>?_
 have hj:j<f.length:=by rw[a2X]at h2;exact h2
 rw[List.getElem_set]
 by_cases e:i=j
 subst e;rw[if_pos rfl,a8M h2,b2h g f _ _ hj,if_pos ((h i hj).2 (.inl rfl))];rw[if_neg e,a8M (by rw[a2X];exact hj),a8M h2,b2h g f _ _ hj,b2h g f _ _ hj]
 have:=h j hj
 by_cases hc:lo≤j∧j<hi
 rw[if_pos hc,if_pos (this.2 (.inr hc))];rw[if_neg hc,if_neg (fun g'=>(this.1 g').elim (fun g''=>e g''.symm) hc)]
theorem b7Y{f b ks:List Int}{o m:Nat}{k:Int}(hm:1≤m)(hm2:m≤40)(hb:b.length=f.length)(hf:f.length<100000):∀(j i:Nat),i+1=m+j→i<f.length→
  a0e a1z ((o:Int),(m:Int),k,(i:Int),upd (a4u f b k) f (i+1) f.length,upd (a4N f b k) b (i+1) f.length,ks,()) =
   some ((o:Int),(m:Int),upd (a4u f b k) f m f.length,upd (a4N f b k) b m f.length,ks,())
 |0,i,hj,hi=>by
  obtain rfl:m=i+1:=by omega
  have d:decide ((i:Int)≥((i+1:Nat):Int))=false:=decide_eq_false (by omega);exact a0h (by simp only[a1z,d,cF])
 |j+1,i,hj,hi=>by
  have d:decide ((i:Int)≥(m:Int))=true:=by simp;omega
  have e1:wrap .i64 ((i:Int)-1)=((i-1:Nat):Int):=by rw[a0l (by omega)];omega
  have d0:decide ((0:Int)≤(i:Int))=true:=by simp
  have d1:decide ((0:Int)≤((i-1:Nat):Int))=true:=by simp
  have l1:=a2X (a4u f b k) f (i+1) f.length;have l2:=a2X (a4N f b k) b (i+1) f.length;have d2:decide ((i:Int)<(((upd (a4u f b k) f (i+1) f.length).length:Nat):Int))=true:=by rw[l1];exact dlt hi
  have d3:decide (((i-1:Nat):Int)<(((upd (a4N f b k) b (i+1) f.length).length:Nat):Int))=true:=by rw[l2,hb];exact dlt (by omega)
  have d4:decide ((i:Int)<(((upd (a4N f b k) b (i+1) f.length).length:Nat):Int))=true:=by rw[l2,hb];exact dlt hi
  have g1:(upd (a4u f b k) f (i+1) f.length).getD i 0=f.getD i 0:=by rw[b2h _ _ _ _ hi,if_neg (by omega)]
  have g2:(upd (a4N f b k) b (i+1) f.length).getD (i-1) 0=b.getD (i-1) 0:=by rw[b2h _ _ _ _ (by omega),if_neg (by omega)]
  have s1:(upd (a4u f b k) f (i+1) f.length).set i (a4u f b k i)=upd (a4u f b k) f i f.length:=c2R hi fun j' hj'=>by omega
  have s2:(upd (a4N f b k) b (i+1) f.length).set i (a4N f b k i)=upd (a4N f b k) b i f.length:=c2R (by omega) fun j' hj'=>by omega
  have hi1:i-1+1=i:=by omega
  rw[a0k (s':=((o:Int),(m:Int),k,((i-1:Nat):Int),upd (a4u f b k) f i f.length,upd (a4N f b k) b i f.length,ks,())) (by
   simp only[a1z,d,cT,d0,d2,a01,e1,d1,d3,tN,a2l,oB,d4,g1,g2];rw[←s1,←s2];rfl)]
  have:=b7Y (ks:=ks) (o:=o) (k:=k) hm hm2 hb hf j (i-1) (by omega) (by omega)
  rw[hi1]at this;exact this
theorem b9w{f b ks:List Int}{o m:Nat}{k:Int}(hm:1≤m)(hm2:m≤40)(hb:b.length=f.length)(hf:f.length<100000):∀(j i:Nat),i+j=f.length→m≤i→
  a0e a2D ((o:Int),b,(m:Int),k,(i:Int),upd (a4u f b k) f m i,ks,upd (a4N f b k) b m i,()) =
   some ((o:Int),(m:Int),k,upd (a4u f b k) f m f.length,ks,upd (a4N f b k) b m f.length,())
 |0,i,hj,hi=>by
  obtain rfl:i=f.length:=by omega
  have d:decide ((f.length:Int)<(((upd (a4u f b k) f m f.length).length:Nat):Int))=false:=by rw[a2X];simp
  exact a0h (by simp only[a2D,d,cF])
 |j+1,i,hj,hi=>by
  have hlt:i<f.length:=by omega
  have e1:wrap .i64 ((i:Int)-1)=((i-1:Nat):Int):=by rw[a0l (by omega)];omega
  have d0:decide ((0:Int)≤(i:Int))=true:=by simp
  have l1:=a2X (a4u f b k) f m i;have l2:=a2X (a4N f b k) b m i;have d2:decide ((i:Int)<(((upd (a4u f b k) f m i).length:Nat):Int))=true:=by rw[l1];exact dlt hlt
  have d4:decide ((i:Int)<(((upd (a4N f b k) b m i).length:Nat):Int))=true:=by rw[l2,hb];exact dlt hlt
  have gb:a0r b ((i-1:Nat):Int)=some (b.getD (i-1) 0):=by rw[a0d (show i-1<b.length by omega),a8M (show i-1<b.length by omega)]
  have g1:(upd (a4u f b k) f m i).getD i 0=f.getD i 0:=by rw[b2h _ _ _ _ hlt,if_neg (by omega)]
  have s1:(upd (a4u f b k) f m i).set i (a4u f b k i)=upd (a4u f b k) f m (i+1):=c2R hlt fun j' hj'=>by omega
  have s2:(upd (a4N f b k) b m i).set i (a4N f b k i)=upd (a4N f b k) b m (i+1):=c2R (by omega) fun j' hj'=>by omega
  rw[a0k (s':=((o:Int),b,(m:Int),k,((i+1:Nat):Int),upd (a4u f b k) f m (i+1),ks,upd (a4N f b k) b m (i+1),())) (by
   simp only[a2D,d2,cT,d0,a01,e1,gb,oB,tN,b0C,g1,d4,a0c (show i<1000000 by omega)];rw[←s1,←s2];rfl)]
  exact b9w (ks:=ks) (o:=o) (k:=k) hm hm2 hb hf j (i+1) (by omega) (by omega)
end Go.Ab
namespace Go.Ab
open IntKind(wrap)
theorem c8g{f b ks:List Int}{o m:Nat}{k:Int}(hm:1≤m)(hm2:m≤40)(hb:b.length=f.length)(hf:f.length<100000):
  a0e a1z ((o:Int),(m:Int),k,wrap .i64 ((f.length:Int)-1),f,b,ks,()) =
   some ((o:Int),(m:Int),upd (a4u f b k) f m f.length,upd (a4N f b k) b m f.length,ks,()):=by
 rw[a0l (n:=(f.length:Int)-1) (by omega)]
 by_cases h:m<f.length
 have:=b7Y (ks:=ks) (o:=o) (k:=k) hm hm2 hb hf (f.length-m) (f.length-1) (by omega) (by omega)
 rw[show f.length-1+1=f.length from by omega,b0j (a4u f b k) f (.inl (a23 _)),b0j (a4N f b k) b (.inl (a23 _)),show((f.length-1:Nat):Int)=(f.length:Int)-1 from by omega]at this;exact this;rw[b0j (a4u f b k) f (.inl (by omega)),b0j (a4N f b k) b (.inl (by omega))];have d:decide ((f.length:Int)-1≥(m:Int))=false:=by simp only[decide_eq_false_iff_not];omega
 exact a0h (by simp only[a1z,d,cF])
theorem c9W{f b ks:List Int}{o m:Nat}{k:Int}(hm:1≤m)(hm2:m≤40)(hb:b.length=f.length)(hf:f.length<100000):
  a0e a2D ((o:Int),b,(m:Int),k,(m:Int),f,ks,b,()) =
   some ((o:Int),(m:Int),k,upd (a4u f b k) f m f.length,ks,upd (a4N f b k) b m f.length,()):=by
 by_cases h:m<f.length
 have:=b9w (ks:=ks) (o:=o) (k:=k) hm hm2 hb hf (f.length-m) m (by omega) (a23 _)
 rw[b0j (a4u f b k) f (.inl (a23 _)),b0j (a4N f b k) b (.inl (a23 _))]at this;exact this;rw[b0j (a4u f b k) f (.inl (by omega)),b0j (a4N f b k) b (.inl (by omega))];have d:decide ((m:Int)<(f.length:Int))=false:=by simp only[decide_eq_false_iff_not];omega
 exact a0h (by simp only[a2D,d,cF])
theorem b9x{o:Nat}(ho:o≤32):∀(j m:Nat)(f b ks:List Int),m+j=o+1→1≤m→b.length=f.length→f.length<100000→ks.length+1=m→
  ∃r,a0e a2f ((o:Int),(m:Int),f,b,ks,())=some (r,())∧a0e a4T ((o:Int),b,(m:Int),f,ks,())=some (r,())
 |0,m,f,b,ks,hj,_,_,_,_=>by
  have d:decide ((m:Int)≤(o:Int))=false:=by simp only[decide_eq_false_iff_not];omega
  exact⟨ks,a0h (by simp only[a2f,d,cF]),a0h (by simp only[a4T,d,cF])⟩
 |j+1,m,f,b,ks,hj,hm,hb,hf,hk=>by
  have d:decide ((m:Int)≤(o:Int))=true:=by simp only[dT];omega
  obtain⟨k,h1⟩:=b7Q hm hb hf (show m<1000 by omega);have h2:a6u (f,b,(m:Int))=some k:=by rw[←c6d];exact h1
  have w:=a0c (show m<1000000 by omega);have hl1:=a9Z (show ks.length+1<2147483648 by omega);have hl2:=a9Z (show 0+b.length<2147483648 by omega);obtain⟨r,g1,g2⟩:=b9x ho j (m+1) (upd (a4u f b k) f m f.length) (upd (a4N f b k) b m f.length) (ks++[k]) (by omega) (by omega) (by rw[a2X,a2X,hb]) (by rw[a2X];exact hf) (by rw[lN,List.length_singleton];omega);refine⟨r,?_,?_⟩;rw[a0k (s':=((o:Int),((m+1:Nat):Int),upd (a4u f b k) f m f.length,upd (a4N f b k) b m f.length,ks++[k],())) (by
   simp only[a2f,d,cT,h1,oB,hl1,a06];rw[c8g hm (by omega) hb hf];simp only[oB,w])]
  exact g1;rw[a0k (s':=((o:Int),upd (a4N f b k) b m f.length,((m+1:Nat):Int),upd (a4u f b k) f m f.length,ks++[k],())) (by
   simp only[a4T,d,cT,h2,oB,hl2,a06,a22];rw[c9W hm (by omega) hb hf];simp only[oB,hl1,cT,w])]
  exact g2
theorem c9X{l:List Int}(hw:l.all a0b=true)(hl:l.length≤4096){o:Nat}(h1:1≤o)(h2:o≤32):∃ks:List Int,a3x (l,(o:Int))=some (ks,0)∧a6D (l,(o:Int))=some (ks,0)∧ks.length=o:=by
 obtain⟨ks,hks,hkl⟩:=c2q hw hl h1 h2;refine⟨ks,hks,?_,hkl⟩;obtain⟨f,s1,s2,s3⟩:=d0S hw (by omega);obtain⟨r,g1,g2⟩:=b9x h2 o 1 f f [] (by omega) (by omega) rfl (by omega) rfl;have hsh:short l:=by unfold short;omega
 have d1:decide ((o:Int)<1)=false:=by simp only[decide_eq_false_iff_not];omega
 have d2:decide ((o:Int) > 32)=false:=by simp only[decide_eq_false_iff_not];omega
 have d3:decide (((l.length:Nat):Int) > 4096)=false:=by simp only[decide_eq_false_iff_not];omega
 have d4:decide ((0:Int)≤(o:Int))=true:=by simp
 have e1:a3x (l,(o:Int))=some (r,0):=by
  unfold a3x;simp only[d1,d2,d3,cF,oB,a5I hsh,hw,bT,s1,a8G (show short f by unfold short;omega),d4,tN,a9Z (show o<2147483648 by omega),a01,cT];simp only[a02]at g1
  erw[g1]
  rfl
 rw[e1]at hks;simp only[sj,pJ,and_true]at hks;subst hks;unfold a6D;simp only[d1,d2,d3,cF,oB,a0B hsh,hw,bT,s2];simp only[a02]at g2
 erw[g2]
 rfl
theorem c7E{l:List Int}(hw:l.all a0b=true)(hl:l.length≤4096){o w:Nat}(h1:1≤o)(h2:o≤32)(h3:2≤w∧w≤16):
  ∃c sh e,a3q (l,(o:Int),(w:Int))=some (c,sh,e)∧a8B (l,(o:Int),(w:Int))=some (c,sh,e)∧(e=0→c.length=o):=by
 obtain⟨c,sh,e,hf,hc⟩:=c7z hw hl h1 h2 h3;refine⟨c,sh,e,hf,?_,hc⟩;rw[←hf];obtain⟨ks,r1,r2,r3⟩:=c9X hw hl h1 h2;unfold a3q a8B;have z0:((0:Int) != 0)=false:=rfl;simp only[r1,r2,oB,z0,cF];obtain⟨r,c1,c2⟩:=d3h (ks:=ks) (by omega) (by omega);obtain⟨c',e',k1,k2⟩:=c5K (ks:=ks) (by omega) (by omega);rw[c1]at k1;simp only[sj]at k1;subst k1;simp only[c1,c2,oB]
 by_cases he:e'=0
 subst he;have hl':=k2 rfl;obtain⟨q,q1,q2⟩:=d3j (c:=c') (by omega) (by omega) h3;simp only[z0,cF,q1,q2,oB]
 have:(e' != 0)=true:=by simpa using he
 simp only[this,cT]
end Go.Ab
namespace Go.Ab
theorem c0Y{d:List Int}(hw:d.all a0b=true)(hl:d.length≤4096){o w:Nat}(h1:1≤o)(h2:o≤32)(h3:2≤w∧w≤16):
  a9X (d,(o:Int),(w:Int))=some (cS 3 0 (a6G d o w).2.1 (a6G d o w).1 [],(a6G d o w).2.2==0):=by
 obtain⟨c,sh,e,g1,g2,-⟩:=c7E hw hl h1 h2 h3;have hf:a6G d o w=(c,sh,e):=by unfold a6G;rw[g1];rfl
 unfold a9X;simp only[g2,oB,hf];rfl
theorem b4e{d:List Int}(hw:d.all a0b=true)(hl:d.length≤4096){o w:Nat}(h1:1≤o)(h2:o≤32)(h3:2≤w∧w≤16){L:List Sub}(hL:L.length<1000):
  a1q (L,d,(o:Int),(w:Int))=some (L++b1a d o w,[]):=by
 have hlim:lim (L.length+1)=true:=a0q (by omega);unfold a1q b1a;simp only[c0Y hw hl h1 h2 h3,oB];cases (a6G d o w).2.2==0 with
 |true=>simp only[cT,hlim];rfl
 |false=>simp only[cF,a09]
theorem d0T{d:List Int}{L:List Sub}(hL:L.length<1000):a0e a4K (d,(0:Int),L,())=some (d,L++a5U 5,()):=by
 have:=a0G (f:=a4K) (fun i:Nat=>(d,(i:Int),L++a5U i,())) 5 (b:=(d,L++a5U 5,()))
  (fun i hi=>by
   have d0:decide ((i:Int)<5)=true:=decide_eq_true (by omega);have hlim:lim ((L++a5U i).length+1)=true:=a0q (by simp[a5U];omega);have e:(L++a5U i)++[cS 2 (i:Int) 0 [] []]=L++a5U (i+1):=by simp[a5U,a29]
   rw[←e];simp only[a4K,d0,cT,hlim,a0c (show i<1000000 by omega)];rfl)
  (by
   have d0:decide (((5:Nat):Int)<5)=false:=by decide
   simp only[a4K,d0,cF])
 simp only[nZ]at this;rw[show a5U 0=[]from rfl,a09]at this;exact this
def b9y(d:List Int):Prop:=∃r,a2U d=some r∧r.2=(a5v d).2∧(r.2=true→r.1=(a5v d).1)
theorem d5J{d:List Int}(hw:d.all a0b=true)(hl:d.length≤4096)(hlag:b9y d)(k:Int):b4v (d,k)=some (a3u d k):=by
 obtain⟨o,ho',ho⟩:=c5W (show d.length<100000 by omega) hw;have hb:c5V d=o:=by unfold c5V;rw[ho'];rfl
 obtain⟨rl,hr1,hr2,hr3⟩:=hlag;have hlc:(b5s d).length≤1:=by unfold b5s;cases (a5v d).2<;>simp
 have l4:=a5w d 4 12;have l8:=a5w d 8 12;have l1:=a5w d 1 12;have l2:=a5w d 2 12;have l12:=a5w d 12 14;have c4:=fun L (hL:L.length<1000)=>b4e (L:=L) hw hl (o:=4) (w:=12) (by omega) (by omega) (by omega) hL;have c8:=fun L (hL:L.length<1000)=>b4e (L:=L) hw hl (o:=8) (w:=12) (by omega) (by omega) (by omega) hL;have c1:=fun L (hL:L.length<1000)=>b4e (L:=L) hw hl (o:=1) (w:=12) (by omega) (by omega) (by omega) hL;have c2:=fun L (hL:L.length<1000)=>b4e (L:=L) hw hl (o:=2) (w:=12) (by omega) (by omega) (by omega) hL;have c12:=fun L (hL:L.length<1000)=>b4e (L:=L) hw hl (o:=12) (w:=14) (by omega) (by omega) (by omega) hL;have c16:=fun L (hL:L.length<1000)=>b4e (L:=L) hw hl (o:=16) (w:=14) (by omega) (by omega) (by omega) hL;simp only[a02]at c4 c8 c1 c2 c12 c16;have n0:(a1h d).length=3:=rfl;have n1:(a1T d k).length≤2:=by unfold a1T;split<;>simp<;>omega
 have n2:(a6H d k).length≤3:=by unfold a6H;split<;>simp<;>omega
 have n5:(a5U 5).length=5:=rfl;have hF:b4v (d,k)=(a7m d).bind fun y1=>
   (show Option ((List Int)×(Int×((List Sub)×Unit)))from bif decide (k≥1)then((a1q ([cS 0 0 0 [] [],cS 1 0 0 [] [],cS 2 y1 0 [] []],d,(4:Int),(12:Int))).bind fun y2=>(a1q (y2.1,d,(8:Int),(12:Int))).bind fun y3=>some (d,k,y3.1,()))else some (d,k,[cS 0 0 0 [] [],cS 1 0 0 [] [],cS 2 y1 0 [] []],())).bind fun z4=>
   (show Option ((List Int)×(Int×((List Sub)×Unit)))from bif decide (z4.2.1≥2)then(bif lim (z4.2.2.1.length+2)then((a2U z4.1).bind fun y5=>
    bif y5.2 then(bif lim ((z4.2.2.1++[cS 5 0 0 [] [((16:Int),(4:Int),())],cS 5 0 0 [] [((32:Int),(3:Int),()),((16:Int),(5:Int),())]]).length+1)then some (z4.1,z4.2.1,z4.2.2.1++[cS 5 0 0 [] [((16:Int),(4:Int),())],cS 5 0 0 [] [((32:Int),(3:Int),()),((16:Int),(5:Int),())]]++[y5.1],())else none)
    else some (z4.1,z4.2.1,z4.2.2.1++[cS 5 0 0 [] [((16:Int),(4:Int),())],cS 5 0 0 [] [((32:Int),(3:Int),()),((16:Int),(5:Int),())]],()))else none)else some (z4.1,z4.2.1,z4.2.2.1,())).bind fun z6=>
   (show Option ((List Sub)×Unit)from bif decide (z6.2.1≥3)then((a0e a4K (z6.1,(0:Int),z6.2.2.1,())).bind fun w7=>(a1q (w7.2.1,w7.1,(1:Int),(12:Int))).bind fun y8=>(a1q (y8.1,w7.1,(2:Int),(12:Int))).bind fun y9=>
    (a1q (y9.1,w7.1,(12:Int),(14:Int))).bind fun y10=>(a1q (y10.1,w7.1,(16:Int),(14:Int))).bind fun y11=>some (y11.1,()))else some (z6.2.2.1,())).bind fun z12=>some z12.1:=rfl
 have e0:[cS 0 0 0 [] [],cS 1 0 0 [] [],cS 2 o 0 [] []]=a1h d:=by unfold a1h;rw[hb]
 have s1:(bif decide (k≥1)then((a1q (a1h d,d,(4:Int),(12:Int))).bind fun y2=>(a1q (y2.1,d,(8:Int),(12:Int))).bind fun y3=>some (d,k,y3.1,()))else some (d,k,a1h d,()):Option ((List Int)×(Int×((List Sub)×Unit))))=some (d,k,a1h d++a1T d k,()):=by
  unfold a1T
  by_cases h:1≤k
  have e:decide (k≥1)=true:=decide_eq_true h;simp only[e,cT,c4 (a1h d) (by omega),oB,c8 (a1h d++b1a d 4 12) (by simp;omega),if_pos h,aA];have e:decide (k≥1)=false:=decide_eq_false h;simp only[e,cF,if_neg h,a09]
 have s2:(bif decide (k≥2)then(bif lim ((a1h d++a1T d k).length+2)then((a2U d).bind fun y5=>
    bif y5.2 then(bif lim ((a1h d++a1T d k++[cS 5 0 0 [] [((16:Int),(4:Int),())],cS 5 0 0 [] [((32:Int),(3:Int),()),((16:Int),(5:Int),())]]).length+1)then some (d,k,a1h d++a1T d k++[cS 5 0 0 [] [((16:Int),(4:Int),())],cS 5 0 0 [] [((32:Int),(3:Int),()),((16:Int),(5:Int),())]]++[y5.1],())else none)
    else some (d,k,a1h d++a1T d k++[cS 5 0 0 [] [((16:Int),(4:Int),())],cS 5 0 0 [] [((32:Int),(3:Int),()),((16:Int),(5:Int),())]],()))else none)else some (d,k,a1h d++a1T d k,()):Option ((List Int)×(Int×((List Sub)×Unit))))=some (d,k,a1h d++(a1T d k++a6H d k),()):=by
  unfold a6H
  by_cases h:2≤k
  ·have e:decide (k≥2)=true:=decide_eq_true h;have q1:lim ((a1h d++a1T d k).length+2)=true:=a0q (by simp;omega);have q3:lim ((a1h d++a1T d k++[cS 5 0 0 [] [((16:Int),(4:Int),())],cS 5 0 0 [] [((32:Int),(3:Int),()),((16:Int),(5:Int),())]]).length+1)=true:=a0q (by simp;omega);simp only[e,q1,q3,cT,hr1,oB,if_pos h,b5s];cases hg:rl.2 with
   |true=>
    rw[←hr2,←hr3 hg,hg];simp
   |false=>rw[←hr2,hg];simp
  have e:decide (k≥2)=false:=decide_eq_false h;simp only[e,cF,if_neg h,a09]
 have s3:(bif decide (k≥3)then((a0e a4K (d,(0:Int),a1h d++(a1T d k++a6H d k),())).bind fun w7=>(a1q (w7.2.1,w7.1,(1:Int),(12:Int))).bind fun y8=>(a1q (y8.1,w7.1,(2:Int),(12:Int))).bind fun y9=>
    (a1q (y9.1,w7.1,(12:Int),(14:Int))).bind fun y10=>(a1q (y10.1,w7.1,(16:Int),(14:Int))).bind fun y11=>some (y11.1,()))else some (a1h d++(a1T d k++a6H d k),()):Option ((List Sub)×Unit))=some (a3u d k,()):=by
  unfold a3u c2Q
  by_cases h:3≤k
  have e:decide (k≥3)=true:=decide_eq_true h;simp only[e,cT,d0T (L:=a1h d++(a1T d k++a6H d k)) (by simp;omega),oB,if_pos h];rw[c1 _ (by simp;omega)];simp only[oB];rw[c2 _ (by simp;omega)];simp only[oB];rw[c12 _ (by simp;omega)];simp only[oB];rw[c16 _ (by simp;omega)];simp only[oB,aA];have e:decide (k≥3)=false:=decide_eq_false h;simp only[e,cF,if_neg h,a09]
 rw[hF,ho,oB,e0];simp only[];rw[s1];simp only[oB];rw[s2];simp only[oB];rw[s3];rfl
theorem c8h{d:List Int}(hl:d.length≤256):b9y d:=by
 have h:=c9P hl;have hp:a5v d=(a0Q 0,false):=by unfold a5v;rw[h];rfl
 have e1:decide (((d.length:Nat):Int) > 4096)=false:=decide_eq_false (by omega);have e2:decide (((d.length:Nat):Int)≤256)=true:=decide_eq_true (by omega);have hF:a6i (d,(16:Int),(256:Int))=some (0,7):=by
  unfold a6i;simp only[show decide ((16:Int)<2)=false from rfl,show decide ((16:Int) > 256)=false from rfl,show decide ((256:Int) > 1024)=false from rfl,cF,e1,oB,e2,cT]
 refine⟨(a0Q 0,false),?_,by rw[hp],fun h=>by cases h⟩;unfold a2U;simp only[hF,oB,show((7:Int) != 0)=true from rfl,cT];rfl
def c6K(a:Int×(Bool×Sub)):Prop:=(a.2.1=false→a.1=0)∧(a.2.1=true→a.1≠0)
theorem d3m{l:List Int}{c:Sub}(hS:SmallS c){a:Int×(Bool×Sub)}(h:c6K a):c6K (b0Q l a c):=by
 unfold b0Q;cases he:(a1n c.1 l c).2 != 0 with
 |true=>exact h
 |false=>
  simp only[cF];cases !a.2.1 || decide (a4w (a1n c.1 l c).1 (l.length:Int)<a.1)with
  |false=>exact h
  |true=>
   simp only[cT];obtain⟨a1,-,-,a4⟩:=c2P hS (show(a1n c.1 l c).2=0 by simpa using he)
   have:=d4t a1 (n:=(l.length:Int)) (by rw[a4];rfl)
   exact⟨fun h=>(by cases h),fun _=>(by omega)⟩
theorem c8i{l:List Int}{cs:List Sub}(hs:∀c∈cs,SmallS c)(hl:l.length≤4096)(hc:cs.length<1000):
  a0e a6x (l,(0:Int),(0:Int),cs,a0Q 0,a0Q 0,())=some (a0Q 0,(b5X l cs).2.2,()):=by
 have:=a2F (f:=a6x) cs (fun i (a:Int×(Bool×Sub))=>(l,a.1,(i:Int),cs,a0Q 0,a.2.2,())) (fun a x=>.inl (b0Q l a x)) (fun _ a=>c6K a) (fun a=>(a0Q 0,a.2.2,()))
  (fun i hi a ha=>by
   refine⟨fun a' ha'=>?_,fun b hb=>by cases hb⟩;simp only[Sum.inl.injEq]at ha';subst ha';have hS:=hs _ (a19 hi);refine⟨?_,d3m hS ha⟩;have c1:=d0F (c3J (k:=cs[i].1) (l:=l) hS) (l.length:Int);have hg:a38 cs (a39 (i:Int)) (a0Q 0)=cs[i]:=by rw[tN,lD,lG hi];rfl
   have hz:a0Q 0=((0:Int),(0:Int),(0:Int),(0:Int),(0:Int),([]:(List Int)),a04 3 (0:Int),([]:(List (Int×Int×Unit))),([]:(List Int)),((0:Int),([]:(List Int)),()),([]:(List Int)),()):=rfl;have d0:decide ((0:Int)≤(i:Int))=true:=by simp
   have hwr:=a0c (show i<1000000 by omega);unfold b0Q;simp only[a6x,dlt hi,cT,d0,a01,←hz,hg,d0N hS cs[i].1 (show l.length≤100000 by omega),oB,c1];cases (a1n cs[i].1 l cs[i]).2 != 0 with
   |true=>simp only[cT,hwr]
   |false=>
    cases hf:a.2.1 with
    |false=>
     have e:(a.1==(0:Int))=true:=by rw[ha.1 hf];rfl
     simp only[cF,e,cT,a26,Bool.true_or,oB,hwr]
    |true=>
     have e:(a.1==(0:Int))=false:=by simpa using ha.2 hf
     simp only[cF,e,bT,a20,oB];cases decide (a4w (a1n cs[i].1 l cs[i]).1 (l.length:Int)<a.1)<;>simp only[cF,cT,hwr])
  (fun a _=>by simp only[a6x,dge,cF]) (a:=((0:Int),false,a0Q 0)) ⟨fun _=>rfl,fun h=>(by cases h)⟩
 simp only[nZ]at this;rw[this,c0w];rfl
theorem d0U{l:List Int}(h1:1≤l.length)(h2:l.length≤4096)(hw:l.all a0b=true)(hlag:c0u (a0F l))(hlb:b9y (a0F l)){k:Int}(h0:0≤k)(h3:k≤3):
  b1L (l,k)=some ((b5X l (a3u (a0F l) k)).2.2,0):=by
 have hs:short l:=by unfold short;omega
 have w1:=c2v hs hw;obtain⟨-,d2,d3,-⟩:=a5T h2 hw;have e1:decide (((l.length:Nat):Int)<1)=false:=decide_eq_false (by omega);have e2:decide (((l.length:Nat):Int) > 4096)=false:=decide_eq_false (by omega);have e3:decide (k<0)=false:=decide_eq_false (by omega);have e4:decide (k > 3)=false:=decide_eq_false (by omega);have hlen:(a3u (a0F l) k).length<1000:=by
  have g:=fun o w=>a5w (a0F l) o w;have q1:=g 4 12;have q2:=g 8 12;have q3:=g 1 12;have q4:=g 2 12;have q5:=g 12 14;have q6:=g 16 14;have hlc:(b5s (a0F l)).length≤1:=by unfold b5s;cases (a5v (a0F l)).2<;>simp
  simp only[a3u,a1h,a1T,a6H,c2Q,lN]
  split<;>split<;>split<;>simp[a5U]<;>omega
 have hb:=c8i (l:=l) (c0v d2 (by omega) hlag k) h2 hlen;have hz:a0Q 0=((0:Int),(0:Int),(0:Int),(0:Int),(0:Int),([]:(List Int)),a04 3 (0:Int),([]:(List (Int×Int×Unit))),([]:(List Int)),((0:Int),([]:(List Int)),()),([]:(List Int)),()):=rfl;unfold b1L;simp only[←hz,e1,e2,e3,e4,cF,oB,a0B hs,hw,bT,w1,c3I h2 hw,d5J d2 (show(a0F l).length≤4096 by omega) hlb,hb]
end Go.Ab
namespace Go.Ab
open IntKind(wrap)
theorem c3L{l:List Int}{lag:Nat}(hl:l.length≤4096)(a1 a2 a3 a4 r1 r2 r3:Int):∀(k n:Nat)(s:Int),n+k=l.length→lag≤n→
  ∃s',a0e b0y (l,a1,a2,a3,a4,(lag:Int),s,(n:Int),())=some (l,a1,a2,a3,a4,(lag:Int),s',())∧
   a0e a7P (l,r1,r2,r3,(lag:Int),s,(n:Int),())=some (l,r1,r2,r3,(lag:Int),s',())
 |0,n,s,hn,h=>by
  obtain rfl:n=l.length:=by omega
  exact⟨s,a0h (by simp only[b0y,dge,cF]),a0h (by simp only[a7P,dge,cF])⟩
 |k+1,n,s,hn,h=>by
  have hlt:n<l.length:=by omega
  have e1:wrap .i64 ((n:Int)-(lag:Int))=((n-lag:Nat):Int):=by rw[a0l (by omega)];omega
  have hnl:n-lag<l.length:=by omega
  have g:=a0d (l:=l) (i:=n-lag) hnl;have w:=a0c (show n<1000000 by omega);obtain⟨s',k1,k2⟩:=c3L (lag:=lag) hl a1 a2 a3 a4 r1 r2 r3 k (n+1) (wrap .i64 (s+a1r (wrap .i64 (l[n]-l[n-lag])) (wrap .i64 (0-wrap .i64 (l[n]-l[n-lag]))))) (by omega) (by omega);refine⟨s',?_,?_⟩;rw[←k1];exact a0k (by simp only[b0y,dlt hlt,cT,a0d hlt,oB,e1,g,w]);rw[←k2];exact a0k (by simp only[a7P,b4S,dlt hlt,cT,a0d hlt,oB,e1,g,w])
theorem b7j{l:List Int}(hl:l.length≤4096)(h2:256<l.length):∀(k lag best:Nat)(sum:Int),lag+k=257→(lag=16∧best=0∨16<lag∧16≤best∧best≤256)→
  ∃best':Nat,16≤best'∧best'≤256∧a0e b0z (l,(16:Int),(256:Int),(best:Int),sum,(lag:Int),())=some ((best':Int),())∧
   a0e a7Q (l,(256:Int),(best:Int),sum,(lag:Int),())=some ((best':Int),())
 |0,lag,best,sum,hk,hb=>by
  obtain rfl:lag=257:=by omega
  refine⟨best,by omega,by omega,a0h rfl,a0h rfl⟩
 |k+1,lag,best,sum,hk,hb=>by
  have d:decide ((lag:Int)≤256)=true:=by simp only[dT];omega
  obtain⟨s',k1,k2⟩:=c3L (lag:=lag) hl 16 256 (best:Int) sum 256 (best:Int) sum (l.length-256) 256 0 (by omega) (by omega);simp only[a02]at k1 k2;have w:=a0c (show lag<1000000 by omega);have c1:((lag:Int)==16)=((best:Int)==0):=by
   rcases hb with⟨rfl,rfl⟩|⟨h1,h3,h4⟩;rfl;rw[show((lag:Int)==16)=false from by simp;omega,show((best:Int)==0)=false from by simp;omega]
  cases hc:((best:Int)==0) || decide (s'<sum)with
  |true=>
   obtain⟨b',r1,r2,r3,r4⟩:=b7j hl h2 k (lag+1) lag s' (by omega) (.inr (by omega));refine⟨b',r1,r2,?_,?_⟩
   ·rw[←r3];refine a0k ?_
    simp only[b0z,d,cT]
    erw[k1]
    simp only[oB,c1];cases hb0:((best:Int)==0)with
    |true=>simp only[cT,oB,w]
    |false=>
     rw[hb0,a20]at hc;simp only[cF,oB,hc,cT,w]
   ·rw[←r4];refine a0k ?_
    simp only[a7Q,d,cT]
    erw[k2]
    simp only[oB];cases hb0:((best:Int)==0)with
    |true=>simp only[cT,oB,w]
    |false=>
     rw[hb0,a20]at hc;simp only[cF,oB,hc,cT,w]
  |false=>
   simp only[a30]at hc;obtain⟨hb0,hd⟩:=hc;have hbne:best≠0:=by simpa using hb0
   obtain⟨b',r1,r2,r3,r4⟩:=b7j hl h2 k (lag+1) best sum (by omega) (.inr (by omega));refine⟨b',r1,r2,?_,?_⟩;rw[←r3];refine a0k ?_
   simp only[b0z,d,cT]
   erw[k1]
   simp only[oB,c1,hb0,cF,hd,w];rw[←r4];refine a0k ?_
   simp only[a7Q,d,cT]
   erw[k2]
   simp only[oB,hb0,cF,hd,w]
theorem c8j{l:List Int}(hw:l.all a0b=true)(hl:l.length≤4096)(h2:256<l.length):∃b:Nat,16≤b∧b≤256∧a9m (l,(16:Int),(256:Int))=some ((b:Int),0)∧a6i (l,(16:Int),(256:Int))=some ((b:Int),0):=by
 obtain⟨b,b1,b2,r1,r2⟩:=b7j hl h2 241 16 0 0 rfl (.inl ⟨rfl,rfl⟩);simp only[nZ,a02]at r1 r2;have hs:short l:=by unfold short;omega
 have e1:decide (((l.length:Nat):Int) > 4096)=false:=decide_eq_false (by omega);have e2:decide (((l.length:Nat):Int)≤256)=false:=decide_eq_false (by omega);refine⟨b,b1,b2,?_,?_⟩;unfold a9m;simp only[show decide ((16:Int)<2)=false from rfl,show decide ((16:Int) > 256)=false from rfl,show decide ((256:Int) > 1024)=false from rfl,cF,e1,oB,e2,b3l hs,hw,bT]
 erw[r1]
 rfl;unfold a6i;simp only[show decide ((16:Int)<2)=false from rfl,show decide ((256:Int)<16)=false from rfl,show decide ((256:Int) > 1024)=false from rfl,cF,e1,oB,e2,a0B hs,hw,bT]
 erw[r2]
 rfl
def a5h:List (List Int):=[[0,0,0],[0,64,0],[0,32,0],[16,32,16],[21,22,21],[0,48,0],[-8,64,-8],[32,32,0],[0,32,32]]
theorem d1s{lag:Nat}(h1:2≤lag)(h2:lag≤1024):∀i (h:i<a5h.length),a5h[i].length=3∧a5R (lag:Int) a5h[i]=true:=by
 have h:a5h.all (fun t=>decide (t.length=3)&&t.all b8y)=true:=by decide
 intro i hi
 have:=lA.1 h _ (a19 hi)
 simp only[bA,dT]at this;refine⟨this.1,?_⟩;simp only[a5R,bA,dT];exact⟨by omega,by omega,this.2⟩
theorem d7f(l:List Int)(lag bs:Int)(fd:Bool)(n i:Int)(tab:List (List Int))(t0 t1 tp:List Int){r:List Int}(hr:r.length<100000):
  a0e a8g (l,lag,bs,fd,(0:Int),n,i,(r.length:Int),(0:Int),tab,r,t0,t1,tp,())=some (l,lag,bs,fd,a6B r,n,i,tab,t0,t1,tp,()):=by
 have:=a2F (f:=a8g) r (fun j (a:Int)=>(l,lag,bs,fd,a,n,i,(r.length:Int),(j:Int),tab,r,t0,t1,tp,()))
  (fun a x=>.inl (wrap .i64 (a+c4v x))) (fun _ _=>True) (fun a=>(l,lag,bs,fd,a,n,i,tab,t0,t1,tp,()))
  (fun j hj a _=>⟨fun a' ha'=>by
   simp only[Sum.inl.injEq]at ha';subst ha';have d0:decide ((0:Int)≤(j:Int))=true:=by simp
   have hg:a38 r (a39 (j:Int)) 0=r[j]:=by rw[tN,lD,lG hj];rfl
   refine⟨?_,trivial⟩;simp only[a8g,dlt hj,cT,d0,a01,hg,a0c (show j<1000000 by omega),c4v],fun b hb=>by cases hb⟩)
  (fun a _=>by simp only[a8g,dge,cF]) (a:=(0:Int)) trivial
 simp only[nZ]at this;rw[this,c0w];rfl
theorem b7Z{l:List Int}(hl:l.length≤4096)(hw:l.all a0b=true){lag:Nat}(h1:2≤lag)(h2:lag≤1024)(z:List Int):∀(k i:Nat)(bs:Int)(fd:Bool)(best:List Int)(bi:Int),i+k=9→
  (fd=false∧bi=-1∨fd=true∧∃j:Nat,j<9∧bi=(j:Int)∧a5h[j]?=some best)→
  ∃(fd':Bool)(best':List Int)(bi':Int),a0e a8h (l,(lag:Int),bs,fd,(9:Int),(i:Int),a5h,z,best,())=some (fd',z,best',())∧
   a0e a5D (l,(lag:Int),bi,bs,(i:Int),a5h,z,())=some (bi',a5h,z,())∧
   (fd'=false∧bi'=-1∨fd'=true∧∃j:Nat,j<9∧bi'=(j:Int)∧a5h[j]?=some best')
 |0,i,bs,fd,best,bi,hk,hr=>by
  obtain rfl:i=9:=by omega
  exact⟨fd,best,bi,a0h rfl,a0h rfl,hr⟩
 |k+1,i,bs,fd,best,bi,hk,hr=>by
  have hi:i<a5h.length:=by show i<9;omega
  have hi9:decide ((i:Int)<9)=true:=by simp only[dT];omega
  have hil:decide ((i:Int)<((a5h.length:Nat):Int))=true:=dlt hi;have d0:decide ((0:Int)≤(i:Int))=true:=by simp
  have hg:a38 a5h (a39 (i:Int)) (a04 3 0)=a5h[i]:=by rw[tN,lD,lG hi];rfl
  obtain⟨t1,t2⟩:=d1s h1 h2 i hi;have r1:=b7d (l:=l) t2 t1 (by omega);have r2:=b3y (l:=l) t2 t1 (by omega);have w:=a0c (show i<1000000 by omega);have hle:a5h[i]?=some a5h[i]:=lG hi;cases ho:b0i l (lag:Int) a5h[i]with
  |none=>
   rw[ho]at r1 r2;obtain⟨fd',best',bi',q1,q2,q3⟩:=b7Z hl hw h1 h2 z k (i+1) bs fd best bi (by omega) hr;have z6:((6:Int) != 0)=true:=rfl;have y6:((6:Int)==0)=false:=rfl;have tt:a9n ([],(0:Int))=some 0:=rfl;refine⟨fd',best',bi',?_,?_,q3⟩;rw[←q1];exact a0k (by simp only[a8h,hi9,hil,d0,a01,cT,hg,r1,a1d,oB,z6,w]);rw[←q2];exact a0k (by simp only[a5D,hil,d0,a01,cT,hg,r2,a1d,oB,tt,y6,cF,w])
  |some r=>
   rw[ho]at r1 r2;have hrl:r.length≤l.length:=Nat.le_of_eq (b2r ho).2.2;have z0:((0:Int) != 0)=false:=rfl;have y0:((0:Int)==0)=true:=rfl;have tt:=c9S (r:=r) (m:=0) (by omega) (by omega);simp only[nZ,a25]at tt;have ts:=d7f l (lag:Int) bs fd 9 (i:Int) a5h z best a5h[i] (r:=r) (by omega);have hcond:(!fd || decide (a6B r<bs))=(decide (bi<0) || decide (a6B r<bs)):=by
    rcases hr with⟨rfl,rfl⟩|⟨rfl,j,-,rfl,-⟩;rfl;rw[show decide ((j:Int)<0)=false from by simp];rfl
   cases hc:(!fd || decide (a6B r<bs))with
   |true=>
    obtain⟨fd',best',bi',q1,q2,q3⟩:=b7Z hl hw h1 h2 z k (i+1) (a6B r) true a5h[i] (i:Int) (by omega) (.inr ⟨rfl,i,by omega,rfl,hle⟩);refine⟨fd',best',bi',?_,?_,q3⟩
    ·rw[←q1];refine a0k ?_
     simp only[a8h,hi9,hil,d0,a01,cT,hg,r1,a1d,oB,z0,cF];rw[ts];simp only[oB];cases fd with
     |false=>simp only[a26,cT,oB,w]
     |true=>
      simp only[bT,a20]at hc;simp only[bT,cF,oB,hc,cT,w]
    ·rw[←q2];rw[hc]at hcond;refine a0k ?_
     simp only[a5D,hil,d0,a01,cT,hg,r2,a1d,oB,tt,y0];cases hb:decide (bi<0)with
     |true=>simp only[cT,oB,w]
     |false=>
      rw[hb,a20]at hcond;simp only[cF,oB,←hcond,cT,w]
   |false=>
    obtain⟨fd',best',bi',q1,q2,q3⟩:=b7Z hl hw h1 h2 z k (i+1) bs fd best bi (by omega) hr;refine⟨fd',best',bi',?_,?_,q3⟩
    ·rw[←q1];refine a0k ?_
     simp only[a8h,hi9,hil,d0,a01,cT,hg,r1,a1d,oB,z0,cF];rw[ts];simp only[oB];cases fd with
     |false=>simp at hc
     |true=>
      simp only[bT,a20]at hc;simp only[bT,cF,oB,hc,w]
    rw[←q2];rw[hc]at hcond;have hcond:=hcond.symm;simp only[a30]at hcond;refine a0k ?_
    simp only[a5D,hil,d0,a01,cT,hg,r2,a1d,oB,tt,y0,hcond.1,hcond.2,cF,w]
end Go.Ab
namespace Go.Ab
theorem d4A{l:List Int}(hl:l.length≤4096)(hw:l.all a0b=true){lag:Nat}(h1:2≤lag)(h2:lag≤1024):
  ∃(t:List Int)(e:Int),b1k (l,(lag:Int))=some (t,e)∧a8k (l,(lag:Int))=some (t,e)∧(e=0→t.length=3∧a5R (lag:Int) t=true):=by
 have d1:decide ((lag:Int)<2)=false:=by simp only[decide_eq_false_iff_not];omega
 have d2:decide ((lag:Int) > 1024)=false:=by simp only[decide_eq_false_iff_not];omega
 obtain⟨fd,best,bi,q1,q2,q3⟩:=b7Z hl hw h1 h2 (a04 3 0) 9 0 0 false (a04 3 0) (-1) rfl (.inl ⟨rfl,rfl⟩);simp only[nZ]at q1 q2;have t1:b6G ()=some a5h:=rfl;have t2:b2Z ()=some a5h:=rfl;have hl9:((a5h.length:Nat):Int)=9:=rfl;rcases q3 with⟨rfl,rfl⟩|⟨rfl,j,hj,rfl,hb⟩;refine⟨a04 3 0,6,?_,?_,fun h=>by cases h⟩;unfold b1k;simp only[d1,d2,cF,oB,t1,hl9,q1,a26,cT];unfold a8k;simp only[d1,d2,cF,oB,t2,q2,show decide ((-1:Int)<0)=true from rfl,cT];obtain⟨hjl,rfl⟩:=lS.1 hb;refine⟨a5h[j],0,?_,?_,fun _=>d1s h1 h2 j hjl⟩;unfold b1k;simp only[d1,d2,cF,oB,t1,hl9,q1,bT];have d3:decide ((j:Int)<0)=false:=by simp
 have d4:decide ((0:Int)≤(j:Int))=true:=by simp
 have d5:decide ((j:Int)<((a5h.length:Nat):Int))=true:=dlt hjl;have hg:a38 a5h (a39 (j:Int)) (a04 3 0)=a5h[j]:=by rw[tN,lD,lG hjl];rfl
 unfold a8k;simp only[d1,d2,cF,oB,t2,q2,d3,d4,d5,a01,cT,hg]
theorem d5K{d:List Int}(hw:d.all a0b=true)(hl:d.length≤4096):c0u d∧b9y d:=by
 by_cases h256:d.length≤256
 exact⟨d8b h256,c8h h256⟩;obtain⟨b,b1,b2,f1,f2⟩:=c8j hw hl (by omega);obtain⟨t,e,u1,u2,u3⟩:=d4A hl hw (lag:=b) (by omega) (by omega);have z0:((0:Int) != 0)=false:=rfl;have hzs:SmallS (a0Q 0):=c5U
 by_cases he:e=0
 rotate_left;have hne:(e != 0)=true:=by simpa using he
 have hp:a1D d=some (a0Q 0,false):=by
  unfold a1D;simp only[f1,oB,z0,cF,u1,hne,cT];rfl
 have hq:a2U d=some (a0Q 0,false):=by
  unfold a2U;simp only[f2,oB,z0,cF,u2,hne,cT];rfl
 have hlp:a5v d=(a0Q 0,false):=by unfold a5v;rw[hp];rfl
 exact⟨⟨by rw[hlp];exact hp,fun h=>by rw[hlp]at h;cases h⟩,⟨_,hq,by rw[hlp],fun h=>by cases h⟩⟩;subst he;obtain⟨t3,tb⟩:=u3 rfl;have r1:=b7d (l:=d) tb t3 (by omega);have r2:=b3y (l:=d) tb t3 (by omega);cases ho:b0i d (b:Int) t with
 |none=>
  rw[ho]at r1 r2;have z6:((6:Int) != 0)=true:=rfl;have hp:a1D d=some (a0Q 0,false):=by
   unfold a1D;simp only[f1,oB,z0,cF,u1,r1,a1d,z6,cT];rfl
  have hq:a2U d=some (a0Q 0,false):=by
   unfold a2U;simp only[f2,oB,z0,cF,u2,r2,a1d,z6,cT];rfl
  have hlp:a5v d=(a0Q 0,false):=by unfold a5v;rw[hp];rfl
  exact⟨⟨by rw[hlp];exact hp,fun h=>by rw[hlp]at h;cases h⟩,⟨_,hq,by rw[hlp],fun h=>by cases h⟩⟩
 |some r=>
  rw[ho]at r1 r2;obtain⟨-,rw',rl⟩:=b2r ho;obtain⟨c,sh,e2,g1,g2,g3⟩:=c7E rw' (by omega) (o:=4) (w:=12) (by omega) (by omega) (by omega);have hlin:=c0Y rw' (by omega) (o:=4) (w:=12) (by omega) (by omega) (by omega);have hfp:a6G r (4:Nat) (12:Nat)=(c,sh,e2):=by unfold a6G;rw[g1];rfl
  rw[hfp]at hlin;simp only[a02]at g1 g2 hlin
  by_cases h0:e2=0
  subst h0;obtain⟨S,hS⟩:∃S:Sub,S=((4:Int),(0:Int),(0:Int),sh,(b:Int),c,t,([]:List Stg),([]:List Int),((0:Int),([]:List Int),()),([]:List Int),()):=⟨_,rfl⟩;have hp:a1D d=some (S,true):=by
   unfold a1D;simp only[f1,oB,z0,cF,u1,r1,a1d,g1,hS]
  have hq:a2U d=some (S,true):=by
   unfold a2U;simp only[f2,oB,z0,cF,u2,r2,a1d,hlin,hS];rfl
  have hlp:a5v d=(S,true):=by unfold a5v;rw[hp];rfl
  have hcl:=g3 rfl;refine⟨⟨by rw[hlp];exact hp,fun _=>?_⟩,⟨_,hq,by rw[hlp],fun _=>by rw[hlp]⟩⟩;rw[hlp];subst hS;exact⟨by show c.length≤40;omega,t3,by simp,by simp,by simp,by simp⟩;have hne:(e2 != 0)=true:=by simpa using h0
  have hne2:(e2==0)=false:=by simpa using h0
  have hp:a1D d=some (a0Q 0,false):=by
   unfold a1D;simp only[f1,oB,z0,cF,u1,r1,a1d,g1,hne,cT];rfl
  have hlp:a5v d=(a0Q 0,false):=by unfold a5v;rw[hp];rfl
  refine⟨⟨by rw[hlp];exact hp,fun h=>by rw[hlp]at h;cases h⟩,?_⟩;unfold b9y a2U;simp only[f2,oB,z0,cF,u2,r2,a1d,hlin,hne2];exact⟨_,rfl,by rw[hlp],fun h=>by cases h⟩
end Go.Ab
namespace Go.Ab
def c2A(L:List Int):Prop:=∀b∈L,b=0∨b=1
theorem c2A.app{A B:List Int}(h:c2A A)(h':c2A B):c2A (A++B):=fun b hb=>(mA.1 hb).elim (h b) (h' b)
end Go.Ab
namespace Go.Ab
end Go.Ab
namespace Go.Ab
def OkR(P R:List Int):Prop:=c2A (P++R)∧(P++R).length<200000000
theorem OkR.shift{P A R:List Int}(h:OkR P (A++R)):OkR (P++A) R:=by
 unfold OkR at h⊢
 rwa [aA]
end Go.Ab
namespace Go.Ab
end Go.Ab
namespace Go.Ab
end Go.Ab
namespace Go.Ab
end Go.Ab
namespace Go.Ab
end Go.Ab
namespace Go.Ab
end Go.Ab
namespace Go.Ab
end Go.Ab
namespace Go.Ab
end Go.Ab
namespace Go.Ab
def b7k(n:Nat):List Int:=if h:n<128 then[(n:Int)]else((n%128+128:Nat):Int)::b7k (n / 128)
termination_by n
decreasing_by omega
end Go.Ab
namespace Go.Ab
def e2f(g:Int):Nat:=if 0≤g then(2*g).toNat else(-2*g-1).toNat
def e8(s:Int):Int:=bif (a0m .u8 s 7)==(1:Int)then bits .u8 .xor (a0D .u8 s 1) 7 else a0D .u8 s 1
def rep{α:Type}(f:α→α):Nat→α→α
 |0,s=>s
 |n+1,s=>rep f n (f s)
def g8(s c:Int):Int:=rep e8 8 (bits .u8 .xor s c)
end Go.Ab
namespace Go.Ab
@[reducible] def b8a:Type:=Int×(Int×(Int×Unit))
@[reducible] def c9Y:Type:=Int×(Int×(b8a×(List b8a×(List Sub×Unit))))
@[reducible] def c9Z:Type:=Int×(List (List Int)×Unit)
def d9a(n:Int)(s:b8a):Bool:=!(decide (s.1<0) || decide (s.1≥n) || decide (s.2.1<0) || decide (s.2.1≥n) || s.1==s.2.1)&&!(decide (s.2.2.1 < -1024) || decide (s.2.2.1 > 1024))
def d5L(l:List b8a)(n:Int):Prop:=1≤n∧n≤8∧l.length≤16∧l.all (d9a n)=true
instance (l:List b8a) (n:Int):Decidable (d5L l n):=by unfold d5L;infer_instance
def d5M(f:b8a):Prop:=1≤f.1∧f.1≤1048576∧1≤f.2.1∧f.2.1≤8∧4≤f.2.2.1∧f.2.2.1≤24
instance (f:b8a):Decidable (d5M f):=by unfold d5M;infer_instance
def frP(f:c9Y):Prop:=d5M f.2.2.1∧1≤f.2.1∧f.2.1≤4096∧0≤f.1∧f.1≤4194304-f.2.1∧d5L f.2.2.2.1 f.2.2.1.2.1
instance (f:c9Y):Decidable (frP f):=by unfold frP;infer_instance
def d9b(s:b8a):List Int:=b7k s.1.toNat++(b7k s.2.1.toNat++b7k (e2f s.2.2.1))
def hb(f:c9Y)(body:Nat):List Int:=
 [245,75]++(b7k f.1.toNat++(b7k f.2.1.toNat++(b7k f.2.2.1.1.toNat++(b7k f.2.2.1.2.1.toNat++(b7k f.2.2.1.2.2.1.toNat++(b7k f.2.2.2.1.length++(f.2.2.2.1.flatMap d9b++b7k body)))))))
end Go.Ab
namespace Go.Ab
end Go.Ab
namespace Go.Ab
end Go.Ab
namespace Go.Ab
end Go.Ab
namespace Go.Ab
def d6C(c:List (List Int)):Prop:=1≤c.length∧c.length≤8∧(c.headD []).length≤4096∧c.all (fun r=>decide (r.length=(c.headD []).length)&&r.all a0b)=true
instance (c:List (List Int)):Decidable (d6C c):=by unfold d6C;infer_instance
end Go.Ab
namespace Go.Ab
end Go.Ab
namespace Go.Ab
def d5N(b:c9Z):Nat:=(b.2.1.headD []).length
def d8c(b:c9Z):Prop:=4≤b.1∧b.1≤24∧1≤b.2.1.length∧b.2.1.length≤8∧1≤d5N b∧d5N b≤4096∧b.2.1.all (fun r=>decide (r.length=d5N b)&&r.all fun x=>a2B x b.1)=true
instance (b:c9Z):Decidable (d8c b):=by unfold d8c;infer_instance
end Go.Ab
namespace Go.Ab
end Go.Ab
namespace Go.Ab
end Go.Ab
namespace Go.Ab
end Go.Ab
namespace Go.Ab
open IntKind(wrap)
theorem e2g(k:Nat)(hk:k≤62)(y:Int):∃v:Nat,bits .i64 .and y ((2^k-1:Nat):Int)=(v:Int)∧v<2^k:=by
 have hp:2^k≤2^62:=Nat.pow_le_pow_right (by omega) hk;have h0:0<2^k:=Nat.pow_pos (by omega);have h:((a08 64 y) &&& (a08 64 ((2^k-1:Nat):Int))).toNat=(a08 64 y).toNat%2^k:=by
  rw[BitVec.toNat_and];have e:(a08 64 ((2^k-1:Nat):Int)).toNat=2^k-1:=by
   rw[BitVec.toNat_ofInt];generalize 2^k=p at *;omega
  rw[e,Nat.and_two_pow_sub_one_eq_mod]
 have hlt:=a43 (a08 64 y).toNat h0;refine⟨(a08 64 y).toNat%2^k,?_,hlt⟩;show wrap .i64 ((((a08 64 y) &&& (a08 64 ((2^k-1:Nat):Int))).toNat:Nat):Int)=_;rw[h];generalize (a08 64 y).toNat%2^k=z at *;exact a0l (by omega)
end Go.Ab
namespace Go.Ab
def b7l(l:List Int)(lo:Int)(i:Nat):Int:=l.getD (i%l.length) 0+((i / l.length:Nat):Int)*(lo%5)
def b1q(l:List Int)(lo:Int)(n:Nat):List Int:=(a42 n).map (b7l l lo)
theorem c7F{l:List Int}{lo:Int}{i:Nat}(hi:i<290):0≤((i / l.length:Nat):Int)*(lo%5)∧((i / l.length:Nat):Int)*(lo%5)≤1156:=by
 have hd:i / l.length≤i:=a41 _ _;generalize i / l.length=q at hd⊢;have h5:0≤lo%5∧lo%5≤4:=by omega
 refine⟨Int.mul_nonneg (by omega) h5.1,?_⟩
 have:=Int.mul_le_mul (a:=(q:Int)) (b:=lo%5) (c:=289) (d:=4) (by omega) h5.2 h5.1 (by omega)
 omega
theorem c3M{l:List Int}(h:∀a∈l,-32768≤a∧a≤32767)(h0:1≤l.length){lo:Int}{i:Nat}(hi:i<290):-32768≤b7l l lo i∧b7l l lo i≤34000:=by
 have hm:i%l.length<l.length:=a43 _ (by omega);have hg:l.getD (i%l.length) 0∈l:=by rw[lD,lG hm];exact a19 hm
 have:=h _ hg
 obtain⟨hp0,hp⟩:=c7F (l:=l) (lo:=lo) hi;unfold b7l;omega
theorem d3n{l:List Int}(h:∀a∈l,-32768≤a∧a≤32767)(h0:1≤l.length)(h40:l.length≤40){lo:Int}(hlo:0≤lo)(k:Int):
  a0e a5H (l,lo,k,((l.length:Nat):Int),(0:Int),[],())=some (k,b1q l lo 290,()):=by
 have:=a0G (f:=a5H) (fun i:Nat=>(l,lo,k,((l.length:Nat):Int),(i:Int),b1q l lo i,())) 290 (b:=(k,b1q l lo 290,()))
  (fun i hi=>by
   have d:decide ((i:Int)<290)=true:=by simp only[dT];omega
   have z:(((l.length:Nat):Int)==0)=false:=by simp only[beq_eq_false_iff_ne,ne_eq];omega
   have e1:Int.tmod (i:Int) ((l.length:Nat):Int)=((i%l.length:Nat):Int):=rfl;have e2:Int.tdiv (i:Int) ((l.length:Nat):Int)=((i / l.length:Nat):Int):=rfl;have hm:i%l.length<l.length:=a43 _ (by omega);have e3:Int.tmod lo 5=lo%5:=Int.tmod_eq_emod_of_nonneg hlo;have hw:=c3M h h0 (lo:=lo) hi;have hle:(b1q l lo i).length=i:=by simp[b1q]
   have hg:=h _ (a19 hm);have hv:b7l l lo i=l[i%l.length]+((i / l.length:Nat):Int)*(lo%5):=by
    unfold b7l;rw[lD,lG hm];rfl
   obtain⟨hp0,hp⟩:=c7F (l:=l) (lo:=lo) hi;have hq0:0≤((i / l.length:Nat):Int):=a33 _;have hq1:((i / l.length:Nat):Int)≤(i:Int):=Int.ofNat_le.2 (a41 _ _);have hs:b1q l lo (i+1)=b1q l lo i++[b7l l lo i]:=by simp[b1q,a29]
   simp only[a5H,d,cT,z,cF,e1,a0d hm,oB,e2,e3,hle,a9Z (show i+1<2147483648 by omega),a0c (show i<1000000 by omega),a06,hs];rw[a0l (n:=l[i%l.length]) (by omega),a0l (n:=((i / l.length:Nat):Int)) (by omega),a0l (n:=lo%5) (by omega),a0l (n:=((i / l.length:Nat):Int)*(lo%5)) (by omega),←hv,a0l (by omega)])
  (by
   have d:decide (((290:Nat):Int)<290)=false:=by decide
   simp only[a5H,d,cF])
 simp only[nZ]at this;exact this
theorem d8d{n:Int}(h:Wf (.int .i16) n):-32768≤n∧n≤32767:=by
 have h:(decide (IntKind.min .i16≤n)&&decide (n≤IntKind.max .i16))=true:=h;simp only[bA,dT]at h;have h1:IntKind.min .i16=-32768:=rfl;have h2:IntKind.max .i16=32767:=rfl;omega
theorem d9c{n:Int}(h:Wf (.int .u8) n):0≤n:=by
 have h:(decide (IntKind.min .u8≤n)&&decide (n≤IntKind.max .u8))=true:=h;simp only[bA,dT]at h;have h1:IntKind.min .u8=0:=rfl;omega
theorem d0a(x:List Int×(Int×Int))(h:∀a∈x.1,-32768≤a∧a≤32767)(hlo:0≤x.2.1):b3W x=some true:=by
 obtain⟨l,lo,k⟩:=x;have h:∀a∈l,-32768≤a∧a≤32767:=h;have hlo:0≤lo:=hlo;unfold b3W;simp only[d2P,oB,bT,cF]
 by_cases h1:((l.length:Nat):Int)<1
 rw[decide_eq_true h1];rfl;rw[decide_eq_false h1]
 by_cases h2:((l.length:Nat):Int) > 40
 rw[decide_eq_true h2];rfl;rw[decide_eq_false h2];simp only[cF,oB];have hL:=d3n h (by omega) (by omega) hlo k;rw[hL];obtain⟨w,hw,hw2⟩:=e2g 2 (by omega) k;rw[show((2^2-1:Nat):Int)=3 from rfl]at hw;have hw3:w<4:=hw2;generalize hm:b1q l lo 290=m;have hml:m.length=290:=by rw[←hm];simp[b1q]
 have hmw:m.all a0b=true:=lA.2 fun x hx=>by
  rw[←hm]at hx;obtain⟨i,hi,rfl⟩:=List.mem_map.1 hx
  have:=c3M h (by omega) (lo:=lo) (List.mem_range.1 hi)
  exact a3h.2 (by omega)
 obtain⟨-,d2,d3,-⟩:=a5T (l:=m) (by omega) hmw;obtain⟨g1,g2⟩:=d5K d2 (by omega);obtain⟨s,b1,b2,b3,b4,-⟩:=d3f (l:=m) (by omega) (by omega) hmw g1 (k:=(w:Int)) (by omega) (by omega);have b5:=d0U (l:=m) (by omega) (by omega) hmw g1 g2 (k:=(w:Int)) (by omega) (by omega);rw[←b4]at b5;have hrow:=c5z b2 ((m.length:Nat):Int);rw[b3]at hrow;simp only[oB,hw,b1,b5,hrow,c5y b2,decide_true,cT,beq_self_eq_true,b1n (show short m by unfold short;omega)]
end Go.Ab
namespace Go.Proofs.YtimgpmdfgkgobabGreatDoor
open Go.Ab Go.ChangeShapes Go.WideShapes Go.ChangeAt Go.RowKit
theorem c2B{α:Type}{f:Nat→Option (α×a1g×List Nat)}:∀(L:List α)(i:Nat),(∀(j:Nat) x,L[j]?=some x→f (i+j)=some (x,[],[]))→a0g f L.length i=some (L,[],[])
 | [],_,_=>rfl
 |a::L,i,h=>by
  have h0:=h 0 a rfl;have h1:=c2B L (i+1) (fun j x hx=>by have:=h (j+1) x (by simpa using hx);rw[←this];congr 1;omega);simp only[lC,a0g];simp only[a35]at h0;rw[h0,h1];rfl
section
variable {H:Type} {enc:TypeId×Value→H} {P:Program} {w:World} {base:Nat} {spare:Nat→Bool} {held:Bool}
theorem c8k{k:IntKind}{n:Nat}{t e:TypeId}{fuel:Nat}{cs:List Value}{L:List Int}{p:List MemPlace}(ht:P.underlying t=some (.array n e))(he:P.underlying e=some (.int k))(hc:P.cellsOf e=1)
  (h:DataW.trod enc P w base spare held fuel t cs=some (.agg (L.map fun i=>.lit (.int k i)),p)):L.length=n∧∀(j:Nat) x,L[j]?=some x→cs[j]?=some (.int k x):=by
 obtain⟨xs,m,rfl,hx,-,hn,hel⟩:=DataW.trod_array ht h;simp only[pJ,DataW.agg.injEq]at hx;have hl:L.length=n:=by rw[←hn];simpa using congrArg List.length hx.1
 refine⟨hl,fun j x hj=>?_⟩;obtain⟨hjl,-⟩:=lS.1 hj;have h1:=hel j (by omega);rw[hc]at h1;obtain⟨y,hy⟩:∃y,xs[j]?=some y:=⟨_,lG (by omega)⟩;rw[hy]at h1;obtain⟨i,e1,e2,-⟩:=DataW.trod_int he h1;have h2:=congrArg (fun l=>l[j]?) hx.1;simp only[List.getElem?_map,hj,hy,Option.map_some,e2]at h2;simp only[sj,DataW.lit.injEq,Lit.int.injEq,true_and]at h2;subst h2;have h3:=congrArg (fun l=>l[0]?) e1;simpa[List.getElem?_drop,List.getElem?_take]using h3
end
def d1t : String := (Rows.subAgainRow.laid.map Prod.fst).headD ""
theorem e2h:Tryz.prog.globalNamed d1t=some 0:=by kernel_rfl
def d5O:TypeId:=((Tryz.prog.globals[0]?).map (·.type)).getD 0
theorem d7g:(Tryz.prog.globals[0]?).map (·.type)=some d5O:=by kernel_rfl
def d5P:TypeId:=match Tryz.prog.underlying d5O with
 |some (.array _ e)=>e
 |_=>0
theorem e2i:Tryz.prog.underlying d5O=some (.array 64 d5P):=by kernel_rfl
theorem d9d:Tryz.prog.underlying d5P=some (.int .u8):=by kernel_rfl
theorem d9e:Tryz.prog.cellsOf d5P=1:=by kernel_rfl
@[reducible] def laidTab:List (String×DataW Unit):=[(d1t,Rows.laid_math_bits_deBruijn64tab)]

theorem d8e {g:Nat} {t:Ty} {x:t.den} (h:G0 g=some ⟨t,x⟩):g=0∧(⟨t,x⟩:(t:Ty)×t.den)=⟨.arr 64 (.int .u8),b4k⟩:=by
 unfold G0 find at h
 cases g with
 |zero=>exact⟨rfl,(Option.some.inj h).symm⟩
 |succ n=>exact absurd h (by simp[find])
theorem d0b{W:World}(h:laidMetH Tryz.prog laidTab W):∀g t x,G0 g=some ⟨t,x⟩→g<W.heap.size∧dec (a0a W none) t ((Src.at g 0).rd (a0a W none))=some (x,[],[]):=by
 rw[MakeChecks.laidMetH_plain _ _ _ (by kernel_rfl)]at h;obtain⟨ps,⟨g0,t0,cs0,f0,p0,q0,hg0,ht0,hv0,hd0,_⟩,_,_⟩:=h;obtain rfl:=Option.some.inj (e2h.symm.trans hg0);obtain rfl:=Option.some.inj (d7g.symm.trans ht0);have e0:(Rows.laid_math_bits_deBruijn64tab:DataW Unit)=.agg (b4k.map fun i=>.lit (.int .u8 i)):=rfl;rw[e0]at hd0;obtain⟨hl,hc⟩:=c8k e2i d9d d9e hd0;have hcell:∀(j:Nat) x,b4k[j]?=some x→W.cell? ⟨0,j,none⟩=some (.int .u8 x):=fun j x hx=>by
  rw[World.var?_cell hg0 hv0 j];simpa using hc j x hx
 intro g t x hG;obtain⟨rfl,e⟩:=d8e hG;cases e;refine⟨d1g (hcell 0 0 rfl),?_⟩;exact c2B (f:=fun i=>dec (a0a W none) (.int .u8) fun j=>(Src.at 0 0).rd (a0a W none) (i*1+j)) b4k 0 (fun j x hx=>by
  have:=hcell j x hx
  simp only[dec,Src.rd,a0a,Nat.zero_add,Nat.mul_one,a35,this,if_true])
set_option maxRecDepth 100000 in
theorem d5Q (os:Os) (args:Array Value):laidMetH Tryz.prog laidTab ((World.doorLaid Tryz.prog 400 os).forCall (fun _ _=>0) ⟨#[],args,[]⟩).memory:=
 laidMetH_of_parts3 (fuel:=8) (laidMet_of_run' 8 (by kernel_rfl) (by kernel_rfl)) (by kernel_rfl) (by kernel_rfl)
end Go.Proofs.YtimgpmdfgkgobabGreatDoor
