/- Part of the proof: QZH. Conditions: as each statement tells. -/
import Derived.KernelRfl
import Derived.Test.YtbadoabamddpfaaGreatDoorRows
import Derived.ProofKit
import Derived.LaidMore
import Derived.LaidLaws
import Derived.LaidHandle
import Derived.LaidByTextLater
import Derived.OpenShut
import Derived.Handed
import Derived.Test.YtbadoabamddpfaaGreatDoorMF
noncomputable section
set_option linter.unusedSimpArgs false
set_option linter.unusedVariables false
open Bool renaming and_self→a02,not_false→a06,and_eq_false_iff→a26,eq_false_iff→a27,true_and→a30,not_eq_true'→a33,or_eq_true→a51,or_eq_false_iff→a56,false_and→a71
open Int renaming cast_ofNat_Int→a05,toNat→a21,eq_ofNat_of_zero_le→a23,natCast_nonneg→a31,fdiv_eq_ediv_of_nonneg→a42,natCast_inj→a68
open List renaming take_succ_eq_append_getElem→a00,replicate→a01,getElem_mem→a03,append_eq→a04,nil_append→a07,all_cons→a08,drop_eq_getElem_cons→a09,length_map→a19,append_nil→a20,length_take→a22,mem_singleton→a24,all_append→a25,drop_zero→a28,getElem?_take→a32,getD→a34,drop_eq_nil_of_le→a35,getElem?_set_self→a36,not_mem_nil→a37,drop_length→a38,mem_append_left→a39,getElem?_set_ne→a40,ext_getElem?→a43,mem_or_eq_of_mem_set→a44,take_length→a45,length_eq_zero_iff→a48,take_of_length_le→a49,range_succ→a50,length_set→a52,set→a53,length_singleton→a54,take_zero→a55,map_congr_left→a57,map_cons→a58,mem_cons_self→a59,getElem?_drop→a60,all_nil→a61,mem_map→a62,map_nil→a63,all_map→a64,length_drop→a65,ext_getElem→a66,foldl_cons→a67,length_nil→a69,range→a70
open Nat renaming le_refl→a18,pow_le_pow_right→a29,two_pow_pos→a41,lt_trans→a46,add_zero→a47
open Option renaming bind_eq_some_iff→a16,map_eq_some_iff→a17
namespace Go.Ab
open IntKind(wrap)
def a0O(k:Int)(s:Sub):Sub:=
 (k,(0:Int),(if k=2 then s.2.2.1 else 0),(if k=3∨k=4 then s.2.2.2.1 else 0),(if k=4 then s.2.2.2.2.1 else 0),(if k=3∨k=4 then s.2.2.2.2.2.1 else[]),
  ((if k=4 then s.2.2.2.2.2.2.1 else a01 3 (0:Int)),(if k=5 then s.2.2.2.2.2.2.2.1 else[]),([]:List Int),((0:Int),([]:List Int),()),([]:List Int),()))
def z0:Prt:=((0:Int),([]:List Int),())
def a1I(s:Sub)(w:Nat)(wm:List Int)(p:Prt)(r:List Int):Sub:=
 (s.1,(w:Int),s.2.2.1,s.2.2.2.1,s.2.2.2.2.1,s.2.2.2.2.2.1,s.2.2.2.2.2.2.1,s.2.2.2.2.2.2.2.1,wm,p,r,())
theorem c9O{s:Sub}(h:SmallS s)(k:Int):a7g (k,s)=some (a0O k s):=by
 have f:short s.2.2.2.2.2.1:=by have:=h.coefs;unfold short;omega
 have g:short s.2.2.2.2.2.2.2.1:=by have:=h.stages;unfold short;omega
 grind[a7g,a0O,b8n,c1L]
theorem c0M{s:Sub}(h:SmallS s)(k:Int):SmallS (a0O k s):=by
 have g:=h.coefs;have f:=h.taps;have a:=h.stages;refine⟨?_,?_,?_,by simp[a0O],by simp[a0O],by simp[a0O]⟩<;>simp only[a0O]<;>split<;>first|omega|simp
theorem b8B{s:Sub}{k n:Int}:a2W (a0O k s).1 (a0O k s) n↔a2W k s n:=by
 unfold a2W a0O
 grind
open Classical in
def a1T (l:List Int):Nat:=if h:∃w,a8A l w then h.choose else 0
theorem c7E{l:List Int}{w:Nat}(h:a8A l w):a1T l=w:=by
 unfold a1T;rw[dif_pos ⟨w,h⟩];exact(Classical.choose_spec (⟨w,h⟩:∃w,a8A l w)).unique h
def a0S(l:List Int):List Int:=l.map fun x=>z0h .i64 x (a1T l:Int)
theorem a8B{l:List Int}(h:short l)(g:l.all a0C=true):a4r l=some ((a1T l:Nat):Int)∧a1T l≤30∧a8A l (a1T l):=by
 grind[c2q,c7E]
theorem c0N{l:List Int}(h:short l)(g:l.all a0C=true):a6M l=some ((a1T l:Nat):Int):=by
 grind[c5p,c7E]
theorem a4a{l:List Int}(a:l.length≤4096)(f:l.all a0C=true):b2B ((a1T l:Nat):Int) l=some (a0S l)∧(a0S l).all a0C=true∧(a0S l).length=l.length∧upO ((a1T l:Nat):Int) (a0S l)=some l:=by
 obtain⟨-,g,k⟩:=a8B (show short l by unfold short;omega) f;have h:=d2O g f k;exact⟨h,d2M g h⟩
theorem c1S{l:List Int}(q:l.length≤4096)(g:l.all a0C=true):b3Q (l,((a1T l:Nat):Int))=some (a0S l,0):=by
 have h:short l:=by unfold short;omega
 have n:=c0N h g;obtain⟨-,p,-⟩:=a8B h g;have k:decide (((a1T l:Nat):Int)<0)=false:=by simp
 have j:decide (((a1T l:Nat):Int) > 30)=false:=by grind
 have m:decide (((a1T l:Nat):Int)<((a1T l:Nat):Int))=false:=by simp
 have d:wrap .u64 ((a1T l:Nat):Int)=((a1T l:Nat):Int):=a1m (by omega)
 have:=a0R (f:=b2c) (fun i:Nat=>(l,((a1T l:Nat):Int),(i:Int),(a0S l).take i,())) l.length (b:=(a0S l,()))
  (fun i a=>by
   have c:(a0S l).length=l.length:=by simp[a0S]
   have o:lim (((a0S l).take i).length+1)=true:=a0I (by grind);have e:(a0S l).take i++[z0h .i64 l[i] ((a1T l:Nat):Int)]=(a0S l).take (i+1):=by
    grind[b1E,a0S]
   simp only[b2c,dlt a,cT,a0A a,oB,d,k,cF,o,a04,e,a0B (show i<1000000 by omega)])
  (by simp_all[b2c,a49,a0S])
 simp at this;unfold b3Q;simp only[k,j,cF,oB,a0M h,g,bT,n,m,this]
theorem c5r{l d:List Int}{o k:Int}(n:short d):x0r a4h (l,o,d,k,(1:Int),([]:List Int),())=some (l,o,k,dif d,()):=by
 have p:d.length<1000000:=n
 have:=a0R (f:=a4h) (fun i:Nat=>(l,o,d,k,((i+1:Nat):Int),(dif d).take i,())) (d.length-1) (b:=(l,o,k,dif d,()))
  (fun i r=>by
   have h:i+1<d.length:=by omega
   have g:i<d.length:=by omega
   have j:lim (((dif d).take i).length+1)=true:=a0I (by grind);have c:wrap .i64 (((i+1:Nat):Int)-1)=(i:Int):=by grind[a0F]
   have q:=c1a d i _ _ (lG g) (lG h);have m:i<(dif d).length:=by grind
   have e:(dif d).take i++[wrap .i64 (d[i+1]-d[i])]=(dif d).take (i+1):=by
    grind[b1E]
   simp only[a4h,dlt h,cT,a0A h,c,a0A g,oB,j,a04,e,a0B (show i+1<1000000 by omega)])
  (by
   have a:decide (((d.length-1+1:Nat):Int)<((d.length:Nat):Int))=false:=decide_eq_false (by omega);simp only[a4h,a,cF];simp_all[a49,a5a])
 simp_all
theorem b5H{l:List Int}{o:Nat}(r:o≤4)(q:o≤l.length)(g:short l)(n:l.all a0C=true):
  a2B (l,(o:Int))=some (bif (a1F o l).all a0C then(a1F o l,0)else([],6)):=by
 have m:l.length<1000000:=g;have h:=a0R (f:=a6p) (fun k:Nat=>(l,(o:Int),a1F k l,(k:Int),())) o (b:=(l,a1F o l,()))
  (fun k p=>by
   have a:decide ((k:Int)<(o:Int))=true:=by simp_all
   simp only[a6p,a,cT,c5r (b2z g k),oB,a0B (show k<1000000 by omega),a1F])
  (by
   have a:decide ((o:Int)<(o:Int))=false:=by simp
   simp_all[a6p])
 have c:decide ((o:Int)<0)=false:=by simp
 have d:decide ((o:Int) > 4)=false:=by grind
 have e:decide (((l.length:Nat):Int)<(o:Int))=false:=by simp_all
 have i:lim (0+l.length)=true:=a4o (by omega);simp at h;have j:a1F 0 l=l:=rfl;rw[j]at h;unfold a2B;simp only[c,d,e,i,cF,cT,oB,a04,a07,h,a0M g,n,bT,a0M (b2z g o)]
 grind
def a2O(k:Int)(s:Sub)(d:List Int):Option (List Int×List Int):=
 if k=2 then(bif (a1F s.2.2.1.toNat d).all a0C then some (d.take s.2.2.1.toNat,a1F s.2.2.1.toNat d)else none)
 else if k=3 then(b3K d s.2.2.2.2.2.1 s.2.2.2.1).map fun r=>(d.take s.2.2.2.2.2.1.length,r)
 else if k=4 then(b2C d s.2.2.2.2.1 s.2.2.2.2.2.2.1).bind fun x=>(b3K x s.2.2.2.2.2.1 s.2.2.2.1).map fun r=>(x.take s.2.2.2.2.2.1.length,r)
 else(a9S d s.2.2.2.2.2.2.2.1).map fun r=>([],r)
theorem c2t{k:Int}{s:Sub}{d wm r:List Int}(j:k=2∨k=3∨k=4∨k=5)(i:a2W k s (d.length:Int))(n:d.all a0C=true)(h:a2O k s d=some (wm,r)):
  wm.length≤d.length∧r.length=d.length-wm.length∧r.all a0C=true∧wm.all a0C=true:=by
 have f:=i;simp only[a2W]at f;rcases j with rfl|rfl|rfl|rfl
 ·have:0≤s.2.2.1∧s.2.2.1≤(d.length:Int):=by omega
  simp[a2O]at h;cases hq:(a1F s.2.2.1.toNat d).all a0C with
  |false=>simp_all
  |true=>
   simp[hq]at h;obtain⟨rfl,rfl⟩:=h;simp_all[a5e,b1w]
 have:(s.2.2.2.2.2.1.length:Int)≤(d.length:Int):=by omega
 simp only[a2O,show ¬ (3:Int)=2 by simp,if_false,if_true,a17,pJ]at h;obtain⟨c,g,rfl,rfl⟩:=h;obtain⟨-,a,b⟩:=b8w g
 grind
 have:(s.2.2.2.2.2.1.length:Int)≤(d.length:Int):=by omega
 simp only[a2O,show ¬ (4:Int)=2 by simp,show ¬ (4:Int)=3 by simp,if_false,if_true,a16,a17,pJ]at h;obtain⟨x,e,c,g,rfl,rfl⟩:=h;obtain⟨-,l,m⟩:=b6D e;obtain⟨-,a,b⟩:=b8w g
 grind
 simp only[a2O,show ¬ (5:Int)=2 by simp,show ¬ (5:Int)=3 by simp,show ¬ (5:Int)=4 by simp,if_false,a17,pJ]at h;obtain⟨c,g,rfl,rfl⟩:=h;obtain⟨-,a,b⟩:=c3u g;simp_all
theorem d1g{k:Int}{s:Sub}{d:List Int}(v:k=2∨k=3∨k=4∨k=5)(h:SmallS s)(q:a2W k s (d.length:Int))(D:d.length≤4096)(y:d.all a0C=true)(w:Nat):
  b3o (a1I (a0O k s) w [] z0 [],d)=some (match a2O k s d with|none=>(6,a1I (a0O k s) w [] z0 [])|some (wm,r)=>(0,a1I (a0O k s) w wm z0 r)):=by
 have l:=h.taps;have g:=h.stages;have i:short d:=by unfold short;omega
 obtain⟨k',w',o,sh,lag,c,t,st,z,p,E,u⟩:=s;simp only[a2W]at q l g;unfold b3o;rcases v with rfl|rfl|rfl|rfl;obtain⟨n,C,e⟩:0≤o∧o≤4∧o≤(d.length:Int):=by omega
 obtain⟨O,rfl⟩:=a23 n;have g:short (d.take O):=by unfold short;grind
 have j:decide ((O:Int)≤((d.length:Nat):Int))=true:=by simp_all
 simp only[a1I,a0O,a2O,if_true,show((2:Int)==2)=true from rfl,cT,b4t (show O≤4 by omega) (show O≤d.length by omega) i y,oB,tN]
 grind[b6u,a0Y,a7P]
 ·obtain⟨f,e⟩:a5R c sh=true∧(c.length:Int)≤(d.length:Int):=by simp_all
  have g:short (d.take c.length):=by unfold short;grind
  have m:decide ((0:Int)≤((c.length:Nat):Int))=true:=by simp
  have j:decide (((c.length:Nat):Int)≤((d.length:Nat):Int))=true:=by simp_all
  simp only[a1I,a0O,a2O,show((3:Int)==2)=false from rfl,show((3:Int)==3)=true from rfl,show ¬ (3:Int)=2 by simp,show ¬ (3:Int)=4 by simp,show ¬ (3:Int)=5 by simp,true_or,if_true,if_false,cT,cF,b7M f (show c.length≤d.length by omega) (show d.length<100000 by omega),oB];cases b3K d c sh with
  |none=>rfl
  |some r=>simp_all[a2o,b6u,a0Y,a7P]
 ·obtain⟨f,e,a⟩:a5R c sh=true∧(c.length:Int)≤(d.length:Int)∧a7b lag t=true:=by simp_all
  simp[a1I,a0O,a2O,c6j a l (show d.length<100000 by omega)];cases hx:b2C d lag t with
  |none=>rfl
  |some x=>
   obtain⟨-,A,B⟩:=b6D hx;have g:short (x.take c.length):=by unfold short;grind
   have m:decide ((0:Int)≤((c.length:Nat):Int))=true:=by simp
   have j:decide (((c.length:Nat):Int)≤((x.length:Nat):Int))=true:=by simp_all
   simp[a2o,b7M f (show c.length≤x.length by omega) (show x.length<100000 by omega)]
   grind[b6u,a0Y,a7P]
 ·obtain⟨e,b⟩:0<st.length∧a4U st=true:=by simp_all
  have g:short (d.take 0):=by simp[short]
  simp only[a1I,a0O,a2O,show((5:Int)==2)=false from rfl,show((5:Int)==3)=false from rfl,show((5:Int)==4)=false from rfl,show((5:Int)==5)=true from rfl,show ¬ (5:Int)=2 by simp,show ¬ (5:Int)=3 by simp,show ¬ (5:Int)=4 by simp,or_self,if_true,if_false,cT,cF,c5o b (show d.length<100000 by omega),oB];cases a9S d st with
  |none=>rfl
  |some r=>
   rfl
theorem d2P{k:Int}{s:Sub}{d:List Int}(A:k=2∨k=3∨k=4∨k=5)(h:SmallS s)(z:a2W k s (d.length:Int))(G:d.length≤4096)(B:d.all a0C=true)(w:Nat):
  (a2O k s d=none→∃a b,b2i (a1I (a0O k s) w [] z0 [],d)=some (a,b,6))∧
   (∀e r,a2O k s d=some (e,r)→b2i (a1I (a0O k s) w [] z0 [],d)=some (e,r,0)):=by
 have v:=h.taps;have q:=h.stages;have n:short d:=by unfold short;omega
 obtain⟨k',w',o,sh,lag,c,t,st,C,p,H,u⟩:=s;simp only[a2W]at z v q;unfold b2i;rcases A with rfl|rfl|rfl|rfl
 ·obtain⟨y,F,m⟩:0≤o∧o≤4∧o≤(d.length:Int):=by omega
  obtain⟨O,rfl⟩:=a23 y;have g:decide ((0:Int)≤(O:Int))=true:=by simp
  have f:decide ((O:Int)≤((d.length:Nat):Int))=true:=by simp_all
  simp only[a1I,a0O,a2O,if_true,show((2:Int)==2)=true from rfl,cT,b5H (show O≤4 by omega) (show O≤d.length by omega) n B,oB,tN,g,f,a02];cases (a1F O d).all a0C with
  |false=>simp
  |true=>simp
 ·obtain⟨i,m⟩:a5R c sh=true∧(c.length:Int)≤(d.length:Int):=by simp_all
  have g:decide ((0:Int)≤((c.length:Nat):Int))=true:=by simp
  have f:decide (((c.length:Nat):Int)≤((d.length:Nat):Int))=true:=by simp_all
  simp only[a1I,a0O,a2O,show((3:Int)==2)=false from rfl,show((3:Int)==3)=true from rfl,show((3:Int)==4)=false from rfl,show ¬ (3:Int)=2 by simp,show ¬ (3:Int)=4 by simp,show ¬ (3:Int)=5 by simp,true_or,if_true,if_false,cT,cF,oB,b4D i (show c.length≤d.length by omega) (show d.length<100000 by omega),g,f,a02,tN];cases b3K d c sh with
  |none=>exact⟨fun _=>⟨_,_,rfl⟩,fun _ _ h=>by grind⟩
  |some r=>exact⟨fun h=>(by grind),fun e r h=>by cases h;rfl⟩
 ·obtain⟨i,m,j⟩:a5R c sh=true∧(c.length:Int)≤(d.length:Int)∧a7b lag t=true:=by simp_all
  simp only[a1I,a0O,a2O,show((4:Int)==2)=false from rfl,show((4:Int)==3)=false from rfl,show((4:Int)==4)=true from rfl,show ¬ (4:Int)=2 by simp,show ¬ (4:Int)=3 by simp,show ¬ (4:Int)=5 by simp,or_true,if_true,if_false,cT,cF,oB,c3t j v (show d.length<100000 by omega)];cases hx:b2C d lag t with
  |none=>exact⟨fun _=>⟨_,_,rfl⟩,fun _ _ h=>by grind⟩
  |some x=>
   obtain⟨-,D,E⟩:=b6D hx;have g:decide ((0:Int)≤((c.length:Nat):Int))=true:=by simp
   have f:decide (((c.length:Nat):Int)≤((x.length:Nat):Int))=true:=by simp_all
   simp only[a2o,show((0:Int) != 0)=false from rfl,cF,oB,b4D i (show c.length≤x.length by omega) (show x.length<100000 by omega),g,f,a02,cT,tN];simp_all
 ·obtain⟨m,l⟩:0<st.length∧a4U st=true:=by simp_all
  simp only[a1I,a0O,a2O,show((5:Int)==2)=false from rfl,show((5:Int)==3)=false from rfl,show((5:Int)==4)=false from rfl,show((5:Int)==5)=true from rfl,show ¬ (5:Int)=2 by simp,show ¬ (5:Int)=3 by simp,show ¬ (5:Int)=4 by simp,or_self,if_true,if_false,cT,cF,oB,c2o l (show d.length<100000 by omega)];cases a9S d st with
  |none=>exact⟨fun _=>⟨_,_,rfl⟩,fun _ _ h=>by grind⟩
  |some r=>exact⟨fun h=>(by grind),fun e r h=>by cases h;rfl⟩
open Classical in

def a1o (k:Int) (l:List Int) (s:Sub):Sub×Int:=
 if ¬ (1≤l.length∧l.length≤4096∧a2W k s (l.length:Int))then(a0X 0,1)
 else if l.all a0C=false then(a0X 0,6)
 else if k=0 then(bif l.all (fun x=>x==l.headD 0)then(a1I (a0O 0 s) 0 [l.headD 0] z0 [],0)else(a0X 0,7))
 else if k=1 then(a1I (a0O 1 s) (a1T l) (a0S l) z0 [],0)
 else match a2O k s (a0S l)with
  |none=>(a0X 0,6)
  |some (wm,r)=>(a1I (a0O k s) (a1T l) wm (b6I (l.length:Int) (wm.length:Int) r) r,0)
theorem c3z{l:List Int}(h:1≤l.length):l0z l 0=some (l.headD 0):=by
 cases l with
 |nil=>grind
 |cons a l=>rfl
theorem c6q{l:List Int}(k:1≤l.length)(c:short l)(a b:Sub):
  x0r a5V (l,l,(l.length:Int),(0:Int),a,b,())=some (bif l.all (fun x=>x==l.headD 0)then .inl (l,a,b,())else .inr ((7:Int),a0X 0,())):=by
 have:=a0V (f:=a5V) l (fun i=>(l,l,(l.length:Int),(i:Int),a,b,())) (fun x=>x==l.headD 0) (bt:=Sum.inl (l,a,b,())) (bf:=Sum.inr ((7:Int),a0X 0,()))
  (fun i h hp=>by
   have g:(l[i] != l.headD 0)=false:=by simp_all
   simp only[a5V,dlt h,cT,a0A h,oB,c3z k,g,cF,a0B (a46 h c)])
  (fun i h hp=>by
   have g:(l[i] != l.headD 0)=true:=by simp_all
   simp only[a5V,dlt h,cT,a0A h,oB,c3z k,g];rfl)
  (by simp[a5V])
 omega
theorem c6r{l:List Int}(k:1≤l.length)(c:short l):b3z l=some (l.all (fun x=>x==l.headD 0)):=by
 have b:∀i (h:i<l.length),(l[i]==l.headD 0)=true→a5s (l,(i:Int),())=some (.inl (l,((i+1:Nat):Int),())):=fun i h hp=>by
  have g:(l[i] != l.headD 0)=false:=by simp_all
  simp only[a5s,dlt h,cT,a0A h,oB,c3z k,g,cF,a0B (a46 h c)]
 have:=a0V (f:=a5s) l (fun i=>(l,(i:Int),())) (fun x=>x==l.headD 0) (bt:=Sum.inl ()) (bf:=Sum.inr (false,())) b
  (fun i h hp=>by
   have g:(l[i] != l.headD 0)=true:=by simp_all
   simp only[a5s,dlt h,cT,a0A h,oB,c3z k,g])
  (by simp[a5s])
 rw[a0E (b 0 k (by cases l with|nil=>grind|cons a l=>simp))]at this;unfold b3z
 grind
theorem b7n{k n:Int}{s:Sub}(h:a2W k s n)(g:k≠0)(f:k≠1):k=2∨k=3∨k=4∨k=5:=by
 rcases h with h|h|⟨h,-⟩|⟨h,-⟩|⟨h,-⟩|⟨h,-⟩;omega;omega
 all_goals omega
theorem d2Q{s:Sub}(h:SmallS s)(k:Int){l:List Int}(D:l.length≤100000):b4J (k,l,s)=some (a1o k l s):=by
 have j:short l:=by unfold short;omega
 unfold b4J a1o
 by_cases h1:1≤l.length
 rotate_left;have e:decide (((l.length:Nat):Int)<1)=true:=decide_eq_true (by omega);rw[if_pos (fun g=>h1 g.1)];simp only[e,cT,oB];rfl;have a:decide (((l.length:Nat):Int)<1)=false:=decide_eq_false (by omega)
 by_cases h2:l.length≤4096
 rotate_left;have e:decide (((l.length:Nat):Int) > 4096)=true:=decide_eq_true (by omega);rw[if_pos (fun g=>h2 g.2.1)];simp only[a,e,cT,cF,oB];rfl;have o:decide (((l.length:Nat):Int) > 4096)=false:=decide_eq_false (by omega)
 by_cases h3:a2W k s (l.length:Int)
 rotate_left;have b:b7i k s (l.length:Int)=false:=by simp[b7i,h3]
 rw[if_pos (fun g=>h3 g.2.2)];simp only[a,o,b9Z h,b,cF,a06,cT,oB];rfl;have b:b7i k s (l.length:Int)=true:=by simp[b7i,h3]
 rw[if_neg (fun g=>g ⟨h1,h2,h3⟩)];simp only[a,o,b9Z h,b,cF,bT,oB,a3U j];cases hw:l.all a0C with
 |false=>rfl
 |true=>
  simp only[bT,cF,c9O h,oB];rw[if_neg (by simp)]
  by_cases h0:k=0
  ·subst h0;have w:=c6q h1 j (a0X 0) (a0O 0 s);have v:a0X 0=((0:Int),(0:Int),(0:Int),(0:Int),(0:Int),([]:(List Int)),a01 3 (0:Int),([]:(List (Int×Int×Unit))),([]:(List Int)),((0:Int),([]:(List Int)),()),([]:(List Int)),()):=rfl;rw[←v,if_pos rfl];simp only[show((0:Int)==0)=true from rfl,cT,w,oB];cases l.all (fun x=>x==l.headD 0)with
   |false=>rfl
   |true=>simp only[cT,c3z h1,oB];rfl
  ·obtain⟨z,A,-⟩:=a8B j hw;obtain⟨t,n,C,-⟩:=a4a h2 hw;have c:(k==0)=false:=by grind
   rw[if_neg h0];simp only[c,cF,z,oB,b7L A (show l.length<100000 by omega),t,a2o,show((0:Int) != 0)=false from rfl]
   by_cases hk1:k=1
   subst hk1;rfl
   ·have i:(k==1)=false:=by simp_all
    have p:=b7n h3 h0 hk1;rw[if_neg hk1];have m:=d1g p h (d:=a0S l) (by simp_all) (by omega) n (a1T l);have u:((a0O k s).1,((a1T l:Nat):Int),(a0O k s).2.2)=a1I (a0O k s) (a1T l) [] z0 []:=rfl;simp only[i,cF,u,m,oB];cases hr:a2O k s (a0S l)with
    |none=>rfl
    |some q=>
     obtain⟨B,r⟩:=q;obtain⟨E,r2,y,-⟩:=c2t p (by simp_all) n hr;have f:a3h (l.length:Int) (B.length:Int)=true:=by simp_all[a3h]
     have hb:=c5q f (l:=r) (by omega) y (by omega);simp only[show((0:Int) != 0)=false from rfl,cF,a1I,hb,oB]
theorem c7n{s:Sub}(h:SmallS s)(k:Int){l:List Int}(E:l.length≤100000):b1g (k,l,s)=some (a1o k l s):=by
 have i:short l:=by unfold short;omega
 have y:a0X 0=((0:Int),(0:Int),(0:Int),(0:Int),(0:Int),([]:(List Int)),a01 3 (0:Int),([]:(List (Int×Int×Unit))),([]:(List Int)),((0:Int),([]:(List Int)),()),([]:(List Int)),()):=rfl;have g:(show Option (Int×(List Int×(Int×Sub×Sub×Unit)))from
   bif k==(2:Int)then some (k,l,((l.length:Nat):Int),a0X 0,(k,(0:Int),s.2.2.1,(0:Int),(0:Int),([]:(List Int)),a01 3 (0:Int),([]:List Stg),([]:(List Int)),((0:Int),([]:(List Int)),()),([]:(List Int)),()),())
   else(bif k==(3:Int)then some (k,l,((l.length:Nat):Int),a0X 0,(k,(0:Int),(0:Int),s.2.2.2.1,(0:Int),s.2.2.2.2.2.1,a01 3 (0:Int),([]:List Stg),([]:(List Int)),((0:Int),([]:(List Int)),()),([]:(List Int)),()),())
   else(bif k==(4:Int)then some (k,l,((l.length:Nat):Int),a0X 0,(k,(0:Int),(0:Int),s.2.2.2.1,s.2.2.2.2.1,s.2.2.2.2.2.1,s.2.2.2.2.2.2.1,([]:List Stg),([]:(List Int)),((0:Int),([]:(List Int)),()),([]:(List Int)),()),())
   else(bif k==(5:Int)then some (k,l,((l.length:Nat):Int),a0X 0,(k,(0:Int),(0:Int),(0:Int),(0:Int),([]:(List Int)),a01 3 (0:Int),s.2.2.2.2.2.2.2.1,([]:(List Int)),((0:Int),([]:(List Int)),()),([]:(List Int)),()),())
   else some (k,l,((l.length:Nat):Int),a0X 0,(k,(0:Int),(0:Int),(0:Int),(0:Int),([]:(List Int)),a01 3 (0:Int),([]:List Stg),([]:(List Int)),((0:Int),([]:(List Int)),()),([]:(List Int)),()),())))))=some (k,l,((l.length:Nat):Int),a0X 0,a0O k s,()):=by
  grind[a0O]
 unfold b1g a1o;simp only[←y];simp only[]at g;rw[g];simp only[oB]
 by_cases h1:1≤l.length
 rotate_left;simp_all;have p:decide (((l.length:Nat):Int)<1)=false:=decide_eq_false (by omega)
 by_cases h2:l.length≤4096
 rotate_left
 grind
 have t:decide (((l.length:Nat):Int) > 4096)=false:=decide_eq_false (by omega);have c:=c0M h k
 by_cases h3:a2W k s (l.length:Int)
 rotate_left;have m:decide (b0V (a0O k s) (l.length:Int)<0)=true:=by simp_all[b0V,b8B]
 simp_all[c2h];have m:decide (b0V (a0O k s) (l.length:Int)<0)=false:=by
  simp_all[b7j,b8B,b0V]
 rw[if_neg (fun v=>v ⟨h1,h2,h3⟩)];simp only[p,t,c2h c,m,cF,oB,a0M i];cases hw:l.all a0C with
 |false=>rfl
 |true=>
  simp only[bT,cF,oB];rw[if_neg (by simp)]
  by_cases h0:k=0
  ·subst h0;rw[if_pos rfl];simp only[show((0:Int)==0)=true from rfl,cT,c6r h1 i,oB];cases l.all (fun x=>x==l.headD 0)with
   |false=>rfl
   |true=>
    have b:decide ((1:Int)≤((l.length:Nat):Int))=true:=decide_eq_true (by omega);have u:List.take 1 l=[l.headD 0]:=by cases l with|nil=>simp_all|cons a l=>rfl
    simp only[bT,cF,b,cT,u];rfl
  ·have B:=c0N i hw;obtain⟨C,j,D,-⟩:=a4a h2 hw;have e:(k==0)=false:=by grind
   rw[if_neg h0];have b:((a0O k s).1,((a1T l:Nat):Int),(a0O k s).2.2)=a1I (a0O k s) (a1T l) [] z0 []:=rfl;simp[e,B,c1S h2 hw,b]
   by_cases hk1:k=1
   subst hk1;rfl
   ·have n:=b7n h3 h0 hk1;rw[if_neg hk1];obtain⟨F,z⟩:=d2P n h (d:=a0S l) (by simp_all) (by omega) j (a1T l);cases hr:a2O k s (a0S l)with
    |none=>
     grind
    |some q=>
     obtain⟨o,r⟩:=q;obtain⟨G,r2,A,-⟩:=c2t n (by simp_all) j hr;have f:a3h (l.length:Int) (o.length:Int)=true:=by simp_all[a3h]
     have hb:=c2s f (l:=r) (by omega) A (by omega);have w:a4F k=some true:=by rw[a6H];congr 1;grind
     simp only[z o r hr,oB,show((0:Int) != 0)=false from rfl,cF,w,cT,hb];rfl
theorem c9P{p:Prt}{n warm:Int}(h:a3d p n warm=true):p.2.1.length≤256:=by
 simp only[a3d,bA,a33,beq_eq_false_iff_ne,ne_eq,beq_iff_eq]at h;obtain⟨k,g,-,f⟩:=b7k h.1;rw[←h.2.1,g,a0Z];exact f
theorem b8C{s:Sub}(h:SmallS s){w:Nat}{wm r:List Int}{p:Prt}(g:wm.length≤5000)(f:r.length≤5000)(k:p.2.1.length≤300):SmallS (a1I s w wm p r):=
 ⟨h.coefs,h.taps,h.stages,g,f,k⟩
theorem c9d{k:Int}{l:List Int}{s:Sub}(g:(a1o k l s).2=0):
  1≤l.length∧l.length≤4096∧a2W k s (l.length:Int)∧l.all a0C=true∧
   ((k=0∧l.all (fun x=>x==l.headD 0)=true∧(a1o k l s).1=a1I (a0O 0 s) 0 [l.headD 0] z0 [])∨
    (k=1∧(a1o k l s).1=a1I (a0O 1 s) (a1T l) (a0S l) z0 [])∨
     ((k=2∨k=3∨k=4∨k=5)∧∃c r,a2O k s (a0S l)=some (c,r)∧(a1o k l s).1=a1I (a0O k s) (a1T l) c (b6I (l.length:Int) (c.length:Int) r) r)):=by
 unfold a1o at g⊢
 split at g
 cases g;rename_i f;have f:1≤l.length∧l.length≤4096∧a2W k s (l.length:Int):=Classical.byContradiction f;refine⟨f.1,f.2.1,f.2.2,?_⟩;rw[if_neg (fun h=>h f)]
 split at g
 cases g;rename_i e;have d:l.all a0C=true:=by simpa using e
 refine⟨d,?_⟩;rw[if_neg e]
 split at g
 ·rename_i a;rw[if_pos a];cases hq:l.all (fun x=>x==l.headD 0)with
  |false=>rw[hq]at g;cases g
  |true=>exact .inl ⟨a,rfl,rfl⟩
 rename_i a;rw[if_neg a]
 split at g
 rename_i b;rw[if_pos b];exact .inr (.inl ⟨b,rfl⟩);rename_i b;rw[if_neg b];refine .inr (.inr ⟨b7n f.2.2 a b,?_⟩);cases hr:a2O k s (a0S l)with
 |none=>rw[hr]at g;cases g
 |some q=>
  obtain⟨c,r⟩:=q;exact⟨c,r,rfl,rfl⟩
theorem b5I{s:Sub}{k:Int}{w:Nat}{wm r:List Int}{p:Prt}:b3T (a1I (a0O k s) w wm p r):=by
 unfold b3T a1I a0O;refine⟨fun h=>if_neg h,fun h=>if_neg (not_or.2 h),fun h=>if_neg h,fun h=>if_neg h,fun h=>if_neg (not_or.2 h),fun h=>if_neg h⟩
theorem c2u{s:Sub}{k n:Int}{w:Nat}{wm r:List Int}{p:Prt}(h:a2W k s n):a2W (a1I (a0O k s) w wm p r).1 (a1I (a0O k s) w wm p r) n:=b8B.2 h
theorem d1h{l:List Int}(h:l.all (fun x=>x==l.headD 0)=true):a01 l.length (l.headD 0)=l:=by
 refine(List.eq_replicate_iff.2 ⟨rfl,fun x g=>?_⟩).symm
 have:=lA.1 h x g
 simpa using this
theorem c1d{k:Int}{l:List Int}{s:Sub}(L:SmallS s)(I:(a1o k l s).2=0):
  SmallS (a1o k l s).1∧(a1o k l s).1.1=k∧a1y (a1o k l s).1 (l.length:Int)∧a2p (a1o k l s).1 (l.length:Int)=some l:=by
 obtain⟨T,K,b,z,M⟩:=c9d I;have P:short l:=by unfold short;omega
 obtain⟨-,Y,-⟩:=a8B P z;obtain⟨R,w,B,C⟩:=a4a K z;have n:∀m:Sub,a1y m (l.length:Int)→c2i m (l.length:Int)=some l→a2p m (l.length:Int)=some l:=fun m c d=>by unfold a2p;rw[if_pos c,d]
 have i:=c0M L k;rcases M with⟨rfl,t,e⟩|⟨rfl,e⟩|⟨y,q,r,f,e⟩
 ·rw[e];have g:a1y (a1I (a0O 0 s) 0 [l.headD 0] z0 []) (l.length:Int):=by
   have N:a0C (l.headD 0)=true:=by
    cases l with
    |nil=>rfl
    |cons a l=>exact lA.1 z _ a59
   exact⟨by omega,by omega,c2u b,b5I,Int.le_refl _,(by decide:(0:Int)≤30),fun _=>rfl,rfl,by simp only[a1I,a08,N,a61];rfl,rfl,fun _=>⟨rfl,rfl,rfl⟩,fun h=>absurd rfl h.1⟩
  refine⟨b8C i (by simp) (by simp) (by simp[z0]),rfl,g,n _ g ?_⟩;show some (a01 (l.length:Int).toNat (l.headD 0))=some l;rw[tN,d1h t]
 rw[e];have g:a1y (a1I (a0O 1 s) (a1T l) (a0S l) z0 []) (l.length:Int):=
  ⟨by omega,by omega,c2u b,b5I,a31 _,(by show((a1T l:Nat):Int)≤30;omega),fun h=>absurd h (by decide:¬ (1:Int)=0),by show(((a0S l).length:Nat):Int)=(l.length:Int);rw[B],w,rfl,fun _=>⟨rfl,rfl,rfl⟩,fun h=>absurd rfl h.2⟩
 refine⟨b8C i (by omega) (by simp) (by simp[z0]),rfl,g,n _ g ?_⟩;show upO ((a1T l:Nat):Int) (a0S l)=some l;exact C
 ·rw[e];obtain⟨X,r2,E,Q⟩:=c2t y (by rw[B];exact b) w f;have u:a3h (l.length:Int) (q.length:Int)=true:=by simp only[a3h,bA,dT];omega
  have hp:=d1f u (l:=r) (by omega) E (by omega);generalize b6I (l.length:Int) (q.length:Int) r=p at hp;have O:=c9P hp

  have v:a0Y (a1I (a0O k s) (a1T l) q p r) (l.length:Int)=(q.length:Int)∧backP (a1I (a0O k s) (a1T l) q p r)=some (a0S l):=by
   simp only[a2W]at b;rcases y with rfl|rfl|rfl|rfl
   ·obtain⟨U,V,D⟩:0≤s.2.2.1∧s.2.2.1≤4∧s.2.2.1≤(l.length:Int):=by simp at b;omega
    simp only[a2O,if_true]at f;cases hq:(a1F s.2.2.1.toNat (a0S l)).all a0C with
    |false=>simp[hq]at f
    |true=>
     simp only[hq,cT,sj,pJ]at f;obtain⟨rfl,rfl⟩:=f;refine⟨?_,?_⟩;show s.2.2.1=_;rw[a22];omega;show c0A ((a0S l).take s.2.2.1.toNat) (a1F s.2.2.1.toNat (a0S l)) s.2.2.1=some (a0S l);have hb:=c6e w (o:=s.2.2.1.toNat) (by omega) ((a0S l).length-s.2.2.1.toNat) 0 (by omega);rw[a28,a47]at hb;unfold c0A;rw[b1w w,hq];exact hb
   have D:(s.2.2.2.2.2.1.length:Int)≤(l.length:Int):=by simp at b;omega
   simp only[a2O,show ¬ (3:Int)=2 by decide,if_false,if_true,a17,pJ]at f;obtain⟨A,c,rfl,rfl⟩:=f;obtain⟨d,-,-⟩:=b8w c;refine⟨?_,?_⟩;show((s.2.2.2.2.2.1.length:Nat):Int)=_;rw[a22];omega;exact d;have D:(s.2.2.2.2.2.1.length:Int)≤(l.length:Int):=by simp at b;omega
   simp only[a2O,show ¬ (4:Int)=2 by decide,show ¬ (4:Int)=3 by decide,if_false,if_true,a16,a17,pJ]at f;obtain⟨x,H,A,c,rfl,rfl⟩:=f;obtain⟨G,-,S⟩:=b6D H;obtain⟨d,-,-⟩:=b8w c;refine⟨?_,?_⟩;show((s.2.2.2.2.2.1.length:Nat):Int)=_;rw[a22];omega;show(b2t (x.take s.2.2.2.2.2.1.length) A s.2.2.2.2.2.1 s.2.2.2.1).bind (fun l=>b3C l s.2.2.2.2.1 s.2.2.2.2.2.2.1)=_;rw[d];exact G;simp only[a2O,show ¬ (5:Int)=2 by decide,show ¬ (5:Int)=3 by decide,show ¬ (5:Int)=4 by decide,if_false,a17,pJ]at f;obtain⟨A,c,rfl,rfl⟩:=f;obtain⟨d,-,-⟩:=c3u c;exact⟨rfl,d⟩
  have j:¬ (k=0∨k=1):=by rcases y with rfl|rfl|rfl|rfl<;>decide
  have g:a1y (a1I (a0O k s) (a1T l) q p r) (l.length:Int):=by
   unfold a1y;rw[v.1];exact⟨by omega,by omega,c2u b,b5I,a31 _,(by show((a1T l:Nat):Int)≤30;omega),fun h=>absurd (.inl h) j,rfl,Q,E,fun h=>absurd h j,fun _=>⟨(by show((r.length:Nat):Int)=_;omega),hp⟩⟩
  refine⟨b8C i (by omega) (by omega) (by omega),rfl,g,n _ g ?_⟩;have F:¬ (a1I (a0O k s) (a1T l) q p r).1=0:=fun h=>j (.inl h);unfold c2i;rw[if_neg F,v.2];exact C
theorem c9e:SmallS (a0X 0):=c7g 0
def cS(k o sh:Int)(c:List Int)(st:List Stg):Sub:=
 (k,(0:Int),o,sh,(0:Int),c,a01 3 (0:Int),st,([]:List Int),((0:Int),([]:List Int),()),([]:List Int),())
theorem b3a{k o sh:Int}{c:List Int}{st:List Stg}(h:c.length≤40)(g:st.length≤6):SmallS (cS k o sh c st):=
 ⟨h,rfl,g,by simp[cS],by simp[cS],by simp[cS]⟩
def a7U(d:List Int)(o w:Int):List Int×(Int×Int):=(a2J (d,o,w)).getD ([],0,1)
def b0F(d:List Int)(o w:Int):List Sub:=bif (a7U d o w).2.2==0 then[cS 3 0 (a7U d o w).2.1 (a7U d o w).1 []]else[]
def c3A(d:List Int):Int:=(a4c d).getD 0
def b3b(d:List Int):Sub×Bool:=(a4d d).getD (a0X 0,false)
def b4u(d:List Int):List Sub:=bif (b3b d).2 then[(b3b d).1]else[]
def a5c(i:Nat):List Sub:=(a70 i).map fun(j:Nat)=>cS 2 (j:Int) 0 [] []
def a1g(d:List Int):List Sub:=[cS 0 0 0 [] [],cS 1 0 0 [] [],cS 2 (c3A d) 0 [] []]
def a1J(d:List Int)(k:Int):List Sub:=if 1≤k then b0F d 4 12++b0F d 8 12 else[]
def a5Q(d:List Int)(k:Int):List Sub:=if 2≤k then[cS 5 0 0 [] [((16:Int),(4:Int),())],cS 5 0 0 [] [((32:Int),(3:Int),()),((16:Int),(5:Int),())]]++b4u d else[]
def c1e(d:List Int)(k:Int):List Sub:=if 3≤k then a5c 5++(b0F d 1 12++(b0F d 2 12++(b0F d 12 14++b0F d 16 14)))else[]
def a2P(d:List Int)(k:Int):List Sub:=a1g d++(a1J d k++(a5Q d k++c1e d k))
def c1f(d:List Int):Prop:=a4d d=some (b3b d)∧((b3b d).2=true→SmallS (b3b d).1)
theorem c6s{d:List Int}(a:d.all a0C=true)(k:d.length≤4096){o w:Nat}(h:1≤o)(g:o≤32)(f:2≤w∧w≤16):
  a2J (d,(o:Int),(w:Int))=some (a7U d o w)∧((a7U d o w).2.2=0→(a7U d o w).1.length=o):=by
 obtain⟨c,sh,e,b,i⟩:=c4O a k h g f;unfold a7U;simp_all
theorem a4G(d:List Int)(o w:Int):(b0F d o w).length≤1:=by
 grind[b0F]
theorem b3c{d:List Int}(c:d.all a0C=true)(b:d.length≤4096){o w:Nat}(f:1≤o)(k:o≤32)(a:2≤w∧w≤16){L:List Sub}(e:L.length<1000):
  a0N ((o:Int),(w:Int),d,L)=some (d,L++b0F d o w):=by
 obtain⟨g,-⟩:=c6s c b f k a;have h:lim (L.length+1)=true:=a0I (by omega);unfold a0N b0F;simp only[g,oB];cases (a7U d o w).2.2==0 with
 |true=>simp only[cT,h];rfl
 |false=>simp
theorem c9f{d:List Int}{L:List Sub}(k:L.length<1000):x0r a2E ((0:Int),L,d,())=some (L++a5c 5,d,()):=by
 have:=a0R (f:=a2E) (fun i:Nat=>((i:Int),L++a5c i,d,())) 5 (b:=(L++a5c 5,d,()))
  (fun i a=>by
   have g:decide ((i:Int)<5)=true:=decide_eq_true (by omega);have h:lim ((L++a5c i).length+1)=true:=a0I (by simp[a5c];omega);have e:(L++a5c i)++[cS 2 (i:Int) 0 [] []]=L++a5c (i+1):=by simp[a5c,a50]
   rw[←e];simp only[a2E,g,cT,h,a0B (show i<1000000 by omega)];rfl)
  (by
   rfl)
 simp at this;rw[show a5c 0=[]from rfl,a20]at this;omega
theorem d2R{d:List Int}(a:d.all a0C=true)(c:d.length≤4096)(l:c1f d)(k:Int):a7G (d,k)=some (a2P d k):=by
 obtain⟨o,E,F⟩:=c3q (show d.length<100000 by omega) a;have hb:c3A d=(o:Int):=by simp_all[c3A]
 have D:(b4u d).length≤1:=by grind[b4u]
 have P:=a4G d 4 12;have Q:=a4G d 8 12;have N:=a4G d 1 12;have O:=a4G d 2 12;have G:=a4G d 12 14;have y:=fun L (hL:L.length<1000)=>b3c (L:=L) a c (o:=4) (w:=12) (by omega) (by omega) (by omega) hL;have z:=fun L (hL:L.length<1000)=>b3c (L:=L) a c (o:=8) (w:=12) (by omega) (by omega) (by omega) hL;have v:=fun L (hL:L.length<1000)=>b3c (L:=L) a c (o:=1) (w:=12) (by omega) (by omega) (by omega) hL;have x:=fun L (hL:L.length<1000)=>b3c (L:=L) a c (o:=2) (w:=12) (by omega) (by omega) (by omega) hL;have i:=fun L (hL:L.length<1000)=>b3c (L:=L) a c (o:=12) (w:=14) (by omega) (by omega) (by omega) hL;have j:=fun L (hL:L.length<1000)=>b3c (L:=L) a c (o:=16) (w:=14) (by omega) (by omega) (by omega) hL;simp at y z v x i j;have R:(a1g d).length=3:=rfl;have S:(a1J d k).length≤2:=by unfold a1J;split<;>simp<;>omega
 have T:(a5Q d k).length≤3:=by unfold a5Q;split<;>simp<;>omega
 have U:(a5c 5).length=5:=rfl;have M:(bif decide (k≥1)then((a0N ((4:Int),(12:Int),d,a1g d)).bind fun n=>(a0N ((8:Int),(12:Int),n.1,n.2)).bind fun p=>some (k,p.1,p.2,()))else some (k,d,a1g d,()))=some (k,d,a1g d++a1J d k,()):=by
  unfold a1J
  by_cases h:1≤k
  have e:decide (k≥1)=true:=decide_eq_true h;simp only[e,cT,y (a1g d) (by omega),oB,z (a1g d++b0F d 4 12) (by grind),if_pos h,aA]
  grind
 have C:a7G (d,k)=(a4c d).bind fun A=>
   (show Option (Int×((List Int)×((List Sub)×Unit)))from bif decide (k≥1)then((a0N ((4:Int),(12:Int),d,[cS 0 0 0 [] [],cS 1 0 0 [] [],cS 2 A 0 [] []])).bind fun n=>(a0N ((8:Int),(12:Int),n.1,n.2)).bind fun p=>some (k,p.1,p.2,()))else some (k,d,[cS 0 0 0 [] [],cS 1 0 0 [] [],cS 2 A 0 [] []],())).bind fun g=>
   (show Option (Int×((List Sub)×((List Int)×Unit)))from bif decide (g.1≥2)then(bif lim (g.2.2.1.length+1)then(bif lim ((g.2.2.1++[cS 5 0 0 [] [((16:Int),(4:Int),())]]).length+1)then((a4d g.2.1).bind fun q=>
    bif q.2 then(bif lim ((g.2.2.1++[cS 5 0 0 [] [((16:Int),(4:Int),())]]++[cS 5 0 0 [] [((32:Int),(3:Int),()),((16:Int),(5:Int),())]]).length+1)then some (g.1,g.2.2.1++[cS 5 0 0 [] [((16:Int),(4:Int),())]]++[cS 5 0 0 [] [((32:Int),(3:Int),()),((16:Int),(5:Int),())]]++[q.1],g.2.1,())else none)
    else some (g.1,g.2.2.1++[cS 5 0 0 [] [((16:Int),(4:Int),())]]++[cS 5 0 0 [] [((32:Int),(3:Int),()),((16:Int),(5:Int),())]],g.2.1,()))else none)else none)else some (g.1,g.2.2.1,g.2.1,())).bind fun t=>
   (show Option ((List Sub)×Unit)from bif decide (t.1≥3)then((x0r a2E ((0:Int),t.2.1,t.2.2.1,())).bind fun m=>(a0N ((1:Int),(12:Int),m.2.1,m.1)).bind fun r=>(a0N ((2:Int),(12:Int),r.1,r.2)).bind fun s=>
    (a0N ((12:Int),(14:Int),s.1,s.2)).bind fun f=>(a0N ((16:Int),(14:Int),f.1,f.2)).bind fun b=>some (b.2,()))else some (t.2.1,())).bind fun u=>some u.1:=rfl
 have B:[cS 0 0 0 [] [],cS 1 0 0 [] [],cS 2 (o:Int) 0 [] []]=a1g d:=by unfold a1g;grind
 have V:(bif decide (k≥2)then(bif lim ((a1g d++a1J d k).length+1)then(bif lim ((a1g d++a1J d k++[cS 5 0 0 [] [((16:Int),(4:Int),())]]).length+1)then((a4d d).bind fun q=>
    bif q.2 then(bif lim ((a1g d++a1J d k++[cS 5 0 0 [] [((16:Int),(4:Int),())]]++[cS 5 0 0 [] [((32:Int),(3:Int),()),((16:Int),(5:Int),())]]).length+1)then some (k,a1g d++a1J d k++[cS 5 0 0 [] [((16:Int),(4:Int),())]]++[cS 5 0 0 [] [((32:Int),(3:Int),()),((16:Int),(5:Int),())]]++[q.1],d,())else none)
    else some (k,a1g d++a1J d k++[cS 5 0 0 [] [((16:Int),(4:Int),())]]++[cS 5 0 0 [] [((32:Int),(3:Int),()),((16:Int),(5:Int),())]],d,()))else none)else none)else some (k,a1g d++a1J d k,d,()):Option (Int×((List Sub)×((List Int)×Unit))))=some (k,a1g d++(a1J d k++a5Q d k),d,()):=by
  unfold a5Q
  by_cases h:2≤k
  have e:decide (k≥2)=true:=decide_eq_true h;have H:lim ((a1g d++a1J d k).length+1)=true:=a0I (by grind);have I:lim ((a1g d++a1J d k++[cS 5 0 0 [] [((16:Int),(4:Int),())]]).length+1)=true:=a0I (by simp;omega);have K:lim ((a1g d++a1J d k++[cS 5 0 0 [] [((16:Int),(4:Int),())]]++[cS 5 0 0 [] [((32:Int),(3:Int),()),((16:Int),(5:Int),())]]).length+1)=true:=a0I (by simp;omega);simp only[e,H,I,K,cT,l.1,oB,if_pos h,b4u];cases (b3b d).2<;>simp
  grind
 have X:(bif decide (k≥3)then((x0r a2E ((0:Int),a1g d++(a1J d k++a5Q d k),d,())).bind fun m=>(a0N ((1:Int),(12:Int),m.2.1,m.1)).bind fun r=>(a0N ((2:Int),(12:Int),r.1,r.2)).bind fun s=>
    (a0N ((12:Int),(14:Int),s.1,s.2)).bind fun f=>(a0N ((16:Int),(14:Int),f.1,f.2)).bind fun b=>some (b.2,()))else some (a1g d++(a1J d k++a5Q d k),()):Option ((List Sub)×Unit))=some (a2P d k,()):=by
  unfold a2P c1e
  by_cases h:3≤k
  have e:decide (k≥3)=true:=decide_eq_true h;simp only[e,cT,c9f (L:=a1g d++(a1J d k++a5Q d k)) (by simp;omega),oB,if_pos h];rw[v _ (by simp;omega)];simp only[oB];rw[x _ (by simp;omega)];simp only[oB];rw[i _ (by simp;omega)];simp only[oB];rw[j _ (by simp;omega)]
  simp
  grind
 rw[C,E,oB,B];simp only[];rw[M];simp only[oB];simp_all
theorem b8D{d:List Int}(l:d.all a0C=true)(i:d.length≤4096)(f:c1f d)(k:Int):∀c∈a2P d k,SmallS c:=by
 have g:∀(o w:Nat),1≤o→o≤32→2≤w∧w≤16→∀c∈b0F d o w,SmallS c:=fun o w a b e c h=>by
  obtain⟨-,m⟩:=c6s l i a b e;unfold b0F at h;cases he:(a7U d o w).2.2==0 with
  |false=>simp_all
  |true=>
   rw[he]at h;simp at h
   grind[b3a]
 intro c h;simp[a2P]at h;rcases h with h|h|h|h;simp[a1g]at h;rcases h with rfl|rfl|rfl<;>exact b3a (by simp) (by simp);unfold a1J at h
 split at h
 simp at h;rcases h with h|h;exact g 4 12 (by omega) (by omega) (by omega) c h;exact g 8 12 (by omega) (by omega) (by omega) c h;simp_all
 ·unfold a5Q at h
  split at h
  ·simp only[mA,mC,a37,or_false]at h;rcases h with(rfl|rfl)|h;simp_all[b3a];simp_all[b3a]
   ·unfold b4u at h;cases hg:(b3b d).2 with
    |false=>simp_all
    |true=>
     rw[hg]at h;simp at h;subst h;exact f.2 hg
  simp_all
 unfold c1e at h
 split at h
 simp only[mA,a5c,a62]at h;rcases h with⟨j,-,rfl⟩|h|h|h|h;simp_all[b3a];exact g 1 12 (by omega) (by omega) (by omega) c h;exact g 2 12 (by omega) (by omega) (by omega) c h;exact g 12 14 (by omega) (by omega) (by omega) c h;exact g 16 14 (by omega) (by omega) (by omega) c h;simp_all
theorem c6t{d:List Int}(g:d.length≤256):a4d d=some (a0X 0,false):=by
 have h:b3m (d,(16:Int),(256:Int))=some (0,7):=by
  unfold b3m
  grind
 unfold a4d;simp only[h,oB,show((7:Int) != 0)=true from rfl,cT];rfl
theorem c9Q{d:List Int}(g:d.length≤256):c1f d:=by
 have h:=c6t g
 have:b3b d=(a0X 0,false):=by unfold b3b;simp_all
 exact⟨by simp_all,fun f=>by simp_all⟩
def a9V(l:List Int)(a:Int×(Bool×Sub))(c:Sub):Int×(Bool×Sub):=
 bif (a1o c.1 l c).2 != 0 then a else bif !a.2.1 || decide (a3Z (a1o c.1 l c).1 (l.length:Int)<a.1)then(a3Z (a1o c.1 l c).1 (l.length:Int),true,(a1o c.1 l c).1)else a
def b4V(l:List Int)(cs:List Sub):Int×(Bool×Sub):=cs.foldl (a9V l) (0,false,a0X 0)
theorem c2v{α A β:Type}(g:A→α→A)(h:A→β):∀(l:List α)(a:A),a8J h (a2i (fun a x=>.inl (g a x)) l a)=h (l.foldl g a)
 | [],_=>rfl
 |x::l,a=>c2v g h l (g a x)
theorem c1T{k:Int}{l:List Int}{s:Sub}(h:SmallS s):SmallS (a1o k l s).1:=by
 by_cases h0:(a1o k l s).2=0
 exact(c1d h h0).1
 have:(a1o k l s).1=a0X 0:=by
  unfold a1o at h0⊢
  grind
 simp_all[c9e]
theorem c9R{l:List Int}{cs:List Sub}(j:∀c∈cs,SmallS c)(p:l.length≤4096)(o:cs.length<1000):
  x0r a8i (l,(0:Int),false,cs,((cs.length:Nat):Int),(0:Int),a0X 0,a0X 0,())=some (a0X 0,(b4V l cs).2.2,()):=by
 have:=a1L (f:=a8i) cs (fun i a=>(l,a.1,a.2.1,cs,((cs.length:Nat):Int),(i:Int),a0X 0,a.2.2,())) (fun a x=>.inl (a9V l a x)) (fun _ _=>True) (fun a=>(a0X 0,a.2.2,()))
  (fun i g a _=>by
   refine⟨fun n h=>?_,fun b hb=>by grind⟩;simp at h;subst h;refine⟨?_,trivial⟩;have d:=j _ (a03 g);have e:=d2L (c1T (k:=cs[i].1) (l:=l) d) (l.length:Int);unfold a9V;simp only[a8i,dlt g,cT,a0A g,oB,d2Q d cs[i].1 (show l.length≤100000 by omega),e,a0B (show i<1000000 by omega)];cases (a1o cs[i].1 l cs[i]).2 != 0 with
   |true=>rfl
   |false=>
    have m:=a0B (show i<1000000 by omega)
    grind)
  (fun a _=>by simp_all[a8i]) (a:=((0:Int),false,a0X 0)) trivial
 simp at this;rw[this,c2v];rfl
theorem d2S{l:List Int}(v:1≤l.length)(c:l.length≤4096)(a:l.all a0C=true)(h:c1f (a0S l)){k:Int}(u:0≤k)(x:k≤3):
  a1Z (l,k)=some ((b4V l (a2P (a0S l) k)).2.2,0):=by
 have d:short l:=by unfold short;omega
 obtain⟨r,s,-⟩:=a8B d a;obtain⟨e,b,t,-⟩:=a4a c a;have i:decide (((l.length:Nat):Int)<1)=false:=decide_eq_false (by omega);have j:decide (((l.length:Nat):Int) > 4096)=false:=decide_eq_false (by omega);have m:decide (k<0)=false:=decide_eq_false (by omega);have n:decide (k > 3)=false:=decide_eq_false (by omega);have f:(a2P (a0S l) k).length<1000:=by
  have g:=fun o w=>a4G (a0S l) o w;have y:=g 4 12;have z:=g 8 12;have A:=g 1 12;have B:=g 2 12;have C:=g 12 14;have D:=g 16 14;have p:(b4u (a0S l)).length≤1:=by grind[b4u]
  simp only[a2P,a1g,a1J,a5Q,c1e,lN]
  grind[a5c]
 have hb:=c9R (l:=l) (b8D b (by omega) h k) c f;have q:a0X 0=((0:Int),(0:Int),(0:Int),(0:Int),(0:Int),([]:(List Int)),a01 3 (0:Int),([]:(List (Int×Int×Unit))),([]:(List Int)),((0:Int),([]:(List Int)),()),([]:(List Int)),()):=rfl;unfold a1Z;simp only[←q,i,j,m,n,cF,oB,a3U d,a,bT,r,b7L s (show l.length<100000 by omega),e,a2o,show((0:Int) != 0)=false from rfl,d2R b (show(a0S l).length≤4096 by omega) h,hb]
theorem a4H(v:Int)(n:Nat)(L:List Int):(a0H v n L).length=L.length+(a0H v n []).length:=by
 unfold a0H;cases (z0h .u64 v (n:Int) != 0)<;>simp
theorem b1F(n:Nat):∀(l L:List Int),(a1H n l L).length=L.length+(a1H n l []).length
 | [],L=>by simp[a1H]
 |x::l,L=>by
  show(a1H n l (a0H (a2M x n) n L)).length=L.length+(a1H n l (a0H (a2M x n) n [])).length;rw[b1F n l,b1F n l (a0H (a2M x n) n []),a4H];omega
theorem b3L:∀(st:List Stg)(L:List Int),(a3D st L).length=L.length+(a3D st []).length
 | [],L=>by simp[a3D]
 |s::st,L=>by
  show(a3D st (a7w s L)).length=L.length+(a3D st (a7w s [])).length;rw[b3L st,b3L st (a7w s [])];unfold a7w;rw[a4H,a4H _ 5 L,a4H _ 4 (a0H _ 5 [])];omega
theorem b8E(s:Sub)(L:List Int):(a5J s L).length=L.length+(a5J s []).length:=by
 unfold a5J;rw[b1F,a4H,a4H _ 4,a4H _ 5 L]
 conv=>rhs;rw[b1F,a4H,a4H _ 4]
 omega
theorem c4R(s:Sub)(L:List Int):(a1A s L).length=L.length+(a1A s []).length:=by
 unfold a1A;split;rw[a4H];split;rw[b8E];split;rw[b8E,b1F,a4H]
 conv=>rhs;rw[b8E,b1F]
 omega;split;rw[b3L,a4H]
 conv=>rhs;rw[b3L]
 omega
 simp
theorem d1i{s:Sub}(k:0≤s.1∧s.1≤5)(a:0≤s.2.1∧s.2.1≤30)(f:s.2.2.2.2.2.2.2.2.1.all a0C=true)(L:List Int):(b1k s L).length=L.length+13:=by
 obtain⟨K,g⟩:=a23 k.1;obtain⟨w,h⟩:=a23 a.1
 have:=b3J f
 unfold b1k;rw[g,h,b6z (q:=K) (by omega),b6z (q:=w) (by omega),a9s (n:=5) (by omega) (by omega),a9s (n:=5) (by omega) (by omega),a9s (n:=3) (by omega) (by omega)]
def c6u(s:Sub)(zn:List Nat):Nat:=
 13+(a1A s []).length+a0J s.2.2.2.2.2.2.2.2.1*s.2.2.2.2.2.2.2.2.1.length+if s.1=0∨s.1=1 then 0 else 4+a2q zn s.2.2.2.2.2.2.2.2.2.1.2.1 s.2.2.2.2.2.2.2.2.2.2.1
theorem c9g{k n:Int}{s:Sub}(h:a2W k s n):0≤k∧k≤5:=by
 rcases h with h|h|⟨h,-⟩|⟨h,-⟩|⟨h,-⟩|⟨h,-⟩<;>omega
theorem c7o{s:Sub}{n:Int}(h:(a2p s n).isSome=true):a1y s n:=by
 unfold a2p at h
 split at h
 assumption
 cases h
theorem d2T{s:Sub}{n:Int}(h:(a2p s n).isSome=true){zn:List Nat}(d:s.1≠0∧s.1≠1→PartsOk s.2.2.2.2.2.2.2.2.2.1 n ((s.2.2.2.2.2.2.2.2.1.length:Nat):Int) s.2.2.2.2.2.2.2.2.2.2.1 zn)(L:List Int):
  (a4x s zn L).length=L.length+c6u s zn:=by
 obtain⟨e,i,b,-,k,a,-,-,f,-⟩:=c7o h;have c:=b3J f;have g:=d1i (c9g b) ⟨k,a⟩ f L;unfold a4x c6u
 by_cases hk:s.1=0∨s.1=1
 rw[if_pos hk,if_pos hk,b6x (by omega),c4R,g];omega;rw[if_neg hk,if_neg hk,c5m (d (not_or.1 hk)),b6x (by omega),c4R,g];omega
theorem c6v{s:Sub}(h:SmallS s){n:Int}(f:(a2p s n).isSome=true):∃g,a3Z s n=((c6u s g:Nat):Int)∧(s.1≠0∧s.1≠1→PartsOk s.2.2.2.2.2.2.2.2.2.1 n ((s.2.2.2.2.2.2.2.2.1.length:Nat):Int) s.2.2.2.2.2.2.2.2.2.2.1 g):=by
 obtain⟨e,b,-,-,-,a,-⟩:=c3i h (n:=n) (L:=[]) (by simp);obtain⟨-,g,-,k⟩:=a f;refine⟨g,?_,k⟩;unfold a3Z;rw[if_pos f,←c4l k,d2T f k]
 simp
theorem c9S{s:Sub}(h:SmallS s){n:Int}(f:(a2p s n).isSome=true):13≤a3Z s n:=by
 obtain⟨k,g,-⟩:=c6v h f;rw[g];unfold c6u;omega
structure Shifted (l m:List Int) (n:Nat):Prop where
 len:m.length=l.length
 wl:l.all a0C=true
 wm:m.all a0C=true
 down:a0S m=a0S l
 waste:a1T m=a1T l+n
 fl:l.all (fun x=>x==l.headD 0)=false
 fm:m.all (fun x=>x==m.headD 0)=false
structure BestIs (l:List Int) (cs:List Sub) (a:Int×(Bool×Sub)):Prop where
 one:a.2.1=true→∃c∈cs,(a1o c.1 l c).2=0∧a.2.2=(a1o c.1 l c).1∧a.1=a3Z a.2.2 (l.length:Int)
 least:∀c∈cs,(a1o c.1 l c).2=0→a.2.1=true∧a.1≤a3Z (a1o c.1 l c).1 (l.length:Int)
theorem c0O{l:List Int}:∀(cs ds:List Sub)(a:Int×(Bool×Sub)),BestIs l ds a→BestIs l (ds++cs) (cs.foldl (a9V l) a)
 | [],ds,a,h=>by rw[a20];exact h
 |c::cs,ds,a,h=>by
  rw[a67,show ds++c::cs=(ds++[c])++cs by simp];refine c0O cs (ds++[c]) _ ?_
  unfold a9V
  by_cases h0:(a1o c.1 l c).2=0
  ·have e:((a1o c.1 l c).2 != 0)=false:=by rw[h0];rfl
   rw[e,cF];cases hq:(!a.2.1 || decide (a3Z (a1o c.1 l c).1 (l.length:Int)<a.1))with
   |true=>
    refine⟨fun _=>⟨c,by simp,h0,rfl,rfl⟩,fun d f k=>⟨rfl,?_⟩⟩;rcases mA.1 f with f|f;obtain⟨i,j⟩:=h.least d f k;rw[i]at hq;simp only[bT,Bool.false_or,dT]at hq;exact Int.le_trans (Int.le_of_lt hq) j;simp only[a24]at f;subst f;exact Int.le_refl _
   |false=>
    simp only[a56,Bool.not_eq_false',decide_eq_false_iff_not]at hq;refine⟨fun b=>?_,fun d f k=>?_⟩;obtain⟨d,f,g⟩:=h.one b;exact⟨d,a39 _ f,g⟩;rcases mA.1 f with f|f;exact h.least d f k;simp only[a24]at f;subst f;exact⟨hq.1,Int.not_lt.1 hq.2⟩
  have e:((a1o c.1 l c).2 != 0)=true:=by simpa using h0
  rw[e,cT];refine⟨fun b=>?_,fun d f k=>?_⟩;obtain⟨d,f,g⟩:=h.one b;exact⟨d,a39 _ f,g⟩;rcases mA.1 f with f|f;exact h.least d f k;simp only[a24]at f;subst f;exact absurd k h0
theorem c4n(l:List Int)(cs:List Sub):BestIs l cs (b4V l cs):=
 c0O cs [] _ ⟨fun h=>(by cases h),fun _ h=>(by cases h)⟩
theorem b8F{l:List Int}(h:1≤l.length)(g:l.length≤4096)(f:l.all a0C=true):a1o 1 l (cS 1 0 0 [] [])=(a1I (a0O 1 (cS 1 0 0 [] [])) (a1T l) (a0S l) z0 [],0):=by
 unfold a1o;rw[if_neg (fun q=>q ⟨h,g,.inr (.inl rfl)⟩),if_neg (by rw[f];decide),if_neg (by decide),if_pos rfl]
theorem c9h{l:List Int}(h:1≤l.length)(g:l.length≤4096)(f:l.all a0C=true)(d:List Int)(k:Int):(b4V l (a2P d k)).2.1=true:=
 ((c4n l (a2P d k)).least (cS 1 0 0 [] []) (by simp[a2P,a1g]) (by rw[show(cS 1 0 0 [] []).1=1 from rfl,b8F h g f])).1
def inW(x:Int)(v:Nat):Bool:=decide (x=0) || a1l x (v:Int)
theorem d1j{x:Int}{v:Nat}:a1l x (v:Int)=true↔1≤v∧v≤31∧-((2^(v-1):Nat):Int)≤x∧x≤((2^(v-1):Nat):Int)-1:=by
 by_cases hv:1≤v∧v≤31
 have e:((v:Int)-1)=((v-1:Nat):Int):=by omega
 have hp:2^(v-1)≤2^30:=a29 (by omega) (by omega);have b:=a41 (v-1);have g:z0g .i64 1 ((v-1:Nat):Int)=((2^(v-1):Nat):Int):=c6f (by omega);have f:z0g .i64 (-1) ((v-1:Nat):Int)=-((2^(v-1):Nat):Int):=by
  have a:min (a21 ((v-1:Nat):Int)) (IntKind.bits .i64)=v-1:=by simp only[tN,IntKind.bits];omega
  unfold z0g;rw[a,show(-1:Int)*2^(v-1)=-((2^(v-1):Nat):Int)by simp];exact a0F (by omega)
 have k:wrap .i64 (((2^(v-1):Nat):Int)-1)=((2^(v-1):Nat):Int)-1:=a0F (by omega);simp only[a1l,e,g,f,k,bA,dT];constructor;intro h;exact⟨hv.1,hv.2,h.2.2.1,h.2.2.2⟩;intro h;exact⟨by omega,by omega,h.2.2.1,h.2.2.2⟩;constructor;intro h;simp only[a1l,bA,dT]at h;omega;intro h;omega
theorem c4o{x:Int}{v:Nat}:inW x v=true↔x=0∨(1≤v∧v≤31∧-((2^(v-1):Nat):Int)≤x∧x≤((2^(v-1):Nat):Int)-1):=by
 simp only[inW,a51,dT,d1j]
theorem d1k{x:Int}{v w:Nat}(h:v≤w)(f:w≤31)(g:inW x v=true):inW x w=true:=by
 rw[c4o]at g⊢;rcases g with g|⟨k,a,b,c⟩;exact .inl g
 have:2^(v-1)≤2^(w-1):=a29 (by omega) (by omega)
 exact .inr ⟨by omega,f,by omega,by omega⟩
theorem d1l{x:Int}(h:a0C x=true):inW x 31=true:=by
 have:=a1X.1 h
 rw[c4o];exact .inr ⟨by omega,by omega,by rw[show((2^(31-1):Nat):Int)=1073741824 from rfl];omega,by rw[show((2^(31-1):Nat):Int)=1073741824 from rfl];omega⟩
theorem c4S{x:Int}(b:a0C x=true):∀(k w:Nat),w+k=32→w≤31→w≤a1N x k w∧a1N x k w≤31∧inW x (a1N x k w)=true∧∀v,w≤v→inW x v=true→v≤31→a1N x k w≤v
 |0,w,h,g=>absurd g (by omega)
 |k+1,w,h,g=>by
  by_cases hin:inW x w=true
  ·have:a1N x (k+1) w=w:=by
    unfold a1N;cases f:(x != 0)&&!a1l x (w:Int)with
    |false=>rfl
    |true=>
     simp only[bA,bne_iff_ne,ne_eq,a33]at f;simp only[inW,a51,dT,f.2,Bool.false_eq_true,or_false]at hin;exact absurd hin f.1
   rw[this];exact⟨a18 _,g,hin,fun v hv _ _=>hv⟩
  have f:((x != 0)&&!a1l x (w:Int))=true:=by
   simp only[inW,a51,dT,not_or,Bool.not_eq_true]at hin;simp only[bA,bne_iff_ne,ne_eq,a33];exact hin
  have j:w≠31:=fun e=>hin (by rw[e];exact d1l b);have e:a1N x (k+1) w=a1N x k (w+1):=by
   show(bif (x != 0)&&!a1l x (w:Int)then a1N x k (w+1)else w)=_;rw[f,cT]
  obtain⟨l,c,d,i⟩:=c4S b k (w+1) (by omega) (by omega);rw[e];refine⟨by omega,c,d,fun v hv a g=>i v ?_ a g⟩;rcases Nat.lt_or_ge w v with q|q;exact q
  have:v=w:=by omega
  exact absurd (this▸a) hin
theorem b2F:∀(l:List Int)(w:Nat),l.all a0C=true→w≤31→
  w≤l.foldl (fun w x=>a1N x (32-w) w) w∧l.foldl (fun w x=>a1N x (32-w) w) w≤31∧(∀x∈l,inW x (l.foldl (fun w x=>a1N x (32-w) w) w)=true)∧∀v,w≤v→v≤31→(∀x∈l,inW x v=true)→l.foldl (fun w x=>a1N x (32-w) w) w≤v
 | [],w,_,h31=>⟨a18 _,h31,by simp,fun v hv _ _=>hv⟩
 |x::l,w,h,h31=>by
  rw[a08,bA]at h;obtain⟨m,e,i,j⟩:=c4S h.1 (32-w) w (by omega) h31;obtain⟨b,a,c,d⟩:=b2F l (a1N x (32-w) w) h.2 e;simp only[a67];refine⟨by omega,a,fun y k=>?_,fun v hv f g=>?_⟩;rcases mC.1 k with rfl|k;exact d1k b a i;exact c y k;exact d v (j v hv (g x a59) f) f fun y k=>g y (List.mem_cons_of_mem _ k)
theorem d1m{l:List Int}(h:l.all a0C=true):∀x∈l,inW x (a0J l)=true:=(b2F l 0 h (by omega)).2.2.1
theorem c7p{l:List Int}(h:l.all a0C=true){v:Nat}(hv:v≤31)(g:∀x∈l,inW x v=true):a0J l≤v:=(b2F l 0 h (by omega)).2.2.2 v (by omega) hv g
theorem d1n{x:Int}{w v:Nat}(e:w≤30)(a:((2^w:Nat):Int) ∣ x)(h:inW x v=true):inW (z0h .i64 x (w:Int)) v=true:=by
 obtain⟨c,rfl⟩:=a;rw[c6o (by omega)];rw[c4o]at h⊢;have hp:(1:Int)≤((2^w:Nat):Int):=by have:=a41 w;omega
 generalize ((2^w:Nat):Int)=p at h hp;rcases h with h|⟨f,k,b,d⟩;rcases Int.mul_eq_zero.1 h with h|h;omega;exact .inl h;refine .inr ⟨f,k,?_,?_⟩
 by_cases hc:0≤c
 have:(0:Int)≤((2^(v-1):Nat):Int):=a31 _
 omega;have g:=Int.mul_nonneg (show 0≤p-1 by omega) (show 0≤-c by omega);rw[Int.mul_neg,Int.sub_mul]at g;omega
 by_cases hc:0≤c
 have g:=Int.mul_nonneg (show 0≤p-1 by omega) hc;rw[Int.sub_mul]at g;omega
 have:(1:Int)≤((2^(v-1):Nat):Int):=by have:=a41 (v-1);omega
 omega
theorem c9i{l:List Int}(b:l.length≤4096)(h:l.all a0C=true):a0J (a0S l)≤a0J l:=by
 obtain⟨-,d,e⟩:=a8B (show short l by unfold short;omega) h;obtain⟨-,a,-,-⟩:=a4a b h;have k:∀x∈l,((2^a1T l:Nat):Int) ∣ x:=by
  rcases e with⟨g,-⟩|⟨-,-,g,-⟩;exact fun x f=>by rw[g x f];exact Int.dvd_zero _
  exact g
 refine c7p a (b3J h) fun y c=>?_
 obtain⟨x,f,rfl⟩:=a62.1 c;exact d1n d (k x f) (d1m h x f)
theorem c9j{l:List Int}(c:1≤l.length)(h:l.length≤4096)(f:l.all a0C=true):a3Z (a1o 1 l (cS 1 0 0 [] [])).1 (l.length:Int)=((13+a0J (a0S l)*l.length:Nat):Int):=by
 have d:SmallS (cS 1 0 0 [] []):=b3a (by simp) (by simp);have g:=b8F c h f;obtain⟨a1,-,-,a⟩:=c1d d (k:=1) (l:=l) (by rw[g]);obtain⟨j,i,-⟩:=c6v a1 (by rw[a];rfl);obtain⟨-,-,b,-⟩:=a4a h f;rw[i,g];have e:c6u (a1I (a0O 1 (cS 1 0 0 [] [])) (a1T l) (a0S l) z0 []) j=13+0+a0J (a0S l)*(a0S l).length+0:=rfl;rw[e,b];rfl
theorem c3B{l:List Int}(b:1≤l.length)(f:l.length≤4096)(a:l.all a0C=true)(g:c1f (a0S l)){k:Int}(d:0≤k)(t:k≤3):
  ∃s,a1Z (l,k)=some (s,0)∧SmallS s∧a2p s (l.length:Int)=some l∧s=(b4V l (a2P (a0S l) k)).2.2∧a3Z s (l.length:Int)=(b4V l (a2P (a0S l) k)).1∧a3Z s (l.length:Int)≤((13+a0J l*l.length:Nat):Int)∧
   (∀c∈a2P (a0S l) k,(a1o c.1 l c).2=0→a3Z s (l.length:Int)≤a3Z (a1o c.1 l c).1 (l.length:Int)):=by
 obtain⟨-,p,u,-⟩:=a4a f a;have hb:=d2S b f a g d t;have j:=c9h b f a (a0S l) k;obtain⟨c,i,q,r,o⟩:=(c4n l (a2P (a0S l) k)).one j;have e:=b8D p (by omega) g k c i;obtain⟨m,-,-,n⟩:=c1d e q;rw[←r]at m n;have h:∀c∈a2P (a0S l) k,(a1o c.1 l c).2=0→a3Z (b4V l (a2P (a0S l) k)).2.2 (l.length:Int)≤a3Z (a1o c.1 l c).1 (l.length:Int):=fun c i d=>by
  rw[←o];exact((c4n l (a2P (a0S l) k)).least c i d).2
 refine⟨_,hb,m,n,rfl,o.symm,?_,h⟩;have hp:=h (cS 1 0 0 [] []) (by simp[a2P,a1g]) (by rw[show(cS 1 0 0 [] []).1=1 from rfl,b8F b f a]);rw[show(cS 1 0 0 [] []).1=1 from rfl,c9j b f a]at hp
 have:=Nat.mul_le_mul_right l.length (c9i f a)
 omega
def c0P(L:List Int):Prop:=∀b∈L,b=0∨b=1
theorem c0P.app{A B:List Int}(h:c0P A)(g:c0P B):c0P (A++B):=fun b hb=>(mA.1 hb).elim (h b) (g b)
def OkR(P R:List Int):Prop:=c0P (P++R)∧(P++R).length<200000000
theorem OkR.shift{P A R:List Int}(h:OkR P (A++R)):OkR (P++A) R:=by
 unfold OkR at h⊢
 rwa [aA]
def c6w(x:Int):Int:=u0z x (wrap .i64 (0-x))
def a8K(l:List Int):Int:=l.foldl (fun a x=>wrap .i64 (a+c6w x)) 0
theorem c0Q(l:List Int)(x:Int):a8K (l++[x])=wrap .i64 (a8K l+c6w x):=by simp[a8K]
theorem c9T{x:Int}(h:a0C x=true):0≤c6w x∧c6w x≤1073741824:=by
 have:=a1X.1 h
 unfold c6w;rw[a0F (by omega)];simp only[u0z]
 grind
theorem b9f:∀(n:Nat)(l:List Int),l.length=n→n≤1000000→l.all a0C=true→0≤a8K l∧a8K l≤1073741824*(n:Int)
 |0,l,h,_,_=>by
  simp_all[a8K]
 |n+1,l,h,hn,hw=>by
  obtain⟨L,b,rfl⟩:∃L b,l=L++[b]:=by
   rcases List.eq_nil_or_concat l with rfl|⟨L,b,e⟩
   all_goals simp_all
  rw[a25,bA]at hw;obtain⟨g,f⟩:=b9f n L (by simp_all) (by omega) hw.1;have hb:=c9T (x:=b) (by simp_all)
  grind[c0Q,a0F]
theorem c7q{l:List Int}(h:l.length≤1000000)(g:l.all a0C=true):0≤a8K l:=(b9f _ l rfl h g).1
theorem b7O{r:List Int}{i m:Nat}(h:i<r.length)(g:m≤i):(r.take (i+1)).drop m=(r.take i).drop m++[r[i]]:=by
 grind[a00]
theorem d1o{r:List Int}{o:Nat}(k:o≤4)(a:r.length<100000):a5T (r,(o:Int))=some (a8K (r.drop (4-o))):=by
 have:=a0R (f:=a1Y) (fun i:Nat=>((o:Int),a8K ((r.take i).drop (4-o)),r,(r.length:Int),(i:Int),())) r.length (b:=(a8K (r.drop (4-o)),()))
  (fun i h=>by
   have g:wrap .i64 ((i:Int)+(o:Int))=(i:Int)+(o:Int):=a0F (by omega)
   by_cases hm:4-o≤i
   have d:decide ((i:Int)+(o:Int)≥4)=true:=by grind
   simp only[a1Y,dlt h,cT,a0A h,oB,g,d,a0B (show i<1000000 by omega)];rw[b7O h hm,c0Q];rfl;have d:decide ((i:Int)+(o:Int)≥4)=false:=by grind
   simp only[a1Y,dlt h,cT,a0A h,oB,g,d,cF,a0B (show i<1000000 by omega)]
   grind[a35])
  (by
   have d:decide ((r.length:Int)<(r.length:Int))=false:=by simp
   simp_all[a1Y])
 simp at this;unfold a5T;rw[show a8K []=0 from rfl]at this;simp_all
theorem d1p{r:List Int}{m:Nat}(c:m≤4)(i:r.length<100000):b3w (r,(m:Int))=some (a8K (r.drop m)):=by
 have g:u0z (m:Int) 0=(m:Int):=by
  rfl
 unfold b3w
 by_cases hl:m≤r.length
 have:=a0R (f:=a7o) (fun j:Nat=>(r,a8K ((r.take (m+j)).drop m),((m+j:Nat):Int),())) (r.length-m) (b:=(a8K (r.drop m),()))
  (fun j a=>by
   have h:m+j<r.length:=by omega
   simp only[a7o,dlt h,cT,a0A h,oB,b1C,a0B (show m+j<1000000 by omega)];rw[show m+(j+1)=(m+j)+1 from rfl,b7O h (by omega),c0Q];rfl)
  (by
   have e:m+(r.length-m)=r.length:=by omega
   rw[e];have d:decide ((r.length:Int)<(r.length:Int))=false:=by simp
   simp_all[a7o])
 have k:(r.take m).drop m=[]:=a35 (by simp_all);simp at this;rw[show a8K []=0 from rfl]at this;simp_all;have d:decide ((m:Int)<(r.length:Int))=false:=by grind
 rw[g,a0D (b:=((0:Int),())) (by simp only[a7o,d,cF])];rw[a35 (by omega)];rfl
def a4b(l:List Int)(o:Nat):List Int×Int:=if o≤l.length then(bif (a1F o l).all a0C then(a1F o l,0)else([],6))else([],1)
theorem c9U{l:List Int}{o:Nat}(h:o≤4)(b:l.length<100000)(g:l.all a0C=true):a3j (l,(o:Int))=some (a4b l o):=by
 unfold a4b
 by_cases hn:o≤l.length
 rw[if_pos hn,b4t h hn (by unfold short;omega) g];rw[if_neg hn];have f:decide ((o:Int)<0)=false:=decide_eq_false (by omega);have k:decide ((o:Int) > 4)=false:=decide_eq_false (by omega);have a:decide (((l.length:Nat):Int)<(o:Int))=true:=decide_eq_true (by omega);simp_all[a3j]
theorem c6x{l:List Int}{o:Nat}(h:o≤4)(b:l.length<100000)(g:l.all a0C=true):a2B (l,(o:Int))=some (a4b l o):=by
 unfold a4b
 by_cases hn:o≤l.length
 rw[if_pos hn,b5H h hn (by unfold short;omega) g];rw[if_neg hn];have f:decide ((o:Int)<0)=false:=decide_eq_false (by omega);have k:decide ((o:Int) > 4)=false:=decide_eq_false (by omega);have a:decide (((l.length:Nat):Int)<(o:Int))=true:=decide_eq_true (by omega);simp_all[a2B]
theorem c6y{l:List Int}{o:Nat}(h:(a4b l o).2=0):(a4b l o).1.all a0C=true∧(a4b l o).1.length≤l.length:=by
 unfold a4b at h⊢
 by_cases hn:o≤l.length
 ·rw[if_pos hn]at h⊢;cases hb:(a1F o l).all a0C with
  |false=>simp
  |true=>simp_all[a5e]
 simp_all
theorem c9k{l:List Int}{o:Nat}(g:o≤4)(f:l.length<100000)(k:l.all a0C=true):
  a6W (l,(o:Int))=some (bif (a4b l o).2 != 0 then 0 else a8K ((a4b l o).1.drop (4-o))):=by
 unfold a6W;simp only[c6x g f k,oB];cases hb:((a4b l o).2 != 0)with
 |true=>rfl
 |false=>
  have h:(a4b l o).2=0:=by simp_all
  have e:wrap .i64 ((4:Int)-(o:Int))=((4-o:Nat):Int):=by grind[a0F]
  have:=(c6y h).2
  simp only[cF,e,d1p (show 4-o≤4 by omega) (show(a4b l o).1.length<100000 by omega),oB]
def d6w(a b:Int×Int):Prop:=(a=(0,-1)∧b=(-1,0))∨(a=b∧0≤a.1∧0≤a.2)
theorem b3W{l:List Int}(e:l.length<100000)(m:l.all a0C=true):∀(j i:Nat)(a b:Int×Int),i+j=5→d6w a b→
  ∃x y:Int,x0r a1z (l,a.1,a.2,(i:Int),())=some (x,())∧x0r a2Y (l,b.1,b.2,(i:Int),())=some (y,())∧u0z y 0=x
 |0,i,a,b,hi,hR=>by
  obtain rfl:i=5:=by omega
  refine⟨a.1,b.1,a0D (by rfl),a0D (by rfl),?_⟩;rcases hR with⟨rfl,rfl⟩|⟨rfl,B,-⟩;rfl;have d:decide ((0:Int) > a.1)=false:=by simp_all
  simp only[u0z,d,cF]
 |j+1,i,a,b,hi,hR=>by
  have s:i≤4:=by omega
  have w:decide ((i:Int)≤4)=true:=by grind
  have z:decide ((i:Int)<5)=true:=by grind
  have o:=c9U s e m;have p:=c6x s e m;have f:=c9k s e m;have k:wrap .i64 ((i:Int)+1)=((i+1:Nat):Int):=a0B (by omega)
  by_cases h0:(a4b l i).2=0
  ·obtain⟨F,r2⟩:=c6y h0;have g:((a4b l i).2 != 0)=false:=by simp_all
   have c:((a4b l i).2==0)=true:=by simp_all
   have q:=d1o (r:=(a4b l i).1) s (by omega);have h:0≤a8K ((a4b l i).1.drop (4-i)):=c7q (by grind) (lA.2 fun x E=>lA.1 F x (List.mem_of_mem_drop E));rw[g,cF]at f;generalize hv:a8K ((a4b l i).1.drop (4-i))=v at f q h;rcases hR with⟨rfl,rfl⟩|⟨rfl,B,D⟩;obtain⟨x,y,t,u,n⟩:=b3W e m j (i+1) ((i:Int),v) ((i:Int),v) (by omega) (.inr ⟨rfl,by simp,h⟩);have A:decide ((-1:Int)<0)=true:=rfl;simp_all[a0E,a1z,a2Y]
   ·have A:decide (a.2<0)=false:=by simp_all
    have C:decide (a.1<0)=false:=by simp_all
    cases hlt:decide (v<a.2)with
    |true=>
     obtain⟨x,y,t,u,n⟩:=b3W e m j (i+1) ((i:Int),v) ((i:Int),v) (by omega) (.inr ⟨rfl,by simp,h⟩);refine⟨x,y,?_,?_,n⟩;rw[a0E (s':=(l,(i:Int),v,((i+1:Nat):Int),())) (by simp_all[a1z])];omega;rw[a0E (s':=(l,(i:Int),v,((i+1:Nat):Int),())) (by simp_all[a2Y])];omega
    |false=>
     obtain⟨x,y,t,u,n⟩:=b3W e m j (i+1) a a (by omega) (.inr ⟨rfl,B,D⟩);refine⟨x,y,?_,?_,n⟩;rw[a0E (s':=(l,a.1,a.2,((i+1:Nat):Int),())) (by simp only[a1z,w,cT,o,oB,g,cF,q,A,hlt,k])];omega;rw[a0E (s':=(l,a.1,a.2,((i+1:Nat):Int),())) (by simp only[a2Y,z,cT,p,oB,c,f,C,cF,hlt,k])];omega
  have g:((a4b l i).2 != 0)=true:=by simp_all
  have c:((a4b l i).2==0)=false:=by simp_all
  obtain⟨x,y,t,u,n⟩:=b3W e m j (i+1) a b (by omega) hR;refine⟨x,y,?_,?_,n⟩;rw[a0E (s':=(l,a.1,a.2,((i+1:Nat):Int),())) (by simp only[a1z,w,cT,o,oB,g,k])];omega;rw[a0E (s':=(l,b.1,b.2,((i+1:Nat):Int),())) (by simp only[a2Y,z,cT,p,oB,c,f,cF,k])];omega
theorem c3C{l:List Int}(h:l.length<100000)(g:l.all a0C=true):∃o,a4c l=some o∧a6q l=some o:=by
 obtain⟨x,y,f,k,a⟩:=b3W h g 5 0 (0,-1) (-1,0) rfl (.inl ⟨rfl,rfl⟩);simp_all[a4c,a6q]
def c3D(c:List Int)(k:Int)(j:Nat):Int:=wrap .i64 (c.getD j 0-z0h .i64 (wrap .i64 (k*c.getD (c.length-1-j) 0)) 14)
def a3g(c:List Int)(k:Int)(j:Nat):List Int:=(a70 j).map (c3D c k)
theorem c1U(c:List Int)(k:Int)(j:Nat):a3g c k (j+1)=a3g c k j++[c3D c k j]:=by simp[a3g,a50]
theorem a6a(c:List Int)(k:Int)(j:Nat):(a3g c k j).length=j:=by simp[a3g]
def c0R(c:List Int)(k:Int):List Int:=a3g c k c.length++[k]
def a7x(ks:List Int)(i:Nat):List Int:=(ks.take i).foldl c0R []
theorem b7o{ks:List Int}{i:Nat}(h:i<ks.length):a7x ks (i+1)=c0R (a7x ks i) ks[i]:=by
 unfold a7x;rw[a00 h,List.foldl_append];rfl
theorem b4v{ks:List Int}:∀i,i≤ks.length→(a7x ks i).length=i
 |0,_=>rfl
 |i+1,h=>by
  rw[b7o (by omega),c0R,lN,a6a,b4v i (by omega)];rfl
def a9W(x:Int):Bool:=decide (-16383≤x)&&decide (x≤16383)
theorem b5J{ks:List Int}(a:ks.length≤32):x0r a1c (ks,ks,(ks.length:Int),(0:Int),())=some (bif ks.all a9W then .inl (ks,())else .inr (([]:List Int),(1:Int),())):=by
 refine a0V (f:=a1c) ks (fun i=>(ks,ks,(ks.length:Int),(i:Int),())) a9W (bt:=.inl (ks,())) (bf:=.inr (([]:List Int),(1:Int),())) (fun i h hp=>?_) (fun i h hp=>?_) (by simp[a1c]);simp only[a9W,bA,dT]at hp;have g:decide (ks[i]<(-16383:Int))=false:=by simp;omega
 have k:decide (ks[i] > (16383:Int))=false:=by simp;omega
 simp only[a1c,dlt h,cT,cF,a0A h,oB,g,k,a0B (show i<1000000 by omega)]
 ·simp only[a9W,a26,decide_eq_false_iff_not]at hp;cases g:decide (ks[i]<(-16383:Int))with
  |true=>simp only[a1c,dlt h,cT,a0A h,oB,g]
  |false=>
   have k:decide (ks[i] > (16383:Int))=true:=by simp at g⊢;omega
   simp only[a1c,dlt h,cT,cF,a0A h,oB,g,k]
theorem b6J{ks:List Int}(a:ks.length≤32):x0r a2a (ks,(0:Int),())=some (bif ks.all a9W then .inl (ks,())else .inr ((1:Int),([]:List Int),())):=by
 refine a0V (f:=a2a) ks (fun i=>(ks,(i:Int),())) a9W (bt:=.inl (ks,())) (bf:=.inr ((1:Int),([]:List Int),())) (fun i h hp=>?_) (fun i h hp=>?_) (by simp[a2a]);simp only[a9W,bA,dT]at hp;have g:decide (ks[i]≤(-16384:Int))=false:=by simp;omega
 have k:decide (ks[i]≥(16384:Int))=false:=by simp;omega
 simp only[a2a,dlt h,cT,cF,a0A h,oB,g,k,a0B (show i<1000000 by omega)]
 ·simp only[a9W,a26,decide_eq_false_iff_not]at hp;cases g:decide (ks[i]≤(-16384:Int))with
  |true=>simp only[a2a,dlt h,cT,a0A h,oB,g]
  |false=>
   have k:decide (ks[i]≥(16384:Int))=true:=by simp at g⊢;omega
   simp only[a2a,dlt h,cT,cF,a0A h,oB,g,k]
theorem a7V{l:List Int}{i:Nat}(h:i<l.length):l[i]=l.getD i 0:=by simp[lD,h]
theorem c2w{c a:List Int}{k n:Int}(i:c.length≤32):
  x0r a1Q (c,(c.length:Int),k,a,n,(c.length:Int),c,(c.length:Int),(0:Int),([]:List Int),())=some (k,a,n,(c.length:Int),a3g c k c.length,()):=by
 have:=a0R (f:=a1Q) (fun j:Nat=>(c,(c.length:Int),k,a,n,(c.length:Int),c,(c.length:Int),(j:Int),a3g c k j,())) c.length (b:=(k,a,n,(c.length:Int),a3g c k c.length,()))
  (fun j g=>by
   have d:wrap .i64 ((c.length:Int)-1)=(c.length:Int)-1:=a0F (by omega);have e:wrap .i64 ((c.length:Int)-1-(j:Int))=((c.length-1-j:Nat):Int):=by rw[a0F (by omega)];omega
   have h:lim ((a3g c k j).length+1)=true:=a0I (by rw[a6a];omega);simp only[a1Q,dlt g,cT,a0A g,oB,d,e,a0A (show c.length-1-j<c.length by omega),h,a0B (show j<1000000 by omega),a04,c1U];rw[a7V g,a7V (show c.length-1-j<c.length by omega)];rfl)
  (by simp[a1Q])
 exact this
theorem c2x{A B:List Int}{x y:Int}:(A++x::B).set A.length y=A++y::B:=by simp
theorem c3E{c ks:List Int}(p:c.length≤32)(o:c.length<ks.length):
  x0r a3m (ks,(c.length:Int),(0:Int),c,c,())=some (ks,(c.length:Int),a3g c ks[c.length] c.length,()):=by
 have:=a0R (f:=a3m) (fun j:Nat=>(ks,(c.length:Int),(j:Int),a3g c ks[c.length] j++c.drop j,c,())) c.length (b:=(ks,(c.length:Int),a3g c ks[c.length] c.length,()))
  (fun j k=>by
   have m:wrap .i64 ((c.length:Int)-1)=(c.length:Int)-1:=a0F (by omega);have n:wrap .i64 ((c.length:Int)-1-(j:Int))=((c.length-1-j:Nat):Int):=by rw[a0F (by omega)];omega
   have a:decide ((0:Int)≤(j:Int))=true:=by simp
   have e:decide ((0:Int)≤((c.length-1-j:Nat):Int))=true:=by simp
   have i:decide (((c.length-1-j:Nat):Int)<(c.length:Int))=true:=by simp;omega
   have h:(a3g c ks[c.length] j++c.drop j).length=c.length:=by rw[lN,a6a,a65];omega
   have l:decide ((j:Int)<(((a3g c ks[c.length] j++c.drop j).length:Nat):Int))=true:=by rw[h];exact dlt k
   have g:(a3g c ks[c.length] j++c.drop j).set j (c3D c ks[c.length] j)=a3g c ks[c.length] (j+1)++c.drop (j+1):=by
    rw[a09 k,c1U]
    have:=c2x (A:=a3g c ks[c.length] j) (B:=c.drop (j+1)) (x:=c[j]) (y:=c3D c ks[c.length] j)
    rw[a6a]at this;rw[this]
    simp
   simp only[a3m,dlt k,a,cT,a02,a0A o,oB,m,n,e,i,l,tN,a0B (show j<1000000 by omega)];rw[←g];rfl)
  (by
   have d:decide ((c.length:Int)<(c.length:Int))=false:=by simp
   simp only[a3m,d,cF,a38,a20])
 simp only[nZ,a28,a05]at this;exact this
theorem c9l{ks:List Int}(v:1≤ks.length)(m:ks.length≤32):∃r,a3Q ks=some r∧a4O ks=some r:=by
 have j:decide (((ks.length:Nat):Int)<1)=false:=decide_eq_false (by omega);have l:decide (((ks.length:Nat):Int) > 32)=false:=decide_eq_false (by omega);cases hall:ks.all a9W with
 |false=>
  refine⟨([],1),?_,?_⟩;unfold a3Q;simp only[j,l,cF,oB,b5J m,hall];unfold a4O;simp only[j,l,cF,oB,b6J m,hall]
 |true=>
  have u:=a0R (f:=a2x) (fun i:Nat=>(a7x ks i,ks,(ks.length:Int),(i:Int),())) ks.length (b:=(a7x ks ks.length,()))
   (fun i d=>by
    have h:=b4v i (Nat.le_of_lt d);have q:wrap .i64 ((i:Int)+1)=((i+1:Nat):Int):=a0B (by omega);have p:decide ((0:Int)≤((i+1:Nat):Int))=true:=by simp;omega
    have t:lim (i+1)=true:=a0I (by omega);have g:=c2w (c:=a7x ks i) (a:=ks) (k:=ks[i]) (n:=(ks.length:Int)) (by omega);have o:lim ((a3g (a7x ks i) ks[i] i).length+1)=true:=a0I (by rw[a6a];omega);rw[h]at g;simp only[a2x,dlt d,cT,a0A d,oB,q,p,tN,t,a02,h,g,o,a04,b7o d,c0R])
   (by simp[a2x])
  have r2:=a0R (f:=a4Y) (fun i:Nat=>(ks,(i:Int),a7x ks i,())) ks.length (b:=(a7x ks ks.length,()))
   (fun i d=>by
    have h:=b4v i (Nat.le_of_lt d);have s:lim (0+i)=true:=a0I (by omega);have g:=c3E (c:=a7x ks i) (ks:=ks) (by omega) (by omega);simp only[h]at g;have o:lim ((a3g (a7x ks i) ks[i] i).length+1)=true:=a0I (by rw[a6a];omega);simp only[a4Y,dlt d,cT,s,a04,a07,g,oB,a0A d,o,a0B (show i<1000000 by omega),b7o d,c0R,h])
   (by simp[a4Y])
  refine⟨(a7x ks ks.length,0),?_,?_⟩;unfold a3Q;simp only[j,l,cF,oB,b5J m,hall,cT];exact(congrArg (fun z=>Option.bind z fun e=>some (e.1,(0:Int))) u).trans rfl;unfold a4O;simp only[j,l,cF,oB,b6J m,hall,cT];exact(congrArg (fun z=>Option.bind z fun e=>some (e.1,(0:Int))) r2).trans rfl
def a9X(x:Int):Bool:=decide (-35184372088832≤x)&&decide (x≤35184372088832)
@[reducible] def e1D:Type:=Int×(Int×((List Int)×Unit))
def c9m:e1D:=((0:Int),(1:Int),([]:List Int),())
theorem c2y{c:List Int}{w:Int}(a:c.length≤32):x0r a1d (c,w,c,(c.length:Int),(0:Int),())=some (bif c.all a9X then .inl (c,w,())else .inr c9m):=by
 refine a0V (f:=a1d) c (fun i=>(c,w,c,(c.length:Int),(i:Int),())) a9X (bt:=.inl (c,w,())) (bf:=.inr c9m) (fun i h hp=>?_) (fun i h hp=>?_) (by simp[a1d]);simp[a9X]at hp;have g:decide (c[i]<(-35184372088832:Int))=false:=by simp_all
 have k:decide (c[i] > (35184372088832:Int))=false:=by simp_all
 simp only[a1d,dlt h,cT,cF,a0A h,oB,g,k,a0B (show i<1000000 by omega)]
 ·simp only[a9X,a26,decide_eq_false_iff_not]at hp;cases g:decide (c[i]<(-35184372088832:Int))with
  |true=>simp only[a1d,dlt h,cT,a0A h,oB,g];rfl
  |false=>
   have k:decide (c[i] > (35184372088832:Int))=true:=by grind
   simp only[a1d,dlt h,cT,cF,a0A h,oB,g,k];rfl
theorem c3F{c:List Int}{w:Int}(a:c.length≤32):x0r a2b (c,w,(0:Int),())=some (bif c.all a9X then .inl (c,w,())else .inr c9m):=by
 refine a0V (f:=a2b) c (fun i=>(c,w,(i:Int),())) a9X (bt:=.inl (c,w,())) (bf:=.inr c9m) (fun i h hp=>?_) (fun i h hp=>?_) (by simp[a2b]);simp[a9X]at hp;have g:decide (c[i]<(-35184372088832:Int))=false:=by simp_all
 have k:decide (c[i] > (35184372088832:Int))=false:=by simp_all
 simp only[a2b,dlt h,cT,cF,a0A h,oB,g,k,a0B (show i<1000000 by omega)]
 ·simp only[a9X,a26,decide_eq_false_iff_not]at hp;cases g:decide (c[i]<(-35184372088832:Int))with
  |true=>simp only[a2b,dlt h,cT,a0A h,oB,g];rfl
  |false=>
   have k:decide (c[i] > (35184372088832:Int))=true:=by grind
   simp only[a2b,dlt h,cT,cF,a0A h,oB,g,k];rfl
def a6O(s:Nat)(half x:Int):Int:=z0h .i64 (wrap .i64 (x+half)) (s:Int)
theorem b5K{c:List Int}{w s:Nat}{half:Int}(l:c.length≤32)(d:w≤32):∀(m j:Nat),j+m=c.length→
  ∃a:List Int,x0r a1s (c,(w:Int),(s:Int),half,c,(c.length:Int),(j:Int),(c.take j).map (a6O s half),())=some (c,(w:Int),(s:Int),a,())∧
   ((c.drop j).all (fun x=>a1l (a6O s half x) (w:Int))=true→a=c.map (a6O s half))∧((c.drop j).all (fun x=>a1l (a6O s half x) (w:Int))=false→a.length≠c.length)
 |0,j,hj=>by
  obtain rfl:j=c.length:=by omega
  simp_all[a0D,a1s]
 |m+1,j,hj=>by
  have f:j<c.length:=by omega
  have b:decide ((s:Int)<0)=false:=by simp
  have g:a3E (z0h .i64 (wrap .i64 (c[j]+half)) (s:Int),(w:Int))=some (a1l (a6O s half c[j]) (w:Int)):=a5t d;rw[a09 f,a08];cases hf:a1l (a6O s half c[j]) (w:Int)with
  |false=>
   rw[hf]at g;refine⟨(c.take j).map (a6O s half),a0D (by simp only[a1s,dlt f,cT,a0A f,oB,b,cF,g,a06]),fun h=>(by grind),fun _=>?_⟩
   grind
  |true=>
   rw[hf]at g;have k:lim (((c.take j).map (a6O s half)).length+1)=true:=a0I (by grind);obtain⟨a,n,e,i⟩:=b5K (s:=s) (half:=half) l d m (j+1) (by omega);refine⟨a,?_,fun h=>e (by simp_all),fun h=>i (by simp_all)⟩;rw[a0E (s':=(c,(w:Int),(s:Int),half,c,(c.length:Int),((j+1:Nat):Int),(c.take (j+1)).map (a6O s half),())) (by
    simp only[a1s,dlt f,cT,a0A f,oB,b,cF,g,bT,k,a04,a0B (show j<1000000 by omega)];rw[a00 f,pA];rfl)]
   omega
theorem c3G{c:List Int}{w s:Nat}{half:Int}(m:c.length≤32)(l:w≤32)(n:s≤14):
  x0r a2s (c,(w:Int),(s:Int),half,true,(0:Int),([]:List Int),())=some (c,(w:Int),(s:Int),c.all (fun x=>a1l (a6O s half x) (w:Int)),c.map (a6O s half),()):=by
 have i:wrap .u64 (s:Int)=(s:Int):=a1m (by omega);have a:decide ((s:Int)<0)=false:=by simp
 have:=a0R (f:=a2s) (fun j:Nat=>(c,(w:Int),(s:Int),half,(c.take j).all (fun x=>a1l (a6O s half x) (w:Int)),(j:Int),(c.take j).map (a6O s half),())) c.length
  (b:=(c,(w:Int),(s:Int),c.all (fun x=>a1l (a6O s half x) (w:Int)),c.map (a6O s half),()))
  (fun j k=>by
   have g:a7z (z0h .i64 (wrap .i64 (c[j]+half)) (s:Int),(w:Int))=some (a1l (a6O s half c[j]) (w:Int)):=b3G l;have h:lim (((c.take j).map (a6O s half)).length+1)=true:=a0I (by grind);have e:c.take (j+1)=c.take j++[c[j]]:=a00 k;cases ha:(c.take j).all (fun x=>a1l (a6O s half x) (w:Int))with
   |true=>
    simp only[a2s,dlt k,cT,a0A k,oB,i,a,cF,h,ha,g,a04,a0B (show j<1000000 by omega),e,a25,pA,a30,a08,a61,Bool.and_true];rfl
   |false=>
    simp only[a2s,dlt k,cT,a0A k,oB,i,a,cF,h,ha,a04,a0B (show j<1000000 by omega),e,a25,pA,a71];rfl)
  (by
   have d:decide ((c.length:Int)<(c.length:Int))=false:=by simp
   simp_all[a2s])
 simp_all
theorem c3H{c:List Int}{w:Nat}(k:c.length≤32)(i:w≤32):∀(m s:Nat),s+m=15→
  ∃b,x0r a1t (c,(w:Int),(s:Int),())=some b∧x0r a3n (c,(w:Int),(s:Int),())=some b
 |0,s,hs=>by
  obtain rfl:s=15:=by omega
  simp_all[a0D,a1t,a3n]
 |m+1,s,hs=>by
  have d:decide ((s:Int)≤14)=true:=by grind
  have r:decide ((0:Int)≤(c.length:Int))=true:=by simp
  have B:lim c.length=true:=a0I (by omega);have p:wrap .i64 ((s:Int)+1)=((s+1:Nat):Int):=a0B (by omega);obtain⟨half,hp,o⟩:∃half:Int,
    ((show Option ((List Int)×(Int×Int×Int×Unit))from
     bif decide ((s:Int) > (0:Int))then(
     bif decide ((wrap .i64 ((s:Int)-(1:Int)))<0)then none
     else some (c,(w:Int),(s:Int),z0g .i64 (1:Int) (wrap .i64 ((s:Int)-(1:Int))),()))
     else some (c,(w:Int),(s:Int),(0:Int),()))=some (c,(w:Int),(s:Int),half,()))∧
    ((show Option ((List Int)×(Int×Int×Int×Unit))from
     bif decide ((s:Int) > (0:Int))then(
     bif decide ((wrap .u64 (wrap .i64 ((s:Int)-(1:Int))))<0)then none
     else some (c,(w:Int),(s:Int),z0g .i64 (1:Int) (wrap .u64 (wrap .i64 ((s:Int)-(1:Int)))),()))
     else some (c,(w:Int),(s:Int),(0:Int),()))=some (c,(w:Int),(s:Int),half,())):=by
   by_cases h0:s=0
   simp_all;have t:decide ((s:Int) > 0)=true:=by grind
   have u:wrap .i64 ((s:Int)-1)=(s:Int)-1:=a0F (by omega);have v:wrap .u64 ((s:Int)-1)=(s:Int)-1:=a1m (by omega);have y:decide ((s:Int)-1<0)=false:=by grind
   exact⟨z0g .i64 1 ((s:Int)-1),by grind,by grind⟩
  obtain⟨q,n,j,l⟩:=b5K (c:=c) (w:=w) (s:=s) (half:=half) k i c.length 0 (by omega);simp only[nZ,a55,a63,a28,a05]at n j l;have f:=c3G (c:=c) (w:=w) (s:=s) (half:=half) k i (by omega);have a:=hp;have e:=o;simp only[]at a e;cases hall:c.all (fun x=>a1l (a6O s half x) (w:Int))with
  |true=>
   have g:=j hall;subst g;rw[hall]at f;have h:((((c.map (a6O s half)).length:Nat):Int)==(c.length:Int))=true:=by simp
   refine⟨.inr (wrap .i64 ((14:Int)-(s:Int)),(0:Int),c.map (a6O s half),()),a0D ?_,a0D ?_⟩
   all_goals simp_all[a1t,a3n]
  |false=>
   have g:=l hall;rw[hall]at f;have h:(((q.length:Nat):Int)==(c.length:Int))=false:=by grind
   obtain⟨b,z,A⟩:=c3H k i m (s+1) (by omega);refine⟨b,?_,?_⟩;rw[a0E (s':=(c,(w:Int),((s+1:Nat):Int),())) (by
    simp only[a1t,d,cT]
    grind)]
   omega;rw[a0E (s':=(c,(w:Int),((s+1:Nat):Int),())) (by
    simp_all[a3n])]
   omega
theorem c9n{c:List Int}{w:Nat}(j:1≤c.length)(h:c.length≤32)(l:2≤w∧w≤16):∃r,a5k (c,(w:Int))=some r∧a6X (c,(w:Int))=some r:=by
 have f:decide (((c.length:Nat):Int)<1)=false:=decide_eq_false (by omega);have k:decide (((c.length:Nat):Int) > 32)=false:=decide_eq_false (by omega);have a:decide ((w:Int)<2)=false:=decide_eq_false (by omega);have d:decide ((w:Int) > 16)=false:=decide_eq_false (by omega);have hp:=c2y (c:=c) (w:=(w:Int)) h;have g:=c3F (c:=c) (w:=(w:Int)) h;obtain⟨b,e,i⟩:=c3H (c:=c) (w:=w) h (by omega) 15 0 rfl;simp at e i;unfold a5k a6X;cases hall:c.all a9X with
 |false=>
  rw[hall]at hp g;refine⟨([],0,1),?_,?_⟩;simp only[f,k,a,d,cF,oB,hp];rfl;simp only[f,k,a,d,cF,oB,g];rfl
 |true=>
  rw[hall]at hp g;cases b with
  |inl u=>
   refine⟨([],0,6),?_,?_⟩
   all_goals grind
  |inr b=>
   refine⟨(b.2.2.1,b.1,b.2.1),?_,?_⟩
   all_goals grind
def f20(x:Int):Bool:=decide (-1048576≤x)&&decide (x≤1048575)
theorem b7P{x:Int}:f20 x=true↔-1048576≤x∧x≤1048575:=by simp[f20]
theorem c2z(x:Int):(v0a (u0z x (-1048576)) 1048575==x)=f20 x:=by
 rw[Bool.eq_iff_iff,beq_iff_eq,b7P];unfold v0a u0z;cases h:decide ((-1048576:Int) > x)with
 |true=>
  have h:x < -1048576:=by simpa using h
  show(-1048576:Int)=x↔_;omega
 |false=>
  have h:¬ x < -1048576:=by simpa using h
  simp only[cF];cases g:decide ((1048575:Int)<x)with
  |true=>
   have g:1048575<x:=by simpa using g
   show(1048575:Int)=x↔_;omega
  |false=>
   have g:¬ 1048575<x:=by simpa using g
   show x=x↔_;simp only[true_iff];omega
theorem c0S(x:Int){s:Nat}(h:s≤64):z0h .i64 x (s:Int)=x / ((2^s:Nat):Int):=by
 show Int.fdiv x (2^(min (s:Int).toNat 64))=_;rw[tN,Nat.min_eq_left h,a42 _ (Int.le_of_lt (Int.pow_pos (by decide)))]
 simp
theorem c7F(x:Int){s:Nat}(f:s≤63):z0h .i64 (z0h .i64 x (s:Int)) 1=z0h .i64 x ((s+1:Nat):Int):=by
 have g:z0h .i64 (z0h .i64 x (s:Int)) ((1:Nat):Int)=z0h .i64 x (s:Int) / ((2^1:Nat):Int):=c0S _ (by omega);have h:z0h .i64 (z0h .i64 x (s:Int)) 1=z0h .i64 x (s:Int) / ((2^1:Nat):Int):=g;rw[h,c0S x (by omega),c0S x (by omega),Int.ediv_ediv_of_nonneg (a31 _),←Int.natCast_mul,←Nat.pow_succ]
theorem d1q{x:Int}(h:f20 x=true):f20 (z0h .i64 x 1)=true:=by
 have e:z0h .i64 x 1=x / ((2^1:Nat):Int):=c0S x (s:=1) (by omega);rw[b7P]at h⊢;rw[e];omega
theorem c6z{x:Int}{s:Nat}:∀(d:Nat),s+d≤60→f20 (z0h .i64 x (s:Int))=true→f20 (z0h .i64 x ((s+d:Nat):Int))=true
 |0,_,h=>h
 |d+1,hd,h=>by
  have:=d1q (c6z d (by omega) h)
  rw[c7F x (by omega)]at this;exact this
def b3X(l:List Int)(s:Nat):Prop:=s≤10∧(∀x∈l,f20 (z0h .i64 x (s:Int))=true)∧∀t,t<s→∃x∈l,f20 (z0h .i64 x (t:Int))=false
theorem c9V{l:List Int}{s s':Nat}(h:b3X l s)(a:b3X l s'):s=s':=by
 rcases Nat.lt_trichotomy s s' with g|g|g;obtain⟨x,k,f⟩:=a.2.2 s g;rw[h.2.1 x k]at f;cases f;exact g;obtain⟨x,k,f⟩:=h.2.2 s' g;rw[a.2.1 x k]at f;cases f
theorem b7Q{x:Int}(c:a0C x=true){a l:List Int}{n i:Int}:∀(k s:Nat),s+k=10→
  ∃s':Nat,s≤s'∧s'≤10∧f20 (z0h .i64 x (s':Int))=true∧(∀t,s≤t→t<s'→f20 (z0h .i64 x (t:Int))=false)∧
   x0r a1W (a,(s:Int),x,l,n,i,())=some (a,(s':Int),l,n,i,())
 |k,s,hk=>by
  have f:decide ((s:Int)<0)=false:=by simp
  cases hf:f20 (z0h .i64 x (s:Int))with
  |true=>
   refine⟨s,a18 _,by omega,hf,fun t d b=>by omega,a0D ?_⟩;have h:(v0a (u0z (z0h .i64 x (s:Int)) (-1048576)) 1048575 != z0h .i64 x (s:Int))=false:=by
    rw[bne,c2z,hf];rfl
   simp only[a1W,f,cF,a1R,oB,h]
  |false=>
   cases k with
   |zero=>
    obtain rfl:s=10:=by omega
    have:=c5D c
    rw[b7P.2 this]at hf;cases hf
   |succ k=>
    obtain⟨s',d,b,j,m,o⟩:=b7Q c (a:=a) (l:=l) (n:=n) (i:=i) k (s+1) (by omega);refine⟨s',by omega,b,j,fun t p g=>?_,?_⟩
    by_cases e:t=s
    subst e;exact hf;exact m t (by omega) g;have h:(v0a (u0z (z0h .i64 x (s:Int)) (-1048576)) 1048575 != z0h .i64 x (s:Int))=true:=by
     rw[bne,c2z,hf];rfl
    rw[a0E (s':=(a,((s+1:Nat):Int),x,l,n,i,())) (by
     simp only[a1W,f,cF,a1R,oB,h,cT,a0B (show s<1000000 by omega)])]
    exact o
theorem c7r{l:List Int}(M:l.all a0C=true)(P:l.length<100000):∃s,b3X l s∧a3k l=some (l.map fun x=>z0h .i64 x (s:Int)):=by
 have p:∀(m i s:Nat),i+m=l.length→b3X (l.take i) s→∃s',b3X l s'∧x0r a2k (l,(s:Int),l,(l.length:Int),(i:Int),())=some (l,(s':Int),()):=by
  intro m
  induction m with
  |zero=>
   intro i s e d;obtain rfl:i=l.length:=by omega
   rw[a45]at d;exact⟨s,d,a0D (by simp[a2k])⟩
  |succ m ih=>
   intro i s e d;have g:i<l.length:=by omega
   obtain⟨s',r,q,H,I,K⟩:=b7Q (lA.1 M l[i] (a03 g)) (a:=l) (l:=l) (n:=(l.length:Int)) (i:=(i:Int)) (10-s) s (by have:=d.1;omega);have u:b3X (l.take (i+1)) s':=by
    rw[a00 g];refine⟨q,fun x k=>?_,fun t v=>?_⟩;rcases mA.1 k with k|k
    have:=c6z (s'-s) (by omega) (d.2.1 x k)
    rwa [Nat.add_sub_cancel' r]at this
    rw[a24.1 k];exact H
    by_cases hts:t<s
    obtain⟨x,k,L⟩:=d.2.2 t hts;exact⟨x,a39 _ k,L⟩;exact⟨l[i],List.mem_append_right _ (a24.2 rfl),I t (by omega) v⟩
   obtain⟨O,F,G⟩:=ih (i+1) s' (by omega) u;refine⟨O,F,?_⟩;rw[a0E (s':=(l,(s':Int),l,(l.length:Int),((i+1:Nat):Int),())) (by
    simp only[a2k,dlt g,cT,a0A g,oB,K,a0B (show i<1000000 by omega)])]
   exact G
 obtain⟨s,r,q⟩:=p l.length 0 0 (by omega) ⟨by omega,fun x k=>by simp at k,fun t v=>by omega⟩;simp only[nZ,a05]at q;refine⟨s,r,?_⟩;have w:decide ((0:Int)≤(l.length:Int))=true:=by simp
 have z:decide ((l.length:Int)≤(l.length:Int))=true:=by simp
 have N:lim l.length=true:=a0I (by omega);have h:=a0R (f:=a2l) (fun i:Nat=>((s:Int),l,(l.length:Int),(i:Int),(l.take i).map (fun x=>z0h .i64 x (s:Int))++a01 (l.length-i) 0,())) l.length (b:=(l.map (fun x=>z0h .i64 x (s:Int)),()))
  (fun i e=>by
   have C:decide ((s:Int)<0)=false:=by simp
   have D:decide ((0:Int)≤(i:Int))=true:=by simp
   have E:decide ((i:Int)<((((l.take i).map (fun x=>z0h .i64 x (s:Int))++a01 (l.length-i) 0).length:Nat):Int))=true:=by
    rw[lN,a19,a22,List.length_replicate];simp;omega
   have j:((l.take i).map (fun x=>z0h .i64 x (s:Int))).length=i:=by rw[a19,a22];omega
   have c:=c2x (A:=(l.take i).map (fun x=>z0h .i64 x (s:Int))) (B:=a01 (l.length-(i+1)) 0) (x:=0) (y:=z0h .i64 l[i] (s:Int));rw[j]at c;have o:a01 (l.length-i) (0:Int)=0::a01 (l.length-(i+1)) 0:=by rw[←List.replicate_succ];congr 1;omega
   simp only[a2l,dlt e,cT,a0A e,oB,C,cF,D,E,a02,tN,a0B (show i<1000000 by omega)];rw[o,c,a00 e,pA,aA];rfl)
  (by simp[a2l])
 simp only[nZ,a55,a63,a07,Nat.sub_zero,a05]at h;unfold a3k;simp only[q,oB,w,z,tN,N,a02,cT,h]
theorem c9W(P:List Int)(b:Int)(R:List Int):(P++b::R).getD P.length 0=b:=by
 simp[lD]
theorem b5L{l:List Int}(c:l.length<100000):x0r a4t (true,(0:Int),l,())=some (l.all f20,l,()):=by
 have:=a0R (f:=a4t) (fun i:Nat=>((l.take i).all f20,(i:Int),l,())) l.length (b:=(l.all f20,l,()))
  (fun i h=>by
   have k:decide ((0:Int)≤(i:Int))=true:=by simp
   have g:l.take (i+1)=l.take i++[l[i]]:=a00 h;have a:l.getD i 0=l[i]:=(a7V h).symm;cases ha:(l.take i).all f20 with
   |true=>
    simp only[a4t,dlt h,cT,ha,k,a02,tN,a9I,oB,a0B (show i<1000000 by omega),a,c2z,g,a25,a30,a08,a61,Bool.and_true]
   |false=>
    simp only[a4t,dlt h,cT,ha,cF,a0B (show i<1000000 by omega),g,a25,a71])
  (by
   have d:decide ((l.length:Int)<(l.length:Int))=false:=by simp
   simp only[a4t,d,cF,a45])
 exact this
theorem c2A{l:List Int}(m:l.length<100000):x0r a6r ((0:Int),l,())=some (l.map (fun x=>z0h .i64 x 1),()):=by
 have:=a0R (f:=a6r) (fun i:Nat=>((i:Int),(l.take i).map (fun x=>z0h .i64 x 1)++l.drop i,())) l.length (b:=(l.map (fun x=>z0h .i64 x 1),()))
  (fun i c=>by
   have j:decide ((0:Int)≤(i:Int))=true:=by simp
   have h:((l.take i).map (fun x=>z0h .i64 x 1)).length=i:=by rw[a19,a22];omega
   have k:((l.take i).map (fun x=>z0h .i64 x 1)++l.drop i).length=l.length:=by rw[lN,h,a65];omega
   have g:=c2x (A:=(l.take i).map (fun x=>z0h .i64 x 1)) (B:=l.drop (i+1)) (x:=l[i]) (y:=z0h .i64 l[i] 1);rw[h]at g;have a:((l.take i).map (fun x=>z0h .i64 x 1)++l.drop i).getD i 0=l[i]:=by
    rw[a09 c]
    have:=c9W ((l.take i).map (fun x=>z0h .i64 x 1)) l[i] (l.drop (i+1))
    rwa [h]at this
   have e:decide ((i:Int)<((((l.take i).map (fun x=>z0h .i64 x 1)++l.drop i).length:Nat):Int))=true:=by rw[k];exact dlt c
   simp only[a6r,e,cT,j,a02,tN,a,a0B (show i<1000000 by omega)];rw[a09 c,g,a00 c,pA,aA];rfl)
  (by
   have d:decide ((l.length:Int)<(l.length:Int))=false:=by simp
   simp only[a6r,a45,a38,a20,a19,d,cF])
 simp only[nZ,a55,a63,a07,a28,a05]at this;exact this
theorem c9o{l:List Int}(q:l.all a0C=true)(o:l.length<100000):∃s,b3X l s∧a7p l=some (l.map fun x=>z0h .i64 x (s:Int)):=by
 have d:∀(m k:Nat),k+m=10→(∀t,t<k→∃x∈l,f20 (z0h .i64 x (t:Int))=false)→
   ∃s,b3X l s∧x0r a6s (l.map (fun x=>z0h .i64 x (k:Int)),())=some (l.map (fun x=>z0h .i64 x (s:Int)),()):=by
  intro m
  induction m with
  |zero=>
   intro k v g;obtain rfl:k=10:=by omega
   have h:(l.map (fun x=>z0h .i64 x ((10:Nat):Int))).all f20=true:=by
    rw[a64];exact lA.2 fun x c=>b7P.2 (c5D (lA.1 q x c))
   refine⟨10,⟨a18 _,fun x c=>b7P.2 (c5D (lA.1 q x c)),g⟩,a0D ?_⟩;simp only[a6s,b5L (l:=l.map (fun x=>z0h .i64 x ((10:Nat):Int))) (by rw[a19];exact o),oB,h,cT]
  |succ m ih=>
   intro k v g;have b:=b5L (l:=l.map (fun x=>z0h .i64 x (k:Int))) (by rw[a19];exact o);cases h:(l.map (fun x=>z0h .i64 x (k:Int))).all f20 with
   |true=>
    rw[h]at b;have f:=h;rw[a64]at f;refine⟨k,⟨by omega,fun x c=>lA.1 f x c,g⟩,a0D ?_⟩;simp only[a6s,b,oB,cT]
   |false=>
    rw[h]at b;have n:∃x∈l,f20 (z0h .i64 x (k:Int))=false:=by
     rw[a64]at h;obtain⟨x,c,u⟩:=List.all_eq_false.1 h;exact⟨x,c,by simpa using u⟩
    obtain⟨s,j,i⟩:=ih (k+1) (by omega) (fun t w=>by
     by_cases e:t=k
     subst e;exact n;exact g t (by omega))
    refine⟨s,j,?_⟩;have a:=c2A (l:=l.map (fun x=>z0h .i64 x (k:Int))) (by rw[a19];exact o);have p:(l.map (fun x=>z0h .i64 x (k:Int))).map (fun x=>z0h .i64 x 1)=l.map (fun x=>z0h .i64 x ((k+1:Nat):Int)):=by
     rw[List.map_map];exact a57 fun x _=>c7F x (by omega)
    rw[p]at a;rw[a0E (s':=(l.map (fun x=>z0h .i64 x ((k+1:Nat):Int)),())) (by
     simp only[a6s,b,oB,cF,a])]
    exact i
 obtain⟨s,j,i⟩:=d 10 0 rfl (fun t w=>by omega);have r:l.map (fun x=>z0h .i64 x ((0:Nat):Int))=l:=by
  refine(a57 fun x _=>?_).trans (List.map_id _);rw[c0S x (by omega)]
  simp
 rw[r]at i;refine⟨s,j,?_⟩;have y:lim (0+l.length)=true:=a0I (by omega);unfold a7p;simp only[y,cT,a04,a07,i,oB]
theorem c7s{l:List Int}(g:l.all a0C=true)(h:l.length<100000):∃r,a3k l=some r∧a7p l=some r∧r.length=l.length:=by
 obtain⟨s,a,b⟩:=c7r g h;obtain⟨s',f,k⟩:=c9o g h
 have:=c9V a f
 subst this;exact⟨_,b,k,by rw[a19]⟩
theorem c2B(n:Int):wrap .i64 n=if 9223372036854775808≤n%18446744073709551616 then n%18446744073709551616-18446744073709551616 else n%18446744073709551616:=by
 simp[wrap,IntKind.bits,IntKind.signed]
theorem c3I(a b:Int):wrap .i64 (a+wrap .i64 b)=wrap .i64 (a+b):=by
 rw[c2B b,c2B,c2B];have e:(a+if 9223372036854775808≤b%18446744073709551616 then b%18446744073709551616-18446744073709551616 else b%18446744073709551616)%18446744073709551616=(a+b)%18446744073709551616:=by
  split<;>omega
 rw[e]
theorem c9X(a b:Int):wrap .i64 (wrap .i64 a+b)=wrap .i64 (a+b):=by
 rw[Int.add_comm,c3I,Int.add_comm]
theorem c9Y:a2e=a8I:=by
 funext st;unfold a2e a8I;have e:∀d a b:Int,wrap .i64 (d+wrap .i64 (wrap .i64 a+wrap .i64 b))=wrap .i64 (wrap .i64 (d+wrap .i64 a)+wrap .i64 b):=fun d a b=>by
  rw[c3I,c9X,Int.add_assoc]
 simp only[e]
theorem c9p:a2G=b2J:=rfl
theorem c3J(x:(List Int)×((List Int)×Int)):a2D x=a5D x:=by
 unfold a2D a5D b8c;rw[c9Y,c9p];congr 1;funext f;congr 1;funext g;have e:z0g .i64 g.1 15=wrap .i64 (g.1*32768):=rfl;rw[e];cases h:(g.2.1==(0:Int))with
 |true=>rfl
 |false=>
  simp only[h,cF];cases decide (Int.tmod (wrap .i64 (g.1*32768)) g.2.1<0)<;>rfl
def c20(x:Int):Int:=v0a (u0z x (-1048576)) 1048575
def a3I(f b:List Int)(k:Int)(i:Nat):Int:=c20 (wrap .i64 (f.getD i 0-z0h .i64 (wrap .i64 (k*b.getD (i-1) 0)) 14))
def a3V(f b:List Int)(k:Int)(i:Nat):Int:=c20 (wrap .i64 (b.getD (i-1) 0-z0h .i64 (wrap .i64 (k*f.getD i 0)) 14))
def upd(g:Nat→Int)(f:List Int)(lo hi:Nat):List Int:=(a70 f.length).map fun i=>if lo≤i∧i<hi then g i else f.getD i 0
theorem a2v(g:Nat→Int)(f:List Int)(lo h:Nat):(upd g f lo h).length=f.length:=by simp[upd]
theorem b1x(g:Nat→Int)(f:List Int)(lo k:Nat){i:Nat}(h:i<f.length):(upd g f lo k).getD i 0=if lo≤i∧i<k then g i else f.getD i 0:=by
 simp[upd,lD,h]
theorem a9u(g:Nat→Int)(f:List Int){lo hi:Nat}(h:hi≤lo∨f.length≤lo):upd g f lo hi=f:=by
 refine a66 (a2v _ _ _ _) fun i a k=>?_
 rw[a7V a,a7V k,b1x g f lo hi k,if_neg (by omega)]
theorem c1g{g:Nat→Int}{f:List Int}{lo hi lo' hi' i:Nat}(d:i<f.length)(h:∀j,j<f.length→((lo'≤j∧j<hi')↔(j=i∨(lo≤j∧j<hi)))):(upd g f lo hi).set i (g i)=upd g f lo' hi':=by
 refine a66 (by rw[a52,a2v,a2v]) fun j l a=>?_
 have k:j<f.length:=by rw[a2v]at a;exact a
 rw[List.getElem_set]
 by_cases e:i=j
 subst e;rw[if_pos rfl,a7V a,b1x g f _ _ k,if_pos ((h i k).2 (.inl rfl))];rw[if_neg e,a7V (by rw[a2v];exact k),a7V a,b1x g f _ _ k,b1x g f _ _ k]
 have:=h j k
 by_cases hc:lo≤j∧j<hi
 rw[if_pos hc,if_pos (this.2 (.inr hc))];rw[if_neg hc,if_neg (fun c=>(this.1 c).elim (fun b=>e b.symm) hc)]
theorem b6K{f b ks:List Int}{o m:Nat}{k:Int}(v:1≤m)(a:m≤40)(hb:b.length=f.length)(u:f.length<100000):∀(j i:Nat),i+1=m+j→i<f.length→
  x0r a1q ((o:Int),(m:Int),k,(i:Int),upd (a3I f b k) f (i+1) f.length,upd (a3V f b k) b (i+1) f.length,ks,()) =
   some ((o:Int),(m:Int),upd (a3I f b k) f m f.length,upd (a3V f b k) b m f.length,ks,())
 |0,i,hj,hi=>by
  obtain rfl:m=i+1:=by omega
  have d:decide ((i:Int)≥((i+1:Nat):Int))=false:=decide_eq_false (by omega);exact a0D (by simp only[a1q,d,cF])
 |j+1,i,hj,hi=>by
  have d:decide ((i:Int)≥(m:Int))=true:=by simp;omega
  have r:wrap .i64 ((i:Int)-1)=((i-1:Nat):Int):=by rw[a0F (by omega)];omega
  have e:decide ((0:Int)≤(i:Int))=true:=by simp
  have l:decide ((0:Int)≤((i-1:Nat):Int))=true:=by simp
  have x:=a2v (a3I f b k) f (i+1) f.length;have c:=a2v (a3V f b k) b (i+1) f.length;have n:decide ((i:Int)<(((upd (a3I f b k) f (i+1) f.length).length:Nat):Int))=true:=by rw[x];exact dlt hi
  have p:decide (((i-1:Nat):Int)<(((upd (a3V f b k) b (i+1) f.length).length:Nat):Int))=true:=by rw[c,hb];exact dlt (by omega)
  have q:decide ((i:Int)<(((upd (a3V f b k) b (i+1) f.length).length:Nat):Int))=true:=by rw[c,hb];exact dlt hi
  have s:(upd (a3I f b k) f (i+1) f.length).getD i 0=f.getD i 0:=by rw[b1x _ _ _ _ hi,if_neg (by omega)]
  have t:(upd (a3V f b k) b (i+1) f.length).getD (i-1) 0=b.getD (i-1) 0:=by rw[b1x _ _ _ _ (by omega),if_neg (by omega)]
  have y:(upd (a3I f b k) f (i+1) f.length).set i (a3I f b k i)=upd (a3I f b k) f i f.length:=c1g hi fun w g=>by omega
  have z:(upd (a3V f b k) b (i+1) f.length).set i (a3V f b k i)=upd (a3V f b k) b i f.length:=c1g (by omega) fun w g=>by omega
  have h:i-1+1=i:=by omega
  rw[a0E (s':=((o:Int),(m:Int),k,((i-1:Nat):Int),upd (a3I f b k) f i f.length,upd (a3V f b k) b i f.length,ks,())) (by
   simp only[a1q,d,cT,e,n,a02,r,l,p,tN,a1R,oB,q,s,t];rw[←y,←z];rfl)]
  have:=b6K (ks:=ks) (o:=o) (k:=k) v a hb u j (i-1) (by omega) (by omega)
  rw[h]at this;exact this
theorem b7R{f b ks:List Int}{o m:Nat}{k:Int}(s:1≤m)(a:m≤40)(hb:b.length=f.length)(r:f.length<100000):∀(j i:Nat),i+j=f.length→m≤i→
  x0r a2f ((o:Int),b,(m:Int),k,(i:Int),upd (a3I f b k) f m i,ks,upd (a3V f b k) b m i,()) =
   some ((o:Int),(m:Int),k,upd (a3I f b k) f m f.length,ks,upd (a3V f b k) b m f.length,())
 |0,i,hj,hi=>by
  obtain rfl:i=f.length:=by omega
  have d:decide ((f.length:Int)<(((upd (a3I f b k) f m f.length).length:Nat):Int))=false:=by rw[a2v];simp
  exact a0D (by simp only[a2f,d,cF])
 |j+1,i,hj,hi=>by
  have h:i<f.length:=by omega
  have n:wrap .i64 ((i:Int)-1)=((i-1:Nat):Int):=by rw[a0F (by omega)];omega
  have c:decide ((0:Int)≤(i:Int))=true:=by simp
  have u:=a2v (a3I f b k) f m i;have v:=a2v (a3V f b k) b m i;have e:decide ((i:Int)<(((upd (a3I f b k) f m i).length:Nat):Int))=true:=by rw[u];exact dlt h
  have l:decide ((i:Int)<(((upd (a3V f b k) b m i).length:Nat):Int))=true:=by rw[v,hb];exact dlt h
  have q:l0z b ((i-1:Nat):Int)=some (b.getD (i-1) 0):=by rw[a0A (show i-1<b.length by omega),a7V (show i-1<b.length by omega)]
  have p:(upd (a3I f b k) f m i).getD i 0=f.getD i 0:=by rw[b1x _ _ _ _ h,if_neg (by omega)]
  have w:(upd (a3I f b k) f m i).set i (a3I f b k i)=upd (a3I f b k) f m (i+1):=c1g h fun t g=>by omega
  have x:(upd (a3V f b k) b m i).set i (a3V f b k i)=upd (a3V f b k) b m (i+1):=c1g (by omega) fun t g=>by omega
  rw[a0E (s':=((o:Int),b,(m:Int),k,((i+1:Nat):Int),upd (a3I f b k) f m (i+1),ks,upd (a3V f b k) b m (i+1),())) (by
   simp only[a2f,e,cT,c,a02,n,q,oB,tN,a9I,p,l,a0B (show i<1000000 by omega)];rw[←w,←x];rfl)]
  exact b7R (ks:=ks) (o:=o) (k:=k) s a hb r j (i+1) (by omega) (by omega)
theorem c5s{f b ks:List Int}{o m:Nat}{k:Int}(c:1≤m)(g:m≤40)(hb:b.length=f.length)(a:f.length<100000):
  x0r a1q ((o:Int),(m:Int),k,wrap .i64 ((f.length:Int)-1),f,b,ks,()) =
   some ((o:Int),(m:Int),upd (a3I f b k) f m f.length,upd (a3V f b k) b m f.length,ks,()):=by
 rw[a0F (n:=(f.length:Int)-1) (by omega)]
 by_cases h:m<f.length
 have:=b6K (ks:=ks) (o:=o) (k:=k) c g hb a (f.length-m) (f.length-1) (by omega) (by omega)
 rw[show f.length-1+1=f.length from by omega,a9u (a3I f b k) f (.inl (a18 _)),a9u (a3V f b k) b (.inl (a18 _)),show((f.length-1:Nat):Int)=(f.length:Int)-1 from by omega]at this;exact this;rw[a9u (a3I f b k) f (.inl (by omega)),a9u (a3V f b k) b (.inl (by omega))];have d:decide ((f.length:Int)-1≥(m:Int))=false:=by simp only[decide_eq_false_iff_not];omega
 exact a0D (by simp only[a1q,d,cF])
theorem c6A{f b ks:List Int}{o m:Nat}{k:Int}(c:1≤m)(g:m≤40)(hb:b.length=f.length)(a:f.length<100000):
  x0r a2f ((o:Int),b,(m:Int),k,(m:Int),f,ks,b,()) =
   some ((o:Int),(m:Int),k,upd (a3I f b k) f m f.length,ks,upd (a3V f b k) b m f.length,()):=by
 by_cases h:m<f.length
 have:=b7R (ks:=ks) (o:=o) (k:=k) c g hb a (f.length-m) m (by omega) (a18 _)
 rw[a9u (a3I f b k) f (.inl (a18 _)),a9u (a3V f b k) b (.inl (a18 _))]at this;exact this;rw[a9u (a3I f b k) f (.inl (by omega)),a9u (a3V f b k) b (.inl (by omega))];have d:decide ((m:Int)<(f.length:Int))=false:=by simp only[decide_eq_false_iff_not];omega
 exact a0D (by simp only[a2f,d,cF])
theorem b7S{o:Nat}(l:o≤32):∀(j m:Nat)(f b ks:List Int),m+j=o+1→1≤m→b.length=f.length→f.length<100000→ks.length+1=m→
  ∃r,x0r a1P ((o:Int),(m:Int),f,b,ks,())=some (r,())∧x0r a3Y ((o:Int),b,(m:Int),f,ks,())=some (r,())
 |0,m,f,b,ks,hj,_,_,_,_=>by
  have d:decide ((m:Int)≤(o:Int))=false:=by simp only[decide_eq_false_iff_not];omega
  exact⟨ks,a0D (by simp only[a1P,d,cF]),a0D (by simp only[a3Y,d,cF])⟩
 |j+1,m,f,b,ks,hj,hm,hb,hf,hk=>by
  have d:decide ((m:Int)≤(o:Int))=true:=by simp only[dT];omega
  obtain⟨k,a⟩:=b6A hm hb hf (show m<1000 by omega);have i:a5D (f,b,(m:Int))=some k:=by rw[←c3J];exact a
  have w:=a0B (show m<1000000 by omega);have h:=a4o (show ks.length+1<2147483648 by omega);have g:=a4o (show 0+b.length<2147483648 by omega);obtain⟨r,c,e⟩:=b7S l j (m+1) (upd (a3I f b k) f m f.length) (upd (a3V f b k) b m f.length) (ks++[k]) (by omega) (by omega) (by rw[a2v,a2v,hb]) (by rw[a2v];exact hf) (by rw[lN,a54];omega);refine⟨r,?_,?_⟩;rw[a0E (s':=((o:Int),((m+1:Nat):Int),upd (a3I f b k) f m f.length,upd (a3V f b k) b m f.length,ks++[k],())) (by
   simp only[a1P,d,cT,a,oB,h,a04];rw[c5s hm (by omega) hb hf];simp only[oB,w])]
  exact c;rw[a0E (s':=((o:Int),upd (a3V f b k) b m f.length,((m+1:Nat):Int),upd (a3I f b k) f m f.length,ks++[k],())) (by
   simp only[a3Y,d,cT,i,oB,g,a04,a07];rw[c6A hm (by omega) hb hf];simp only[oB,h,cT,w])]
  exact e
theorem c6B{l:List Int}(k:l.all a0C=true)(q:l.length≤4096){o:Nat}(p:1≤o)(j:o≤32):∃ks:List Int,a2U (l,(o:Int))=some (ks,0)∧a5M (l,(o:Int))=some (ks,0)∧ks.length=o:=by
 obtain⟨ks,h,a⟩:=c0I k q p j;refine⟨ks,h,?_,a⟩;obtain⟨f,s,t,u⟩:=c7s k (by omega);obtain⟨r,e,i⟩:=b7S j o 1 f f [] (by omega) (by omega) rfl (by omega) rfl;have g:short l:=by unfold short;omega
 have b:decide ((o:Int)<1)=false:=by simp only[decide_eq_false_iff_not];omega
 have c:decide ((o:Int) > 32)=false:=by simp only[decide_eq_false_iff_not];omega
 have d:decide (((l.length:Nat):Int) > 4096)=false:=by simp only[decide_eq_false_iff_not];omega
 have m:decide ((0:Int)≤(o:Int))=true:=by simp
 have n:a2U (l,(o:Int))=some (r,0):=by
  unfold a2U;simp only[b,c,d,cF,oB,a4T g,k,bT,s,a7P (show short f by unfold short;omega),m,tN,a4o (show o<2147483648 by omega),a02,cT];simp only[a05]at e
  erw[e]
  rfl
 rw[n]at h;simp only[sj,pJ,and_true]at h;subst h;unfold a5M;simp only[b,c,d,cF,oB,a0M g,k,bT,t];simp only[a05]at i
 erw[i]
 rfl
theorem c9Z{l:List Int}(j:l.all a0C=true)(i:l.length≤4096){o w:Nat}(k:1≤o)(a:o≤32)(b:2≤w∧w≤16):
  ∃c sh e,a2J (l,(o:Int),(w:Int))=some (c,sh,e)∧a7K (l,(o:Int),(w:Int))=some (c,sh,e)∧(e=0→c.length=o):=by
 obtain⟨c,sh,e,d,p⟩:=c4O j i k a b;refine⟨c,sh,e,d,?_,p⟩;rw[←d];obtain⟨ks,x,r2,y⟩:=c6B j i k a;unfold a2J a7K;have z0:((0:Int) != 0)=false:=rfl;simp only[x,r2,oB,z0,cF];obtain⟨r,g,n⟩:=c9l (ks:=ks) (by omega) (by omega);obtain⟨m,f,h,t⟩:=c3o (ks:=ks) (by omega) (by omega);rw[g]at h;simp only[sj]at h;subst h;simp only[g,n,oB]
 by_cases he:f=0
 subst he;have s:=t rfl;obtain⟨q,u,v⟩:=c9n (c:=m) (by omega) (by omega) b;simp only[z0,cF,u,v,oB]
 have:(f != 0)=true:=by simpa using he
 simp only[this,cT]
theorem c5t{d:List Int}(i:d.all a0C=true)(b:d.length≤4096){o w:Nat}(g:1≤o)(f:o≤32)(k:2≤w∧w≤16):
  a9m (d,(o:Int),(w:Int))=some (cS 3 0 (a7U d o w).2.1 (a7U d o w).1 [],(a7U d o w).2.2==0):=by
 obtain⟨c,sh,e,j,h,-⟩:=c9Z i b g f k;have a:a7U d o w=(c,sh,e):=by simp_all[a7U]
 unfold a9m;simp only[h,oB,a];rfl
theorem b3d{d:List Int}(b:d.all a0C=true)(a:d.length≤4096){o w:Nat}(g:1≤o)(f:o≤32)(k:2≤w∧w≤16){L:List Sub}(c:L.length<1000):
  a1k (L,d,(o:Int),(w:Int))=some (L++b0F d o w,[]):=by
 have h:lim (L.length+1)=true:=a0I (by omega);unfold a1k b0F;simp only[c5t b a g f k,oB];cases (a7U d o w).2.2==0 with
 |true=>simp_all
 |false=>simp
theorem c7t{d:List Int}{L:List Sub}(k:L.length<1000):x0r a5q (d,(0:Int),L,())=some (d,L++a5c 5,()):=by
 have:=a0R (f:=a5q) (fun i:Nat=>(d,(i:Int),L++a5c i,())) 5 (b:=(d,L++a5c 5,()))
  (fun i a=>by
   have g:decide ((i:Int)<5)=true:=decide_eq_true (by omega);have h:lim ((L++a5c i).length+1)=true:=a0I (by simp[a5c];omega);have e:(L++a5c i)++[cS 2 (i:Int) 0 [] []]=L++a5c (i+1):=by simp[a5c,a50]
   rw[←e];simp only[a5q,g,cT,h,a0B (show i<1000000 by omega)];rfl)
  (by
   rfl)
 simp at this;rw[show a5c 0=[]from rfl,a20]at this;omega
def c4p(d:List Int):Prop:=∃r,a9K d=some r∧r.2=(b3b d).2∧(r.2=true→r.1=(b3b d).1)
theorem d1r{d:List Int}(a:d.all a0C=true)(i:d.length≤4096)(m:c4p d)(k:Int):b3y (d,k)=some (a2P d k):=by
 obtain⟨o,G,F⟩:=c3C (show d.length<100000 by omega) a;have hb:c3A d=o:=by simp_all[c3A]
 obtain⟨O,q,H,I⟩:=m;have E:(b4u d).length≤1:=by grind[b4u]
 have S:=a4G d 4 12;have T:=a4G d 8 12;have Q:=a4G d 1 12;have R:=a4G d 2 12;have K:=a4G d 12 14;have z:=fun L (hL:L.length<1000)=>b3d (L:=L) a i (o:=4) (w:=12) (by omega) (by omega) (by omega) hL;have A:=fun L (hL:L.length<1000)=>b3d (L:=L) a i (o:=8) (w:=12) (by omega) (by omega) (by omega) hL;have x:=fun L (hL:L.length<1000)=>b3d (L:=L) a i (o:=1) (w:=12) (by omega) (by omega) (by omega) hL;have y:=fun L (hL:L.length<1000)=>b3d (L:=L) a i (o:=2) (w:=12) (by omega) (by omega) (by omega) hL;have j:=fun L (hL:L.length<1000)=>b3d (L:=L) a i (o:=12) (w:=14) (by omega) (by omega) (by omega) hL;have l:=fun L (hL:L.length<1000)=>b3d (L:=L) a i (o:=16) (w:=14) (by omega) (by omega) (by omega) hL;simp at z A x y j l;have U:(a1g d).length=3:=rfl;have V:(a1J d k).length≤2:=by unfold a1J;split<;>simp<;>omega
 have X:(a5Q d k).length≤3:=by unfold a5Q;split<;>simp<;>omega
 have Y:(a5c 5).length=5:=rfl;have D:b3y (d,k)=(a6q d).bind fun B=>
   (show Option ((List Int)×(Int×((List Sub)×Unit)))from bif decide (k≥1)then((a1k ([cS 0 0 0 [] [],cS 1 0 0 [] [],cS 2 B 0 [] []],d,(4:Int),(12:Int))).bind fun r=>(a1k (r.1,d,(8:Int),(12:Int))).bind fun s=>some (d,k,s.1,()))else some (d,k,[cS 0 0 0 [] [],cS 1 0 0 [] [],cS 2 B 0 [] []],())).bind fun g=>
   (show Option ((List Int)×(Int×((List Sub)×Unit)))from bif decide (g.2.1≥2)then(bif lim (g.2.2.1.length+2)then((a9K g.1).bind fun n=>
    bif n.2 then(bif lim ((g.2.2.1++[cS 5 0 0 [] [((16:Int),(4:Int),())],cS 5 0 0 [] [((32:Int),(3:Int),()),((16:Int),(5:Int),())]]).length+1)then some (g.1,g.2.1,g.2.2.1++[cS 5 0 0 [] [((16:Int),(4:Int),())],cS 5 0 0 [] [((32:Int),(3:Int),()),((16:Int),(5:Int),())]]++[n.1],())else none)
    else some (g.1,g.2.1,g.2.2.1++[cS 5 0 0 [] [((16:Int),(4:Int),())],cS 5 0 0 [] [((32:Int),(3:Int),()),((16:Int),(5:Int),())]],()))else none)else some (g.1,g.2.1,g.2.2.1,())).bind fun p=>
   (show Option ((List Sub)×Unit)from bif decide (p.2.1≥3)then((x0r a5q (p.1,(0:Int),p.2.2.1,())).bind fun f=>(a1k (f.2.1,f.1,(1:Int),(12:Int))).bind fun t=>(a1k (t.1,f.1,(2:Int),(12:Int))).bind fun u=>
    (a1k (u.1,f.1,(12:Int),(14:Int))).bind fun b=>(a1k (b.1,f.1,(16:Int),(14:Int))).bind fun c=>some (c.1,()))else some (p.2.2.1,())).bind fun v=>some v.1:=rfl
 have C:[cS 0 0 0 [] [],cS 1 0 0 [] [],cS 2 o 0 [] []]=a1g d:=by unfold a1g;grind
 have P:(bif decide (k≥1)then((a1k (a1g d,d,(4:Int),(12:Int))).bind fun r=>(a1k (r.1,d,(8:Int),(12:Int))).bind fun s=>some (d,k,s.1,()))else some (d,k,a1g d,()):Option ((List Int)×(Int×((List Sub)×Unit))))=some (d,k,a1g d++a1J d k,()):=by
  unfold a1J
  by_cases h:1≤k
  have e:decide (k≥1)=true:=decide_eq_true h;simp only[e,cT,z (a1g d) (by omega),oB,A (a1g d++b0F d 4 12) (by grind),if_pos h,aA]
  grind
 have Z:(bif decide (k≥2)then(bif lim ((a1g d++a1J d k).length+2)then((a9K d).bind fun n=>
    bif n.2 then(bif lim ((a1g d++a1J d k++[cS 5 0 0 [] [((16:Int),(4:Int),())],cS 5 0 0 [] [((32:Int),(3:Int),()),((16:Int),(5:Int),())]]).length+1)then some (d,k,a1g d++a1J d k++[cS 5 0 0 [] [((16:Int),(4:Int),())],cS 5 0 0 [] [((32:Int),(3:Int),()),((16:Int),(5:Int),())]]++[n.1],())else none)
    else some (d,k,a1g d++a1J d k++[cS 5 0 0 [] [((16:Int),(4:Int),())],cS 5 0 0 [] [((32:Int),(3:Int),()),((16:Int),(5:Int),())]],()))else none)else some (d,k,a1g d++a1J d k,()):Option ((List Int)×(Int×((List Sub)×Unit))))=some (d,k,a1g d++(a1J d k++a5Q d k),()):=by
  unfold a5Q
  by_cases h:2≤k
  ·have e:decide (k≥2)=true:=decide_eq_true h;have M:lim ((a1g d++a1J d k).length+2)=true:=a0I (by grind);have N:lim ((a1g d++a1J d k++[cS 5 0 0 [] [((16:Int),(4:Int),())],cS 5 0 0 [] [((32:Int),(3:Int),()),((16:Int),(5:Int),())]]).length+1)=true:=a0I (by simp;omega);simp only[e,M,N,cT,q,oB,if_pos h,b4u];cases hg:O.2 with
   |true=>
    simp_all
   |false=>simp_all
  grind
 have s3:(bif decide (k≥3)then((x0r a5q (d,(0:Int),a1g d++(a1J d k++a5Q d k),())).bind fun f=>(a1k (f.2.1,f.1,(1:Int),(12:Int))).bind fun t=>(a1k (t.1,f.1,(2:Int),(12:Int))).bind fun u=>
    (a1k (u.1,f.1,(12:Int),(14:Int))).bind fun b=>(a1k (b.1,f.1,(16:Int),(14:Int))).bind fun c=>some (c.1,()))else some (a1g d++(a1J d k++a5Q d k),()):Option ((List Sub)×Unit))=some (a2P d k,()):=by
  unfold a2P c1e
  by_cases h:3≤k
  have e:decide (k≥3)=true:=decide_eq_true h;simp only[e,cT,c7t (L:=a1g d++(a1J d k++a5Q d k)) (by simp;omega),oB,if_pos h];rw[x _ (by simp;omega)];simp only[oB];rw[y _ (by simp;omega)];simp only[oB];rw[j _ (by simp;omega)];simp only[oB];rw[l _ (by simp;omega)]
  simp
  grind
 rw[D,F,oB,C];simp only[];rw[P];simp only[oB];simp_all
theorem c5u{d:List Int}(f:d.length≤256):c4p d:=by
 have h:=c6t f;have hp:b3b d=(a0X 0,false):=by unfold b3b;simp_all
 have k:decide (((d.length:Nat):Int) > 4096)=false:=decide_eq_false (by omega);have a:decide (((d.length:Nat):Int)≤256)=true:=decide_eq_true (by omega);have g:a9J (d,(16:Int),(256:Int))=some (0,7):=by
  unfold a9J
  grind
 refine⟨(a0X 0,false),?_,by grind,fun h=>by grind⟩;unfold a9K;simp only[g,oB,show((7:Int) != 0)=true from rfl,cT];rfl
def c4q(a:Int×(Bool×Sub)):Prop:=(a.2.1=false→a.1=0)∧(a.2.1=true→a.1≠0)
theorem c9q{l:List Int}{c:Sub}(g:SmallS c){a:Int×(Bool×Sub)}(h:c4q a):c4q (a9V l a c):=by
 unfold a9V;cases he:(a1o c.1 l c).2 != 0 with
 |true=>grind
 |false=>
  simp
  cases !a.2.1 || decide (a3Z (a1o c.1 l c).1 (l.length:Int)<a.1)with
  |false=>grind
  |true=>
   simp
   obtain⟨a1,-,-,f⟩:=c1d g (show(a1o c.1 l c).2=0 by simp_all)
   have:=c9S a1 (n:=(l.length:Int)) (by simp_all)
   exact⟨fun h=>(by grind),fun _=>(by omega)⟩
theorem c5v{l:List Int}{cs:List Sub}(q:∀c∈cs,SmallS c)(v:l.length≤4096)(u:cs.length<1000):
  x0r a5G (l,(0:Int),(0:Int),cs,a0X 0,a0X 0,())=some (a0X 0,(b4V l cs).2.2,()):=by
 have:=a1L (f:=a5G) cs (fun i (a:Int×(Bool×Sub))=>(l,a.1,(i:Int),cs,a0X 0,a.2.2,())) (fun a x=>.inl (a9V l a x)) (fun _ a=>c4q a) (fun a=>(a0X 0,a.2.2,()))
  (fun i m a j=>by
   refine⟨fun t g=>?_,fun b hb=>by grind⟩;simp at g;subst g;have d:=q _ (a03 m);refine⟨?_,c9q d j⟩;have n:=c7f (c1T (k:=cs[i].1) (l:=l) d) (l.length:Int);have p:a34 cs (a21 (i:Int)) (a0X 0)=cs[i]:=by simp_all
   have s:a0X 0=((0:Int),(0:Int),(0:Int),(0:Int),(0:Int),([]:(List Int)),a01 3 (0:Int),([]:(List (Int×Int×Unit))),([]:(List Int)),((0:Int),([]:(List Int)),()),([]:(List Int)),()):=rfl;have o:decide ((0:Int)≤(i:Int))=true:=by simp
   have r:=a0B (show i<1000000 by omega);unfold a9V;simp only[a5G,dlt m,cT,o,a02,←s,p,c7n d cs[i].1 (show l.length≤100000 by omega),oB,n];cases (a1o cs[i].1 l cs[i]).2 != 0 with
   |true=>simp_all
   |false=>
    cases hf:a.2.1 with
    |false=>
     have e:(a.1==(0:Int))=true:=by rw[j.1 hf];rfl
     simp_all
    |true=>
     have e:(a.1==(0:Int))=false:=by simpa using j.2 hf
     grind)
  (fun a _=>by simp_all[a5G]) (a:=((0:Int),false,a0X 0)) ⟨fun _=>rfl,fun h=>(by grind)⟩
 simp at this;rw[this,c2v];rfl
theorem c7u{l:List Int}(u:1≤l.length)(b:l.length≤4096)(a:l.all a0C=true)(h:c1f (a0S l))(c:c4p (a0S l)){k:Int}(t:0≤k)(v:k≤3):
  a2L (l,k)=some ((b4V l (a2P (a0S l) k)).2.2,0):=by
 have e:short l:=by unfold short;omega
 have r:=c0N e a;obtain⟨-,d,s,-⟩:=a4a b a;have i:decide (((l.length:Nat):Int)<1)=false:=decide_eq_false (by omega);have j:decide (((l.length:Nat):Int) > 4096)=false:=decide_eq_false (by omega);have m:decide (k<0)=false:=decide_eq_false (by omega);have n:decide (k > 3)=false:=decide_eq_false (by omega);have f:(a2P (a0S l) k).length<1000:=by
  have g:=fun o w=>a4G (a0S l) o w;have x:=g 4 12;have y:=g 8 12;have z:=g 1 12;have A:=g 2 12;have B:=g 12 14;have C:=g 16 14;have p:(b4u (a0S l)).length≤1:=by grind[b4u]
  simp only[a2P,a1g,a1J,a5Q,c1e,lN]
  grind[a5c]
 have hb:=c5v (l:=l) (b8D d (by omega) h k) b f;have q:a0X 0=((0:Int),(0:Int),(0:Int),(0:Int),(0:Int),([]:(List Int)),a01 3 (0:Int),([]:(List (Int×Int×Unit))),([]:(List Int)),((0:Int),([]:(List Int)),()),([]:(List Int)),()):=rfl;unfold a2L;simp only[←q,i,j,m,n,cF,oB,a0M e,a,bT,r,c1S b a,d1r d (show(a0S l).length≤4096 by omega) c,hb]
theorem d0A{l:List Int}(q:l.length≤256)(k:Int):∃s e,a1Z (l,k)=some (s,e)∧a2L (l,k)=some (s,e)∧(s=a0X 0∨SmallS s):=by
 have a:a0X 0=((0:Int),(0:Int),(0:Int),(0:Int),(0:Int),([]:(List Int)),a01 3 (0:Int),([]:(List (Int×Int×Unit))),([]:(List Int)),((0:Int),([]:(List Int)),()),([]:(List Int)),()):=rfl;have j:short l:=by unfold short;omega
 by_cases h1:1≤l.length
 rotate_left;have g:decide (((l.length:Nat):Int)<1)=true:=decide_eq_true (by omega);refine⟨a0X 0,1,?_,?_,.inl rfl⟩;unfold a1Z;simp only[g,cT,oB,a];unfold a2L;simp only[g,cT,oB,a];have g:decide (((l.length:Nat):Int)<1)=false:=decide_eq_false (by omega);have b:decide (((l.length:Nat):Int) > 4096)=false:=decide_eq_false (by omega)
 by_cases hk:0≤k∧k≤3
 rotate_left;have h:(k<0)∨(¬ k<0∧k > 3):=by omega
 rcases h with h|⟨h,c⟩;refine⟨a0X 0,1,?_,?_,.inl rfl⟩;unfold a1Z;simp only[g,b,decide_eq_true h,cF,cT,oB,a];unfold a2L;simp only[g,b,decide_eq_true h,cF,cT,oB,a];refine⟨a0X 0,1,?_,?_,.inl rfl⟩;unfold a1Z;simp only[g,b,decide_eq_false h,decide_eq_true c,cF,cT,oB,a];unfold a2L;simp only[g,b,decide_eq_false h,decide_eq_true c,cF,cT,oB,a];have h:decide (k<0)=false:=decide_eq_false (by omega);have c:decide (k > 3)=false:=decide_eq_false (by omega)
 by_cases hw:l.all a0C=true
 obtain⟨-,-,p,-⟩:=a4a (by omega) hw;have f:=c9Q (d:=a0S l) (by omega);obtain⟨s,m,n,-,o,-⟩:=c3B h1 (by omega) hw f hk.1 hk.2;exact⟨s,0,m,by rw[o];exact c7u h1 (by omega) hw f (c5u (by omega)) hk.1 hk.2,.inr n⟩;have i:=a27.2 hw;refine⟨a0X 0,6,?_,?_,.inl rfl⟩;unfold a1Z;simp only[g,b,h,c,cF,oB,a3U j,i,a06,cT,a];unfold a2L;simp only[g,b,h,c,cF,oB,a0M j,i,a06,cT,a]
def b5M(n:Nat):List Int:=if h:n<128 then[(n:Int)]else((n%128+128:Nat):Int)::b5M (n / 128)
termination_by n
decreasing_by omega
theorem b5N{α β γ:Type}(f:α→List γ):∀(l:List α)(a:List γ),a2i (β:=β) (fun a x=>.inl (a++f x)) l a=.inl (a++l.flatMap f)
 | [],a=>by simp[a2i]
 |x::l,a=>by simp only[a2i];rw[b5N f l];simp
def e1E(g:Int):Nat:=if 0≤g then(2*g).toNat else(-2*g-1).toNat
def e8(s:Int):Int:=bif (z0h .u8 s 7)==(1:Int)then bits .u8 .xor (z0g .u8 s 1) 7 else z0g .u8 s 1
def rep{α:Type}(f:α→α):Nat→α→α
 |0,s=>s
 |n+1,s=>rep f n (f s)
def g8(s c:Int):Int:=rep e8 8 (bits .u8 .xor s c)
@[reducible] def a0U:Type:=Int×(Int×(Int×Unit))
@[reducible] def a9v:Type:=Int×(Int×(a0U×(List a0U×(List Sub×Unit))))
@[reducible] def a1G:Type:=Int×(List (List Int)×Unit)
def a2w(n:Int)(s:a0U):Bool:=!(decide (s.1<0) || decide (s.1≥n) || decide (s.2.1<0) || decide (s.2.1≥n) || s.1==s.2.1)&&!(decide (s.2.2.1 < -1024) || decide (s.2.2.1 > 1024))
theorem a3G{n:Int}{s:a0U}:a2w n s=true↔0≤s.1∧s.1<n∧0≤s.2.1∧s.2.1<n∧s.1≠s.2.1∧-1024≤s.2.2.1∧s.2.2.1≤1024:=by
 simp only[a2w,bA,a33,a56,decide_eq_false_iff_not,beq_eq_false_iff_ne];omega
def a3w(l:List a0U)(n:Int):Prop:=1≤n∧n≤8∧l.length≤16∧l.all (a2w n)=true
instance (l:List a0U) (n:Int):Decidable (a3w l n):=by unfold a3w;infer_instance
theorem c7v(l:List a0U)(n:Int):a9x (l,n)=some (decide (a3w l n)):=by
 unfold a9x a3w
 by_cases h1:n<1
 grind
 by_cases h2:n > 8
 grind
 by_cases h3:((l.length:Nat):Int) > 16
 grind
 have g:=a0V (f:=a7Y) (β:=Unit ⊕ (Bool×Unit)) l (fun i=>(n,l,(l.length:Int),(i:Int),())) (a2w n) (bt:=Sum.inl ()) (bf:=Sum.inr (false,()))
  (fun i h hp=>by
   obtain⟨a1,m,o,p,q,r,s⟩:=a3G.1 hp;have k:decide (l[i].1<0)=false:=by simp_all
   have a:decide (l[i].1≥n)=false:=by simp_all
   have b:decide (l[i].2.1<0)=false:=by simp_all
   have c:decide (l[i].2.1≥n)=false:=by simp_all
   have d:(l[i].1==l[i].2.1)=false:=by simp_all
   have e:decide (l[i].2.2.1 < -1024)=false:=by simp_all
   have j:decide (l[i].2.2.1 > 1024)=false:=by simp_all
   simp only[a7Y,dlt h,cT,a0A h,oB,k,a,b,c,d,e,j,cF,a0B (show i<1000000 by omega)])
  (fun i h hp=>by
   simp only[a7Y,dlt h,cT,a0A h,oB]
   grind[a2w])
  (by simp[a7Y])
 grind
def b3e(f:a0U):Prop:=1≤f.1∧f.1≤1048576∧1≤f.2.1∧f.2.1≤8∧4≤f.2.2.1∧f.2.2.1≤24
instance (f:a0U):Decidable (b3e f):=by unfold b3e;infer_instance
theorem b3f(f:a0U):a7X f=some (decide (b3e f)):=by
 unfold a7X a7W b3e
 grind
def frP(f:a9v):Prop:=b3e f.2.2.1∧1≤f.2.1∧f.2.1≤4096∧0≤f.1∧f.1≤4194304-f.2.1∧a3w f.2.2.2.1 f.2.2.1.2.1
instance (f:a9v):Decidable (frP f):=by unfold frP;infer_instance
def d6x(s:a0U):List Int:=b5M s.1.toNat++(b5M s.2.1.toNat++b5M (e1E s.2.2.1))
def hb(f:a9v)(body:Nat):List Int:=
 [245,75]++(b5M f.1.toNat++(b5M f.2.1.toNat++(b5M f.2.2.1.1.toNat++(b5M f.2.2.1.2.1.toNat++(b5M f.2.2.1.2.2.1.toNat++(b5M f.2.2.2.1.length++(f.2.2.2.1.flatMap d6x++b5M body)))))))
def b3M(f:a9v)(l:List Sub):a9v:=(f.1,f.2.1,f.2.2.1,f.2.2.2.1,l,())
theorem b5O(x:Int):b0I x=some (a0C x):=by
 unfold b0I a0C
 by_cases h:-1073741824≤x<;>simp[h]
def a1U(c:List (List Int)):Prop:=1≤c.length∧c.length≤8∧(c.headD []).length≤4096∧c.all (fun r=>decide (r.length=(c.headD []).length)&&r.all a0C)=true
instance (c:List (List Int)):Decidable (a1U c):=by unfold a1U;infer_instance
theorem b1G{α:Type}{l:List α}{d:α}(h:0<l.length):l[0]=l.headD d:=by
 cases l with
 |nil=>simp at h
 |cons a l=>rfl
theorem c4s(c:List (List Int)):a8r c=some (decide (a1U c)):=by
 unfold a8r
 by_cases h1:((c.length:Nat):Int)<1
 have:¬ a1U c:=fun h=>by have:=h.1;omega
 simp[h1,this]
 by_cases h2:((c.length:Nat):Int) > 8
 have:¬ a1U c:=fun h=>by have:=h.2.1;omega
 simp[h1,h2,this];have l:0<c.length:=by omega
 have b:l0z c 0=some (c.headD []):=by rw[show(0:Int)=((0:Nat):Int)from rfl,a0A l,b1G (d:=[]) l]
 have m:decide (((c.length:Nat):Int)<1)=false:=by simpa using h1
 have n:decide (((c.length:Nat):Int) > 8)=false:=by simpa using h2
 simp only[m,n,cF,b,oB]
 by_cases h3:(((c.headD []).length:Nat):Int) > 4096
 rw[decide_eq_true h3,decide_eq_false (show ¬ a1U c from fun h=>by have:=h.2.2.1;omega)];rfl;have o:decide ((((c.headD []).length:Nat):Int) > 4096)=false:=by simpa using h3
 simp only[o,cF];have g:∀(i:Nat)(r:List Int),short r→x0r a5i (c,c,(c.length:Int),(i:Int),r,(r.length:Int),(0:Int),())=some (bif r.all a0C then Sum.inl (c,c,(c.length:Int),(i:Int),())else Sum.inr (false,())):=fun i r t=>by
  have:=a0V (f:=a5i) r (fun j=>(c,c,(c.length:Int),(i:Int),r,(r.length:Int),(j:Int),())) a0C (bt:=Sum.inl (c,c,(c.length:Int),(i:Int),())) (bf:=Sum.inr (false,()))
   (fun j h hp=>by simp only[a5i,dlt h,cT,a0A h,oB,b5O,hp,bT,cF,a0B (a46 h t)])
   (fun j h hp=>by simp only[a5i,dlt h,cT,a0A h,oB,b5O,hp,a06])
   (by simp only[a5i,dge,cF])
  exact this
 have k:=a0V (f:=a5j) c (fun i=>(c,c,(c.length:Int),(i:Int),())) (fun r=>decide (r.length=(c.headD []).length)&&r.all a0C) (bt:=Sum.inl ()) (bf:=Sum.inr (false,()))
  (fun i h hp=>by
   simp only[bA,dT]at hp;have e:((((c[i]).length:Nat):Int) != (((c.headD []).length:Nat):Int))=false:=by rw[hp.1];exact bne_self_eq_false _
   have a:=g i c[i] (by unfold short;omega);rw[hp.2,cT]at a;simp only[a5j,dlt h,cT,a0A h,oB,b,e,cF,a,a0B (show i<1000000 by omega)])
  (fun i h hp=>by
   by_cases hl:(c[i]).length=(c.headD []).length
   have e:((((c[i]).length:Nat):Int) != (((c.headD []).length:Nat):Int))=false:=by rw[hl];exact bne_self_eq_false _
   have a:=g i c[i] (by unfold short;omega);rw[decide_eq_true hl,a30]at hp;rw[hp,cF]at a;simp only[a5j,dlt h,cT,a0A h,oB,b,e,cF,a];have e:((((c[i]).length:Nat):Int) != (((c.headD []).length:Nat):Int))=true:=by simp only[bne_iff_ne,ne_eq,a68];exact hl
   simp only[a5j,dlt h,cT,a0A h,oB,b,e])
  (by simp only[a5j,dge,cF])
 simp only[nZ]at k;rw[k];have p:1≤c.length:=by omega
 have q:c.length≤8:=by omega
 have s:(c.headD []).length≤4096:=by omega
 by_cases hA:c.all (fun r=>decide (r.length=(c.headD []).length)&&r.all a0C)=true
 rw[hA,decide_eq_true (show a1U c from⟨p,q,s,hA⟩)];rfl;rw[a27.2 hA,decide_eq_false (show ¬ a1U c from fun h=>hA h.2.2.2)];rfl
def a2d(c:List (List Int))(n:Nat):Prop:=∀r∈c,r.length=n∧r.all a0C=true
theorem c4t{c:List (List Int)}(h:a1U c):a2d c (c.headD []).length:=fun r g=>by
 have:=lA.1 h.2.2.2 r g
 simpa using this
theorem b3g{c:List (List Int)}{n:Nat}(h:a2d c n)(g:1≤c.length)(f:c.length≤8)(b:n≤4096):a1U c:=by
 have k:(c.headD []).length=n:=by
  rw[←b1G (d:=[]) (show 0<c.length by omega)];exact(h _ (a03 _)).1
 refine⟨g,f,by omega,lA.2 fun r a=>?_⟩
 have:=h r a
 rw[decide_eq_true (show r.length=(c.headD []).length from by rw[k];exact this.1),this.2];rfl
theorem d0B{c:List (List Int)}{n:Nat}(h:a2d c n)(m:n≤5000)(l:c.length≤100):a7Z c=some c:=by
 have:=a1L (f:=a7D) (β:=List (List Int)×Unit) c (fun i (a:List (List Int))=>(c,(c.length:Int),(i:Int),a,())) (fun a x=>.inl (a++[x])) (fun i a=>a.length=i) (fun a=>(a,()))
  (fun i k a d=>⟨fun j g=>by
   simp only[Sum.inl.injEq]at g;subst g;have o:=(h _ (a03 k)).1;have e:∀y:List Int,a53 ([([]:List Int)]:List (List Int)) 0 y=[y]:=fun _=>rfl;refine⟨?_,by simp[d]⟩;simp only[a7D,dlt k,cT,a0A k,oB,a7P (show short c[i]by unfold short;omega),e];rw[a4o (by simp;omega),cT,a0B (show i<1000000 by omega)];rfl,fun b hb=>by cases hb⟩)
  (fun a d=>by simp only[a7D,dge,cF]) (a:=[]) rfl
 rw[b5N (fun x:List Int=>[x])]at this;unfold a7Z;simp only[nZ]at this;rw[this];simp[a8J]
def a2j(sign g:Int)(x y:Int):Int:=y+sign*(g*x / 256)
def a4I(sign g:Int)(xs ys:List Int):List Int:=List.zipWith (a2j sign g) xs ys
theorem d1s(sign g:Int){xs ys:List Int}(h:xs.length=ys.length):(a4I sign g xs ys).length=ys.length:=by simp[a4I,h]
theorem c6C{sign g x y:Int}(b:sign=1∨sign=-1)(c:-1024≤g∧g≤1024)(k:a0C x=true)(a:a0C y=true):
  wrap .i64 (y+wrap .i64 (sign*z0h .i64 (wrap .i64 (g*x)) 8))=a2j sign g x y:=by
 have k:=a1X.1 k;have a:=a1X.1 a;have f:-1099511627776≤g*x∧g*x≤1099511627776:=by
  have f:g.natAbs≤1024:=by omega
  have h:x.natAbs≤1073741824:=by omega
  have:=Nat.mul_le_mul f h
  rw[←Int.natAbs_mul]at this;omega
 rw[a0F (n:=g*x) (by omega)];have h:z0h .i64 (g*x) 8=g*x / 256:=by
  unfold z0h;show(g*x).fdiv (2^8)=_;rw[a42 _ (by omega)];rfl
 rw[h];unfold a2j;rcases b with rfl|rfl;rw[a0F (n:=1*(g*x / 256)) (by omega),a0F (by omega)];rw[a0F (n:=-1*(g*x / 256)) (by omega),a0F (by omega)]
theorem a5f{α:Type}(c:List α){a b:Nat}(h:a≠b)(y d:α):(c.set b y).getD a d=c.getD a d:=by
 rw[lD,lD,a40 (Ne.symm h)]
theorem a6P{α:Type}(c:List α){b:Nat}(h:b<c.length)(y d:α):(c.set b y).getD b d=y:=by
 rw[lD,a36 h];rfl
theorem d2x{α:Type}(p:List α)(x:α)(s:List α)(d:α):(p++x::s).getD p.length d=x:=by
 rw[lD];simp
theorem d2U{α:Type}(p:List α)(x y:α)(s:List α):(p++x::s).set p.length y=p++y::s:=by simp
theorem c3K{c:List (List Int)}{s:a0U}{sign:Int}(a:sign=1∨sign=-1)(l:-1024≤s.2.2.1∧s.2.2.1≤1024)(a0:0≤s.1)(j:0≤s.2.1)(g:s.1.toNat≠s.2.1.toNat)(hb:s.2.1.toNat<c.length)(f:s.2.1<(c.length:Int))
  {xs:List Int}(b:c.getD s.1.toNat []=xs)(B:xs.length≤5000):∀(sx suf px pre:List Int),px++sx=xs→px.length=pre.length→sx.length=suf.length→sx.all a0C=true→suf.all a0C=true→
  if(a4I sign s.2.2.1 sx suf).all a0C=true then
   x0r a4q (sign,(xs.length:Int),(pre.length:Int),c.set s.2.1.toNat (pre++suf),s,((s.1.toNat:Nat):Int),())=some (.inl (c.set s.2.1.toNat (pre++a4I sign s.2.2.1 sx suf),()))
  else ∃c',x0r a4q (sign,(xs.length:Int),(pre.length:Int),c.set s.2.1.toNat (pre++suf),s,((s.1.toNat:Nat):Int),())=some (.inr (false,c',()))
 | [],suf,px,pre,hx,hp,hl,_,_=>by
  have e:suf=[]:=a48.1 hl.symm;subst e;have t:pre.length=xs.length:=by rw[←hx,←hp];simp
  rw[if_pos (by rfl),t];exact a0D (by simp only[a4q,dge,cF];rfl)
 |x::sx,[],px,pre,_,_,hl,_,_=>by simp at hl
 |x::sx,y::suf,px,pre,hx,hp,hl,hwx,hwy=>by
  simp only[a08,bA]at hwx hwy;have A:pre.length<xs.length:=by rw[←hx,←hp];simp
  have u:(c.set s.2.1.toNat (pre++y::suf)).getD (a21 ((s.1.toNat:Nat):Int)) []=xs:=by rw[tN,a5f _ g];exact b
  have v:(c.set s.2.1.toNat (pre++y::suf)).getD s.2.1.toNat []=pre++y::suf:=a6P _ hb _ _;have w:a34 xs (a21 (pre.length:Int)) 0=x:=by rw[tN,←hp,←hx];exact d2x _ _ _ _
  have z:a34 (pre++y::suf) (a21 (pre.length:Int)) 0=y:=by rw[tN];exact d2x _ _ _ _
  have n:decide ((0:Int)≤(pre.length:Int))=true:=by simp
  have o:decide ((pre.length:Int)<(xs.length:Int))=true:=by simp;omega
  have p:decide ((0:Int)≤s.2.1)=true:=by simpa using j
  have q:decide (s.2.1<(((c.set s.2.1.toNat (pre++y::suf)).length:Nat):Int))=true:=by rw[a52];simpa using f
  have r:decide ((pre.length:Int)<(((pre++y::suf).length:Nat):Int))=true:=by simp;omega
  have hv:=c6C a l hwx.1 hwy.1;have C:wrap .i64 ((pre.length:Int)+1)=((pre.length+1:Nat):Int):=a0B (by omega);have m:a4I sign s.2.2.1 (x::sx) (y::suf)=a2j sign s.2.2.1 x y::a4I sign s.2.2.1 sx suf:=rfl;have k:a53 (c.set s.2.1.toNat (pre++y::suf)) s.2.1.toNat (a53 (pre++y::suf) (a21 (pre.length:Int)) (a2j sign s.2.2.1 x y))=c.set s.2.1.toNat ((pre++[a2j sign s.2.2.1 x y])++suf):=by
   rw[tN,List.set_set,d2U];simp
  have h:a4q (sign,(xs.length:Int),(pre.length:Int),c.set s.2.1.toNat (pre++y::suf),s,((s.1.toNat:Nat):Int),()) =
    bif !(a0C (a2j sign s.2.2.1 x y))then some (.inr (Sum.inr (false,c.set s.2.1.toNat (pre++y::suf),())))
    else some (.inl (sign,(xs.length:Int),((pre.length+1:Nat):Int),c.set s.2.1.toNat ((pre++[a2j sign s.2.2.1 x y])++suf),s,((s.1.toNat:Nat):Int),())):=by
   simp only[a4q,o,cT,u,v,n,a02,p,q,r,w,z,b5O,hv,oB,C];cases hwv:a0C (a2j sign s.2.2.1 x y);rfl;simp only[bT,cF];rw[k,tN]
  cases hwv:a0C (a2j sign s.2.2.1 x y)with
  |false=>
   rw[m,if_neg (by simp[hwv])];rw[hwv]at h;exact⟨_,a0D h⟩
  |true=>
   rw[hwv]at h;have d:=c3K a l a0 j g hb f b B sx suf (px++[x]) (pre++[a2j sign s.2.2.1 x y]) (by simpa using hx) (by simp[hp]) (by simpa using hl) hwx.2 hwy.2;rw[a0E h,m];simp only[a08,hwv,a30];rw[show((pre++[a2j sign s.2.2.1 x y]).length)=pre.length+1 from by simp]at d;split;rename_i i;rw[if_pos i]at d;rw[d]
   simp
   rename_i i;rw[if_neg i]at d;exact d
def a4y(sign:Int)(s:a0U)(c:List (List Int)):Option (List (List Int)):=
 let r:=a4I sign s.2.2.1 (c.getD s.1.toNat []) (c.getD s.2.1.toNat [])
 if r.all a0C=true then some (c.set s.2.1.toNat r)else none
theorem a3H{c:List (List Int)}{n:Nat}(h:a2d c n){i:Nat}(g:i<c.length):(c.getD i []).length=n∧(c.getD i []).all a0C=true:=by
 rw[lD,lG g];exact h _ (a03 g)
theorem d1t{c:List (List Int)}{n:Nat}(a:a2d c n)(w:n≤5000){s:a0U}(q:a2w (c.length:Int) s=true){sign:Int}(k:sign=1∨sign=-1):
  ∃b f,a9b (c,s,sign)=some (b,f)∧match a4y sign s c with|some r=>b=true∧f=r|none=>b=false:=by
 obtain⟨a1,d,e,j,v,l,m⟩:=a3G.1 q;have t:=a3H a (i:=s.1.toNat) (by omega);have u:=a3H a (i:=s.2.1.toNat) (by omega);have hb:s.2.1.toNat<c.length:=by omega
 have g:c.set s.2.1.toNat (c.getD s.2.1.toNat [])=c:=by
  apply a43;intro i
  by_cases hi:s.2.1.toNat=i
  subst hi;rw[a36 hb,lD,lG hb];rfl;rw[a40 hi]
 have:=c3K k ⟨l,m⟩ a1 e (by omega) hb j (rfl:c.getD s.1.toNat []=_) (by omega) (c.getD s.1.toNat []) (c.getD s.2.1.toNat []) [] [] rfl rfl (by omega) t.2 u.2
 rw[a07,g]at this;simp only[a69,nZ,a07,a05]at this;have o:decide ((0:Int)≤s.1)=true:=by simpa using a1
 have p:decide (s.1<(c.length:Int))=true:=by simpa using d
 unfold a9b a4y;simp only[o,p,a02,cT]
 by_cases hA:(a4I sign s.2.2.1 (c.getD s.1.toNat []) (c.getD s.2.1.toNat [])).all a0C=true
 rw[if_pos hA]at this⊢;refine⟨true,_,?_,rfl,rfl⟩
 erw[this]
 rfl;rw[if_neg hA]at this⊢;obtain⟨f,h⟩:=this;refine⟨false,f,?_,rfl⟩
 erw[h]
 rfl
theorem b2G{c c':List (List Int)}{n:Nat}(g:a2d c n){s:a0U}(a:a2w (c.length:Int) s=true){sign:Int}(h:a4y sign s c=some c'):a2d c' n∧c'.length=c.length:=by
 obtain⟨a1,d,e,j,l,m,o⟩:=a3G.1 a;have p:=a3H g (i:=s.1.toNat) (by omega);have b:=a3H g (i:=s.2.1.toNat) (by omega);unfold a4y at h;simp only at h
 split at h
 rename_i k;cases h;refine⟨fun r f=>?_,by simp⟩;rcases a44 f with f|rfl;exact g r f;exact⟨by rw[d1s _ _ (by omega)];exact b.1,k⟩;cases h
theorem c6D(g:Int):∀xs ys:List Int,xs.length=ys.length→a4I (-1) g xs (a4I 1 g xs ys)=ys
 | [],[],_=>rfl
 |x::xs,y::ys,h=>by
  have f:=c6D g xs ys (by simpa using h);show a2j (-1) g x (a2j 1 g x y)::a4I (-1) g xs (a4I 1 g xs ys)=_;rw[f];unfold a2j;congr 1;omega
 | [],_::_,h=>by simp at h
 |_::_,[],h=>by simp at h
theorem d0C{c c':List (List Int)}{n:Nat}(g:a2d c n){s:a0U}(f:a2w (c.length:Int) s=true)(h:a4y 1 s c=some c'):a4y (-1) s c'=some c:=by
 obtain⟨a1,a,b,d,e,j,l⟩:=a3G.1 f;have m:=a3H g (i:=s.1.toNat) (by omega);have k:=a3H g (i:=s.2.1.toNat) (by omega);have hb:s.2.1.toNat<c.length:=by omega
 unfold a4y at h;simp only at h
 split at h
 cases h;unfold a4y;simp only;rw[a5f _ (show s.1.toNat≠s.2.1.toNat by omega),a6P _ hb,c6D _ _ _ (by omega),if_pos k.2,List.set_set];congr 1;apply a43;intro i
 by_cases hi:s.2.1.toNat=i
 subst hi;rw[a36 hb,lD,lG hb];rfl;rw[a40 hi];cases h
def doO:List a0U→List (List Int)→Option (List (List Int))
 | [],c=>some c
 |s::l,c=>(a4y 1 s c).bind (doO l)
def c5E:List a0U→List (List Int)→Option (List (List Int))
 | [],c=>some c
 |s::l,c=>(c5E l c).bind (a4y (-1) s)
theorem a9Y{n:Nat}{N:Nat}:∀(l:List a0U){c c':List (List Int)},a2d c n→c.length=N→l.all (a2w (N:Int))=true→doO l c=some c'→a2d c' n∧c'.length=N
 | [],c,c',hc,hl,_,h=>by cases h;exact⟨hc,hl⟩
 |s::l,c,c',hc,hl,hs,h=>by
  simp only[a08,bA]at hs;simp only[doO,a16]at h;obtain⟨d,g,f⟩:=h;obtain⟨k,a⟩:=b2G hc (by rw[hl];exact hs.1) g;exact a9Y l k (by omega) hs.2 f
theorem c7G{n:Nat}{N:Nat}:∀(l:List a0U){c c':List (List Int)},a2d c n→c.length=N→l.all (a2w (N:Int))=true→doO l c=some c'→c5E l c'=some c
 | [],c,c',_,_,_,h=>by cases h;rfl
 |s::l,c,c',hc,hl,hs,h=>by
  simp only[a08,bA]at hs;simp only[doO,a16]at h;obtain⟨d,g,f⟩:=h;obtain⟨k,a⟩:=b2G hc (by rw[hl];exact hs.1) g;simp only[c5E];rw[c7G l k (by omega) hs.2 f];exact d0C hc (by rw[hl];exact hs.1) g
def c0T:Option (List (List Int))→List (List Int)×Int
 |some r=>(r,0)
 |none=>([],6)
theorem c7H{n N:Nat}(j:n≤5000){l:List a0U}(o:l.length≤16)(e:l.all (a2w (N:Int))=true):∀(k i:Nat)(c:List (List Int)),i+k=l.length→a2d c n→c.length=N→
  x0r a9c (l,(l.length:Int),(i:Int),c,())=some (match doO (l.drop i) c with|some r=>Sum.inl (r,())|none=>Sum.inr ([],6,()))
 |0,i,c,h,_,_=>by
  obtain rfl:i=l.length:=by omega
  rw[a38];exact a0D (by simp only[a9c,dge,cF];rfl)
 |k+1,i,c,h,hc,hcl=>by
  have g:i<l.length:=by omega
  rw[a09 g];have m:a2w (c.length:Int) l[i]=true:=by rw[hcl];exact lA.1 e _ (a03 g)
  obtain⟨b,a,d,f⟩:=d1t hc j m (sign:=1) (.inl rfl);simp only[doO];cases hst:a4y 1 l[i] c with
  |none=>
   rw[hst]at f;simp only at f;subst f;exact a0D (by simp only[a9c,dlt g,cT,a0A g,oB,d,a06];rfl)
  |some r=>
   rw[hst]at f;obtain⟨rfl,rfl⟩:=f;obtain⟨p,q⟩:=b2G hc m hst;rw[a0E (s':=(l,(l.length:Int),((i+1:Nat):Int),a,())) (by
    simp only[a9c,dlt g,cT,a0A g,oB,d,bT,cF,a0B (show i<1000000 by omega)])]
   rw[c7H j o e k (i+1) a (by omega) p (by omega)];rfl
theorem c3L(c:List (List Int))(l:List a0U):b1A (c,l)=some (if a1U c∧a3w l (c.length:Int)then c0T (doO l c)else([],1)):=by
 unfold b1A;simp only[c4s,oB]
 by_cases hq:a1U c
 have h:=c4t hq;simp only[hq,decide_true,bT,cF,c7v,oB,true_and]
 by_cases hm:a3w l (c.length:Int)
 simp only[hm,decide_true,bT,cF,if_true];rw[d0B h (by have:=hq.2.2.1;omega) (by have:=hq.2.1;omega)]
 have:=c7H (N:=c.length) (by have:=hq.2.2.1;omega:(c.headD []).length≤5000) hm.2.2.1 hm.2.2.2 l.length 0 c (by omega) h rfl
 simp only[nZ,a28,a05]at this;simp only[oB]
 erw[this]
 cases doO l c<;>rfl;simp only[hm,decide_false,a06,cT,if_false];simp only[hq,decide_false,a06,cT,oB,false_and,if_false]
def a1C(b:a1G):Nat:=(b.2.1.headD []).length
theorem a7y(b:a1G):a6K b=some ((a1C b:Nat):Int):=by
 unfold a6K a1C;obtain⟨d,c,u⟩:=b;cases c with
 |nil=>rfl
 |cons r c=>
  have:((((r::c).length:Nat):Int)==0)=false:=by simp;omega
  simp only[this,cF];rfl
def a2z(b:a1G):Prop:=4≤b.1∧b.1≤24∧1≤b.2.1.length∧b.2.1.length≤8∧1≤a1C b∧a1C b≤4096∧b.2.1.all (fun r=>decide (r.length=a1C b)&&r.all fun x=>a1l x b.1)=true
instance (b:a1G):Decidable (a2z b):=by unfold a2z;infer_instance
theorem c6E{x w:Int}(h:4≤w∧w≤24):a3E (x,w)=some (a1l x w):=by
 have:=a5t (x:=x) (w:=w.toNat) (by omega)
 rwa [Int.toNat_of_nonneg (by omega)]at this
theorem a9w(b:a1G):b0G b=some (decide (a2z b)):=by
 unfold b0G a7W
 by_cases h1:4≤b.1
 rotate_left;rw[decide_eq_false (show ¬ a2z b from fun h=>h1 h.1),decide_eq_false h1];rfl
 by_cases h2:b.1≤24
 rotate_left;rw[decide_eq_false (show ¬ a2z b from fun h=>h2 h.2.1),decide_eq_true h1,decide_eq_false h2];rfl
 by_cases h3:((b.2.1.length:Nat):Int)<1
 rw[decide_eq_false (show ¬ a2z b from fun h=>by have:=h.2.2.1;omega),decide_eq_true h1,decide_eq_true h2,decide_eq_true h3];rfl
 by_cases h4:((b.2.1.length:Nat):Int) > 8
 rw[decide_eq_false (show ¬ a2z b from fun h=>by have:=h.2.2.2.1;omega),decide_eq_true h1,decide_eq_true h2,decide_eq_false h3,decide_eq_true h4];rfl;have c:decide (((b.2.1.length:Nat):Int)<1)=false:=by simpa using h3
 have d:decide (((b.2.1.length:Nat):Int) > 8)=false:=by simpa using h4
 simp only[decide_eq_true h1,decide_eq_true h2,c,d,cT,cF,oB,bT,a7y]
 by_cases h5:((a1C b:Nat):Int)<1
 rw[decide_eq_false (show ¬ a2z b from fun h=>by have:=h.2.2.2.2.1;omega),decide_eq_true h5];rfl
 by_cases h6:((a1C b:Nat):Int) > 4096
 rw[decide_eq_false (show ¬ a2z b from fun h=>by have:=h.2.2.2.2.2.1;omega),decide_eq_false h5,decide_eq_true h6];rfl;have l:decide (((a1C b:Nat):Int)<1)=false:=by simpa using h5
 have m:decide (((a1C b:Nat):Int) > 4096)=false:=by simpa using h6
 simp only[l,m,cF,oB];have g:∀(i:Nat)(r:List Int),short r→x0r a5g (b.2.1,(b.2.1.length:Int),(i:Int),r,(r.length:Int),(0:Int),b,())=some (bif r.all (fun x=>a1l x b.1)then Sum.inl (b.2.1,(b.2.1.length:Int),(i:Int),b,())else Sum.inr (false,())):=fun i r n=>by
  have:=a0V (f:=a5g) r (fun j=>(b.2.1,(b.2.1.length:Int),(i:Int),r,(r.length:Int),(j:Int),b,())) (fun x=>a1l x b.1) (bt:=Sum.inl (b.2.1,(b.2.1.length:Int),(i:Int),b,())) (bf:=Sum.inr (false,()))
   (fun j h hp=>by simp only[a5g,dlt h,cT,a0A h,oB,c6E ⟨h1,h2⟩,hp,bT,cF,a0B (a46 h n)])
   (fun j h hp=>by simp only[a5g,dlt h,cT,a0A h,oB,c6E ⟨h1,h2⟩,hp,a06])
   (by simp only[a5g,dge,cF])
  exact this
 have k:=a0V (f:=a5h) b.2.1 (fun i=>(b.2.1,(b.2.1.length:Int),(i:Int),b,())) (fun r=>decide (r.length=a1C b)&&r.all fun x=>a1l x b.1) (bt:=Sum.inl ()) (bf:=Sum.inr (false,()))
  (fun i h hp=>by
   simp only[bA,dT]at hp;have e:((((b.2.1[i]).length:Nat):Int) != ((a1C b:Nat):Int))=false:=by rw[hp.1];exact bne_self_eq_false _
   have a:=g i b.2.1[i] (by unfold short;omega);rw[hp.2,cT]at a;simp only[a5h,dlt h,cT,a0A h,oB,a7y,e,cF,a,a0B (show i<1000000 by omega)])
  (fun i h hp=>by
   by_cases hl:(b.2.1[i]).length=a1C b
   have e:((((b.2.1[i]).length:Nat):Int) != ((a1C b:Nat):Int))=false:=by rw[hl];exact bne_self_eq_false _
   have a:=g i b.2.1[i] (by unfold short;omega);rw[decide_eq_true hl,a30]at hp;rw[hp,cF]at a;simp only[a5h,dlt h,cT,a0A h,oB,a7y,e,cF,a];have e:((((b.2.1[i]).length:Nat):Int) != ((a1C b:Nat):Int))=true:=by simp only[bne_iff_ne,ne_eq,a68];exact hl
   simp only[a5h,dlt h,cT,a0A h,oB,a7y,e])
  (by simp only[a5h,dge,cF])
 simp only[nZ]at k;rw[k]
 by_cases hA:b.2.1.all (fun r=>decide (r.length=a1C b)&&r.all fun x=>a1l x b.1)=true
 rw[hA,decide_eq_true (show a2z b from⟨h1,h2,by omega,by omega,by omega,by omega,hA⟩)];rfl;rw[a27.2 hA,decide_eq_false (show ¬ a2z b from fun h=>hA h.2.2.2.2.2.2)];rfl
def b1y{α β:Type}(g:α→Option β):List α→Option (List β)
 | []=>some []
 |a::l=>(g a).bind fun b=>(b1y g l).bind fun r=>some (b::r)
theorem b8G{α β:Type}{g:α→Option β}:∀{l:List α}{r:List β},b1y g l=some r→r.length=l.length
 | [],r,h=>by cases h;rfl
 |a::l,r,h=>by
  simp only[b1y,a16]at h;obtain⟨b,-,c,f,k⟩:=h;cases k;simp[b8G f]
def c6F(f:a9v):Option a1G:=
 if frP f∧((f.2.2.2.2.1.length:Nat):Int)=f.2.2.1.2.1 then
  (b1y (fun s=>a2p s f.2.1) f.2.2.2.2.1).bind fun rs=>
   if a1U rs∧a3w f.2.2.2.1 (rs.length:Int)then
    (c5E f.2.2.2.1 rs).bind fun ch=>if a2z (f.2.2.1.2.2.1,ch,())then some (f.2.2.1.2.2.1,ch,())else none
   else none
 else none
set_option maxRecDepth 100000 in
theorem d2V:b7d ()=some true:=by kernel_rfl
theorem c6G(x:a0U):eqT (.pair (.int .i64) (.pair (.int .i64) (.pair (.int .i64) .unit))) x x=true:=by
 show((x.1==x.1)&&((x.2.1==x.2.1)&&((x.2.2.1==x.2.2.1)&&true)))=true
 simp
theorem c4u{x:List a0U}(g:x.length<1000000):a8Q (x,x)=some true:=by
 unfold a8Q
 have:=a0V (f:=a6k) (β:=Unit ⊕ (Bool×Unit)) x (fun i=>(x,x,(i:Int),())) (fun _=>true) (bt:=Sum.inl ()) (bf:=Sum.inr (false,()))
  (fun i h _=>by simp only[a6k,dlt h,cT,a0A h,oB,c6G,bT,cF,a0B (show i<1000000 by omega)])
  (fun i h hp=>by grind) (by simp_all[a6k])
 grind
theorem b7T{f:a9v}(k:∀s∈f.2.2.2.2.1,SmallS s)(g:f.2.2.2.1.length<1000000)(a:f.2.2.2.2.1.length<1000000):a6m (f,f)=some true:=by
 unfold a6m
 have:=a0V (f:=a6l) (β:=Unit ⊕ (Bool×Unit)) f.2.2.2.2.1 (fun i=>((i:Int),f,f,())) (fun _=>true) (bt:=Sum.inl ()) (bf:=Sum.inr (false,()))
  (fun i h _=>by simp only[a6l,dlt h,cT,a0A h,oB,c3d (k _ (a03 h)),decide_true,bT,cF,a0B (show i<1000000 by omega)])
  (fun i h hp=>by grind) (by simp_all[a6l])
 simp at this;simp[c6G,c4u g]
 grind
def d4b(b:a1G)(m:Nat):Prop:=b.2.1.length≤12∧∀r∈b.2.1,r.length≤m
theorem d0D(b:a1G)(m:Nat):∃t,b4N (b,(m:Int))=some t∧(t=true→d4b b m):=by
 unfold b4N
 by_cases h1:((b.2.1.length:Nat):Int) > 12
 simp_all;have g:decide (((b.2.1.length:Nat):Int) > 12)=false:=decide_eq_false h1
 have:=a0V (f:=a8m) (β:=Unit ⊕ (Bool×Unit)) b.2.1 (fun i=>((m:Int),(i:Int),b,())) (fun r=>decide (r.length≤m)) (bt:=Sum.inl ()) (bf:=Sum.inr (false,()))
  (fun i h hp=>by
   have e:decide (((b.2.1[i].length:Nat):Int) > (m:Int))=false:=by simp_all
   simp only[a8m,dlt h,cT,a0A h,oB,e,cF,a0B (show i<1000000 by omega)])
  (fun i h hp=>by
   have e:decide (((b.2.1[i].length:Nat):Int) > (m:Int))=true:=by simp_all
   simp_all[a8m,a0A]) (by simp_all[a8m])
 simp at this;simp only[g,cF];rw[this];cases hA:b.2.1.all (fun r=>decide (r.length≤m))with
 |true=>exact⟨true,rfl,fun _=>⟨by omega,fun r k=>by simp_all⟩⟩
 |false=>simp
theorem c6H{c:List (List Int)}:b0S c=some (decide (1≤c.length∧c.length≤8∧c.all (fun r=>decide (r.length=(c.headD []).length))=true)):=by
 unfold b0S
 by_cases h1:((c.length:Nat):Int)<1
 grind
 by_cases h2:((c.length:Nat):Int) > 8
 grind
 have g:0<c.length:=by omega
 have k:l0z c 0=some (c.headD []):=by rw[show(0:Int)=((0:Nat):Int)from rfl,a0A g,b1G (d:=[]) g]
 have:=a0V (f:=a7j) (β:=Unit ⊕ (Bool×Unit)) c (fun i=>(c,(i:Int),())) (fun r=>decide (r.length=(c.headD []).length)) (bt:=Sum.inl ()) (bf:=Sum.inr (false,()))
  (fun i h hp=>by
   simp only[dT]at hp;have e:((((c[i]).length:Nat):Int) != (((c.headD []).length:Nat):Int))=false:=by simp_all
   simp only[a7j,dlt h,cT,a0A h,oB,k,e,cF,a0B (show i<1000000 by omega)])
  (fun i h hp=>by
   simp only[decide_eq_false_iff_not]at hp;have e:((((c[i]).length:Nat):Int) != (((c.headD []).length:Nat):Int))=true:=by grind
   simp only[a7j,dlt h,cT,a0A h,oB,k,e]) (by simp_all[a7j])
 grind
theorem c0U{x w:Int}(h:4≤w∧w≤24):a7z (x,w)=some (a1l x w):=by
 have:=b3G (x:=x) (w:=w.toNat) (by omega)
 grind
theorem a8Z(b:a1G):a7k b=some (decide (a2z b)):=by
 unfold a7k
 by_cases h1:b.1<4
 rw[decide_eq_true h1,decide_eq_false (fun h:a2z b=>by have:=h.1;omega)];rfl
 by_cases h2:b.1 > 24
 rw[decide_eq_false h1,decide_eq_true h2,decide_eq_false (fun h:a2z b=>by have:=h.2.1;omega)];rfl;simp only[decide_eq_false h1,decide_eq_false h2,cF,c6H,oB]
 by_cases h3:1≤b.2.1.length∧b.2.1.length≤8∧b.2.1.all (fun r=>decide (r.length=(b.2.1.headD []).length))=true
 rotate_left;rw[decide_eq_false h3,decide_eq_false (fun h:a2z b=>h3 ⟨h.2.2.1,h.2.2.2.1,lA.2 fun r c=>by
  have:=lA.1 h.2.2.2.2.2.2 r c
  simp only[bA]at this;exact this.1⟩)];rfl
 have e:0<b.2.1.length:=by omega
 have l:l0z b.2.1 0=some (b.2.1.headD []):=by rw[show(0:Int)=((0:Nat):Int)from rfl,a0A e,b1G (d:=[]) e]
 simp only[decide_eq_true h3,bT,cF,l,oB]
 by_cases h4:(((b.2.1.headD []).length:Nat):Int)<1
 rw[decide_eq_true h4,decide_eq_false (fun h:a2z b=>by have:=h.2.2.2.2.1;grind[a1C])];rfl
 by_cases h5:(((b.2.1.headD []).length:Nat):Int) > 4096
 rw[decide_eq_false h4,decide_eq_true h5,decide_eq_false (fun h:a2z b=>by have:=h.2.2.2.2.2.1;grind[a1C])];rfl;simp only[decide_eq_false h4,decide_eq_false h5,cF,oB];have hb:4≤b.1∧b.1≤24:=by omega
 have g:∀(i:Nat)(a:i<b.2.1.length),x0r a3A ((i:Int),(0:Int),b,())=some (bif (b.2.1[i]).all (fun x=>a1l x b.1)then Sum.inl ((i:Int),b,())else Sum.inr (false,())):=fun i a=>by
  have o:(b.2.1[i]).length=(b.2.1.headD []).length:=by simp_all
  have:=a0V (f:=a3A) (β:=(Int×a1G×Unit) ⊕ (Bool×Unit)) b.2.1[i] (fun j=>((i:Int),(j:Int),b,())) (fun x=>a1l x b.1) (bt:=Sum.inl ((i:Int),b,())) (bf:=Sum.inr (false,()))
   (fun j h hp=>by simp only[a3A,a0A a,oB,dlt h,cT,a0A h,c0U hb,hp,bT,cF,a0B (show j<1000000 by omega)])
   (fun j h hp=>by simp only[a3A,a0A a,oB,dlt h,cT,a0A h,c0U hb,hp,a06])
   (by simp_all[a3A,a0A])
  omega
 have k:=a0V (f:=a4M) (β:=Unit ⊕ (Bool×Unit)) b.2.1 (fun i=>((i:Int),b,())) (fun r=>r.all fun x=>a1l x b.1) (bt:=Sum.inl ()) (bf:=Sum.inr (false,()))
  (fun i h hp=>by
   have a:=g i h;rw[hp,cT]at a;simp only[a4M,dlt h,cT]
   grind[a0B])
  (fun i h hp=>by
   have a:=g i h;rw[hp,cF]at a;simp_all[a4M])
  (by simp_all[a4M])
 simp at k;rw[k]
 by_cases hA:b.2.1.all (fun r=>r.all fun x=>a1l x b.1)=true
 rw[hA,decide_eq_true (p:=a2z b) (⟨hb.1,hb.2,h3.1,h3.2.1,by unfold a1C;omega,by unfold a1C;omega,lA.2 fun r c=>by
  have m:=lA.1 h3.2.2 r c;have n:=lA.1 hA r c;simp_all[a1C]⟩:a2z b)]
 rfl;rw[a27.2 hA,decide_eq_false (p:=a2z b) (fun h=>hA (lA.2 fun r c=>by
  have:=lA.1 h.2.2.2.2.2.2 r c
  simp_all))]
 rfl
theorem c7I{x w:Int}(b:4≤w∧w≤24)(h:a1l x w=true):-16777216≤x∧x≤16777216:=by
 unfold a1l at h;simp at h;obtain⟨-,-,f,g⟩:=h;obtain⟨o,k⟩:∃o:Nat,w-1=(o:Int):=⟨(w-1).toNat,by omega⟩;rw[k]at f g;rw[c6f (by omega)]at g;have hp:2^o≤2^24:=a29 (by omega) (by omega);have a:z0g .i64 (-1) (o:Int)=wrap .i64 (-((2^o:Nat):Int)):=by
  unfold z0g;show wrap .i64 (-1*2^(min (o:Int).toNat 64))=_
  grind
 grind[a0F]
theorem d0E{x w:Int}(g:4≤w∧w≤24)(h:a1l x w=true):a0C x=true:=a1X.2 (by have:=c7I g h;omega)
theorem b1z{b:a1G}(h:a2z b):a2d b.2.1 (a1C b)∧a1U b.2.1:=by
 obtain⟨k,a,c,d,e,i,g⟩:=h;have j:a2d b.2.1 (a1C b):=fun r f=>by
  have:=lA.1 g r f
  simp only[bA,dT]at this
  grind[d0E]
 grind[b3g]
theorem c9r{b:a1G}(hb:a2z b){l:List a0U}(c:a3w l (b.2.1.length:Int)){rows:List (List Int)}(n:doO l b.2.1=some rows){ss:List Sub}(q:b1y (fun s=>a2p s ((a1C b:Nat):Int)) ss=some rows)
  {start rate:Int}(h:0≤start∧start≤4194304-((a1C b:Nat):Int))(p:1≤rate∧rate≤1048576):
  c6F (start,((a1C b:Nat):Int),(rate,((b.2.1.length:Nat):Int),b.1,()),l,ss,())=some b:=by
 obtain⟨m,y⟩:=b1z hb;obtain⟨x,z⟩:=a9Y l m rfl c.2.2.2 n;have o:=b8G q;obtain⟨e,i,r,t,u,j,v⟩:=hb;have a:frP (start,((a1C b:Nat):Int),(rate,((b.2.1.length:Nat):Int),b.1,()),l,ss,()):=⟨⟨p.1,p.2,by grind,by grind,e,i⟩,by grind,by grind,h.1,h.2,c⟩;have k:((ss.length:Nat):Int)=((b.2.1.length:Nat):Int):=by omega
 have g:a1U rows:=b3g x (by omega) (by omega) j;have d:a3w l ((rows.length:Nat):Int):=by simp_all
 have w:=c7G l m rfl c.2.2.2 n;have f:((b.1,b.2.1,()):a1G)=b:=rfl;unfold c6F;rw[if_pos ⟨a,k⟩];simp only[q,oB];rw[if_pos ⟨g,d⟩,w];simp only[oB,f];rw[if_pos ⟨e,i,r,t,u,j,v⟩]
def a4V:a9v:=(0,0,(0,0,0,()),[],[],())
theorem c3M(c:List (List Int))(n i:Int){r:List Int}(a:short r):∀(k j:Nat)(s:Int),2≤j→j+k=r.length∨(k=0∧r.length≤j)→∃s',x0r a2Q (s,r,(j:Int),c,n,i,())=some (s',c,n,i,())
 |0,j,s,h2,h=>⟨s,a0D (by
   have d:decide ((j:Int)<(r.length:Int))=false:=by simp;omega
   simp only[a2Q,d,cF])⟩
 |k+1,j,s,h2,h=>by
  have f:j<r.length:=by omega
  unfold short at a;have b:wrap .i64 ((j:Int)-1)=((j-1:Nat):Int):=by rw[a0F (by omega)];omega
  have e:wrap .i64 ((j:Int)-2)=((j-2:Nat):Int):=by rw[a0F (by omega)];omega
  have m:=a0A (l:=r) (i:=j-1) (by omega);have o:=a0A (l:=r) (i:=j-2) (by omega);obtain⟨s',g⟩:=c3M c n i a k (j+1) (wrap .i64 (s+u0z (wrap .i64 (wrap .i64 (r[j]-wrap .i64 (2*r[j-1]))+r[j-2])) (wrap .i64 (0-wrap .i64 (wrap .i64 (r[j]-wrap .i64 (2*r[j-1]))+r[j-2]))))) (by omega) (by omega);refine⟨s',?_⟩;rw[←g];exact a0E (by simp only[a2Q,dlt f,cT,a0A f,oB,b,e,m,o,a0B (show j<1000000 by omega)])
theorem c4T{c:List (List Int)}{n:Nat}(h:a2d c n)(o:n≤4096)(m:c.length<1000):∃w,a4z c=some w:=by
 unfold a4z;simp only[c4s,oB]
 by_cases hq:a1U c
 rotate_left;exact⟨0,by simp only[hq,decide_false,a06,cT]⟩;simp only[hq,decide_true,bT,cF];have a:∀(k i:Nat)(s:Int),i+k=c.length→∃s',x0r a2R (s,c,(c.length:Int),(i:Int),())=some (s',()):=by
  intro k
  induction k with
  |zero=>
   intro i s e;obtain rfl:i=c.length:=by omega
   exact⟨s,a0D (by simp only[a2R,dge,cF])⟩
  |succ k ih=>
   intro i s e;have g:i<c.length:=by omega
   have p:=(h _ (a03 g)).1;obtain⟨j,b⟩:=c3M c (c.length:Int) (i:Int) (r:=c[i]) (by unfold short;omega) (c[i].length-2) 2 s (a18 _) (by omega);obtain⟨l,d⟩:=ih (i+1) j (by omega);refine⟨l,?_⟩;rw[←d];rw[show((2:Nat):Int)=2 from rfl]at b;exact a0E (by simp only[a2R,dlt g,cT,a0A g,oB,b,a0B (show i<1000000 by omega)])
 obtain⟨s',f⟩:=a c.length 0 0 (by omega);rw[show((0:Nat):Int)=0 from rfl]at f;rw[f];exact⟨s',rfl⟩
def a1j(m:Nat):List a0U:=match m with
 | 1=>[(0,1,-256,())]
 | 2=>[(1,0,-256,())]
 | 3=>[(1,0,-256,()),(0,1,128,())]
 | 4=>[(1,0,-106,()),(0,1,181,()),(1,0,-106,())]
 |_=>[]
theorem b3h{m:Nat}(h:m≤4):a9d (m:Int)=some (a1j m):=by
 match m,h with
 |0,_=>rfl
 | 1,_=>rfl
 | 2,_=>rfl
 | 3,_=>rfl
 | 4,_=>rfl
theorem b1H{m:Nat}(h:m≤4):a3w (a1j m) 2:=by
 match m,h with
 |0,_=>decide
 | 1,_=>decide
 | 2,_=>decide
 | 3,_=>decide
 | 4,_=>decide
theorem b6L{p:List (List Int)}{n:Nat}(hp:a2d p n)(a:p.length=2)(f:a1U p)(b:n≤4096):∀(k m best:Nat)(least:Int),m+k=5→best≤4→(doO (a1j best) p).isSome=true→
  ∃best',x0r a2X (p,(best:Int),least,(m:Int),())=some (((best':Nat):Int),())∧best'≤4∧(doO (a1j best') p).isSome=true
 |0,m,best,least,hm,hb,hd=>by
  obtain rfl:m=5:=by omega
  exact⟨best,a0D rfl,hb,hd⟩
 |k+1,m,best,least,hm,hb,hd=>by
  have d:decide ((m:Int)<5)=true:=by simp;omega
  have e:wrap .i64 ((m:Int)+1)=((m+1:Nat):Int):=a0B (by omega);have g:a3w (a1j m) (p.length:Int):=by rw[a];exact b1H (by omega)
  cases hdo:doO (a1j m) p with
  |none=>
   have j:((6:Int) != 0)=true:=rfl;rw[a0E (s':=(p,(best:Int),least,((m+1:Nat):Int),())) (by
    simp only[a2X,d,cT,b3h (show m≤4 by omega),oB,c3L,if_pos (show a1U p∧a3w (a1j m) (p.length:Int)from⟨f,g⟩),hdo,c0T,j,e])]
   exact b6L hp a f b k (m+1) best least (by omega) hb hd
  |some r=>
   have i:((0:Int) != 0)=false:=rfl;obtain⟨l,o⟩:=a9Y (a1j m) hp rfl g.2.2.2 hdo
   obtain⟨w,c⟩:=c4T l b (by omega);have h:a2X (p,(best:Int),least,(m:Int),())=bif decide (w<least)then some (.inl (p,(m:Int),w,((m+1:Nat):Int),()))else some (.inl (p,(best:Int),least,((m+1:Nat):Int),())):=by
    simp only[a2X,d,cT,b3h (show m≤4 by omega),oB,c3L,if_pos (show a1U p∧a3w (a1j m) (p.length:Int)from⟨f,g⟩),hdo,c0T,i,cF,c,e]
   cases hlt:decide (w<least)with
   |true=>
    rw[hlt]at h;rw[a0E h];exact b6L hp a f b k (m+1) m w (by omega) (by omega) (by rw[hdo];rfl)
   |false=>
    rw[hlt]at h;rw[a0E h];exact b6L hp a f b k (m+1) best least (by omega) hb hd
theorem d2W{p:List (List Int)}{n:Nat}(hp:a2d p n)(k:p.length=2)(g:n≤4096):∃m,m≤4∧a8s p=some (a1j m)∧(doO (a1j m) p).isSome=true:=by
 have b:=b3g hp (by omega) (by omega) g;obtain⟨w,c⟩:=c4T hp g (by omega);obtain⟨m,f,h,a⟩:=b6L hp k b g 4 1 0 w rfl (by omega) rfl;refine⟨m,h,?_,a⟩;unfold a8s;simp only[c,oB]
 erw[f]
 simp only[oB,b3h h]
def a8q(i:Nat)(s:a0U):a0U:=(s.1+(i:Int),s.2.1+(i:Int),s.2.2.1,())
theorem d1u{i N:Nat}(h:i+2≤N){s:a0U}(k:a2w 2 s=true):a2w (N:Int) (a8q i s)=true:=by
 obtain⟨a1,a,b,c,d,g,f⟩:=a3G.1 k;exact a3G.2 ⟨by show 0≤s.1+(i:Int);omega,by show s.1+(i:Int)<(N:Int);omega,by show 0≤s.2.1+(i:Int);omega,by show s.2.1+(i:Int)<(N:Int);omega,by show s.1+(i:Int)≠s.2.1+(i:Int);omega,g,f⟩
def c5F(i:Nat)(c c' p:List (List Int)):Prop:=c'.length=c.length∧p.length=2∧c'.getD i []=p.getD 0 []∧c'.getD (i+1) []=p.getD 1 []∧∀j,j≠i→j≠i+1→c'.getD j []=c.getD j []
theorem c9s{i:Nat}{c0 c p p':List (List Int)}(E:i+2≤c0.length)(h:c5F i c0 c p){s:a0U}(z:a2w 2 s=true)(g:a4y 1 s p=some p'):∃c',a4y 1 (a8q i s) c=some c'∧c5F i c0 c' p':=by
 obtain⟨q,t,a,b,u⟩:=h;obtain⟨a1,d,l,m,B,C,D⟩:=a3G.1 z;unfold a4y at g⊢;simp only at g⊢;have f:∀x:Int,0≤x→x<2→c.getD (x+(i:Int)).toNat []=p.getD x.toNat []:=fun x F A=>by
  have:x=0∨x=1:=by omega
  rcases this with rfl|rfl;rw[show((0:Int)+(i:Int)).toNat=i from by omega];exact a;rw[show((1:Int)+(i:Int)).toNat=i+1 from by omega];exact b
 have n:=f s.1 a1 d;have o:=f s.2.1 l m;simp only[a8q];have y:a4I 1 s.2.2.1 (c.getD (s.1+(i:Int)).toNat []) (c.getD (s.2.1+(i:Int)).toNat [])=a4I 1 s.2.2.1 (p.getD s.1.toNat []) (p.getD s.2.1.toNat []):=by rw[n,o]
 simp only[y]
 split at g
 rename_i v;cases g;rw[if_pos v];generalize a4I 1 s.2.2.1 (p.getD s.1.toNat []) (p.getD s.2.1.toNat [])=r at *;refine⟨_,rfl,by simp[q],by simp[t],?_,?_,fun j w k=>?_⟩
 have:s.2.1=0∨s.2.1=1:=by omega
 rcases this with e|e;rw[e,show((0:Int)+(i:Int)).toNat=i from by omega,a6P _ (by omega),show(0:Int).toNat=0 from rfl,a6P _ (by omega)];rw[e,show((1:Int)+(i:Int)).toNat=i+1 from by omega,a5f _ (by omega),show(1:Int).toNat=1 from rfl,a5f _ (by omega)];exact a
 have:s.2.1=0∨s.2.1=1:=by omega
 rcases this with e|e;rw[e,show((0:Int)+(i:Int)).toNat=i from by omega,a5f _ (by omega),show(0:Int).toNat=0 from rfl,a5f _ (by omega)];exact b;rw[e,show((1:Int)+(i:Int)).toNat=i+1 from by omega,a6P _ (by omega),show(1:Int).toNat=1 from rfl,a6P _ (by omega)];rw[a5f _ (by omega)];exact u j w k;cases g
theorem c6I{i:Nat}{c0:List (List Int)}(f:i+2≤c0.length):∀(l:List a0U){c p p':List (List Int)},l.all (a2w 2)=true→c5F i c0 c p→doO l p=some p'→∃g,doO (l.map (a8q i)) c=some g∧c5F i c0 g p'
 | [],c,p,p',_,h,hd=>by cases hd;exact⟨c,rfl,h⟩
 |s::l,c,p,p',hl,h,hd=>by
  simp only[a08,bA]at hl;simp only[doO,a16]at hd;obtain⟨q,k,a⟩:=hd;obtain⟨d,b,e⟩:=c9s f h hl.1 k;obtain⟨g,j1,j2⟩:=c6I f l hl.2 e a;exact⟨g,by simp only[a58,doO,b,oB];exact j1,j2⟩
theorem c7J:∀(l m:List a0U)(c:List (List Int)),doO (l++m) c=(doO l c).bind (doO m)
 | [],m,c=>rfl
 |s::l,m,c=>by
  simp only[List.cons_append,doO];cases a4y 1 s c with
  |none=>rfl
  |some d=>exact c7J l m d
theorem c6J{α β:Type}(f:α→β):∀l:List α,l.flatMap (fun x=>[f x])=l.map f
 | []=>rfl
 |x::l=>by simp[c6J f l]
theorem c1V(b:a1G)(first:Nat)(t:first≤100){y:List a0U}(e:y.all (a2w 2)=true)(s:y.length≤10)(out:List a0U)(u:out.length≤1000):
  x0r a7d ((first:Int),(y.length:Int),(0:Int),out,y,b,())=some ((first:Int),out++y.map (a8q first),b,()):=by
 have:=a1L (f:=a7d) (β:=Int×(List a0U×(a1G×Unit))) y (fun i (a:List a0U)=>((first:Int),(y.length:Int),(i:Int),a,y,b,())) (fun a x=>.inl (a++[a8q first x])) (fun i a=>a.length=out.length+i) (fun a=>((first:Int),a,b,()))
  (fun i g a k=>⟨fun j h=>by
   simp only[Sum.inl.injEq]at h;subst h;obtain⟨a1,l,m,o,p,q,r⟩:=a3G.1 (lA.1 e _ (a03 g));have c:decide ((0:Int)≤(i:Int))=true:=by simp
   have d:a34 y (a21 (i:Int)) ((0:Int),(0:Int),(0:Int),())=y[i]:=by rw[tN,lD,lG g];rfl
   refine⟨?_,by simp[k];omega⟩;simp only[a7d,dlt g,cT,c,a02,a4o (show a.length+1<2147483648 by omega),d,a0B (show i<1000000 by omega),a04];rw[a0F (n:=y[i].1+(first:Int)) (by omega),a0F (n:=y[i].2.1+(first:Int)) (by omega)]
   rfl,fun b hb=>by cases hb⟩)
  (fun a k=>by simp only[a7d,dge,cF]) (a:=out) (by simp)
 rw[b5N (fun x:a0U=>[a8q first x])]at this
 simp only[nZ]at this;rw[this];simp only[a8J,c6J]
theorem d2y{c:List (List Int)}{i:Nat}(h:i+2≤c.length):List.drop i (List.take (i+2) c)=[c.getD i [],c.getD (i+1) []]:=by
 apply a43;intro j;rw[a60]
 match j with
 |0=>rw[a32,if_pos (by omega),a47,lD,lG (by omega)];rfl
 | 1=>rw[a32,if_pos (by omega),lD,lD,lG (by omega)];rfl
 |j+2=>rw[a32,if_neg (by omega)];rfl
theorem c3N{b:a1G}{n:Nat}(a:a2d b.2.1 n)(q:n≤4096)(C:b.2.1.length≤8):∀(k j:Nat)(out:List a0U)(c:List (List Int)),j+k=5→out.length≤3*j→out.all (a2w (b.2.1.length:Int))=true→doO out b.2.1=some c→(∀i,2*j≤i→c.getD i []=b.2.1.getD i [])→3*j≤12∨b.2.1.length≤2*j→
  ∃l d,x0r a3P (((2*j:Nat):Int),out,b,())=some (l,())∧l.length≤16∧l.all (a2w (b.2.1.length:Int))=true∧doO l b.2.1=some d
 |k,j,out,c,hk,hol,hob,hdo,hag,h12=>by
  have g:wrap .i64 (((2*j:Nat):Int)+1)=((2*j+1:Nat):Int):=by rw[a0F (by omega)];omega
  by_cases hlt:2*j+1<b.2.1.length
  ·cases k with
   |zero=>omega
   |succ k=>
    have f:wrap .i64 (((2*j:Nat):Int)+2)=((2*j+2:Nat):Int):=by rw[a0F (by omega)];omega
    have hp:a2d [b.2.1.getD (2*j) [],b.2.1.getD (2*j+1) []] n:=fun r u=>by
     simp only[mC,a37,or_false]at u;rcases u with rfl|rfl;exact a3H a (by omega);exact a3H a (by omega)
    obtain⟨m,v,H,I⟩:=d2W hp rfl q;obtain⟨p',p⟩:=Option.isSome_iff_exists.1 I;have h:=(b1H v).2.2.2;have E:(a1j m).length≤3:=by
     match m,v with
     |0,_=>decide
     | 1,_=>decide
     | 2,_=>decide
     | 3,_=>decide
     | 4,_=>decide
    have D:c.length=b.2.1.length:=(a9Y out a rfl hob hdo).2;obtain⟨d,A,K,L,M,N,B⟩:=c6I (i:=2*j) (c0:=c) (by omega) (a1j m) h ⟨rfl,rfl,hag _ (a18 _),hag _ (by omega),fun _ _ _=>rfl⟩ p;have o:=c1V b (2*j) (by omega) h (by omega) out (by omega);have e:decide (((2*j+1:Nat):Int)<((b.2.1.length:Nat):Int))=true:=by simp only[dT];omega
    have w:decide ((0:Int)≤((2*j+2:Nat):Int))=true:=by simp only[dT];omega
    have x:decide (((2*j+2:Nat):Int)≤((b.2.1.length:Nat):Int))=true:=by simp only[dT];omega
    have y:decide ((0:Int)≤((2*j:Nat):Int))=true:=by simp only[dT];omega
    have z:decide (((2*j:Nat):Int)≤((2*j+2:Nat):Int))=true:=by simp only[dT];omega
    rw[a0E (s':=(((2*(j+1):Nat):Int),out++(a1j m).map (a8q (2*j)),b,())) (by
     simp only[a3P,g,e,cT,f,w,x,a02,tN,y,z];rw[d2y (by omega),H];simp only[oB];rw[o];simp only[oB,f];rfl)]
    refine c3N a q C k (j+1) (out++(a1j m).map (a8q (2*j))) d (by omega) (by simp;omega) ?_ (by rw[c7J,hdo];exact A) (fun i O=>by rw[B i (by omega) (by omega)];exact hag i (by omega)) (by omega);rw[a25,hob,a30,lA];intro s F;obtain⟨t,G,rfl⟩:=a62.1 F;exact d1u (by omega) (lA.1 h t G)
  refine⟨out,c,a0D ?_,by omega,hob,hdo⟩;have e:decide (((2*j+1:Nat):Int)<((b.2.1.length:Nat):Int))=false:=by simp only[decide_eq_false_iff_not];omega
  simp only[a3P,g,e,cF]
termination_by k=>k
theorem c6K{b:a1G}(hb:a2z b):∃l h,a5d b=some l∧a3w l (b.2.1.length:Int)∧doO l b.2.1=some h:=by
 obtain⟨d,-⟩:=b1z hb;have c:=hb.2.2.2.1;obtain⟨l,h,g,f,k,a⟩:=c3N d hb.2.2.2.2.2.1 c 5 0 [] b.2.1 rfl (by simp) rfl rfl (fun _ _=>rfl) (by omega);refine⟨l,h,?_,⟨by have:=hb.2.2.1;omega,by omega,f,k⟩,a⟩;unfold a5d;simp only[a9w,decide_eq_true hb,oB,bT,cF];rw[show((2*0:Nat):Int)=0 from rfl]at g;rw[g];rfl
theorem d1v{r:List Int}{n:Nat}(e:r.length=n∧r.all a0C=true)(m:1≤n)(o:n≤256){k:Int}(b:0≤k)(c:k≤3):
  ∃s,a1Z (r,k)=some (s,0)∧SmallS s∧a2p s (n:Int)=some r∧a3Z s (n:Int)≤((13+a0J r*n:Nat):Int):=by
 obtain⟨h,g⟩:=e;have d:=a4a (l:=r) (by omega) g;obtain⟨s,i,j,f,-,-,a,-⟩:=c3B (l:=r) (by omega) (by omega) g (c9Q (by have:=d.1;omega)) b c;exact⟨s,i,j,by rw[h]at f;exact f,by rw[h]at a;exact a⟩
theorem c3O{effort:Int}(b:0≤effort)(j:effort≤3){rows:List (List Int)}{n:Nat}(l:a2d rows n)(c:1≤n)(i:n≤256)(p:rows.length≤8)(f:a9v):∀(rest d:List (List Int)) (done:List Sub),d++rest=rows→done.length=d.length→
  ∃outs,x0r a6j (effort,rows,(rows.length:Int),(d.length:Int),a4V,b3M f done,())=some (.inl (a4V,b3M f (done++outs),()))∧b1y (fun s=>a2p s (n:Int)) outs=some rest∧(∀s∈outs,SmallS s)∧b1y (fun r=>a1Z (r,effort)) rest=some (outs.map fun s=>(s,0))
 | [],d,done,hd,hdl=>by
  have e:d=rows:=by simpa using hd
  subst e;refine⟨[],?_,rfl,by simp,rfl⟩;rw[a20];exact a0D (by simp only[a6j,dge,cF])
 |r::rest,d,done,hd,hdl=>by
  have h:d.length<rows.length:=by rw[←hd];simp
  have q:l0z rows (d.length:Int)=some r:=by rw[a0A h];subst hd;simp
  obtain⟨s,a,m,o,-⟩:=d1v (l r (by rw[←hd];simp)) c i b j;have z0:((0:Int) != 0)=false:=rfl;have g:a6j (effort,rows,(rows.length:Int),(d.length:Int),a4V,b3M f done,())=some (.inl (effort,rows,(rows.length:Int),(((d++[r]).length:Nat):Int),a4V,b3M f (done++[s]),())):=by
   simp only[a6j,dlt h,cT,q,oB,a,z0,cF];rw[show(b3M f done).2.2.2.2.1=done from rfl,a4o (show done.length+1<2147483648 by omega),cT,a0B (show d.length<1000000 by omega)];rw[show(((d++[r]).length:Nat):Int)=((d.length+1:Nat):Int)from by simp];rfl
  rw[a0E g];obtain⟨outs,u,v,w,x⟩:=c3O b j l c i p f rest (d++[r]) (done++[s]) (by simpa using hd) (by simp[hdl]);refine⟨s::outs,?_,?_,fun t k=>?_,?_⟩;rw[u];simp;simp only[b1y,o,v,oB];rcases mC.1 k with rfl|k;exact m;exact w t k;simp only[b1y,a,x,oB,a58]
theorem c3P{b:a1G}(hb:a2z b)(f:a1C b≤256){rate start effort:Int}(o:1≤rate∧rate≤1048576)(D:0≤start∧start≤4194304-((a1C b:Nat):Int))(A:0≤effort)(B:effort≤3):
  ∃l rows outs,a2m (b,(rate,((b.2.1.length:Nat):Int),b.1,()),start,effort)=some ((start,((a1C b:Nat):Int),(rate,((b.2.1.length:Nat):Int),b.1,()),l,outs,()),0)∧
   a3w l (b.2.1.length:Int)∧doO l b.2.1=some rows∧b1y (fun s=>a2p s ((a1C b:Nat):Int)) outs=some rows∧(∀s∈outs,SmallS s)∧b1y (fun r=>a1Z (r,effort)) rows=some (outs.map fun s=>(s,0))∧
   (effort=0→l=[])∧(0<effort→a5d b=some l):=by
 obtain⟨C,n⟩:=b1z hb;have i:=hb;obtain⟨y,z,F,G,H,I,-⟩:=i;have j:b3e (rate,((b.2.1.length:Nat):Int),b.1,()):=⟨o.1,o.2,by show(1:Int)≤((b.2.1.length:Nat):Int);omega,by show((b.2.1.length:Nat):Int)≤8;omega,y,z⟩;have g:∃l rows,a3w l (b.2.1.length:Int)∧doO l b.2.1=some rows∧(effort=0→l=[])∧(0<effort→a5d b=some l):=by
  by_cases he:effort=0
  exact⟨[],b.2.1,⟨by omega,by omega,by simp,rfl⟩,rfl,fun _=>rfl,fun h=>by omega⟩;obtain⟨l,c,m,p,E⟩:=c6K hb;exact⟨l,c,p,E,fun h=>absurd h he,fun _=>m⟩
 obtain⟨l,rows,e,d,k,a⟩:=g;obtain⟨m,p⟩:=a9Y l C rfl e.2.2.2 d;obtain⟨outs,j1,j2,j3,j4⟩:=c3O A B m (by omega) f (by omega) (start,((a1C b:Nat):Int),(rate,((b.2.1.length:Nat):Int),b.1,()),l,([]:List Sub),()) rows [] [] rfl rfl;refine⟨l,rows,outs,?_,e,d,j2,j3,j4,k,a⟩;have w:(b.1 != b.1)=false:=bne_self_eq_false _;have x:(((b.2.1.length:Nat):Int) != ((b.2.1.length:Nat):Int))=false:=bne_self_eq_false _;have q:decide (effort<0)=false:=by simp only[decide_eq_false_iff_not];omega
 have t:decide (effort > 3)=false:=by simp only[decide_eq_false_iff_not];omega
 have u:decide (start<0)=false:=by simp only[decide_eq_false_iff_not];omega
 have v:decide (start > wrap .i64 (4194304-((a1C b:Nat):Int)))=false:=by rw[a0F (by omega)];simp only[decide_eq_false_iff_not];omega
 have z0:((0:Int) != 0)=false:=rfl;unfold a2m;simp only[a9w,decide_eq_true hb,oB,bT,cF,b3f,decide_eq_true j,w,x,q,t,u,a7y,v];cases he:decide (effort > 0)with
 |true=>
  have:=a (by simpa using he)
  simp only[cT,this,oB,c3L,if_pos (show a1U b.2.1∧a3w l (b.2.1.length:Int)from⟨n,e⟩),d,c0T,z0,cF]
  erw[j1]
  rfl
 |false=>
  have:=k (by simp only[decide_eq_false_iff_not]at he;omega)
  subst this;simp only[cF,oB,c3L,if_pos (show a1U b.2.1∧a3w ([]:List a0U) (b.2.1.length:Int)from⟨n,e⟩),d,c0T,z0]
  erw[j1]
  rfl
theorem made{b:a1G}(hb:a2z b)(f:a1C b≤256){rate start effort:Int}(e:1≤rate∧rate≤1048576)(a:0≤start∧start≤4194304-((a1C b:Nat):Int))(i:0≤effort)(m:effort≤3):
  ∃g:Int×(a0U×(List a0U×(List Sub×Unit))),a2m (b,(rate,((b.2.1.length:Nat):Int),b.1,()),start,effort)=some ((start,g),0)∧g.1=((a1C b:Nat):Int)∧g.2.1=(rate,((b.2.1.length:Nat):Int),b.1,())∧
   g.2.2.1.length≤16∧g.2.2.2.1.length≤8∧(∀s∈g.2.2.2.1,SmallS s)∧∀h,0≤h∧h≤4194304-((a1C b:Nat):Int)→c6F (h,g)=some b:=by
 obtain⟨l,rows,outs,j,k,c,d,n,-⟩:=c3P hb f e a i m;obtain⟨o,-⟩:=b1z hb;have r:=b8G d;have p:=(a9Y l o rfl k.2.2.2 c).2;exact⟨_,j,rfl,rfl,k.2.2.1,by have:=hb.2.2.2.1;show outs.length≤8;omega,n,fun h q=>c9r hb k c d q e⟩
theorem b5P(f:a0U):b3u f=some (decide (b3e f)):=by
 unfold b3u b3e
 grind
theorem c4v(l:List a0U)(n:Int):b1b (l,n)=some (decide (a3w l n)):=by
 unfold b1b a3w
 by_cases h1:n<1
 grind
 by_cases h2:n > 8
 grind
 by_cases h3:((l.length:Nat):Int) > 16
 grind
 have g:=a0V (f:=a5B) (β:=Unit ⊕ (Bool×Unit)) l (fun i=>(l,n,(i:Int),())) (a2w n) (bt:=Sum.inl ()) (bf:=Sum.inr (false,()))
  (fun i h hp=>by
   obtain⟨a1,m,o,p,q,r,s⟩:=a3G.1 hp;have k:decide (l[i].1<0)=false:=by simp_all
   have a:decide (l[i].1≥n)=false:=by simp_all
   have b:decide (l[i].2.1<0)=false:=by simp_all
   have c:decide (l[i].2.1≥n)=false:=by simp_all
   have d:(l[i].1==l[i].2.1)=false:=by simp_all
   have e:decide (l[i].2.2.1 < -1024)=false:=by simp_all
   have j:decide (l[i].2.2.1 > 1024)=false:=by simp_all
   simp only[a5B,dlt h,cT,a0A h,oB,k,a,b,c,d,e,j,cF,a0B (show i<1000000 by omega)])
  (fun i h hp=>by
   simp only[a5B,dlt h,cT,a0A h,oB]
   grind[a2w])
  (by simp[a5B])
 grind
theorem c1W(c:List (List Int))(l:List a0U):b2a (c,l)=some (decide (a1U c∧a3w l (c.length:Int))):=by
 unfold b2a;simp only[c6H,oB]
 by_cases hl:1≤c.length∧c.length≤8∧c.all (fun r=>decide (r.length=(c.headD []).length))=true
 rotate_left;rw[decide_eq_false hl,decide_eq_false (fun h:a1U c∧_=>hl ⟨h.1.1,h.1.2.1,lA.2 fun r a=>by
  have:=lA.1 h.1.2.2.2 r a
  simp_all⟩)]
 rfl;have b:l0z c 0=some (c.headD []):=by rw[show(0:Int)=((0:Nat):Int)from rfl,a0A (show 0<c.length by omega),b1G (d:=[]) (by omega)]
 rw[decide_eq_true hl];simp only[bT,cF,b,oB]
 by_cases h3:(((c.headD []).length:Nat):Int) > 4096
 rw[decide_eq_true h3,decide_eq_false (fun h:a1U c∧_=>by have:=h.1.2.2.1;omega)];rfl;rw[decide_eq_false h3];simp only[cF,c4v,oB]
 by_cases hm:a3w l (c.length:Int)
 rotate_left;simp_all;rw[decide_eq_true hm];simp only[bT,cF];have k:∀r∈c,r.length=(c.headD []).length:=fun r a=>by simp_all
 have g:=a0V (f:=a8n) c (fun i=>(c,(i:Int),())) (fun r=>r.all a0C) (bt:=Sum.inl ()) (bf:=Sum.inr (false,()))
  (fun i h hp=>by
   have:=k c[i] (a03 h)
   simp only[a8n,dlt h,cT,a0A h,oB,a0M (show short c[i]by unfold short;omega),hp,bT,cF,a0B (show i<1000000 by omega)])
  (fun i h hp=>by
   have:=k c[i] (a03 h)
   simp only[a8n,dlt h,cT,a0A h,oB,a0M (show short c[i]by unfold short;omega),hp,a06])
  (by simp_all[a8n])
 simp at g;rw[g]
 by_cases hA:c.all (fun r=>r.all a0C)=true
 rw[hA,decide_eq_true (⟨⟨hl.1,hl.2.1,by omega,lA.2 fun r a=>by grind⟩,hm⟩:a1U c∧_)];rfl;rw[a27.2 hA,decide_eq_false (fun h:a1U c∧_=>hA (lA.2 fun r a=>by
  have:=lA.1 h.1.2.2.2 r a
  simp_all))];rfl
theorem c5w{c:List (List Int)}{n:Nat}(h:a2d c n)(m:n≤5000)(l:c.length≤100):b2b c=some c:=by
 have:=a1L (f:=a8R) (β:=List (List Int)×Unit) c (fun i (a:List (List Int))=>(c,(i:Int),a,())) (fun a x=>.inl (a++[x])) (fun i a=>a.length=i) (fun a=>(a,()))
  (fun i k a d=>⟨fun j g=>by
   simp at g;subst g;have o:=(h _ (a03 k)).1;have e:∀y:List Int,a53 ([([]:List Int)]:List (List Int)) 0 y=[y]:=fun _=>rfl;refine⟨?_,by grind⟩;simp only[a8R,dlt k,cT,a0A k,oB,e,a04,a07,a54];rw[a4o (by omega),cT,a4o (by omega),cT,a0B (show i<1000000 by omega)],fun b hb=>by grind⟩)
  (fun a d=>by simp_all[a8R]) (a:=[]) rfl
 simp_all[b5N,b2b,a8J]
theorem d1w{c:List (List Int)}{n:Nat}(T:a2d c n)(U:n≤5000){s:a0U}{sign:Int}(p:sign=1∨sign=-1)(D:-1024≤s.2.2.1∧s.2.2.1≤1024)(a0:0≤s.1)(a1:s.1<(c.length:Int))(K:0≤s.2.1)(L:s.2.1<(c.length:Int))(C:s.1.toNat≠s.2.1.toNat)
  {xs:List Int}(H:c.getD s.1.toNat []=xs)(G:xs.length=n):∀(k g j h:List Int),j++k=xs→j.length=h.length→k.length=g.length→k.all a0C=true→g.all a0C=true→
  if(a4I sign s.2.2.1 k g).all a0C=true then
   x0r a7m (sign,(h.length:Int),c.set s.2.1.toNat (h++g),s,())=some (.inl (c.set s.2.1.toNat (h++a4I sign s.2.2.1 k g),()))
  else ∃c',x0r a7m (sign,(h.length:Int),c.set s.2.1.toNat (h++g),s,())=some (.inr (false,c',())):=by
 have hb:s.2.1.toNat<c.length:=by omega
 have F:∀r,(c.set s.2.1.toNat r).getD s.2.1.toNat []=r:=fun r=>a6P _ hb _ _;have E:∀r,(c.set s.2.1.toNat r).getD s.1.toNat []=xs:=fun r=>by grind
 have d:∀r,r.length=n→((c.set s.2.1.toNat r).getD 0 []).length=n:=fun r V=>by
  by_cases l:s.2.1.toNat=0
  grind
  rw[a5f _ (Ne.symm l)]
  grind[a3H]
 have w:decide ((0:Int)<(c.length:Int))=true:=by grind
 have O:decide ((0:Int)≤s.1)=true:=by simp_all
 have z:decide (s.1<(c.length:Int))=true:=by simp_all
 have P:decide ((0:Int)≤s.2.1)=true:=by simp_all
 have A:decide (s.2.1<(c.length:Int))=true:=by simp_all
 intro k
 induction k with
 |nil=>
  intro g j h u hp q _ _;have e:g=[]:=a48.1 q.symm;subst e;have B:h.length=n:=by simp_all
  have l:=d (h++[]) (by simp_all);rw[if_pos (by rfl)];refine a0D ?_
  simp only[a7m,a52,w,cT,l,B,dge,cF];rfl
 |cons x k v=>
  intro g j h u hp q a b;cases g with
  |nil=>simp_all
  |cons y g=>
   simp only[a08,bA]at a b;have i:(h++y::g).length=n:=by grind
   have o:h.length<n:=by grind
   have Q:a34 xs (a21 (h.length:Int)) 0=x:=by rw[tN,←hp,←u];simp
   have R:a34 (h++y::g) (a21 (h.length:Int)) 0=y:=by simp
   have M:decide ((0:Int)≤(h.length:Int))=true:=by simp
   have N:decide ((h.length:Int)<(n:Int))=true:=dlt o;have l:=d _ i;have hv:=c6C p D a.1 b.1;have X:wrap .i64 ((h.length:Int)+1)=((h.length+1:Nat):Int):=a0B (by omega);have I:a4I sign s.2.2.1 (x::k) (y::g)=a2j sign s.2.2.1 x y::a4I sign s.2.2.1 k g:=rfl;have t:a53 (c.set s.2.1.toNat (h++y::g)) s.2.1.toNat (a53 (h++y::g) (a21 (h.length:Int)) (a2j sign s.2.2.1 x y))=c.set s.2.1.toNat (h++a2j sign s.2.2.1 x y::g):=by
    simp
   have m:(h++a2j sign s.2.2.1 x y::g).length=n:=by simp_all
   have S:a34 (h++a2j sign s.2.2.1 x y::g) (a21 (h.length:Int)) 0=a2j sign s.2.2.1 x y:=by simp
   have f:a7m (sign,(h.length:Int),c.set s.2.1.toNat (h++y::g),s,()) =
     bif !(a0C (a2j sign s.2.2.1 x y))then some (.inr (Sum.inr (false,c.set s.2.1.toNat (h++a2j sign s.2.2.1 x y::g),())))
     else some (.inl (sign,((h.length+1:Nat):Int),c.set s.2.1.toNat (h++a2j sign s.2.2.1 x y::g),s,())):=by
    simp_all[a7m,a2g]
   cases hwv:a0C (a2j sign s.2.2.1 x y)with
   |false=>
    simp_all[a0D]
   |true=>
    rw[hwv]at f;have v:=v g (j++[x]) (h++[a2j sign s.2.2.1 x y]) (by simp_all) (by simp[hp]) (by simp_all) a.2 b.2;rw[a0E f,I];simp_all
theorem c9t{c:List (List Int)}{n:Nat}(k:a2d c n)(p:n≤5000){s:a0U}(q:a2w (c.length:Int) s=true){sign:Int}(a:sign=1∨sign=-1):
  ∃b f,b6f (c,s,sign)=some (b,f)∧match a4y sign s c with|some r=>b=true∧f=r|none=>b=false:=by
 obtain⟨a1,e,j,l,u,m,o⟩:=a3G.1 q;have d:=a3H k (i:=s.1.toNat) (by omega);have t:=a3H k (i:=s.2.1.toNat) (by omega);have hb:s.2.1.toNat<c.length:=by omega
 have g:c.set s.2.1.toNat (c.getD s.2.1.toNat [])=c:=by
  simp_all
 have:=d1w k p a ⟨m,o⟩ a1 e j l (by omega) (rfl:c.getD s.1.toNat []=_) d.1 (c.getD s.1.toNat []) (c.getD s.2.1.toNat []) [] [] rfl rfl (by omega) d.2 t.2
 rw[a07,g]at this;simp only[a69,nZ,a07,a05]at this;unfold b6f a4y
 by_cases hA:(a4I sign s.2.2.1 (c.getD s.1.toNat []) (c.getD s.2.1.toNat [])).all a0C=true
 simp_all;rw[if_neg hA]at this⊢;obtain⟨f,h⟩:=this;simp_all
theorem c3Q{n N:Nat}(d:n≤5000){l:List a0U}(o:l.length≤16)(m:l.all (a2w (N:Int))=true):∀(k i:Nat)(c:List (List Int)),i+k=l.length→a2d c n→c.length=N→
  x0r a6o (l,(i:Int),c,())=some (match doO (l.drop i) c with|some r=>Sum.inl (r,())|none=>Sum.inr ([],6,()))
 |0,i,c,h,_,_=>by
  obtain rfl:i=l.length:=by omega
  rw[a38];exact a0D (by simp only[a6o,dge,cF];rfl)
 |k+1,i,c,h,hc,hcl=>by
  have g:i<l.length:=by omega
  rw[a09 g];have e:a2w (c.length:Int) l[i]=true:=by grind
  obtain⟨b,f,j,a⟩:=c9t hc d e (sign:=1) (.inl rfl);simp[doO];cases hst:a4y 1 l[i] c with
  |none=>
   simp_all[a0D,a6o,a0A]
  |some r=>
   rw[hst]at a;obtain⟨rfl,rfl⟩:=a;obtain⟨p,q⟩:=b2G hc e hst;rw[a0E (s':=(l,((i+1:Nat):Int),f,())) (by
    simp only[a6o,dlt g,cT,a0A g,oB,j,bT,cF,a0B (show i<1000000 by omega)])]
   rw[c3Q d o m k (i+1) f (by omega) p (by omega)];rfl
theorem b4w(c:List (List Int))(l:List a0U):a7n (c,l)=some (if a1U c∧a3w l (c.length:Int)then c0T (doO l c)else([],1)):=by
 unfold a7n;simp only[c1W,oB]
 by_cases hq:a1U c∧a3w l (c.length:Int)
 have h:=c4t hq.1;have g:=hq.2;rw[decide_eq_true hq,if_pos hq]
 simp
 rw[c5w h (by have:=hq.1.2.2.1;omega) (by have:=hq.1.2.1;omega)]
 have:=c3Q (N:=c.length) (by have:=hq.1.2.2.1;omega:(c.headD []).length≤5000) g.2.2.1 g.2.2.2 l.length 0 c (by omega) h rfl
 rw[a28]at this;simp at this
 simp
 rw[this];cases doO l c<;>rfl
 grind
theorem b6M(c:List (List Int))(n:Int){i:Nat}(f:i<c.length)(o:short c[i]):∀(k j:Nat)(s:Int),2≤j→j+k=c[i].length∨(k=0∧c[i].length≤j)→
  ∃s',x0r a2Q (s,c[i],(j:Int),c,n,(i:Int),())=some (s',c,n,(i:Int),())∧x0r a5K (c,s,(i:Int),(j:Int),())=some (c,s',(i:Int),())
 |0,j,s,h2,h=>by
  have d:decide ((j:Int)<(c[i].length:Int))=false:=by grind
  exact⟨s,a0D (by simp only[a2Q,d,cF]),a0D (by simp only[a5K,a0A f,oB,d,cF])⟩
 |k+1,j,s,h2,h=>by
  have g:j<c[i].length:=by omega
  unfold short at o;have a:wrap .i64 ((j:Int)-1)=((j-1:Nat):Int):=by grind[a0F]
  have b:wrap .i64 ((j:Int)-2)=((j-2:Nat):Int):=by grind[a0F]
  have e:=a0A (l:=c[i]) (i:=j-1) (by omega);have m:=a0A (l:=c[i]) (i:=j-2) (by omega);obtain⟨s',p,q⟩:=b6M c n f o k (j+1) (wrap .i64 (s+u0z (wrap .i64 (wrap .i64 (c[i][j]-wrap .i64 (2*c[i][j-1]))+c[i][j-2])) (wrap .i64 (0-wrap .i64 (wrap .i64 (c[i][j]-wrap .i64 (2*c[i][j-1]))+c[i][j-2]))))) (by omega) (by omega);refine⟨s',?_,?_⟩;rw[←p];exact a0E (by simp only[a2Q,dlt g,cT,a0A g,oB,a,b,e,m,a0B (show j<1000000 by omega)]);rw[←q];exact a0E (by simp only[a5K,b1C,a0A f,dlt g,cT,a0A g,oB,a,b,e,m,a0B (show j<1000000 by omega)])
theorem c1X{c:List (List Int)}(f:a1U c):∃w,a4z c=some w∧a5C c=some w:=by
 have j:=c4t f;have q:a3w ([]:List a0U) (c.length:Int):=⟨by have:=f.1;omega,by have:=f.2.1;omega,by simp,rfl⟩;have a:∀(k i:Nat)(s:Int),i+k=c.length→∃s',x0r a2R (s,c,(c.length:Int),(i:Int),())=some (s',())∧x0r a5L (c,s,(i:Int),())=some (s',()):=by
  intro k
  induction k with
  |zero=>
   intro i s l;obtain rfl:i=c.length:=by omega
   simp_all[a0D,a2R,a5L]
  |succ k ih=>
   intro i s l;have h:i<c.length:=by omega
   have r:=(j _ (a03 h)).1;have m:=f.2.2.1;have n:=f.2.1;obtain⟨o,b,g⟩:=b6M c (c.length:Int) h (by unfold short;omega) (c[i].length-2) 2 s (a18 _) (by omega);obtain⟨p,e,d⟩:=ih (i+1) o (by omega);rw[show((2:Nat):Int)=2 from rfl]at b g;refine⟨p,?_,?_⟩;rw[←e];exact a0E (by simp only[a2R,dlt h,cT,a0A h,oB,b,a0B (show i<1000000 by omega)]);rw[←d];exact a0E (by simp only[a5L,dlt h,cT,g,oB,a0B (show i<1000000 by omega)])
 obtain⟨w,b,e⟩:=a c.length 0 0 (by omega);simp_all[a4z,c4s,a5C,c1W]
theorem c0V(x:Int):a8S x=a9d x:=rfl
def b6N(c:List (List Int))(B:Int):Prop:=∀r∈c,∀x∈r,-B≤x∧x≤B
def b5Q(l:List a0U):Prop:=∀s∈l,-256≤s.2.2.1∧s.2.2.1≤256
theorem c4U{g B:Int}(f:0≤B)(b:-256≤g∧g≤256):∀{xs ys:List Int},(∀x∈xs,-B≤x∧x≤B)→(∀y∈ys,-B≤y∧y≤B)→∀z∈a4I 1 g xs ys,-(2*B)≤z∧z≤2*B
 | [],_,_,_,z,hz=>by simp[a4I]at hz
 |_::_,[],_,_,z,hz=>by simp[a4I]at hz
 |x::xs,y::ys,hx,hy,z,hz=>by
  rcases mC.1 (show z∈a2j 1 g x y::a4I 1 g xs ys from hz)with rfl|hz;have c:=hx x (by simp);have d:=hy y (by simp);have e:-(256*B)≤g*x∧g*x≤256*B:=by
   have a1:g.natAbs≤256:=by omega
   have h:x.natAbs≤B.toNat:=by omega
   have:=Nat.mul_le_mul a1 h
   rw[←Int.natAbs_mul]at this;omega
  grind[a2j]
  exact c4U f b (fun a k=>hx a (by grind)) (fun a k=>hy a (by grind)) z hz
theorem d0F{c:List (List Int)}{n:Nat}(u:a2d c n){B:Int}(b:0≤B)(hb:b6N c B)(a:2*B<1073741824){s:a0U}(e:a2w (c.length:Int) s=true)(d:-256≤s.2.2.1∧s.2.2.1≤256):∃c',a4y 1 s c=some c'∧b6N c' (2*B):=by
 obtain⟨a1,l,m,o,p,q,t⟩:=a3G.1 e;have g:∀i,i<c.length→c.getD i []∈c:=fun i v=>by simp_all
 have w:=c4U b d (hb _ (g s.1.toNat (by omega))) (hb _ (g s.2.1.toNat (by omega)));have f:(a4I 1 s.2.2.1 (c.getD s.1.toNat []) (c.getD s.2.1.toNat [])).all a0C=true:=lA.2 fun z h=>a1X.2 (by grind);unfold a4y;simp only[f,if_true];refine⟨_,rfl,fun r k x j=>?_⟩;rcases a44 k with k|rfl
 have:=hb r k x j;omega
 simp_all
theorem d4c(c:Nat):(2:Int)^c=((2^c:Nat):Int):=by rfl
theorem c7K{n N:Nat}:∀(l:List a0U){c:List (List Int)} {B:Int},a2d c n→c.length=N→l.all (a2w (N:Int))=true→b5Q l→0≤B→b6N c B→B*2^l.length<1073741824→∃h,doO l c=some h
 | [],c,_,_,_,_,_,_,_,_=>⟨c,rfl⟩
 |s::l,c,B,hc,hN,hl,hg,hB,hb,h30=>by
  simp only[a08,bA]at hl;rw[lC,Int.pow_succ]at h30;have hp:(1:Int)≤2^l.length:=by rw[d4c];have:=a41 l.length;omega
  have k:B*2≤B*(2^l.length*2):=Int.mul_le_mul_of_nonneg_left (by omega) hB;obtain⟨b,g,f⟩:=d0F hc hB hb (by omega) (s:=s) (by simp_all) (hg s (by simp));obtain⟨a,i⟩:=b2G hc (by simp_all) g;obtain⟨h,d⟩:=c7K l a (by omega) hl.2 (fun t e=>hg t (by grind)) (by omega) f (by grind);simp_all[doO]
theorem c1Y{m:Nat}(h:m≤4):b5Q (a1j m)∧(a1j m).length≤3:=by
 match m with
 |0=>exact⟨by simp[b5Q,a1j],by simp[a1j]⟩
 | 1=>exact⟨by simp[b5Q,a1j],by simp[a1j]⟩
 | 2=>exact⟨by simp[b5Q,a1j],by simp[a1j]⟩
 | 3=>exact⟨by simp[b5Q,a1j],by simp[a1j]⟩
 | 4=>exact⟨by simp[b5Q,a1j],by simp[a1j]⟩
 |m+5=>omega
theorem d0G{p:List (List Int)}{n:Nat}(hp:a2d p n)(k:p.length=2)(hb:b6N p 16777216){m:Nat}(h:m≤4):∃c',doO (a1j m) p=some c':=by
 obtain⟨g,f⟩:=c1Y h;refine c7K (a1j m) hp k (b1H h).2.2.2 g (by omega) hb ?_
 have:(2:Nat)^(a1j m).length≤2^3:=a29 (by omega) f
 grind
theorem b3i{p:List (List Int)}{n:Nat}(hp:a2d p n)(a:p.length=2)(e:n≤4096)(hb:b6N p 16777216)(i:Int)(out:List a0U)(b:a1G):∀(k m best:Nat)(least:Int),m+k=5→best≤4→
  ∃best',best'≤4∧x0r a2X (p,(best:Int),least,(m:Int),())=some (((best':Nat):Int),())∧
   x0r a6U (i,p,(best:Int),least,(m:Int),out,b,())=some (i,((best':Nat):Int),out,b,())
 |0,m,best,least,hm,hbe=>by
  obtain rfl:m=5:=by omega
  exact⟨best,hbe,a0D rfl,a0D rfl⟩
 |k+1,m,best,least,hm,hbe=>by
  have d:decide ((m:Int)<5)=true:=by grind
  have s:wrap .i64 ((m:Int)+1)=((m+1:Nat):Int):=a0B (by omega);have h:a3w (a1j m) (p.length:Int):=by grind[b1H]
  have r:a1U p:=b3g hp (by omega) (by omega) e;obtain⟨l,g⟩:=d0G hp a hb (m:=m) (by omega);obtain⟨v,y⟩:=a9Y (a1j m) hp a (b1H (by omega)).2.2.2 g;obtain⟨w,x,w2⟩:=c1X (c:=l) (b3g v (by omega) (by omega) e);have z0:((0:Int) != 0)=false:=rfl;have t:b1A (p,a1j m)=some (l,0):=by rw[c3L,if_pos ⟨r,h⟩,g];rfl
  have u:a7n (p,a1j m)=some (l,0):=by rw[b4w,if_pos ⟨r,h⟩,g];rfl
  have f:=b3h (m:=m) (by omega);cases hlt:decide (w<least)with
  |true=>
   obtain⟨j,o,r2,q⟩:=b3i hp a e hb i out b k (m+1) m w (by omega) (by omega);refine⟨j,o,?_,?_⟩;simp_all[a0E,a2X];rw[←q];exact a0E (by simp_all[a6U,c0V])
  |false=>
   obtain⟨j,o,r2,q⟩:=b3i hp a e hb i out b k (m+1) best least (by omega) hbe;refine⟨j,o,?_,?_⟩;rw[←r2];exact a0E (by simp only[a2X,d,cT,f,oB,t,z0,cF,x,hlt,s]);rw[←q];exact a0E (by simp only[a6U,d,cT,c0V,f,oB,u,w2,hlt,s,cF])
theorem c4w(b:a1G)(first:Nat)(t:first≤100){y:List a0U}(e:y.all (a2w 2)=true)(s:y.length≤10)(out:List a0U)(u:out.length≤1000):
  x0r a4N ((first:Int),(0:Int),out,y,b,())=some ((first:Int),out++y.map (a8q first),b,()):=by
 have:=a1L (f:=a4N) (β:=Int×(List a0U×(a1G×Unit))) y (fun i (a:List a0U)=>((first:Int),(i:Int),a,y,b,())) (fun a x=>.inl (a++[a8q first x])) (fun i a=>a.length=out.length+i) (fun a=>((first:Int),a,b,()))
  (fun i g a c=>⟨fun j h=>by
   simp at h;subst h;obtain⟨a1,l,m,o,p,q,r⟩:=a3G.1 (lA.1 e _ (a03 g));have k:decide ((0:Int)≤(i:Int))=true:=by simp
   have d:a34 y (a21 (i:Int)) ((0:Int),(0:Int),(0:Int),())=y[i]:=by simp_all
   refine⟨?_,by grind⟩;simp only[a4N,dlt g,cT,k,a02,a4o (show a.length+1<2147483648 by omega),d,a0B (show i<1000000 by omega),a04];rw[a0F (n:=y[i].1+(first:Int)) (by omega),a0F (n:=y[i].2.1+(first:Int)) (by omega)]
   rfl,fun b hb=>by grind⟩)
  (fun a c=>by simp_all[a4N]) (a:=out) (by simp)
 simp_all[b5N,a8J,c6J]
theorem b9g{b:a1G}{n:Nat}(D:a2d b.2.1 n)(s:n≤4096)(C:b.2.1.length≤8)(q:b6N b.2.1 16777216):∀(k j:Nat)(out:List a0U),j+k=5→out.length≤3*j→
  ∃l,x0r a3P (((2*j:Nat):Int),out,b,())=some (l,())∧x0r a6V (((2*j:Nat):Int),out,b,())=some (l,())
 |k,j,out,hk,hol=>by
  have h:wrap .i64 (((2*j:Nat):Int)+1)=((2*j+1:Nat):Int):=by grind[a0F]
  by_cases hlt:2*j+1<b.2.1.length
  ·cases k with
   |zero=>omega
   |succ k=>
    have p:wrap .i64 (((2*j:Nat):Int)+2)=((2*j+2:Nat):Int):=by grind[a0F]
    have hp:a2d [b.2.1.getD (2*j) [],b.2.1.getD (2*j+1) []] n:=fun r o=>by
     simp only[mC,a37,or_false]at o;rcases o with rfl|rfl
     all_goals grind[a3H]
    have f:∀i,i<b.2.1.length→b.2.1.getD i []∈b.2.1:=fun i I=>by simp_all
    have t:b6N [b.2.1.getD (2*j) [],b.2.1.getD (2*j+1) []] 16777216:=fun r o=>by
     simp only[mC,a37,or_false]at o;rcases o with rfl|rfl;exact q _ (f _ (by omega));exact q _ (f _ (by omega))
    have e:=d2y (c:=b.2.1) (i:=2*j) (by omega);obtain⟨w,M,w2⟩:=c1X (c:=[b.2.1.getD (2*j) [],b.2.1.getD (2*j+1) []]) (b3g hp (by simp) (by simp) s);obtain⟨m,u,L,G⟩:=b3i hp rfl s t ((2*j:Nat):Int) out b 4 1 0 w rfl (by omega);have a:a8s [b.2.1.getD (2*j) [],b.2.1.getD (2*j+1) []]=some (a1j m):=by
     simp_all[a8s,b3h]
    have g:=(b1H u).2.2.2;have H:=(c1Y u).2;have v:decide (((2*j+1:Nat):Int)<((b.2.1.length:Nat):Int))=true:=dlt hlt;have x:decide ((0:Int)≤((2*j+2:Nat):Int))=true:=by rfl
    have y:decide (((2*j+2:Nat):Int)≤((b.2.1.length:Nat):Int))=true:=by grind
    have z:decide ((0:Int)≤((2*j:Nat):Int))=true:=by rfl
    have A:decide (((2*j:Nat):Int)≤(((2*j+2:Nat)):Int))=true:=by grind
    have F:=c1V b (2*j) (by omega) g (by omega) out (by omega);have K:=c4w b (2*j) (by omega) g (by omega) out (by omega);obtain⟨l,B,r2⟩:=b9g D s C q k (j+1) (out++(a1j m).map (a8q (2*j))) (by omega) (by grind);rw[show 2*(j+1)=2*j+2 from by rfl]at B r2;refine⟨l,?_,?_⟩;rw[←B];exact a0E (by simp only[a3P,h,v,cT,p,x,y,a02,tN,z,A,e,a,oB,F]);rw[←r2];simp only[a05]at G;have E:=b3h u;refine a0E ?_
    simp only[a6V,h,v,cT,p,x,y,a02,tN,z,A,e,w2,oB];simp_all[c0V]
  have d:decide (((2*j+1:Nat):Int)<((b.2.1.length:Nat):Int))=false:=by grind
  exact⟨out,a0D (by simp only[a3P,h,d,cF]),a0D (by simp only[a6V,h,d,cF])⟩
theorem d0H{b:a1G}(hb:a2z b):b6N b.2.1 16777216:=fun r h x g=>by
 have:=lA.1 hb.2.2.2.2.2.2 r h
 simp only[bA]at this;exact c7I ⟨hb.1,hb.2.1⟩ (lA.1 this.2 x g)
theorem c4x{b:a1G}(hb:a2z b):∃l,a5d b=some l∧a9G b=some l:=by
 obtain⟨f,-⟩:=b1z hb;obtain⟨l,h,g⟩:=b9g f hb.2.2.2.2.2.1 hb.2.2.2.1 (d0H hb) 5 0 [] rfl (by simp);simp at h g;simp_all[a5d,a9w,a9G,a8Z]
theorem b6O(b:a1G):a7l b=some ((a1C b:Nat):Int):=by
 unfold a7l a1C;cases hc:b.2.1 with
 |nil=>rfl
 |cons r c=>
  have d:((((r::c).length:Nat):Int)==0)=false:=by simp;omega
  simp only[d,cF,show l0z (r::c) (0:Int)=some r from rfl,oB,List.headD_cons]
theorem b9h{effort:Int}{rows:List (List Int)}(k:∀r∈rows,r.length≤256)(c:rows.length≤8)(f:a9v):∀(rest d:List (List Int)) (done outs:List Sub),d++rest=rows→done.length=d.length→b1y (fun r=>a1Z (r,effort)) rest=some (outs.map fun s=>(s,0))→
  x0r a4n (effort,rows,(d.length:Int),a4V,b3M f done,())=some (a4V,b3M f (done++outs),())
 | [],d,done,outs,hd,hdl,ho=>by
  have e:d=rows:=by simpa using hd
  subst e;simp only[b1y,sj]at ho
  have:outs=[]:=List.map_eq_nil_iff.1 ho.symm
  subst this;rw[a20];exact a0D (by simp only[a4n,dge,cF])
 |r::rest,d,done,outs,hd,hdl,ho=>by
  have h:d.length<rows.length:=by rw[←hd];simp
  have i:l0z rows (d.length:Int)=some r:=by rw[a0A h];subst hd;simp
  obtain⟨s,e,a,b,-⟩:=d0A (l:=r) (k r (by rw[←hd];simp)) effort;simp only[b1y,a,oB]at ho;cases hm:b1y (fun r=>a1Z (r,effort)) rest with
  |none=>rw[hm]at ho;cases ho
  |some q=>
   rw[hm]at ho;simp only[oB,sj]at ho;cases outs with
   |nil=>cases ho
   |cons t outs=>
    simp only[a58,List.cons.injEq,pJ]at ho;obtain⟨⟨rfl,rfl⟩,rfl⟩:=ho;have g:a4n (effort,rows,(d.length:Int),a4V,b3M f done,())=some (.inl (effort,rows,(((d++[r]).length:Nat):Int),a4V,b3M f (done++[s]),())):=by
     simp only[a4n,dlt h,cT,i,oB,b];rw[show(b3M f done).2.2.2.2.1=done from rfl,a4o (show done.length+1<2147483648 by omega),cT,a0B (show d.length<1000000 by omega)];rw[show(((d++[r]).length:Nat):Int)=((d.length+1:Nat):Int)from by simp];rfl
    rw[a0E g,b9h k c f rest (d++[r]) (done++[s]) outs (by simpa using hd) (by simp[hdl]) hm]
    simp
theorem d0I{b:a1G}{f:a0U}{start effort:Int}(h:¬ (a2z b∧b3e f∧b.1=f.2.2.1∧((b.2.1.length:Nat):Int)=f.2.1∧0≤effort∧effort≤3∧0≤start)):
  a2m (b,f,start,effort)=some (a4V,1)∧a2C (b,f,start,effort)=some (a4V,1):=by
 unfold a2m a2C;simp only[a9w,a8Z,oB,b3f,b5P]
 by_cases h1:a2z b
 rotate_left;rw[decide_eq_false h1];exact⟨rfl,rfl⟩;rw[decide_eq_true h1]
 by_cases h2:b3e f
 rotate_left;rw[decide_eq_false h2];exact⟨rfl,rfl⟩;rw[decide_eq_true h2]
 by_cases h3:b.1=f.2.2.1
 rotate_left;rw[show(b.1 != f.2.2.1)=true from by simpa using h3];exact⟨rfl,rfl⟩;rw[show(b.1 != f.2.2.1)=false from by simpa using h3]
 by_cases h4:((b.2.1.length:Nat):Int)=f.2.1
 rotate_left;rw[show(((b.2.1.length:Nat):Int) != f.2.1)=true from by simpa using h4];exact⟨rfl,rfl⟩;rw[show(((b.2.1.length:Nat):Int) != f.2.1)=false from by simpa using h4]
 by_cases h5:effort<0
 rw[decide_eq_true h5];exact⟨rfl,rfl⟩;rw[decide_eq_false h5]
 by_cases h6:effort > 3
 rw[decide_eq_true h6];exact⟨rfl,rfl⟩;rw[decide_eq_false h6]
 by_cases h7:start<0
 rw[decide_eq_true h7];exact⟨rfl,rfl⟩;exact absurd ⟨h1,h2,h3,h4,by omega,by omega,by omega⟩ h
theorem d0J{b:a1G}{f:a0U}{start effort:Int}(h:a2z b∧b3e f∧b.1=f.2.2.1∧((b.2.1.length:Nat):Int)=f.2.1∧0≤effort∧effort≤3∧0≤start)(r:start > 4194304-((a1C b:Nat):Int)):
  a2m (b,f,start,effort)=some (a4V,4)∧a2C (b,f,start,effort)=some (a4V,4):=by
 obtain⟨g,j,l,m,n,o,p⟩:=h;have q:=g.2.2.2.2.2.1;have e:(b.1 != f.2.2.1)=false:=by simpa using l
 have i:(((b.2.1.length:Nat):Int) != f.2.1)=false:=by simpa using m
 have k:decide (effort<0)=false:=by simp only[decide_eq_false_iff_not];omega
 have a:decide (effort > 3)=false:=by simp only[decide_eq_false_iff_not];omega
 have c:decide (start<0)=false:=by simp only[decide_eq_false_iff_not];omega
 have d:decide (start > wrap .i64 (4194304-((a1C b:Nat):Int)))=true:=by rw[a0F (by omega)];simp only[dT];omega
 unfold a2m a2C;simp only[a9w,a8Z,oB,b3f,b5P,decide_eq_true g,decide_eq_true j,bT,cF,e,i,k,a,c,a7y,b6O,d,cT];exact⟨rfl,rfl⟩
theorem d0K{b:a1G}(hb:a2z b)(f:a1C b≤256){rate start effort:Int}(k:1≤rate∧rate≤1048576)(m:0≤start∧start≤4194304-((a1C b:Nat):Int))(z:0≤effort)(A:effort≤3):
  ∃g:a9v,a2m (b,(rate,((b.2.1.length:Nat):Int),b.1,()),start,effort)=some (g,0)∧a2C (b,(rate,((b.2.1.length:Nat):Int),b.1,()),start,effort)=some (g,0)∧
   (∀s∈g.2.2.2.2.1,SmallS s)∧g.2.2.2.1.length<1000000∧g.2.2.2.2.1.length<1000000:=by
 obtain⟨l,rows,outs,C,a,c,D,E,F,G,H⟩:=c3P hb f k m z A;refine⟨_,C,?_,E,by have:=a.2.2.1;show l.length<1000000;omega,?_⟩;rotate_left
 have:=b8G D
 obtain⟨d,-⟩:=b1z hb;have O:=(a9Y l d rfl a.2.2.2 c).2
 have:=hb.2.2.2.1
 show outs.length<1000000;omega;obtain⟨d,o⟩:=b1z hb;have e:=hb;obtain⟨x,y,K,L,M,N,-⟩:=e;have j:b3e (rate,((b.2.1.length:Nat):Int),b.1,()):=⟨k.1,k.2,by show(1:Int)≤((b.2.1.length:Nat):Int);omega,by show((b.2.1.length:Nat):Int)≤8;omega,x,y⟩;obtain⟨B,P⟩:=a9Y l d rfl a.2.2.2 c;have v:(b.1 != b.1)=false:=bne_self_eq_false _;have w:(((b.2.1.length:Nat):Int) != ((b.2.1.length:Nat):Int))=false:=bne_self_eq_false _;have p:decide (effort<0)=false:=by simp only[decide_eq_false_iff_not];omega
 have q:decide (effort > 3)=false:=by simp only[decide_eq_false_iff_not];omega
 have t:decide (start<0)=false:=by simp only[decide_eq_false_iff_not];omega
 have u:decide (start > wrap .i64 (4194304-((a1C b:Nat):Int)))=false:=by rw[a0F (by omega)];simp only[decide_eq_false_iff_not];omega
 have h:=b9h (effort:=effort) (rows:=rows) (fun r k=>by have:=(B r k).1;omega) (by omega) (start,((a1C b:Nat):Int),(rate,((b.2.1.length:Nat):Int),b.1,()),l,([]:List Sub),()) rows [] [] outs rfl rfl F;unfold a2C;simp only[a8Z,decide_eq_true hb,oB,bT,cF,b5P,decide_eq_true j,v,w,p,q,t,b6O,u];cases he:decide (effort > 0)with
 |true=>
  have i:=H (by simpa using he);obtain⟨l',n,I⟩:=c4x hb;rw[i]at n;simp only[sj]at n;subst n;simp only[cT,I,oB,b4w,if_pos (show a1U b.2.1∧a3w l (b.2.1.length:Int)from⟨o,a⟩),c,c0T]
  erw[h]
  rfl
 |false=>
  have:=G (by simp only[decide_eq_false_iff_not]at he;omega)
  subst this;simp only[cF,oB,b4w,if_pos (show a1U b.2.1∧a3w ([]:List a0U) (b.2.1.length:Int)from⟨o,a⟩),c,c0T]
  erw[h]
  rfl
theorem c4y(x:a1G×(a0U×Int×Int)):b1q x=some true:=by
 obtain⟨b,f,start,effort⟩:=x;unfold b1q;simp only[d2V,oB,bT,cF];obtain⟨z,e,j⟩:=d0D b 40;rw[show((40:Nat):Int)=40 from rfl]at e;simp only[e,oB];cases z with
 |false=>rfl
 |true=>
  obtain⟨j,y⟩:=j rfl;have i:=b7T (f:=a4V) (by simp[a4V]) (by simp[a4V]) (by simp[a4V]);simp only[bT,cF]
  by_cases hC:a2z b∧b3e f∧b.1=f.2.2.1∧((b.2.1.length:Nat):Int)=f.2.1∧0≤effort∧effort≤3∧0≤start
  rotate_left;obtain⟨h,k⟩:=d0I hC;simp only[h,k,oB,i,cT,beq_self_eq_true]
  by_cases hl:start > 4194304-((a1C b:Nat):Int)
  obtain⟨h,k⟩:=d0J hC hl;simp only[h,k,oB,i,cT,beq_self_eq_true];obtain⟨a,c,m,n,o,p,A⟩:=hC;obtain⟨r,q,l,u⟩:=f;obtain rfl:b.1=l:=m;obtain rfl:((b.2.1.length:Nat):Int)=q:=n;have s:a1C b≤40:=by
   unfold a1C;rw[←b1G (d:=[]) (show 0<b.2.1.length by have:=a.2.2.1;omega)];exact y _ (a03 _)
  obtain⟨g,h,k,t,v,w⟩:=d0K a (by omega) (rate:=r) (start:=start) (effort:=effort) ⟨c.1,c.2.1⟩ (by omega) o p;simp only[h,k,oB,b7T t v w,cT,beq_self_eq_true]
end Go.Ab
namespace Go.Proofs.YtbadoabamddpfaaGreatDoor
open Go.Ab Go.ChangeShapes Go.WideShapes Go.ChangeAt Go.RowKit
theorem c0W{α:Type}{f:Nat→Option (α×b0a×List Nat)}:∀(L:List α)(i:Nat),(∀(j:Nat) x,L[j]?=some x→f (i+j)=some (x,[],[]))→a0c f L.length i=some (L,[],[])
 | [],_,_=>rfl
 |a::L,i,h=>by
  have g:=h 0 a rfl;have k:=c0W L (i+1) (fun j x b=>by have:=h (j+1) x (by simpa using b);rw[←this];congr 1;omega);simp only[lC,a0c];simp only[a47]at g;rw[g,k];rfl
section
variable {H:Type} {enc:TypeId×Value→H} {P:Program} {w:World} {base:Nat} {spare:Nat→Bool} {held:Bool}
theorem c5x{k:IntKind}{n:Nat}{t e:TypeId}{fuel:Nat}{cs:List Value}{L:List Int}{p:List MemPlace}(B:P.underlying t=some (.array n e))(u:P.underlying e=some (.int k))(s:P.cellsOf e=1)
  (h:DataW.trod enc P w base spare held fuel t cs=some (.agg (L.map fun i=>.lit (.int k i)),p)):L.length=n∧∀(j:Nat) x,L[j]?=some x→cs[j]?=some (.int k x):=by
 obtain⟨C,m,rfl,b,-,A,a⟩:=DataW.trod_array B h;simp only[pJ,DataW.agg.injEq]at b;have z:L.length=n:=by rw[←A];simpa using congrArg List.length b.1
 refine⟨z,fun j x c=>?_⟩;obtain⟨v,-⟩:=lS.1 c;have g:=a j (by omega);rw[s]at g;obtain⟨y,d⟩:∃y,C[j]?=some y:=⟨_,lG (by omega)⟩;rw[d]at g;obtain⟨i,o,q,-⟩:=DataW.trod_int u g;have f:=congrArg (fun l=>l[j]?) b.1;simp only[List.getElem?_map,c,d,Option.map_some,q]at f;simp only[sj,DataW.lit.injEq,Lit.int.injEq,true_and]at f;subst f;have r:=congrArg (fun l=>l[0]?) o;simpa[a60,a32]using r
end
def c7L : String := (Rows.frameTurnedRow.laid.map Prod.fst).headD ""
theorem e1F:Tryz.prog.globalNamed c7L=some 0:=by kernel_rfl
def d1x:TypeId:=((Tryz.prog.globals[0]?).map (·.type)).getD 0
theorem d2X:(Tryz.prog.globals[0]?).map (·.type)=some d1x:=by kernel_rfl
def d1y:TypeId:=match Tryz.prog.underlying d1x with
 |some (.array _ e)=>e
 |_=>0
theorem e1G:Tryz.prog.underlying d1x=some (.array 64 d1y):=by kernel_rfl
theorem d6y:Tryz.prog.underlying d1y=some (.int .u8):=by kernel_rfl
theorem d6z:Tryz.prog.cellsOf d1y=1:=by kernel_rfl
@[reducible] def laidTab:List (String×DataW Unit):=[(c7L,Rows.laid_math_bits_deBruijn64tab)]

theorem d4d {g:Nat} {t:Ty} {x:t.den} (h:G0 g=some ⟨t,x⟩):g=0∧(⟨t,x⟩:(t:Ty)×t.den)=⟨.arr 64 (.int .u8),b3j⟩:=by
 unfold G0 find at h
 cases g with
 |zero=>exact⟨rfl,(Option.some.inj h).symm⟩
 |succ n=>exact absurd h (by simp[find])
theorem c6L{W:World}(h:laidMetH Tryz.prog laidTab W):∀g t x,G0 g=some ⟨t,x⟩→g<W.heap.size∧dec (a0a W none) t ((Src.at g 0).rd (a0a W none))=some (x,[],[]):=by
 rw[MakeChecks.laidMetH_plain _ _ _ (by kernel_rfl)]at h;obtain⟨ps,⟨r,w,m,q,u,v,b,c,d,a,_⟩,_,_⟩:=h;obtain rfl:=Option.some.inj (e1F.symm.trans b);obtain rfl:=Option.some.inj (d2X.symm.trans c);have n:(Rows.laid_math_bits_deBruijn64tab:DataW Unit)=.agg (b3j.map fun i=>.lit (.int .u8 i)):=rfl;rw[n]at a;obtain⟨s,p⟩:=c5x e1G d6y d6z a;have k:∀(j:Nat) x,b3j[j]?=some x→W.cell? ⟨0,j,none⟩=some (.int .u8 x):=fun j x l=>by
  rw[World.var?_cell b d j];simpa using p j x l
 intro g t x o;obtain⟨rfl,e⟩:=d4d o;cases e;refine⟨y0k (k 0 0 rfl),?_⟩;exact c0W (f:=fun i=>dec (a0a W none) (.int .u8) fun j=>(Src.at 0 0).rd (a0a W none) (i*1+j)) b3j 0 (fun j x l=>by
  have:=k j x l
  simp only[dec,Src.rd,a0a,Nat.zero_add,Nat.mul_one,a47,this,if_true])
set_option maxRecDepth 100000 in
theorem d1z (os:Os) (args:Array Value):laidMetH Tryz.prog laidTab ((World.doorLaid Tryz.prog 400 os).forCall (fun _ _=>0) ⟨#[],args,[]⟩).memory:=
 laidMetH_of_parts3 (fuel:=8) (laidMet_of_run' 8 (by kernel_rfl) (by kernel_rfl)) (by kernel_rfl) (by kernel_rfl)
end Go.Proofs.YtbadoabamddpfaaGreatDoor
