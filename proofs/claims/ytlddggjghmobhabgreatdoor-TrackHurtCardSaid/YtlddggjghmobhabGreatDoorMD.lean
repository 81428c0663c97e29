/- Part of the proof: Rv. Conditions: as each statement tells. -/
import Derived.Shelf.RegionOpenPlain
import Derived.WalkKit
import Derived.Lib.Walk
import Derived.Sort.WalkB12
import Derived.Lib.SlicesMore
import Derived.Test.YtlddggjghmobhabGreatDoorProg
import Derived.KernelRfl
import Derived.Laws.Externs
import Derived.RangeFuncBound
import Derived.RangeFuncCalls
import Derived.RangeFuncBox
import Derived.OwnWalkIn
import Derived.TacticsInMore
import Derived.LoopNIn
import Derived.LoopIn
import Derived.Test.YtlddggjghmobhabGreatDoorMC
noncomputable section
set_option linter.unusedSimpArgs false
set_option linter.unusedVariables false
open Array renaming replicate_succ->C3,replicate_zero->C4,getElem?_modify->D4
open Decidable renaming decide->A4
open Int renaming toNat->A7,tmod->B8,tdiv->C0
open List renaming length->A8,append->A9,replicate->B3,getD->B4,take->B9,drop->C1,set->C2,append_toArray->C5,cons_append->C6,size_toArray->C7,push_toArray->C8,reverse->C9,length_nil->D0,nil_append->D1,mem_singleton->D6
open Nat renaming reduceAdd->D2,reduceSub->D3,le_refl->D7
open Option renaming some->A3,none->A6,getD_some->D5
open Sum renaming inr->B6,inl->B7
namespace Go.Ab
open Go.Proofs Go.RowKit Go.Lib Go.Sort
set_option maxHeartbeats 1600000 in
set_option maxRecDepth 1000000 in
theorem b2n (blk off cap:Nat) (d:Array Int) (w:World) (hH:Holds (Value.int .u8) w blk off d) (hsz:d.size<=9223372036854775807):
  Calls Tryz.prog 55 #[.slice (some ⟨blk,off,none⟩) d.size cap] w fun e w'=>e=.returned (.tuple #[])/\∃n,w'=putRow (Value.int .u8) (Sort.ahead w n) blk off d.reverse:=by
 have cV:Tryz.prog.follows .mixedOrders=true:=by kernel_rfl
 go_enter Tryz.func55,Tryz.ntmps55
 go_wp2
 go_loopg [2,3] d.size (fun k s2 s3 wr=>∃(i jn:Nat)(jz:Int)(dk:Array Int)(n:Nat),s2=.int .i64 i/\s3=.int .i64 jz/\((i:Int)<jz->jz=jn/\jn<d.size)/\(¬ (i:Int)<jz->¬ i<jn)/\jn-i<=k/\
  dk.size=d.size/\wr=putRow (Value.int .u8) (Sort.ahead w n) blk off dk/\reverseLoop i jn dk=reverseLoop 0 (d.size-1) d)
 case atStart=>exact⟨0,d.size-1,(d.size:Int)-1,d,0,rfl,rfl,fun h=>⟨by omega,by omega⟩,fun h=>by omega,by omega,rfl,(putRow_self (Value.int .u8) w blk off d hH).symm,rfl⟩
 case round=>
  obtain⟨i,jn,jz,dk,n,rfl,rfl,h1,h2,hk,hds,hwr,heq⟩:=hrel
  by_cases hlt:(i:Int)<jz
  ·obtain⟨rfl,hjn⟩:=h1 hlt
   have hij:i<jn:=by omega
   have hHk:Holds (Value.int .u8) wr blk off dk:=by rw[hwr];exact holds_putRow (Value.int .u8) _ blk off d dk (holds_ahead (Value.int .u8) w n blk off d hH) hds
   obtain⟨ci,fi⟩:=hHk i (by omega)
   obtain⟨cj,fj⟩:=hHk jn (by omega)
   have A:Aside (wr=putRow (Value.int .u8) (Sort.ahead w n) blk off dk):=hwr
   clear hwr hHk hH h1 h2
   go_wp2_with fail
   go_region_o
   go_wp2
   go_roundg (jn-1-(i+1))
   case measure=>omega
   case rel=>
    rw[reverseLoop,if_pos hij]at heq
    exact⟨i+1,jn-1,(jn:Int)-1,swp dk i jn,n+1,by simp,rfl,fun h=>⟨by omega,by omega⟩,fun h=>by omega,D7 _,by rw[size_swp];exact hds,
     swap_world (Value.int .u8) (by omega) (by omega) A.out (by first|rfl|simp[getElem!_pos,show jn<dk.size by omega]) (by first|rfl|simp[getElem!_pos,show i<dk.size by omega]),heq⟩
  ·have hnot:=h2 hlt
   go_wp2
   go_end0
   refine⟨rfl,n,?_⟩
   rw[reverseLoop,if_neg hnot]at heq
   rw[<-Lib.reverseLoop_reverse,<-heq]
set_option maxHeartbeats 1000000 in
theorem a9R (a:Option Addr) (cap:Nat) (w:World):
  Calls Tryz.prog 55 #[.slice a 0 cap] w fun e w'=>e=.returned (.tuple #[])/\w'=w:=by
 go_enter Tryz.func55,Tryz.ntmps55
 go_wp2
 go_loopg [2,3] 0 (fun _ s2 s3 wr=>s2=.int .i64 0/\s3=.int .i64 (-1)/\wr=w)
 case atStart=>exact⟨rfl,rfl,rfl⟩
 case round=>
  obtain⟨rfl,rfl,rfl⟩:=hrel
  go_wp2
  go_end0
  exact⟨rfl,rfl⟩
end Go.Ab
namespace Go.Ab
open Go.Proofs Go.RowKit Go.Lib Go.Sort
theorem a6H{w:World}{b o:Nat}{l:List Int}{cs:List Value}(a:cs=l.map (Value.int .u8))(g:∀(j:Nat)(u:Value),cs[j]?=some u->w.cell? ⟨b,o+j,none⟩=some u)
  {k:Nat}(d:BY w b k)(q:o+l.length<=k):Holds (Value.int .u8) w b o l.toArray:=by
 intro j i;have f:j<l.length:=by simpa using i
 refine⟨?_,?_⟩;rw[g j (.int .u8 l[j]) (by rw[a,List.getElem?_map,lG f];rfl)];simp[getElem!_pos,f];obtain⟨c,e,lo,p,h,m,n⟩:=d;simp only[World.frozen?,h];simp only[Bool.and_eq_false_iff,decide_eq_false_iff_not];omega
theorem a3q{w:World}{b o:Nat}{d:Array Int}{n c k:Nat}(h:BY w c k):BY (putRow (Value.int .u8) (Sort.ahead w n) b o d) c k:=by
 obtain⟨g,e,lo,i,h,f,a⟩:=h;by_cases hb:b=c;subst hb;refine⟨putCells (Value.int .u8) o d g,e,lo,i,?_,by simpa[putCells]using f,a⟩;show(w.heap.modify b _)[b]?=_;simp[D4,h,onCells];refine⟨g,e,lo,i,?_,f,a⟩;show(w.heap.modify b _)[c]?=_;simp[D4,h,hb]
theorem a3r{w:World}{b o:Nat}{d:Array Int}{n c:Nat}(h:c≠b):(putRow (Value.int .u8) (Sort.ahead w n) b o d).heap[c]?=w.heap[c]?:=by
 show(w.heap.modify b _)[c]?=_;simp[D4,Ne.symm h]
theorem b5p(G:VF):JI Tryz.prog G 55 ⟨[.r false (.o (.int .u8))],[],fun x=>bif A4 (A8 (x:List Int)<2147483648)then some (C9 (x:List Int))else none⟩:=by
 intro w B M g (x:List Int) (y:List Int) hG hy hB hhp hov hargs hrel hpins;have k2:A8 x<2147483648/\(C9 x)=y:=by
  rcases Ah hy with⟨h,D⟩|⟨h,D⟩;exact⟨of_decide_eq_true h,Option.some.inj D⟩;cases D
 obtain⟨k3,rfl⟩:=k2;have h6:(TM [PA.r false (.o (.int .u8))] x).rt (pinned+0)=some ⟨false,.list true (.int .u8),x⟩:=rfl;obtain⟨s,g7,g9⟩:=hpins 0 (by simp[Bc]) rfl;have hg:=hrel.pins 0 s g7 (by rw[h6];simp);have g6:=hrel.roots _ _ h6;obtain⟨Z,R,hd,hR,O⟩:=g6.rd;obtain⟨g0,-⟩|⟨-,⟨v,hv⟩,-,hO⟩:=O;cases g0;rw[hv]at hg hd;subst hg;have P:g.getD 0 undef=v:=g9;have m:g=#[v]:=by
  have E:g.size=1:=hargs;apply Array.ext;simpa using E;intro i D h3
  have:i=0:=by simp at h3;exact h3
  subst this;rw[<-P];simp[Array.getD,E]
 have h5:Ad w M.ov=cells w:=by rw[hov];rfl
 rw[h5]at hd

 have K:∀(t:World)(y:List Int) R',t.heap.size=w.heap.size->AO (cells t) (.list true (.int .u8)) ((Src.one v).rd (cells t))=some (y,Z,R')->(∀b k,BY w b k->BY t b k)->
   (∀b,b<B.size->¬ B.F b->t.heap[b]?=w.heap[b]?)->FT t=FT w->
   wR B t (Eu (RA.all [PA.r false (.o (.int .u8))] []) y) ([]++(Bc [PA.r false (.o (.int .u8))] 0).map (FU [PA.r false (.o (.int .u8))] g)) [(.one v,Z)]:=by
  intro t y R' k7 I X V g3;have d:∀c∈Z.map (·.1),B.F c\/B.size<=c:=fun c O=>hrel.mine c ⟨pinned+0,by rw[hO];exact O⟩;refine⟨rfl,rfl,fun k it u L E D h3=>?_,?_,?_,?_,?_,by omega,fun b hb hF=>?_,by rw[g3];exact hrel.still⟩
  ·cases k with
   |succ k=>simp at h3
   |zero=>
    have e1:it=⟨.o (.int .u8),y⟩:=(Option.some.inj E).symm;have e2:u=v:=by
     have:u=g.getD 0 undef:=(Option.some.inj D).symm
     rw[this,P]
    have e3:L=(.one v,Z):=(Option.some.inj h3).symm;subst e1 e2 e3;refine⟨rfl,⟨Z,R',I,?_,.inr ⟨rfl,⟨_,rfl⟩,⟨_,rfl⟩,rfl⟩⟩⟩;rw[bY (e:=.int .u8) rfl I]
    simp
  intro L N;rw[D6]at N;subst N;rw[<-hO];exact hrel.nodup _;intro k k' L L' E D k6
  have:k=0:=by have:=(lS.1 E).1;simpa using this
  have:k'=0:=by have:=(lS.1 D).1;simpa using this
  omega;intro L N p hp;rw[D6]at N;subst N;exact X _ _ (hrel.live (pinned+0) p (by rw[hO];exact hp));intro L N c O;rw[D6]at N;subst N;exact d c O;rw[V b hb hF,hhp]
 have h7:∀a c,v=.slice a 0 c->x=[]->Calls Tryz.prog 55 g w fun e t=>∃vr Ls,e=.returned (bX vr)/\vr.length=0/\wR B t (Eu (RA.all [PA.r false (.o (.int .u8))] []) (C9 x)) (vr++(Bc [PA.r false (.o (.int .u8))] 0).map (FU [PA.r false (.o (.int .u8))] g)) Ls:=by
  intro a c l hx;have O:=a9R a c w;rw[<-l,<-m]at O;refine O.mono fun e t h=>?_
  obtain⟨rfl,rfl⟩:=h;subst hx;exact⟨[],_,rfl,rfl,K t [] R rfl hd (fun _ _ h=>h) (fun _ _ _=>rfl) rfl⟩
 rcases a8k (e:=.int .u8) rfl hd with⟨l,hx,-,-⟩|⟨b,n,c,cs,l,hb,g5,C,A,g1,T,k4,h4⟩;exact h7 _ _ l hx;replace C:n=x.length:=C;by_cases hn:n=0;subst hn;exact h7 _ _ l (List.length_eq_zero_iff.1 (show x.length=0 from C.symm));have Q:c≠0:=by omega
 replace hb:=hb.resolve_left Q;rw[if_neg Q]at A;simp only[Ty.cells,Nat.mul_one]at A g1;have V:BY w b.block (b.off+c):=hrel.live (pinned+0) (b.block,b.off+c) (by rw[hO,A];simp);have g2:cs=x.map (Value.int .u8):=by
  have:=Sl x n 0 (by omega) h4
  simpa using this
 have hH:Holds (Value.int .u8) w b.block b.off x.toArray:=a6H g2 T V (by omega);have hw:=b2n b.block b.off c x.toArray w hH (by simp;omega);have h9:(⟨b.block,b.off,none⟩:Addr)=b:=by cases b;simp at hb;subst hb;rfl
 rw[h9,show(x.toArray).size=n by simp[C],<-l,<-m]at hw;refine hw.mono fun e t h=>?_
 obtain⟨rfl,q,rfl⟩:=h;have h8:=holds_putRow (Value.int .u8) (Sort.ahead w q) b.block b.off _ x.toArray.reverse (holds_ahead (Value.int .u8) w q b.block b.off _ hH) (by simp);have d:B.F b.block\/B.size<=b.block:=hrel.mine _ ⟨pinned+0,by rw[hO,A];simp⟩;have Y:∀(j:Nat)(z:Int),(C9 x)[j]?=some z->AO (cells (putRow (Value.int .u8) (Sort.ahead w q) b.block b.off x.toArray.reverse)) (.int .u8) ((Src.at b.block (b.off+j*(Ty.int .u8).cells)).rd (cells (putRow (Value.int .u8) (Sort.ahead w q) b.block b.off x.toArray.reverse)))=some (z,[],[]):=by
  intro j z hz;have g4:j<x.reverse.length:=(lS.1 hz).1;have hj:j<x.toArray.reverse.size:=by simpa using g4
  have E:=(h8 j hj).1;have D:x.toArray.reverse[j]! = z:=by
   rw[getElem!_pos _ j hj]
   have:(C9 x)[j]'(by simpa using hj)=z:=(lS.1 hz).2
   rw[<-this];simp
  rw[D]at E;have k0:(Src.at b.block (b.off+j*(Ty.int .u8).cells)).rd (cells (putRow (Value.int .u8) (Sort.ahead w q) b.block b.off x.toArray.reverse)) 0=some (.int .u8 z):=by
   show World.cell? _ ⟨b.block,b.off+j*1+0,none⟩=_;rw[Nat.mul_one];exact E
  simp only[AO,k0,if_true];rfl
 obtain⟨R',U,k5⟩:=gZ (f:=fun i=>AO (cells (putRow (Value.int .u8) (Sort.ahead w q) b.block b.off x.toArray.reverse)) (.int .u8) ((Src.at b.block (b.off+i*(Ty.int .u8).cells)).rd (cells (putRow (Value.int .u8) (Sort.ahead w q) b.block b.off x.toArray.reverse)))) (S:=fun _=>False) (C9 x) 0 fun j z hz=>⟨[],by rw[Nat.zero_add];exact Y j z hz,by simp⟩;have k1:(C9 x).length=n:=by rw[List.length_reverse];exact C.symm
 have H:=k1▸U;have I:=Wq (rd:=(Src.one v).rd (cells (putRow (Value.int .u8) (Sort.ahead w q) b.block b.off x.toArray.reverse))) (by rw[l];rfl) hb g5 Q H;have h0:Z=[(b.block,b.off+c*(Ty.int .u8).cells)]:=by rw[A];simp[Ty.cells]
 refine⟨[],_,rfl,rfl,K _ _ R' (by simp) (by rw[h0];exact I) (fun _ _ h=>a3q h) (fun a ha hF=>a3r fun e=>?_) rfl⟩;subst e;rcases d with h|h;exact hF h;omega
end Go.Ab
namespace Go.Ab
open Go.Proofs Go.RowKit
theorem b5q(P:Program)(w:World)(x y c:Int)(h:c.toNat<=1):
  (add64Entry #[.int .u64 x,.int .u64 y,.int .u64 c]).run P w=.ok (.tuple #[.int .u64 (((x.toNat+y.toNat+c.toNat)%18446744073709551616:Nat):Int),.int .u64 (((x.toNat+y.toNat+c.toNat) / 18446744073709551616:Nat):Int)]) w:=by
 cases c with
 |ofNat k=>
  have:k=0\/k=1:=by simp at h;omega
  rcases this with rfl|rfl<;>rfl
 |negSucc n=>rfl
theorem a8A(m:DJ)(Sh:Nat->Prop)(n:Int):Cg m Sh (.int .u64) n (.int .u64 n):=by
 refine⟨fun h=>(by cases h),fun _=>rfl,[],?_,by simp⟩;rfl
theorem b5r(G:VF):b1H Tryz.prog G 85 ⟨[.v (.int .u64),.v (.int .u64),.v (.int .u64)],[.v (.int .u64),.v (.int .u64)],fun(x:Int×(Int×Int))=>bif A4 (x.2.2.toNat<=1)then some ((((x.1.toNat+x.2.1.toNat+x.2.2.toNat)%18446744073709551616:Nat):Int),(((x.1.toNat+x.2.1.toNat+x.2.2.toNat) / 18446744073709551616:Nat):Int))else none⟩:=by
 intro w B M a (x:Int×(Int×Int)) (y:Int×Int) hG o hB hhp hov hargs hrel hpins;obtain⟨m,o⟩:=(Ah o).elim id fun h=>by cases h.2
 have m:x.2.2.toNat<=1:=of_decide_eq_true m;cases o;have p:a.size=3:=hargs;have q:=AA.int (k:=.u64) (n:=x.1) (g:=M.g) (rt:=(TM [.v (.int .u64),.v (.int .u64),.v (.int .u64)] x).rt) (hrel.slots 0 (by decide));have f:=AA.int (k:=.u64) (n:=x.2.1) (g:=M.g) (rt:=(TM [.v (.int .u64),.v (.int .u64),.v (.int .u64)] x).rt) (hrel.slots 1 (by decide));have d:=AA.int (k:=.u64) (n:=x.2.2) (g:=M.g) (rt:=(TM [.v (.int .u64),.v (.int .u64),.v (.int .u64)] x).rt) (hrel.slots 2 (by decide));have t:a=#[.int .u64 x.1,.int .u64 x.2.1,.int .u64 x.2.2]:=by
  rw[<-q,<-f,<-d];apply Array.ext;simpa using p;intro i l r
  have:i=0\/i=1\/i=2:=by simp at r;omega
  rcases this with rfl|rfl|rfl<;>simp[Array.getD,p]
 subst t;refine⟨_,w,?_,[.int .u64 (((x.1.toNat+x.2.1.toNat+x.2.2.toNat)%18446744073709551616:Nat):Int),.int .u64 (((x.1.toNat+x.2.1.toNat+x.2.2.toNat) / 18446744073709551616:Nat):Int)],[(.one undef,[]),(.one undef,[])],rfl,rfl,?_⟩;rw[run_callFunc_extern Tryz.func85 (by kernel_rfl) (by kernel_rfl) (by kernel_rfl) (e:=add64Entry) (by kernel_rfl),b5q _ _ _ _ _ m];rfl
 ·refine⟨rfl,rfl,fun k z v L f d l=>?_,by simp,fun k A L u f d l c j=>?_,by simp,by simp,by omega,fun b _ _=>(hhp b).symm,hrel.still⟩
  ·match k with
   |0=>cases f;cases d;cases l;exact⟨a8A _ _ _,rfl⟩
   | 1=>cases f;cases d;cases l;exact⟨a8A _ _ _,rfl⟩
   |k+2=>cases f
  ·match k,f with
   |0,f=>cases f;cases j
   | 1,f=>cases f;cases j
   |k+2,f=>cases f
end Go.Ab
namespace Go.Ab
open Go.Proofs Go.RowKit
attribute [local go_sem] Oper.semAt_some
set_option maxHeartbeats 1000000 in
theorem b5s:a6D Tryz.prog 212 233:=by
 refine⟨⟨_,_,Tryz.func212,rfl,by kernel_rfl⟩,fun A len cap w=>(callsIn_wide (n:=3)).1 ?_⟩
 refine callsIn_of_wp Tryz.func212 rfl trivial ?_
 simp only[Tryz.ntmps212,C7,lC,D0,D2,D3,C3,C4,C8,C5,D1,C6]
 gi_wp2
 go_ret
 exact⟨rfl,_,rfl⟩
abbrev WH:Ty:=.pair (.int .i64) (.pair (.int .i64) .unit)
set_option maxRecDepth 100000 in
set_option maxHeartbeats 2000000 in
theorem b2o (l Bs b off len cap:Nat) (p q:Nat->Int) (J:Nat->World->Prop) (Jx:World->Prop) (W:World)
  (hJ:∀k W',J k W'->W'.cell? ⟨Bs,0,none⟩=some (.slice (some ⟨b,off,none⟩) len cap))
  (hlen:len<2147483648)
  (hcs:∀k W',k<len->J (k+1) W'->W'.cell? ⟨b,off+k*2,none⟩=some (.int .i64 (p k))/\W'.cell? ⟨b,off+k*2+1,none⟩=some (.int .i64 (q k)))
  (hY:∀n W',n<len->J (n+1) W'->YieldAt (Fr none) 0 Tryz.prog l #[.int .i64 (n:Int),.agg #[.int .i64 (p n),.int .i64 (q n)]] W' fun en W''=>(en=.returned (.bool true)/\J n W'')\/(en=.returned (.bool false)/\Jx W''))
  (h0:J len W):
  CallsIn (Fr none) 0 Tryz.prog 233 #[.func (.yield l) #[] #[],.pointer (some ⟨Bs,0,none⟩)] W fun en W'=>(∃v,en=.returned v)/\(J 0 W'\/Jx W'):=by
 refine callsIn_of_wp Tryz.func233 rfl trivial ?_
 simp only[Tryz.ntmps233,C7,lC,D0,D2,D3,C3,C4,C8,C5,D1,C6]
 have hBs:=hJ _ _ h0
 gi_wp2
 gi_loopw [3] (fun i wr=>∃k:Nat,k<=len/\i=.int .i64 ((k:Int)-1)/\J k wr) (fun i _=>(intOf i+1).toNat)
 case atStart=>exact⟨len,D7 _,rfl,h0⟩
 case round=>
  obtain⟨k,hk,rfl,hJs⟩:=hrel
  cases k with
  |succ n=>
   obtain⟨fn,tmps,assign,body,hy,hR⟩:=hY n wr (by omega) hJs
   have hcx:=hJ _ _ hJs
   obtain⟨hc0,hc1⟩:=hcs n wr (by omega) hJs
   gi_wp2
   refine hR.mono ?_
   rintro e W3 (⟨rfl,hJ3⟩|⟨rfl,hJx3⟩)
   ·gi_wp2
    go_roundw
    case rel=>exact⟨n,by omega,by simp,hJ3⟩
    case measure=>simp[intOf]
   ·gi_wp2
    refine bodyPost_ret (results_none rfl _ _ _) rfl ?_
    exact⟨⟨_,rfl⟩,.inr hJx3⟩
  |zero=>
   gi_wp2
   go_end0
   exact⟨⟨_,rfl⟩,.inl hJs⟩
set_option maxRecDepth 100000 in
set_option maxHeartbeats 2000000 in
theorem a9S (l Bs:Nat) (A:Option Addr) (c:Nat) (J:Nat->World->Prop) (W:World) (hBs:W.cell? ⟨Bs,0,none⟩=some (.slice A 0 c)) (h0:J 0 W):
  CallsIn (Fr none) 0 Tryz.prog 233 #[.func (.yield l) #[] #[],.pointer (some ⟨Bs,0,none⟩)] W fun en W'=>(∃v,en=.returned v)/\J 0 W':=by
 refine callsIn_of_wp Tryz.func233 rfl trivial ?_
 simp only[Tryz.ntmps233,C7,lC,D0,D2,D3,C3,C4,C8,C5,D1,C6]
 gi_wp2
 gi_loopw [3] (fun i wr=>i=.int .i64 (-1)/\J 0 wr) (fun _ _=>0)
 case atStart=>exact⟨rfl,h0⟩
 case round=>
  obtain⟨rfl,hJs⟩:=hrel
  gi_wp2
  go_end0
  exact⟨⟨_,rfl⟩,hJs⟩
theorem qZ{m:DJ}{Sh:Nat->Prop}{b o:Nat}{x:WH.sJ}{R}(h:AO m WH ((Src.at b o).rd m)=some (x,[],R)):
  m b o=some (.int .i64 x.1)/\m b (o+1)=some (.int .i64 x.2.1)/\Cg m Sh WH x (.agg #[.int .i64 x.1,.int .i64 x.2.1]):=by
 obtain⟨p,q,u⟩:=x;simp only[WH,AO,Src.rd,Ty.cells,Nat.add_zero]at h;split at h;cases h;rename_i w i r g;split at g;rename_i n c;split at g;rename_i e;subst e;simp only[sj]at g;obtain⟨rfl,rfl,rfl⟩:=g;split at h;cases h;rename_i y j t k;split at k;cases k;rename_i z l v f;split at f;rename_i d a;split at f;rename_i e;subst e;simp only[sj]at f k h;obtain⟨rfl,rfl,rfl⟩:=f;obtain⟨rfl,rfl,rfl⟩:=k;obtain⟨⟨rfl,rfl,rfl⟩,-,-⟩:=h;exact⟨c,a,fun _=>⟨_,rfl,rfl⟩,fun h=>(by cases h),[],rfl,by simp⟩;cases f;cases f;cases g;cases g
theorem VU {P:Program} {f:FuncId} (hb:Wx P f) (args:Array Value) (w:World):(callFunc f args).run P w=.ok (.enter f args) w:=by
 obtain ⟨fn,c',h1,h2,h3⟩:=hb;have h4 : ¬ fn.name = "runtime.NumGoroutine" := by simpa using h3
 simp [callFunc,program,Sem.run,h1,h2,h4,Result.andThen]
theorem b5t:a1a Tryz.prog 233 WH:=by
 refine⟨fun j w=>VU ⟨_,_,Tryz.func233,rfl,by kernel_rfl⟩ j w,fun l E V f J I W m y Q q=>?_⟩;obtain⟨F,Sh,C⟩:=y _ _ q;obtain⟨A,n,c,rfl,rfl,T,B,o⟩:=C.header;by_cases hx0:f.length=0;rw[hx0]at q F;exact(a9S l E A c J W F q).mono fun e g h=>⟨h.1,.inl h.2⟩;cases A with
 |none=>have:=o rfl;omega
 |some A=>
  obtain⟨b,i,G⟩:=A
  have:=(B _ rfl).resolve_left (by omega)
  simp only at this;subst this;have z:∀k g,k<f.length->J (k+1) g->∃x,f[k]?=some x/\g.cell? ⟨b,i+k*2,none⟩=some (.int .i64 x.1)/\g.cell? ⟨b,i+k*2+1,none⟩=some (.int .i64 x.2.1):=by
   intro k g r d;obtain⟨-,a,D⟩:=y _ _ d;obtain⟨H,U,K,R,e,L,M,N,v,O,P⟩:=D.elem rfl (lG r);simp only[Value.slice.injEq,sj]at e;obtain⟨rfl,rfl,rfl⟩:=e;obtain⟨t,u,-⟩:=qZ (Sh:=a) v;exact⟨_,lG r,t,u⟩
  refine b2o l E b i f.length c (fun k=>((f[k]?).getD WH.dflt).1) (fun k=>((f[k]?).getD WH.dflt).2.1) J I W (fun k g d=>(y k g d).1) m (fun k g r d=>?_) (fun n g S d=>?_) q;obtain⟨x,p,t,u⟩:=z k g r d;simp only[p,D5];exact⟨t,u⟩;have p:f[n]?=some f[n]:=lG S;simp only[p,D5];refine Q n _ _ g p d fun a D=>?_
  obtain⟨H,U,K,R,e,L,M,N,v,O,P⟩:=D.elem rfl p;exact(qZ (Sh:=a) v).2.2
set_option maxHeartbeats 1000000 in
theorem b5u:a6D Tryz.prog 122 171:=by
 refine⟨⟨_,_,Tryz.func122,rfl,by kernel_rfl⟩,fun A len cap w=>(callsIn_wide (n:=3)).1 ?_⟩
 refine callsIn_of_wp Tryz.func122 rfl trivial ?_
 simp only[Tryz.ntmps122,C7,lC,D0,D2,D3,C3,C4,C8,C5,D1,C6]
 gi_wp2
 go_ret
 exact⟨rfl,_,rfl⟩
abbrev jG:Ty:=.pair (.int .i64) (.pair (.int .i64) (.pair (.int .i64) .unit))
set_option maxRecDepth 100000 in
set_option maxHeartbeats 2000000 in
theorem b2p (l Bs b off len cap:Nat) (p q r:Nat->Int) (J:Nat->World->Prop) (Jx:World->Prop) (W:World)
  (hJ:∀k W',J k W'->W'.cell? ⟨Bs,0,none⟩=some (.slice (some ⟨b,off,none⟩) len cap))
  (hlen:len<2147483648)
  (hcs:∀k W',k<len->J (k+1) W'->W'.cell? ⟨b,off+k*3,none⟩=some (.int .i64 (p k))/\W'.cell? ⟨b,off+k*3+1,none⟩=some (.int .i64 (q k))/\W'.cell? ⟨b,off+k*3+2,none⟩=some (.int .i64 (r k)))
  (hY:∀n W',n<len->J (n+1) W'->YieldAt (Fr none) 0 Tryz.prog l #[.int .i64 (n:Int),.agg #[.int .i64 (p n),.int .i64 (q n),.int .i64 (r n)]] W' fun en W''=>(en=.returned (.bool true)/\J n W'')\/(en=.returned (.bool false)/\Jx W''))
  (h0:J len W):
  CallsIn (Fr none) 0 Tryz.prog 171 #[.func (.yield l) #[] #[],.pointer (some ⟨Bs,0,none⟩)] W fun en W'=>(∃v,en=.returned v)/\(J 0 W'\/Jx W'):=by
 refine callsIn_of_wp Tryz.func171 rfl trivial ?_
 simp only[Tryz.ntmps171,C7,lC,D0,D2,D3,C3,C4,C8,C5,D1,C6]
 have hBs:=hJ _ _ h0
 gi_wp2
 gi_loopw [3] (fun i wr=>∃k:Nat,k<=len/\i=.int .i64 ((k:Int)-1)/\J k wr) (fun i _=>(intOf i+1).toNat)
 case atStart=>exact⟨len,D7 _,rfl,h0⟩
 case round=>
  obtain⟨k,hk,rfl,hJs⟩:=hrel
  cases k with
  |succ n=>
   obtain⟨fn,tmps,assign,body,hy,hR⟩:=hY n wr (by omega) hJs
   have hcx:=hJ _ _ hJs
   obtain⟨hc0,hc1,hc2⟩:=hcs n wr (by omega) hJs
   gi_wp2
   refine hR.mono ?_
   rintro e W3 (⟨rfl,hJ3⟩|⟨rfl,hJx3⟩)
   ·gi_wp2
    go_roundw
    case rel=>exact⟨n,by omega,by simp,hJ3⟩
    case measure=>simp[intOf]
   ·gi_wp2
    refine bodyPost_ret (results_none rfl _ _ _) rfl ?_
    exact⟨⟨_,rfl⟩,.inr hJx3⟩
  |zero=>
   gi_wp2
   go_end0
   exact⟨⟨_,rfl⟩,.inl hJs⟩
set_option maxRecDepth 100000 in
set_option maxHeartbeats 2000000 in
theorem a9T (l Bs:Nat) (A:Option Addr) (c:Nat) (J:Nat->World->Prop) (W:World) (hBs:W.cell? ⟨Bs,0,none⟩=some (.slice A 0 c)) (h0:J 0 W):
  CallsIn (Fr none) 0 Tryz.prog 171 #[.func (.yield l) #[] #[],.pointer (some ⟨Bs,0,none⟩)] W fun en W'=>(∃v,en=.returned v)/\J 0 W':=by
 refine callsIn_of_wp Tryz.func171 rfl trivial ?_
 simp only[Tryz.ntmps171,C7,lC,D0,D2,D3,C3,C4,C8,C5,D1,C6]
 gi_wp2
 gi_loopw [3] (fun i wr=>i=.int .i64 (-1)/\J 0 wr) (fun _ _=>0)
 case atStart=>exact⟨rfl,h0⟩
 case round=>
  obtain⟨rfl,hJs⟩:=hrel
  gi_wp2
  go_end0
  exact⟨⟨_,rfl⟩,hJs⟩
theorem a1d{m:DJ}{rd:Nat->Option Value}{x o r}(h:AO m (.int .i64) rd=some (x,o,r)):rd 0=some (.int .i64 x)/\o=[]/\r=[]:=by
 simp only[AO]at h;split at h;rename_i k n g;split at h;rename_i e;subst e;simp only[sj,pJ]at h;obtain⟨rfl,rfl,rfl⟩:=h;exact⟨g,rfl,rfl⟩;cases h;cases h
theorem jH{m:DJ}{a b:Ty}{rd:Nat->Option Value}{x o r}(h:AO m (.pair a b) rd=some (x,o,r)):∃o1 g o2 r2,AO m a rd=some (x.1,o1,g)/\AO m b (fun j=>rd (a.cells+j))=some (x.2,o2,r2)/\o=o1++o2/\r=g++r2:=by
 simp only[AO]at h;split at h;cases h;rename_i c o1 g f;split at h;cases h;rename_i d o2 r2 k;simp only[sj,pJ]at h;obtain⟨rfl,rfl,rfl⟩:=h;exact⟨_,_,_,_,f,k,rfl,rfl⟩
theorem a3s{m:DJ}{Sh:Nat->Prop}{b o:Nat}{x:jG.sJ}{R}(h:AO m jG ((Src.at b o).rd m)=some (x,[],R)):
  m b o=some (.int .i64 x.1)/\m b (o+1)=some (.int .i64 x.2.1)/\m b (o+2)=some (.int .i64 x.2.2.1)/\Cg m Sh jG x (.agg #[.int .i64 x.1,.int .i64 x.2.1,.int .i64 x.2.2.1]):=by
 obtain⟨_,_,_,_,g,f,-,-⟩:=jH h;obtain⟨_,_,_,_,k,a,-,-⟩:=jH f;obtain⟨_,_,_,_,c,-,-,-⟩:=jH a;exact⟨(a1d g).1,(a1d k).1,(a1d c).1,fun _=>⟨_,rfl,rfl⟩,fun h=>(by cases h),[],rfl,by simp⟩
theorem b5v:a1a Tryz.prog 171 jG:=by
 refine⟨fun j w=>VU ⟨_,_,Tryz.func171,rfl,by kernel_rfl⟩ j w,fun l F X a J K W m z S q=>?_⟩;obtain⟨G,Sh,D⟩:=z _ _ q;obtain⟨A,n,c,rfl,rfl,U,C,o⟩:=D.header;by_cases hx0:a.length=0;rw[hx0]at q G;exact(a9T l F A c J W G q).mono fun e g h=>⟨h.1,.inl h.2⟩;cases A with
 |none=>have:=o rfl;omega
 |some A=>
  obtain⟨b,f,H⟩:=A
  have:=(C _ rfl).resolve_left (by omega)
  simp only at this;subst this;have B:∀k g,k<a.length->J (k+1) g->∃x,a[k]?=some x/\g.cell? ⟨b,f+k*3,none⟩=some (.int .i64 x.1)/\g.cell? ⟨b,f+k*3+1,none⟩=some (.int .i64 x.2.1)/\g.cell? ⟨b,f+k*3+2,none⟩=some (.int .i64 x.2.2.1):=by
   intro k g r i;obtain⟨-,d,E⟩:=z _ _ i;obtain⟨I,V,L,R,e,M,N,O,y,P,Q⟩:=E.elem rfl (lG r);simp only[Value.slice.injEq,sj]at e;obtain⟨rfl,rfl,rfl⟩:=e;obtain⟨t,u,v,-⟩:=a3s (Sh:=d) y;exact⟨_,lG r,t,u,v⟩
  refine b2p l F b f a.length c (fun k=>((a[k]?).getD jG.dflt).1) (fun k=>((a[k]?).getD jG.dflt).2.1) (fun k=>((a[k]?).getD jG.dflt).2.2.1) J K W (fun k g i=>(z k g i).1) m (fun k g r i=>?_) (fun n g T i=>?_) q;obtain⟨x,p,t,u,v⟩:=B k g r i;simp only[p,D5];exact⟨t,u,v⟩;have p:a[n]?=some a[n]:=lG T;simp only[p,D5];refine S n _ _ g p i fun d E=>?_
  obtain⟨I,V,L,R,e,M,N,O,y,P,Q⟩:=E.elem rfl p;exact(a3s (Sh:=d) y).2.2.2
end Go.Ab
namespace Go.Ab
open IntKind renaming wrap->zD
open Go.Proofs
set_option maxRecDepth 100000
set_option linter.unusedVariables false
abbrev QI:Ty:=.int .i64
abbrev QL:Ty:=.list false QI
abbrev QU:Ty:=.int .u64
abbrev QV:Ty:=.int .u8
abbrev QB:Ty:=.list false QV
abbrev LI:Type:=List Int
instance (n:Nat):OfNat xD n:=⟨.sv n QI⟩
@[reducible] def Qp(i n:Nat):xD:=.ptr i n []
@[reducible] def Qn(l:Aq):Ex×Aq:=(.normal,l)
@[reducible] def Qe(n:Nat)(l:Aq):Ex×Aq:=(.exit n,l)
@[reducible] def Qr(l:Aq):Ex×Aq:=(.ret,l)
def QH:sD:=⟨[],[],[]⟩
abbrev Z0:Type:=(Unit ⊕ (Bool×Unit))
abbrev Z1:Type:=((List LI)×Unit)
abbrev Z2:Type:=(Int×(Int×LI))
abbrev Z3:Type:=(LI×(Int×Int))
abbrev Z4:Type:=(List (Int×(Int×Unit)))
abbrev Z5:Type:=(Int×(LI×Unit))
abbrev Z6:Type:=(LI×(Int×Unit))
abbrev Z7:Type:=(Int×(Int×(Int×Unit)))
abbrev Z8:Type:=(Bool×(LI×Unit))
abbrev Z9:Type:=((LI×Unit)×Unit)
abbrev b9D:Type:=(Int×(Int×(Bool×Unit)))
abbrev c2C:Type:=((Int×(Int×Unit))×Unit)
abbrev b7i:Type:=(LI×(LI×Int))
abbrev c2D:Type:=(LI×(Int×LI))
abbrev TI:Type:=(Int×Z1)
abbrev c3d:Type:=(LI×(LI×Unit))
abbrev MF:Type:=(LI×(Int×(Int×Unit)))
abbrev Zz:Type:=(List Z7)
abbrev a5H:Type:=(Int×Z5)
abbrev b7j:Type:=(Int×Z6)
abbrev b5w:Type:=(Z5×Unit)
abbrev b5x:Type:=(LI×(Int×(Bool×Unit)))
abbrev c7i:Type:=(Int×Z8)
abbrev c7j:Type:=(Int×Z7)
abbrev b1p:Type:=(Z6×Unit)
abbrev c3e:Type:=(Int×Z9)
abbrev b5y:Type:=(Z7×Unit)
abbrev b9n:Type:=(Int×b9D)
abbrev b8j:Type:=(List TI)
abbrev b2q:Type:=(Int×c3d)
abbrev b5z:Type:=(LI×Z5)
abbrev c2E:Type:=((List LI)×(Int×(Int×Unit)))
abbrev b9E:Type:=(Int×TI)
abbrev c2F:Type:=(TI×Int)
abbrev Zb:Type:=(Int×MF)
abbrev b4M:Type:=(MF×Int)
abbrev b7k:Type:=(LI×Z7)
abbrev b7l:Type:=(TI×Unit)
abbrev b9o:Type:=(Int×a5H)
abbrev b4N:Type:=(LI×b9D)
abbrev b2r:Type:=(MF×Unit)
abbrev c2G:Type:=(Int×c7i)
abbrev c3f:Type:=(Int×c7j)
abbrev c3g:Type:=(Int×b1p)
abbrev c2H:Type:=(Z4×(Int×Unit))
abbrev b9p:Type:=(Int×c3e)
abbrev b9F:Type:=(Bool×b5w)
abbrev b9G:Type:=(Int×b5y)
abbrev c6S:Type:=(Bool×b5y)
abbrev c7k:Type:=(LI×c3d)
abbrev b9H:Type:=(LI×MF)
abbrev b4O:Type:=(LI×a5H)
abbrev c3h:Type:=(Int×b2q)
abbrev c2I:Type:=(b2q×Int)
abbrev b9I:Type:=(Int×c2E)
abbrev c2J:Type:=(b8j×Unit)
abbrev b9q:Type:=(Int×b7k)
abbrev c3i:Type:=(Int×b7l)
abbrev c7l:Type:=(Z5×(LI×Unit))
abbrev a6I:Type:=((LI×Unit) ⊕ Z5)
abbrev b9r:Type:=(LI×b5x)
abbrev b4P:Type:=(Int×Zb)
abbrev c6T:Type:=(b2q×Unit)
abbrev c2K:Type:=(Int×b9o)
abbrev c7m:Type:=(LI×b5w)
abbrev b9J:Type:=(Int×b2r)
abbrev c2L:Type:=(Int×c3f)
abbrev b9K:Type:=(Int×c3g)
abbrev c7n:Type:=(Bool×b2r)
abbrev c7o:Type:=(Int×c6S)
abbrev c7p:Type:=(Int×c7k)
abbrev b9L:Type:=(LI×b7k)
abbrev a5I:Type:=(Int×b4O)
abbrev b7m:Type:=(LI×Zb)
abbrev c7q:Type:=(LI×b7l)
abbrev c2M:Type:=(Z5×Z2)
abbrev c2N:Type:=(LI×b9o)
abbrev c6U:Type:=(LI×b2r)
abbrev b9M:Type:=(Int×c3i)
abbrev c2O:Type:=(Int×c6T)
abbrev c7r:Type:=(Int×c7m)
abbrev c2P:Type:=(Z7×Z3)
abbrev c3j:Type:=(Int×b9J)
abbrev b8k:Type:=(Zb ⊕ (Int×Unit))
abbrev c3k:Type:=(Int×c2L)
abbrev c2Q:Type:=(Int×c7n)
abbrev c2R:Type:=(Int×c7o)
abbrev b7n:Type:=(MF ⊕ Z0)
abbrev c3l:Type:=(LI×c3h)
abbrev b9N:Type:=(Int×c7p)
abbrev c2S:Type:=(LI×b4O)
abbrev c7s:Type:=(LI×c7l)
abbrev c2T:Type:=(LI×b4P)
abbrev c2U:Type:=(LI×b9r)
abbrev c2V:Type:=(LI×c6T)
abbrev c7t:Type:=(Int×c7q)
abbrev b8l:Type:=(Int×a5I)
abbrev c6V:Type:=(Int×c6U)
abbrev c2W:Type:=(Int×c2O)
abbrev c3m:Type:=(LI×b9K)
abbrev c3n:Type:=(Int×c7r)
abbrev b2t:Type:=(Int×c3j)
abbrev a9U:Type:=(Z5×b5w)
abbrev b8m:Type:=(Int×c3k)
abbrev c3o:Type:=(Z6×b5w)
abbrev b5A:Type:=(Int×c3l)
abbrev b8n:Type:=(Int×c2V)
abbrev b2u:Type:=(Int×c7t)
abbrev b9O:Type:=(Int×c6V)
abbrev b2v:Type:=(Int×c2W)
abbrev b5B:Type:=(Int×c3m)
abbrev c3p:Type:=(Int×c3n)
abbrev a9V:Type:=(Int×b8m)
abbrev b5C:Type:=(Int×b8n)
abbrev a9W:Type:=(Int×b9O)
abbrev c3q:Type:=(LI×c3o)
abbrev b2w:Type:=(Zz×b7l)
abbrev b5D:Type:=(LI×c3p)
abbrev Rv:Type:=(Z7×b9L)
abbrev c3s:Type:=(Int×c3q)
abbrev c3t:Type:=(Z4×c7s)
abbrev c3u:Type:=(Int×c3s)
abbrev b5E:Type:=(Rv×Unit)
abbrev b5F:Type:=(Z5×a9U)
abbrev c3v:Type:=(LI×c3t)
abbrev b2x:Type:=(LI×c3u)
abbrev b5G:Type:=(Rv×c2C)
abbrev c3w:Type:=(LI×c3v)
abbrev c3x:Type:=(Int×c3w)
abbrev c3y:Type:=(Int×c3x)
abbrev c3z:Type:=(Int×c3y)
abbrev c3A:Type:=(Int×c3z)
abbrev DU:Type:=(Int×c3A)
abbrev ZA:Type:=(List DU)
abbrev XJ:Type:=(DU×Int)
abbrev a1e:Type:=(DU×Unit)
abbrev b8o:Type:=(ZA×Unit)
abbrev b5H:Type:=(Bool×a1e)
abbrev c3B:Type:=(LI×a1e)
abbrev a9X:Type:=(Int×b5H)
abbrev b5I:Type:=(ZA×(LI×Unit))
abbrev c3C:Type:=(Int×c3B)
abbrev c3D:Type:=((LI×Unit)×a1e)
abbrev b5J:Type:=(Int×a9X)
abbrev b5K:Type:=(Int×c3C)
abbrev c3E:Type:=(Z6×a1e)
abbrev c3F:Type:=(Int×c3D)
abbrev b9P:Type:=(MF×a1e)
abbrev b5L:Type:=(DU×b2r)
abbrev b5M:Type:=(Int×c3E)
abbrev b5N:Type:=(Int×c3F)
abbrev c3G:Type:=(Zz×b8o)
abbrev b8p:Type:=(Int×b9P)
abbrev nQ:Type:=(Int×b5M)
abbrev a9Y:Type:=(Int×b8p)
abbrev c3H:Type:=(Z7×c3G)
abbrev c3I:Type:=(Int×c3H)
abbrev HW:Type:=(Int×c3I)
abbrev a3t:Type:=(List HW)
abbrev WI:Type:=(HW×Unit)
abbrev c3J:Type:=(a3t×Unit)
abbrev c3K:Type:=(HW×b5y)
abbrev b2y:Type:=(TI×WI)
abbrev c3L:Type:=(Z4×c3J)
abbrev a9Z:Type:=(HW×b2r)
abbrev c3M:Type:=(Int×c3L)
abbrev c3N:Type:=(Int×c3M)
abbrev ZB:Type:=(DU×a1e)
abbrev c3O:Type:=(Int×ZB)
abbrev b5O:Type:=(Int×c3O)
abbrev QX:Type:=(Z7×c3N)
abbrev b0a:Type:=(QX×Int)
abbrev jI:Type:=(QX×Unit)
abbrev c3P:Type:=(b8j×jI)
abbrev b5P:Type:=((List LI)×c3P)
abbrev c3Q:Type:=(QX×c3K)
abbrev b2z:Type:=(LI×c3Q)
abbrev Q0:Ty:=(.pair QI .unit)
abbrev Q1:Ty:=(.pair (.list true QV) .unit)
abbrev Q2:Ty:=(.pair (.list true QI) .unit)
abbrev Q3:Ty:=(.pair QL .unit)
abbrev Q4:Ty:=(.pair QI Q0)
abbrev Q5:Ty:=(.pair QU Q0)
abbrev Q6:Ty:=(.pair (.nl QL) .unit)
abbrev Q7:Ty:=(.pair (.list true (.list true QI)) .unit)
abbrev Q8:Ty:=(.pair (.list true QL) .unit)
abbrev Q9:Ty:=(.pair (.list false QL) .unit)
abbrev QY:Ty:=(.pair (.list true QV) Q0)
abbrev c2X:Ty:=(.pair QI Q2)
abbrev Tm:Ty:=(.pair QI Q3)
abbrev HX:Ty:=(.pair QI Q4)
abbrev c6W:Ty:=(.pair QI Q5)
abbrev b9Q:Ty:=(.pair (.list true QI) Q2)
abbrev Pw:Ty:=(.pair QI Q9)
abbrev Lf:Ty:=(.pair QB Q4)
abbrev a1f:Ty:=(.pair QI b9Q)
abbrev c7u:Ty:=(.pair (.list true QI) c6W)
abbrev c7v:Ty:=(.pair QL c6W)
abbrev c2Y:Ty:=(.pair Tm Q3)
abbrev c6X:Ty:=(.pair (.list true QI) c7u)
abbrev c6Y:Ty:=(.pair QL c7v)
abbrev c3R:Ty:=(.pair (.nl QI) c2Y)
abbrev c7w:Ty:=(.pair QL c2Y)
abbrev c7x:Ty:=(.pair (.list true Q4) c3R)
abbrev c2Z:Ty:=(.pair HX c6X)
abbrev b1q:Ty:=(.pair HX c6Y)
abbrev c7y:Ty:=(.pair (.list false Q4) c7w)
abbrev c7z:Ty:=(.pair (.arr 3 QI) c7x)
abbrev c7A:Ty:=(.pair (.arr 3 QI) c7y)
abbrev c7B:Ty:=(.pair (.list true QI) c7z)
abbrev c7C:Ty:=(.pair QL c7A)
abbrev c7D:Ty:=(.pair QI c7B)
abbrev c7E:Ty:=(.pair QI c7C)
abbrev c7F:Ty:=(.pair QI c7D)
abbrev c7G:Ty:=(.pair QI c7E)
abbrev c7H:Ty:=(.pair QI c7F)
abbrev c7I:Ty:=(.pair QI c7G)
abbrev c6Z:Ty:=(.pair QI c7H)
abbrev c7a:Ty:=(.pair QI c7I)
abbrev b2A:Ty:=(.pair QI c6Z)
abbrev DY:Ty:=(.pair QI c7a)
abbrev c3S:Ty:=(.pair (.nl DY) .unit)
abbrev c7J:Ty:=(.pair (.list true DY) .unit)
abbrev c7K:Ty:=(.pair (.list false DY) .unit)
abbrev c7L:Ty:=(.pair (.nl HX) c3S)
abbrev c7M:Ty:=(.pair (.list true HX) c3S)
abbrev c7N:Ty:=(.pair (.list false HX) c7J)
abbrev c7O:Ty:=(.pair (.list false HX) c7K)
abbrev c7P:Ty:=(.pair HX c7L)
abbrev c7Q:Ty:=(.pair HX c7M)
abbrev c7R:Ty:=(.pair HX c7N)
abbrev c7S:Ty:=(.pair HX c7O)
abbrev b2B:Ty:=(.pair QI c7P)
abbrev c7b:Ty:=(.pair QI c7Q)
abbrev c3T:Ty:=(.pair QI c7R)
abbrev c7c:Ty:=(.pair QI c7S)
abbrev c3U:Ty:=(.pair QI c7b)
abbrev b9R:Ty:=(.pair QI c3T)
abbrev QZ:Ty:=(.pair QI c7c)
abbrev c7T:Ty:=(.pair (.nl QZ) .unit)
abbrev c7U:Ty:=(.pair (.list true QZ) .unit)
abbrev c7V:Ty:=(.pair (.list false QZ) .unit)
abbrev c7W:Ty:=(.pair (.nl Q4) c7T)
abbrev c7X:Ty:=(.pair (.list true Q4) c7U)
abbrev c7Y:Ty:=(.pair (.list false Q4) c7V)
abbrev c7Z:Ty:=(.pair QU c7W)
abbrev c8a:Ty:=(.pair QU c7X)
abbrev c8b:Ty:=(.pair QU c7Y)
abbrev b9s:Ty:=(.pair QI c7Z)
abbrev c3V:Ty:=(.pair QI c8a)
abbrev c7d:Ty:=(.pair QI c8b)
abbrev c3a:Ty:=(.pair HX c3V)
abbrev nG:Ty:=(.pair HX c7d)
def a8B:List (Nat×Ty):=[(2,.int .i64),(3,.int .i64),(5,.int .u8),(9,.str),(23,.pair QI Q4),(24,.list false QI),(27,.list false QV),(28,.int .u64),(29,.list false Q4),(30,.list false QZ),(32,.pair HX c7d),(35,.list false HX),(36,.list false DY),(38,.pair QI c7c),(39,.int .i64),(44,.pair QI Q0),(50,.pair QI Q0),(62,.pair QB Q0),(63,.arr 3 QI),(64,.list false Q4),(66,.pair QI Q3),(68,.pair QI c7a),(74,.int .u16),(78,.pair QB .unit),(81,.pair HX c6Y),(84,.list false QL),(86,.pair QI Q9),(98,.list false QB),(99,.list false Pw),(111,.pair QI Q0),(115,.list false QU),(117,.pair QI Q4),(122,.int .u64),(132,.int .u32),(157,.pair QB Q4),(189,.pair QB Q4),(227,.arr 64 QV),(252,.list false (.arr 3 QI)),(256,.pair QI (.pair QL Q3)),(258,.pair QI (.pair QL Q3))]
def T0:Nat->Option Ty:=fun t=>find a8B t
def b2C:List Nat:=[23,63,111]
def c3W:Nat->Bool:=fun t=>b2C.contains t
def a6J:List Nat:=[]
def c3X:Nat->Bool:=fun t=>a6J.contains t
def VV:(List Int):=[0,1,56,2,57,49,28,3,61,58,42,50,38,29,17,4,62,47,59,36,45,43,51,22,53,39,33,30,24,18,12,5,63,55,48,27,60,41,37,16,46,35,44,21,52,32,23,11,54,26,40,15,34,20,31,10,25,14,19,9,13,8,7,6]
def G0:Nat->Option ((t:Ty)×t.sJ):=fun g=>find ([(2,⟨.arr 64 QV,VV⟩)]:List (Nat×((t:Ty)×t.sJ))) g
@[reducible] def ZC(a:List (Nat×sG))(b:List (Nat×Ty))(c d:Nat):Cx:=⟨c3X,c3W,T0,fun f=>find a f,fun n=>find b n,c.testBit,d.testBit,G0⟩
@[reducible] def b8q(s:sG)(f:(Dz (s.ps.map PA.ty)).sJ->Option (Dz ((RA.all s.ps s.rs).map RA.ty)).sJ):sG:=⟨s.ps,s.rs,f⟩
def JT(x:Int):Option Bool:=cond (A4 (4<=x)) (A3 (A4 (x<=24))) (A3 false)
def nR:sG:=⟨[.v QI],[.v .bool],JT⟩
def CL(x:Z7):Option Bool:=cond (A4 (1<=x.1)) (cond (A4 (x.1<=1048576)) (cond (A4 (1<=x.2.1)) (cond (A4 (x.2.1<=8)) ((JT x.2.2.1).bind fun h=>A3 h) (A3 false)) (A3 false)) (A3 false)) (A3 false)
def nS:sG:=⟨[.v HX],[.v .bool],CL⟩
def IH(x:LI):Option MF:=cond (Bp (A8 x)) (A3 (x,0,0,())) A6
def a3u:sG:=⟨[.v QB],[.b Lf],IH⟩
def Ij(s:Zb):Option (Zb ⊕ (Unit ⊕ Z7)):=(fun(a:Int)(b:LI)(c d:Int)=>cond (A4 (d<c)) ((Az b d).bind fun g=>(show Option (Int×Int×Int×b4N)from cond (d==9) (cond (A4 (g > 1)) (A3 (a,d,g,b,c,d,true,())) (cond (A4 (d > 0)) (A3 (a,d,g,b,c,d,g==0,())) (A3 (a,d,g,b,c,d,false,())))) (cond (A4 (d > 0)) (A3 (a,d,g,b,c,d,g==0,())) (A3 (a,d,g,b,c,d,false,())))).bind fun h=>cond h.2.2.2.2.2.2.1 (A3 (.inr (B6 (0,0,2,())))) (cond (A4 (zD .i64 (7*h.2.1)<0)) A6 (cond (A4 (h.2.2.1<128)) (A3 (.inr (B6 (bits .u64 .or h.1 (AT .u64 (zD .u64 (B8 h.2.2.1 128)) (zD .i64 (7*h.2.1))),zD .i64 (h.2.1+1),0,())))) (A3 (.inl (bits .u64 .or h.1 (AT .u64 (zD .u64 (B8 h.2.2.1 128)) (zD .i64 (7*h.2.1))),h.2.2.2.1,h.2.2.2.2.1,zD .i64 (h.2.2.2.2.2.1+1),())))))) (A3 (.inr (B7 ())))) s.1 s.2.1 s.2.2.1 s.2.2.2.1
def LQ(x:LI):Option (Int×Int×Int):=(Al Ij (0,x,(x.length:Int),0,())).bind fun g=>match g with |.inl f=>A3 (0,0,3) |.inr h=>A3 (h.1,h.2.1,h.2.2.1)
def jJ:sG:=⟨[.v QB],[.v QU,.v QI,.v QI],LQ⟩
def c8c:sD:=⟨[(58,[.sv 5 QU,.sv 8 QB,9,10],[Qe 0 [],Qr [.sv 2 QU,3,4]])],[(7474,[Qn [.sv 5 QU,6,.sv 7 QV,.sv 8 QB,9,10,.sv 28 .bool]])],[]⟩
def AI(x:b4M):Option Zb:=cond (x.1.2.2.1 != 0) (A3 (0,x.1)) (cond (A4 (0<=x.1.2.1)&&A4 (x.1.2.1<=(x.1.1.length:Int))) ((LQ (C1 (A7 x.1.2.1) (B9 (A8 x.1.1) x.1.1))).bind fun h=>(show Option b2t from cond (h.2.2==0) (cond (A4 (h.1 > x.2)) (A3 (h.1,h.2.1,4,x.1,())) (A3 (h.1,h.2.1,h.2.2,x.1,()))) (A3 (h.1,h.2.1,h.2.2,x.1,()))).bind fun g=>cond (g.2.2.1 != 0) (A3 (0,g.2.2.2.1.1,g.2.2.2.1.2.1,g.2.2.1,g.2.2.2.1.2.2.2)) (A3 (g.1,g.2.2.2.1.1,zD .i64 (g.2.2.2.1.2.1+g.2.1),g.2.2.2.1.2.2))) A6)
def WJ:sG:=⟨[.r false (.b Lf),.v QU],[.v QU],AI⟩
def c8d:sD:=⟨[],[(15,[Qn [.sv 5 QU,6,7,.box pinned Lf,Qp 0 pinned]])],[(3,[.p,.p,.q,.q,.p,.p,.q,.q,.x,.x,.x,.v,.v,.v,.v,.v,.x])]⟩
def EJ(x:MF):Option Zb:=some (x.2.2.1,x)
def WK:sG:=⟨[.r false (.b Lf)],[.v QI],EJ⟩
def Ck(x:MF):Option Zb:=some (zD .i64 ((x.1.length:Int)-x.2.1),x)
def VG:sG:=⟨[.r false (.b Lf)],[.v QI],Ck⟩
def c8e:sD:=⟨[],[],[(1,[.p,.p,.q,.q,.v,.p,.p,.q,.q,.x,.x])]⟩
def FM(x:Int):Option Int:=some (GZ (EA x 0) 8)
def nT:sG:=⟨[.v QI],[.v QI],FM⟩
def FY(x:b4M):Option b9H:=cond (x.1.2.2.1 != 0) (A3 ([],x.1)) ((Ck x.1).bind fun h=>cond (A4 ((EA x.2 0) > h.1)) (A3 ([],h.2.1,h.2.2.1,3,h.2.2.2.2)) (cond (A4 (0<=(zD .i64 (h.2.2.1+(EA x.2 0))))&&A4 ((zD .i64 (h.2.2.1+(EA x.2 0)))<=(h.2.1.length:Int))) (cond (A4 (0<=h.2.2.1)&&A4 (h.2.2.1<=((A7 (zD .i64 (h.2.2.1+(EA x.2 0))):Nat):Int))) (cond (Bp (A8 (C1 (A7 h.2.2.1) (B9 (A7 (zD .i64 (h.2.2.1+(EA x.2 0)))) h.2.1)))) (A3 (C1 (A7 h.2.2.1) (B9 (A7 (zD .i64 (h.2.2.1+(EA x.2 0)))) h.2.1),h.2.1,zD .i64 (h.2.2.1+(EA x.2 0)),h.2.2.2)) A6) A6) A6))
def VH:sG:=⟨[.r false (.b Lf),.v QI],[.o QV],FY⟩
def c8f:sD:=⟨[],[],[(7,[.p,.p,.q,.q,.p,.p,.q,.q,.p,.p,.q,.q,.v,.v,.x,.x,.x])]⟩
def EW(s:a9W):Option (a9W ⊕ b9J):=(fun(a:Int)(b:LI)(c:MF)=>cond (A4 (a<s.2.1)) (cond (A4 (0<=a)&&A4 (a<(b.length:Int))) (A3 (.inl (zD .u64 ((zD .u64 (s.1*256))+(zD .u64 (B4 b (A7 a) 0))),s.2.1,zD .i64 (a+1),b,c,()))) A6) (A3 (.inr (s.1,c,())))) s.2.2.1 s.2.2.2.1 s.2.2.2.2.1
def EK(x:b4M):Option Zb:=(FM x.2).bind fun f=>(FY (x.1,f)).bind fun h=>(Al EW (0,(h.1.length:Int),0,h.1,h.2,())).bind fun g=>A3 (g.1,g.2.1)
def WL:sG:=⟨[.r false (.b Lf),.v QI],[.v QU],EK⟩
def c8g:sD:=⟨[(58,[.sv 5 QU,12,13,.own 11 1011 QV,.box pinned Lf],[Qe 0 [.sv 5 QU,.box pinned Lf]])],[],[]⟩
def Fs(x:MF):Option Zb:=some (x.2.1,x)
def XK:sG:=⟨[.r false (.b Lf)],[.v QI],Fs⟩
def JK(s:b9q):Option (b9q ⊕ Zb):=(fun(a:Int)(b:LI)(c d e:Int)=>cond (A4 (e<8)) (cond (bits .u32 .and a 1==1) (A3 (.inl (bits .u32 .xor (AR .u32 a 1) 3988292384,b,c,d,zD .i64 (e+1),()))) (A3 (.inl (AR .u32 a 1,b,c,d,zD .i64 (e+1),())))) (A3 (.inr (a,b,c,d,())))) s.1 s.2.1 s.2.2.1 s.2.2.2.1 s.2.2.2.2.1
def FZ(s:Zb):Option b8k:=(fun(a b:Int)=>cond (A4 (b<a)) ((Az s.2.1 b).bind fun g=>(Al JK (bits .u32 .xor s.1 (zD .u32 g),s.2.1,a,b,0,())).bind fun h=>A3 (.inl (h.1,h.2.1,h.2.2.1,zD .i64 (h.2.2.2.1+1),()))) (A3 (.inr (s.1,())))) s.2.2.1 s.2.2.2.1
def Gm(x:LI):Option Int:=(Al FZ (4294967295,x,(x.length:Int),0,())).bind fun h=>A3 (bits .u32 .xor (IntKind.max .u32) h.1)
def ZD:sG:=⟨[.v QB],[.v (.int .u32)],Gm⟩
def c8h:sD:=⟨[(58,[.sv 3 (.int .u32),.sv 7 QB,8,9],[Qe 0 [.sv 3 (.int .u32)]]),(29902,[.sv 3 (.int .u32),.sv 7 QB,8,9,17],[Qe 2 [.sv 3 (.int .u32),.sv 7 QB,8,9]])],[],[]⟩
def Hc(s:(LI×Int×Int×Rv×Rv×b2r)):Option ((LI×Int×Int×Rv×Rv×b2r) ⊕ (LI×Rv×Rv×b2r)):=(fun(a:Int)(b c:Rv)(d:MF)=>cond (A4 (a<s.2.1)) ((AI (d,1048704)).bind fun h=>cond (Bp ((A8 c.2.1)+1)) ((AI (h.2,4096)).bind fun g=>cond (Bp ((A8 c.2.2.1)+1)) (A3 (.inl (s.1,s.2.1,zD .u64 (a+1),b,(c.1,A9 c.2.1 [zD .i64 h.1],A9 c.2.2.1 [zD .i64 g.1],c.2.2.2),g.2,()))) A6) A6) (A3 (.inr (s.1,b,c,d,())))) s.2.2.1 s.2.2.2.1 s.2.2.2.2.1 s.2.2.2.2.2.1
def He(s:(Int×Int×Rv×b5E)):Option ((Int×Int×Rv×b5E) ⊕ ((Rv×b5E) ⊕ (Int×b5E))):=(fun(a:Int)(b c:Rv)=>cond (A4 (a<s.1)) (cond (A4 (0<=a)&&A4 (a<(c.2.2.1.length:Int))) (cond (B4 c.2.2.1 (A7 a) 0==0) (A3 (.inr (B6 (2,((0,0,0,()),[],[],0,0,0,()),())))) (A3 (.inl (s.1,zD .i64 (a+1),b,(c.1,c.2.1,c.2.2.1,zD .i64 (c.2.2.2.1+(B4 c.2.2.1 (A7 a) 0)),c.2.2.2.2),())))) A6) (A3 (.inr (B7 (b,c,()))))) s.2.1 s.2.2.1 s.2.2.2.1
def Fe(x:LI):Option (Rv×Int):=cond (A4 ((x.length:Int)<4)) (A3 (((0,0,0,()),[],[],0,0,0,()),3)) (cond (A4 (4<=(x.length:Int))) (cond ((b4V (B9 4 x)) != [75,78,83,68]) (A3 (((0,0,0,()),[],[],0,0,0,()),2)) (cond (A4 (4<=(x.length:Int))) ((IH (C1 4 (B9 (A8 x) x))).bind fun p=>(AI (p,1048576)).bind fun l=>(AI (l.2,8)).bind fun m=>(AI (m.2,24)).bind fun n=>(AI (n.2,4096)).bind fun o=>(Al Hc (x,o.1,0,((0,0,0,()),[],[],0,0,0,()),((zD .i64 l.1,zD .i64 m.1,zD .i64 n.1,()),[],[],0,0,0,()),o.2,())).bind fun h=>(EJ h.2.2.2.1).bind fun j=>cond (j.1 != 0) (A3 (((0,0,0,()),[],[],0,0,0,()),j.1)) ((Ck j.2).bind fun a=>cond (A4 (a.1<12)) (A3 (((0,0,0,()),[],[],0,0,0,()),3)) ((EK (a.2,8)).bind fun b=>(Fs b.2).bind fun g=>cond (A4 (0<=(zD .i64 (4+g.1)))&&A4 ((zD .i64 (4+g.1))<=(h.1.length:Int))) ((Gm (B9 (A7 (zD .i64 (4+g.1))) h.1)).bind fun d=>(EK (g.2,4)).bind fun e=>cond ((zD .u64 d) != e.1) (A3 (((0,0,0,()),[],[],0,0,0,()),5)) ((CL h.2.2.1.1).bind fun i=>cond (!i) (A3 (((0,0,0,()),[],[],0,0,0,()),2)) ((Al He ((h.2.2.1.2.2.1.length:Int),0,h.2.1,(h.2.2.1.1,h.2.2.1.2.1,h.2.2.1.2.2.1,h.2.2.1.2.2.2.1,b.1,zD .i64 ((zD .i64 (4+g.1))+4),h.2.2.1.2.2.2.2.2.2),())).bind fun c=>match c with |.inl f=>(cond (A4 (f.2.1.2.2.2.1 > 4194304)) (A3 (((0,0,0,()),[],[],0,0,0,()),2)) (A3 (f.2.1,0))) |.inr k=>A3 (k.2.1,k.1)))) A6))) A6)) A6)
def eR:sG:=⟨[.v QB],[.v b1q,.v QI],Fe⟩
def c8i:sD:=⟨[(4090,[.sv 0 QB,.sv 38 QU,.sv 39 QU,.box 2 b1q,.box 4 c2Z,.box 1021 Lf,Qp 2 2,Qp 4 4,Qp 5 1021],[Qe 0 [.sv 0 QB,.box 2 b1q,.box 4 c2Z,.box 1021 Lf,Qp 2 2,Qp 4 4,Qp 5 1021]]),(1048570,[93,94,.box 2 b1q,.box 4 c2Z,Qp 2 2,Qp 4 4,.ref 92 4 [.snd,.snd,.fst]],[Qe 2 [.box 2 b1q,.box 4 c2Z,Qp 2 2,Qp 4 4],Qr [3,.box 2 b1q,Qp 2 2]])],[],[(12,[.r [4,41],.r [4,42],.q,.w [44,1021,1044],.v,.q,.x,.x,.x]),(13,[.r [4,49],.r [4,50],.q,.w [52,1021,1052],.v,.q,.x,.x,.x])]⟩
def Sw(x:Int):Option Int:=(show Option (Int×Bool×Unit)from cond (A4 (x<1)) (A3 (x,true,())) (A3 (x,A4 (x > 31),()))).bind fun h=>cond h.2.1 (A3 0) (cond (A4 (zD .i64 (h.1-1)<0)) A6 (A3 (AT .i64 (-1) (zD .i64 (h.1-1)))))
def a1g:sG:=⟨[.v QI],[.v QI],Sw⟩
def c8j:sD:=⟨[],[(6,[Qn [0,.sv 8 .bool]])],[]⟩
def Ra(x:Int):Option Int:=(show Option (Int×Bool×Unit)from cond (A4 (x<1)) (A3 (x,true,())) (A3 (x,A4 (x > 31),()))).bind fun h=>cond h.2.1 (A3 0) (cond (A4 (zD .i64 (h.1-1)<0)) A6 (A3 (zD .i64 ((AT .i64 1 (zD .i64 (h.1-1)))-1))))
def nU:sG:=⟨[.v QI],[.v QI],Ra⟩
def c8k:sD:=⟨[],[(6,[Qn [0,.sv 8 .bool]])],[]⟩
def CM(x:(Int×Int)):Option Bool:=cond (A4 (x.2>=1)) (cond (A4 (x.2<=31)) ((Sw x.2).bind fun h=>cond (A4 (h<=x.1)) ((Ra x.2).bind fun g=>A3 (A4 (x.1<=g))) (A3 false)) (A3 false)) (A3 false)
def nV:sG:=⟨[.v QI,.v QI],[.v .bool],CM⟩
def Ft(x:TI):Option Int:=cond ((x.2.1.length:Int)==0) (A3 0) ((Az x.2.1 0).bind fun h=>A3 (h.length:Int))
def a3v:sG:=⟨[.v Pw],[.v QI],Ft⟩
def Gn(s:((List LI)×Int×Int×LI×b9M)):Option (((List LI)×Int×Int×LI×b9M) ⊕ (((List LI)×b9M) ⊕ (Bool×Unit))):=(fun(a:Int)(b:LI)(c d:Int)(e:TI)=>cond (A4 (d<c)) ((Az b d).bind fun h=>(CM (h,e.1)).bind fun g=>cond (!g) (A3 (.inr (B6 (false,())))) (A3 (.inl (s.1,s.2.1,a,b,c,zD .i64 (d+1),e,())))) (A3 (.inr (B7 (s.1,s.2.1,a,e,()))))) s.2.2.1 s.2.2.2.1 s.2.2.2.2.1 s.2.2.2.2.2.1 s.2.2.2.2.2.2.1
def Gp(s:((List LI)×b9M)):Option (((List LI)×b9M) ⊕ Z0):=cond (A4 (s.2.2.1<s.2.1)) ((Az s.1 s.2.2.1).bind fun k=>(Ft s.2.2.2.1).bind fun a=>cond ((k.length:Int) != a) (A3 (.inr (B6 (false,())))) ((Al Gn (s.1,s.2.1,s.2.2.1,k,(k.length:Int),0,s.2.2.2.1,())).bind fun f=>match f with |.inl h=>A3 (.inl (h.1,h.2.1,zD .i64 (h.2.2.1+1),h.2.2.2.1,())) |.inr g=>A3 (.inr (B6 (g.1,()))))) (A3 (.inr (B7 ())))
def Fu(x:TI):Option Bool:=(show Option (Bool×b7l)from(JT x.1).bind fun b=>cond (!b) (A3 (true,x,())) (cond (A4 ((x.2.1.length:Int)<1)) (A3 (true,x,())) (A3 (A4 ((x.2.1.length:Int) > 8),x,())))).bind fun h=>cond h.1 (A3 false) ((show Option (Bool×b7l)from(Ft h.2.1).bind fun c=>cond (A4 (c<1)) (A3 (true,h.2.1,())) ((Ft h.2.1).bind fun d=>A3 (A4 (d > 4096),h.2.1,()))).bind fun g=>cond g.1 (A3 false) ((Al Gp (g.2.1.2.1,(g.2.1.2.1.length:Int),0,g.2.1,())).bind fun k=>match k with |.inl a=>A3 true |.inr f=>A3 f.1))
def a3w:sG:=⟨[.v Pw],[.v .bool],Fu⟩
def c8l:sD:=⟨[(122,[.sv 32 (.list false QL),33,34,.vp 1 Pw],[Qe 0 [],Qr [.sv 2 .bool]]),(62670,[.sv 32 (.list false QL),33,34,.sv 43 QL,44,45,.vp 1 Pw],[Qe 2 [.sv 32 (.list false QL),33,34,.vp 1 Pw],Qr [.sv 2 .bool]])],[(6,[Qn [.sv 22 .bool,.vp 1 Pw]]),(14,[Qn [.sv 30 .bool,.vp 1 Pw]])],[]⟩
def JU(s:(Int×Zz×Int×Int×Unit)):Option ((Int×Zz×Int×Int×Unit) ⊕ Z0):=(fun(a:Int)(b:Zz)(c d:Int)=>cond (A4 (d<c)) ((Az b d).bind fun h=>(show Option (Int×Zz×c2R)from cond (A4 (h.1<0)) (A3 (a,b,c,d,true,h,())) (cond (A4 (h.1>=a)) (A3 (a,b,c,d,true,h,())) (cond (A4 (h.2.1<0)) (A3 (a,b,c,d,true,h,())) (cond (A4 (h.2.1>=a)) (A3 (a,b,c,d,true,h,())) (A3 (a,b,c,d,h.1==h.2.1,h,())))))).bind fun g=>cond g.2.2.2.2.1 (A3 (.inr (B6 (false,())))) ((show Option (Int×Zz×b9D)from cond (A4 (g.2.2.2.2.2.1.2.2.1<(-1024))) (A3 (g.1,g.2.1,g.2.2.1,g.2.2.2.1,true,())) (A3 (g.1,g.2.1,g.2.2.1,g.2.2.2.1,A4 (g.2.2.2.2.2.1.2.2.1 > 1024),()))).bind fun f=>cond f.2.2.2.2.1 (A3 (.inr (B6 (false,())))) (A3 (.inl (f.1,f.2.1,f.2.2.1,zD .i64 (f.2.2.2.1+1),()))))) (A3 (.inr (B7 ())))) s.1 s.2.1 s.2.2.1 s.2.2.2.1
def MU(x:(Zz×Int)):Option Bool:=(show Option (Zz×Int×Bool×Unit)from cond (A4 (x.2<1)) (A3 (x.1,x.2,true,())) (cond (A4 (x.2 > 8)) (A3 (x.1,x.2,true,())) (A3 (x.1,x.2,A4 ((x.1.length:Int) > 16),())))).bind fun h=>cond h.2.2.1 (A3 false) ((Al JU (h.2.1,h.1,(h.1.length:Int),0,())).bind fun f=>match f with |.inl k=>A3 true |.inr g=>A3 g.1)
def jK:sG:=⟨[.v (.list false HX),.v QI],[.v .bool],MU⟩
def c3Y:sD:=⟨[(58,[1,.sv 18 (.list false HX),19,20],[Qe 0 [],Qr [.sv 4 .bool]])],[(6,[Qn [.sv 0 (.list false HX),1,.sv 17 .bool]]),(7474,[Qn [1,.sv 18 (.list false HX),19,20,.sv 50 .bool,.box 6 HX,Qp 6 6]]),(7475,[Qn [1,.sv 18 (.list false HX),19,20,.sv 58 .bool]])],[]⟩
def JV(x:HW):Option Bool:=(CL x.2.2.1).bind fun h=>cond h (cond (A4 (x.2.1>=1)) (cond (A4 (x.2.1<=4096)) (cond (A4 (x.1>=0)) (cond (A4 (x.1<=(zD .i64 (4194304-x.2.1)))) ((MU (x.2.2.2.1,x.2.2.1.2.1)).bind fun g=>A3 g) (A3 false)) (A3 false)) (A3 false)) (A3 false)) (A3 false)
def nW:sG:=⟨[.v QZ],[.v .bool],JV⟩
def Ji(x:Int):Option Bool:=cond (x != 0) (A3 (x != 1)) (A3 false)
def a1h:sG:=⟨[.v QI],[.v .bool],Ji⟩
def Dp(s:MF):Option b7n:=(fun(a b:Int)=>cond (A4 (b<a)) ((Az s.1 b).bind fun g=>(show Option b4N from cond (A4 (g<(-1073741824))) (A3 (s.1,a,b,true,())) (A3 (s.1,a,b,A4 (g>=1073741824),()))).bind fun h=>cond h.2.2.2.1 (A3 (.inr (B6 (false,())))) (A3 (.inl (h.1,h.2.1,zD .i64 (h.2.2.1+1),())))) (A3 (.inr (B7 ())))) s.2.1 s.2.2.1
def Dw(x:LI):Option Bool:=(Al Dp (x,(x.length:Int),0,())).bind fun g=>match g with |.inl f=>A3 true |.inr h=>A3 h.1
def nX:sG:=⟨[.v QL],[.v .bool],Dw⟩
def c3Z:sD:=⟨[(26,[.sv 5 QL,6,7],[Qe 0 [],Qr [.sv 2 .bool]])],[(1689,[Qn [.sv 5 QL,6,7,.sv 16 .bool]])],[]⟩
def Lg(x:(Int×Int)):Option Bool:=cond (A4 (1<=x.1)) (cond (A4 (x.1<=4096)) (cond (A4 (0<=x.2)) (A3 (A4 (x.2<=x.1))) (A3 false)) (A3 false)) (A3 false)
def a3x:sG:=⟨[.v QI,.v QI],[.v .bool],Lg⟩
def Jj(s:a5H):Option (a5H ⊕ (LI×Unit)):=(fun(a:LI)=>cond (A4 (s.1<0)) A6 (cond (A4 ((a.length:Int)<AT .i64 1 s.1)) (cond (Bp ((A8 a)+1)) (A3 (.inl (s.1,s.2.1,A9 a [s.2.1],()))) A6) (A3 (.inr (a,()))))) s.2.2.1
def Ez(x:(Int×Int×Int)):Option LI:=(show Option b9n from(Lg (x.2.1,x.2.2)).bind fun k=>cond (!k) (A3 (x.1,x.2.1,x.2.2,true,())) (cond (A4 (x.1<0)) (A3 (x.1,x.2.1,x.2.2,true,())) (A3 (x.1,x.2.1,x.2.2,A4 (x.1 > 8),())))).bind fun h=>cond h.2.2.2.1 (A3 []) (cond (A4 (h.1<0)) A6 ((show Option b9n from cond (A4 (h.1<0)) A6 (cond ((AT .i64 (AR .i64 h.2.1 h.1) h.1) != h.2.1) (A3 (h.1,h.2.2.1,AR .i64 h.2.1 h.1,true,())) (A3 (h.1,h.2.2.1,AR .i64 h.2.1 h.1,A4 (AR .i64 h.2.1 h.1<h.2.2.1),())))).bind fun g=>cond g.2.2.2.1 (A3 []) ((Al Jj (g.1,g.2.2.1,[zD .i64 (g.2.2.1-g.2.1)],())).bind fun f=>A3 f.1)))
def nY:sG:=⟨[.v QI,.v QI,.v QI],[.o QI],Ez⟩
def c8m:sD:=⟨[(252,[0,7,.own 8 8 QI],[Qe 0 [.own 8 8 QI]])],[(6,[Qn [0,1,2,.sv 20 .bool]]),(30,[Qn [0,2,7,.sv 33 .bool]])],[]⟩
def Gq(s:MF):Option b7n:=(fun(a:LI)(b c:Int)=>cond (A4 (c<b)) ((Az a c).bind fun h=>(show Option b4N from cond (A4 (h<0)) (A3 (a,b,c,h != 31,())) (cond (A4 (h > 25)) (A3 (a,b,c,h != 31,())) (A3 (a,b,c,false,())))).bind fun g=>cond g.2.2.2.1 (A3 (.inr (B6 (false,())))) (A3 (.inl (g.1,g.2.1,zD .i64 (g.2.2.1+1),())))) (A3 (.inr (B7 ())))) s.1 s.2.1 s.2.2.1
def NC(x:(Z5×Int×Int)):Option Bool:=(Ez (x.1.1,x.2.1,x.2.2)).bind fun g=>(show Option b9F from cond ((g.length:Int)==0) (A3 (true,x.1,())) (A3 ((x.1.2.1.length:Int) != (g.length:Int),x.1,()))).bind fun h=>cond h.1 (A3 false) ((Al Gq (h.2.1.2.1,(h.2.1.2.1.length:Int),0,())).bind fun k=>match k with |.inl a=>A3 true |.inr f=>A3 f.1)
def a3y:sG:=⟨[.v Tm,.v QI,.v QI],[.v .bool],NC⟩
def c4a:sD:=⟨[(122,[.sv 27 QL,28,29],[Qe 0 [],Qr [.sv 6 .bool]])],[(14,[Qn [.sv 25 .bool,.vp 3 Tm]]),(7833,[Qn [.sv 27 QL,28,29,.sv 42 .bool]])],[]⟩
def Hx(s:MF):Option b7n:=(fun(a b:Int)=>cond (A4 (b<a)) ((Az s.1 b).bind fun g=>(show Option b4N from cond (A4 (g<(-32768))) (A3 (s.1,a,b,true,())) (A3 (s.1,a,b,A4 (g>=32768),()))).bind fun h=>cond h.2.2.2.1 (A3 (.inr (B6 (false,())))) (A3 (.inl (h.1,h.2.1,zD .i64 (h.2.2.1+1),())))) (A3 (.inr (B7 ())))) s.2.1 s.2.2.1
def Hf(x:(LI×Int)):Option Bool:=(show Option (LI×Bool×Unit)from cond (A4 ((x.1.length:Int)<1)) (A3 (x.1,true,())) (cond (A4 ((x.1.length:Int) > 32)) (A3 (x.1,true,())) (cond (A4 (x.2<0)) (A3 (x.1,true,())) (A3 (x.1,A4 (x.2 > 15),()))))).bind fun h=>cond h.2.1 (A3 false) ((Al Hx (h.1,(h.1.length:Int),0,())).bind fun f=>match f with |.inl k=>A3 true |.inr g=>A3 g.1)
def a1i:sG:=⟨[.v QL,.v QI],[.v .bool],Hf⟩
def c4b:sD:=⟨[(58,[.sv 23 QL,24,25],[Qe 0 [],Qr [.sv 4 .bool]])],[(6,[Qn [.sv 0 QL,.sv 22 .bool]]),(3737,[Qn [.sv 23 QL,24,25,.sv 34 .bool]])],[]⟩
def JW(s:Z6):Option (Z6 ⊕ Z0):=cond (A4 (s.2.1<3)) ((Az s.1 s.2.1).bind fun g=>(show Option b5x from cond (A4 (g<(-64))) (A3 (s.1,s.2.1,true,())) (A3 (s.1,s.2.1,A4 (g > 64),()))).bind fun h=>cond h.2.2.1 (A3 (.inr (B6 (false,())))) (A3 (.inl (h.1,zD .i64 (h.2.1+1),())))) (A3 (.inr (B7 ())))
def MV(x:(Int×LI)):Option Bool:=(show Option Z8 from cond (A4 (x.1<2)) (A3 (true,x.2,())) (A3 (A4 (x.1 > 1024),x.2,()))).bind fun h=>cond h.1 (A3 false) ((Al JW (h.2.1,0,())).bind fun f=>match f with |.inl k=>A3 true |.inr g=>A3 g.1)
def a6K:sG:=⟨[.v QI,.v (.arr 3 QI)],[.v .bool],MV⟩
def c4c:sD:=⟨[(58,[.sv 13 (.arr 3 QI),14],[Qe 0 [],Qr [.sv 4 .bool]])],[(6,[Qn [.sv 12 .bool,.vp 3 (.arr 3 QI)]]),(3737,[Qn [.sv 13 (.arr 3 QI),14,.sv 22 .bool]])],[]⟩
def JX(x:(Int×Int×Unit)):Option Bool:=cond (A4 (x.1>=1)) (cond (A4 (x.1<=32)) (cond (A4 (x.2.1>=0)) (A3 (A4 (x.2.1<=8))) (A3 false)) (A3 false)) (A3 false)
def oA:sG:=⟨[.v Q4],[.v .bool],JX⟩
def II(s:(Z4×Int×Int×Unit)):Option ((Z4×Int×Int×Unit) ⊕ Z0):=cond (A4 (s.2.2.1<s.2.1)) ((Az s.1 s.2.2.1).bind fun h=>(JX h).bind fun g=>cond (!g) (A3 (.inr (B6 (false,())))) (A3 (.inl (s.1,s.2.1,zD .i64 (s.2.2.1+1),())))) (A3 (.inr (B7 ())))
def Lh(x:Z4):Option Bool:=cond (A4 ((x.length:Int) > 3)) (A3 false) ((Al II (x,(x.length:Int),0,())).bind fun g=>match g with |.inl f=>A3 true |.inr h=>A3 h.1)
def cN:sG:=⟨[.v (.list false Q4)],[.v .bool],Lh⟩
def c4d:sD:=⟨[(58,[.sv 8 (.list false Q4),9,10],[Qe 0 [],Qr [.sv 2 .bool]])],[],[]⟩
def MW(x:(Int×XJ)):Option Bool:=(show Option b5J from cond (x.1==0) (A3 (x.2.2,x.1,x.1==0,x.2.1,())) (A3 (x.2.2,x.1,x.1==1,x.2.1,()))).bind fun h=>cond h.2.2.1 (A3 true) (cond (h.2.1==2) (cond (A4 (h.2.2.2.1.2.2.1>=0)) (cond (A4 (h.2.2.2.1.2.2.1<=4)) (A3 (A4 (h.2.2.2.1.2.2.1<=h.1))) (A3 false)) (A3 false)) (cond (h.2.1==3) ((Hf (h.2.2.2.1.2.2.2.2.2.1,h.2.2.2.1.2.2.2.1)).bind fun g=>cond g (A3 (A4 ((h.2.2.2.1.2.2.2.2.2.1.length:Int)<=h.1))) (A3 false)) (cond (h.2.1==4) ((Hf (h.2.2.2.1.2.2.2.2.2.1,h.2.2.2.1.2.2.2.1)).bind fun f=>cond f (cond (A4 ((h.2.2.2.1.2.2.2.2.2.1.length:Int)<=h.1)) ((MV (h.2.2.2.1.2.2.2.2.1,h.2.2.2.1.2.2.2.2.2.2.1)).bind fun k=>A3 k) (A3 false)) (A3 false)) (cond (h.2.1==5) (cond (A4 ((h.2.2.2.1.2.2.2.2.2.2.2.1.length:Int) > 0)) ((Lh h.2.2.2.1.2.2.2.2.2.2.2.1).bind fun a=>A3 a) (A3 false)) (A3 false)))))
def b0b:sG:=⟨[.v QI,.v DY,.v QI],[.v .bool],MW⟩
def c4e:sD:=⟨[],[(26,[Qn [2,7,.sv 8 .bool,.vp 4 DY]])],[]⟩
def Hg(x:XJ):Option Int:=cond (x.1.1==0) (A3 1) (cond (x.1.1==1) (A3 x.2) (cond (x.1.1==2) (A3 x.1.2.2.1) ((show Option b5H from cond (x.1.1==3) (A3 (x.1.1==3,x.1,())) (A3 (x.1.1==4,x.1,()))).bind fun h=>cond h.1 (A3 (h.2.1.2.2.2.2.2.1.length:Int)) (A3 0))))
def a1j:sG:=⟨[.v DY,.v QI],[.v QI],Hg⟩
def c4f:sD:=⟨[],[(1727,[Qn [.sv 16 .bool,.vp 2 DY]])],[]⟩
def Bi(x:LI):Option LI:=WF x
def Ci:sG:=⟨[.v QL],[.o QI],Bi⟩
def b9S:Cx:=ZC [] [] 5 0
theorem c4g(x):Zg b9S QH Tryz.f77 Ci.ps Ci.rs x=Ci.F x:=Eq.trans (show _=jF x by kernel_rfl) (WG x)
def CR(x:LI):Option LI:=WF x
def CS:sG:=⟨[.v QL],[.v QL],CR⟩
def b7o:Cx:=ZC [] [] 5 0
theorem b9T(x):Zg b7o QH Tryz.f77 CS.ps CS.rs x=CS.F x:=Eq.trans (show _=jF x by kernel_rfl) (WG x)
def Bv(x:Z4):Option Z4:=WF x
def Bw:sG:=⟨[.v (.list false Q4)],[.v (.list false Q4)],Bv⟩
def b2D:Cx:=ZC [] [] 5 0
theorem b8r(x):Zg b2D QH Tryz.f198 Bw.ps Bw.rs x=Bw.F x:=Eq.trans (show _=jF x by kernel_rfl) (WG x)
def Jk(x:(Int×DU)):Option DU:=(show Option ZB from(show Option ((DU×ZB) ⊕ (ZB ⊕ (DU×ZB)))from cond (x.1==2) (A3 (B6 (B7 ((0,0,0,0,0,[],B3 3 0,[],[],(0,[],()),[],()),(x.1,0,x.2.2.2.1,0,0,[],B3 3 0,[],[],(0,[],()),[],()),())))) (cond (x.1==4) (A3 (B7 ((0,0,0,0,0,[],B3 3 0,[],[],(0,[],()),[],()),(x.1,0,0,0,x.2.2.2.2.2.1,[],x.2.2.2.2.2.2.2.1,[],[],(0,[],()),[],()),x.2,()))) (cond (x.1==3) (A3 (B7 ((0,0,0,0,0,[],B3 3 0,[],[],(0,[],()),[],()),(x.1,0,0,0,0,[],B3 3 0,[],[],(0,[],()),[],()),x.2,()))) (cond (x.1==5) (A3 (B6 (B6 ((0,0,0,0,0,[],B3 3 0,[],[],(0,[],()),[],()),(x.1,0,0,0,0,[],B3 3 0,[],[],(0,[],()),[],()),x.2,())))) (A3 (B6 (B7 ((0,0,0,0,0,[],B3 3 0,[],[],(0,[],()),[],()),(x.1,0,0,0,0,[],B3 3 0,[],[],(0,[],()),[],()),())))))))).bind fun c=>match c with |.inl g=>((CR g.2.2.1.2.2.2.2.2.1).bind fun a=>A3 (g.1,(g.2.1.1,g.2.1.2.1,g.2.1.2.2.1,g.2.2.1.2.2.2.1,g.2.1.2.2.2.2.1,a,g.2.1.2.2.2.2.2.2),())) |.inr k=>(match k with |.inl f=>A3 (f.1,f.2.1,()) |.inr h=>((Bv h.2.2.1.2.2.2.2.2.2.2.1).bind fun b=>A3 (h.1,(h.2.1.1,h.2.1.2.1,h.2.1.2.2.1,h.2.1.2.2.2.1,h.2.1.2.2.2.2.1,h.2.1.2.2.2.2.2.1,h.2.1.2.2.2.2.2.2.1,b,h.2.1.2.2.2.2.2.2.2.2),())))).bind fun d=>A3 d.2.1
def a1k:sG:=⟨[.v QI,.v DY],[.v DY],Jk⟩
def c4h:sD:=⟨[],[(7,[Qn [.box 4 DY,.box 5 DY,Qp 4 4,Qp 5 5]]),(232,[Qn [.box 4 DY,.box 5 DY,.vp 3 DY,Qp 4 4,Qp 5 5],Qe 0 [.box 4 DY,.box 5 DY,Qp 4 4,Qp 5 5],Qe 4 [.box 4 DY,.box 5 DY,.vp 3 DY,Qp 4 4,Qp 5 5]])],[(8,[.v,.v,.v,.v,.q,.w [0,5],.x,.x]),(9,[.v,.v,.v,.v,.v,.q,.w [0,5],.x,.x])]⟩
def PV(x:DU):Option Bool:=(Jk (x.1,x)).bind fun h=>cond (x.2.2.1==h.2.2.1) (cond (x.2.2.2.1==h.2.2.2.1) (cond (x.2.2.2.2.1==h.2.2.2.2.1) (cond (nE (.arr 3 (.int .i64)) x.2.2.2.2.2.2.1 h.2.2.2.2.2.2.1) (cond ((x.2.2.2.2.2.1.length:Int)==(h.2.2.2.2.2.1.length:Int)) (A3 ((x.2.2.2.2.2.2.2.1.length:Int)==(h.2.2.2.2.2.2.2.1.length:Int))) (A3 false)) (A3 false)) (A3 false)) (A3 false)) (A3 false)
def a3z:sG:=⟨[.v DY],[.v .bool],PV⟩
def Ox(x:XJ):Option Bool:=(show Option a9X from cond (A4 (x.2<1)) (A3 (x.2,true,x.1,())) (cond (A4 (x.2 > 4096)) (A3 (x.2,true,x.1,())) ((MW (x.1.1,x.1,x.2)).bind fun b=>cond (!b) (A3 (x.2,true,x.1,())) ((PV x.1).bind fun c=>A3 (x.2,!c,x.1,()))))).bind fun h=>cond h.2.1 (A3 false) ((show Option a9X from cond (A4 (h.2.2.1.2.1<0)) (A3 (h.1,true,h.2.2.1,())) (cond (A4 (h.2.2.1.2.1 > 30)) (A3 (h.1,true,h.2.2.1,())) (cond (h.2.2.1.1==0) (A3 (h.1,h.2.2.1.2.1 != 0,h.2.2.1,())) (A3 (h.1,false,h.2.2.1,()))))).bind fun g=>cond g.2.1 (A3 false) ((Hg (g.2.2.1,g.1)).bind fun k=>(show Option b5J from cond ((g.2.2.1.2.2.2.2.2.2.2.2.1.length:Int) != k) (A3 (g.1,k,true,g.2.2.1,())) ((Dw g.2.2.1.2.2.2.2.2.2.2.2.1).bind fun d=>cond (!d) (A3 (g.1,k,true,g.2.2.1,())) ((Dw g.2.2.1.2.2.2.2.2.2.2.2.2.2.1).bind fun e=>A3 (g.1,k,!e,g.2.2.1,())))).bind fun f=>cond f.2.2.1 (A3 false) ((Ji f.2.2.2.1.1).bind fun i=>cond (!i) (cond ((f.2.2.2.1.2.2.2.2.2.2.2.2.2.2.1.length:Int)==0) (cond (f.2.2.2.1.2.2.2.2.2.2.2.2.2.1.1==0) (A3 ((f.2.2.2.1.2.2.2.2.2.2.2.2.2.1.2.1.length:Int)==0)) (A3 false)) (A3 false)) (cond ((f.2.2.2.1.2.2.2.2.2.2.2.2.2.2.1.length:Int)==zD .i64 (f.1-f.2.1)) ((NC (f.2.2.2.1.2.2.2.2.2.2.2.2.2.1,f.1,f.2.1)).bind fun a=>A3 a) (A3 false)))))
def a1l:sG:=⟨[.v DY,.v QI],[.v .bool],Ox⟩
def c4i:sD:=⟨[],[(6,[Qn [1,.sv 24 .bool,.vp 2 DY]]),(14,[Qn [1,.sv 42 .bool,.vp 2 DY]]),(62,[Qn [1,5,.sv 62 .bool,.vp 2 DY]])],[]⟩
def Tn(s:MF):Option b7n:=(fun(a b:Int)=>cond (A4 (b<a)) ((Az s.1 b).bind fun g=>(show Option b4N from cond (A4 (g<(-1073741824))) (A3 (s.1,a,b,true,())) (A3 (s.1,a,b,A4 (g>=1073741824),()))).bind fun h=>cond h.2.2.2.1 (A3 (.inr (B6 (false,())))) (A3 (.inl (h.1,h.2.1,zD .i64 (h.2.2.1+1),())))) (A3 (.inr (B7 ())))) s.2.1 s.2.2.1
def Eh(x:LI):Option Bool:=(Al Tn (x,(x.length:Int),0,())).bind fun g=>match g with |.inl f=>A3 true |.inr h=>A3 h.1
def a1m:sG:=⟨[.v QL],[.v .bool],Eh⟩
def c4j:sD:=⟨[(26,[.sv 5 QL,6,7],[Qe 0 [],Qr [.sv 2 .bool]])],[(1689,[Qn [.sv 5 QL,6,7,.sv 16 .bool]])],[]⟩
def Bt(x:(Int×LI)):Option (Int×LI):=(Az x.2 (zD .i64 ((x.2.length:Int)-x.1))).bind fun h=>A3 (h,x.2)
def eU:sG:=⟨[.v QI,.r false (.b QL)],[.v QI],Bt⟩
def Nd(x:(LI×Int)):Option Int:=cond (x.2==1) ((Bt (1,x.1)).bind fun d=>A3 d.1) (cond (x.2==2) ((Bt (1,x.1)).bind fun g=>(Bt (2,g.2)).bind fun e=>A3 (zD .i64 ((zD .i64 (2*g.1))-e.1))) (cond (x.2==3) ((Bt (1,x.1)).bind fun f=>(Bt (2,f.2)).bind fun k=>(Bt (3,k.2)).bind fun i=>A3 (zD .i64 ((zD .i64 ((zD .i64 (3*f.1))-(zD .i64 (3*k.1))))+i.1))) (cond (x.2==4) ((Bt (1,x.1)).bind fun a=>(Bt (2,a.2)).bind fun b=>(Bt (3,b.2)).bind fun c=>(Bt (4,c.2)).bind fun h=>A3 (zD .i64 ((zD .i64 ((zD .i64 ((zD .i64 (4*a.1))-(zD .i64 (6*b.1))))+(zD .i64 (4*c.1))))-h.1))) (A3 0))))
def oC:sG:=⟨[.v QL,.v QI],[.v QI],Nd⟩
def Kt(s:a5I):Option (a5I ⊕ a6I):=(fun(a b:Int)(c:LI)=>cond (A4 (b<a)) ((Az s.2.1 b).bind fun h=>(Nd (c,s.1)).bind fun g=>(Eh [zD .i64 (h+g)]).bind fun f=>cond (!f) (A3 (.inr (B6 (6,[],())))) (cond (Bp ((A8 c)+1)) (A3 (.inl (s.1,s.2.1,a,zD .i64 (b+1),A9 c [zD .i64 (h+g)],()))) A6)) (A3 (.inr (B7 (c,()))))) s.2.2.1 s.2.2.2.1 s.2.2.2.2.1
def Oy(x:b7i):Option (LI×Int):=(show Option b9r from cond (A4 (x.2.2<0)) (A3 (x.1,x.2.1,x.2.2,true,())) (cond (A4 (x.2.2 > 4)) (A3 (x.1,x.2.1,x.2.2,true,())) (A3 (x.1,x.2.1,x.2.2,(x.1.length:Int) != x.2.2,())))).bind fun h=>cond h.2.2.2.1 (A3 ([],1)) ((show Option b9r from(Eh h.1).bind fun b=>cond (!b) (A3 (h.1,h.2.1,h.2.2.1,true,())) ((Eh h.2.1).bind fun c=>A3 (h.1,h.2.1,h.2.2.1,!c,()))).bind fun g=>cond g.2.2.2.1 (A3 ([],6)) (cond (Bp (A8 g.1)) ((Al Kt (g.2.2.1,g.2.1,(g.2.1.length:Int),0,g.1,())).bind fun a=>match a with |.inl k=>A3 (k.1,0) |.inr f=>A3 (f.2.1,f.1)) A6))
def a1n:sG:=⟨[.v QL,.v QL,.v QI],[.o QI,.v QI],Oy⟩
def c4k:sD:=⟨[(250,[2,.sv 34 QL,35,36,.own 8 8 QI],[Qe 0 [.own 8 8 QI],Qr [7,.own 6 6 QI]])],[(6,[Qn [.sv 0 QL,.sv 1 QL,2,.sv 23 .bool]]),(14,[Qn [.sv 0 QL,.sv 1 QL,2,.sv 31 .bool]])],[]⟩
def HO(x:Int):Option Bool:=cond (A4 (x>=(-1073741824))) (A3 (A4 (x<1073741824))) (A3 false)
def oD:sG:=⟨[.v QI],[.v .bool],HO⟩
def DZ(s:MF):Option b7n:=cond (A4 (s.2.2.1<s.2.1)) ((Az s.1 s.2.2.1).bind fun h=>(HO h).bind fun g=>cond (!g) (A3 (.inr (B6 (false,())))) (A3 (.inl (s.1,s.2.1,zD .i64 (s.2.2.1+1),())))) (A3 (.inr (B7 ())))
def Dq(x:LI):Option Bool:=(Al DZ (x,(x.length:Int),0,())).bind fun g=>match g with |.inl f=>A3 true |.inr h=>A3 h.1
def ZE:sG:=⟨[.v QL],[.v .bool],Dq⟩
def c4l:sD:=⟨[(26,[.sv 5 QL,6,7],[Qe 0 [],Qr [.sv 2 .bool]])],[],[]⟩
def Ea(s:c2T):Option (c2T ⊕ (Int×Int×Unit)):=(fun(a:LI)(b c:Int)(d:LI)(e f:Int)=>cond (A4 (f<e)) ((Az d f).bind fun h=>cond (A4 (zD .i64 ((zD .i64 ((a.length:Int)-1))-f)<0)) (A3 (.inr (b,c,()))) ((Az a (zD .i64 ((zD .i64 ((a.length:Int)-1))-f))).bind fun g=>A3 (.inl (a,b,zD .i64 (c+(zD .i64 (h*g))),d,e,zD .i64 (f+1),())))) (A3 (.inr (b,c,())))) s.1 s.2.1 s.2.2.1 s.2.2.2.1 s.2.2.2.2.1 s.2.2.2.2.2.1
def Gr(x:b7i):Option Int:=(Al Ea (x.1,x.2.2,0,x.2.1,(x.2.1.length:Int),0,())).bind fun h=>cond (A4 (h.1<0)) A6 (A3 (AR .i64 h.2.1 h.1))
def ZF:sG:=⟨[.v QL,.v QL,.v QI],[.v QI],Gr⟩
def c4m:sD:=⟨[(58,[.sv 0 QL,2,7,.sv 11 QL,12,13],[Qe 0 [2,7]])],[],[]⟩
def Jl(s:(LI×a5I)):Option ((LI×a5I) ⊕ a6I):=(fun(a:LI)(b c:Int)(d:LI)=>cond (A4 (c<b)) ((Az a c).bind fun h=>(Gr (d,s.1,s.2.1)).bind fun g=>(HO (zD .i64 (g+h))).bind fun f=>cond (!f) (A3 (.inr (B6 (6,[],())))) (cond (Bp ((A8 d)+1)) (A3 (.inl (s.1,s.2.1,a,b,zD .i64 (c+1),A9 d [zD .i64 (g+h)],()))) A6)) (A3 (.inr (B7 (d,()))))) s.2.2.1 s.2.2.2.1 s.2.2.2.2.1 s.2.2.2.2.2.1
def JY(x:(LI×b7i)):Option (LI×Int):=(show Option c2U from(Hf (x.2.2.1,x.2.2.2)).bind fun b=>cond (!b) (A3 (x.1,x.2.1,x.2.2.1,x.2.2.2,true,())) (A3 (x.1,x.2.1,x.2.2.1,x.2.2.2,(x.1.length:Int) != (x.2.2.1.length:Int),()))).bind fun h=>cond h.2.2.2.2.1 (A3 ([],1)) ((show Option c2U from(Dq h.1).bind fun c=>cond (!c) (A3 (h.1,h.2.1,h.2.2.1,h.2.2.2.1,true,())) ((Dq h.2.1).bind fun d=>A3 (h.1,h.2.1,h.2.2.1,h.2.2.2.1,!d,()))).bind fun g=>cond g.2.2.2.2.1 (A3 ([],6)) (cond (A4 (0<=(zD .i64 ((g.1.length:Int)+(g.2.1.length:Int))))&&Bp (A7 (zD .i64 ((g.1.length:Int)+(g.2.1.length:Int))))) (cond (Bp (0+(A8 g.1))) ((Al Jl (g.2.2.1,g.2.2.2.1,g.2.1,(g.2.1.length:Int),0,A9 [] g.1,())).bind fun a=>match a with |.inl k=>A3 (k.1,0) |.inr f=>A3 (f.2.1,f.1)) A6) A6))
def oE:sG:=⟨[.v QL,.v QL,.v QL,.v QI],[.o QI,.v QI],JY⟩
def c4n:sD:=⟨[(506,[.sv 2 QL,3,.sv 42 QL,43,44,.own 10 10 QI],[Qe 0 [.own 10 10 QI],Qr [9,.own 8 8 QI]])],[(6,[Qn [.sv 0 QL,.sv 1 QL,.sv 2 QL,3,.sv 24 .bool]]),(14,[Qn [.sv 0 QL,.sv 1 QL,.sv 2 QL,3,.sv 32 .bool]])],[]⟩
def Lj(x:Int):Option Bool:=cond (A4 (x>=(-1073741824))) (A3 (A4 (x<1073741824))) (A3 false)
def a3A:sG:=⟨[.v QI],[.v .bool],Lj⟩
def Fv(s:MF):Option b7n:=cond (A4 (s.2.2.1<s.2.1)) ((Az s.1 s.2.2.1).bind fun h=>(Lj h).bind fun g=>cond (!g) (A3 (.inr (B6 (false,())))) (A3 (.inl (s.1,s.2.1,zD .i64 (s.2.2.1+1),())))) (A3 (.inr (B7 ())))
def Gs(x:LI):Option Bool:=(Al Fv (x,(x.length:Int),0,())).bind fun g=>match g with |.inl f=>A3 true |.inr h=>A3 h.1
def jL:sG:=⟨[.v QL],[.v .bool],Gs⟩
def c4o:sD:=⟨[(26,[.sv 5 QL,6,7],[Qe 0 [],Qr [.sv 2 .bool]])],[],[]⟩
def Fw(s:(LI×Int×Int×b7j)):Option ((LI×Int×Int×b7j) ⊕ (Int×Unit)):=(fun(a b c:Int)(d:LI)(e:Int)=>cond (A4 (e<3)) ((Az d e).bind fun h=>cond (A4 ((zD .i64 ((zD .i64 ((zD .i64 (a-b))-1))+e))>=0)) ((Az s.1 (zD .i64 ((zD .i64 ((zD .i64 (a-b))-1))+e))).bind fun g=>A3 (.inl (s.1,a,b,zD .i64 (c+(zD .i64 (h*g))),d,zD .i64 (e+1),()))) (A3 (.inl (s.1,a,b,c,d,zD .i64 (e+1),())))) (A3 (.inr (c,())))) s.2.1 s.2.2.1 s.2.2.2.1 s.2.2.2.2.1 s.2.2.2.2.2.1
def Gu(x:(LI×Z2)):Option Int:=(Al Fw (x.1,x.2.1,x.2.2.1,0,x.2.2.2,0,())).bind fun h=>A3 (AR .i64 h.1 6)
def jM:sG:=⟨[.v QL,.v QI,.v QI,.v (.arr 3 QI)],[.v QI],Gu⟩
def c4p:sD:=⟨[(58,[.sv 0 QL,1,2,9,.sv 13 (.arr 3 QI),14],[Qe 0 [9]])],[],[]⟩
def LR(s:b5A):Option (b5A ⊕ a6I):=(fun(a b:Int)(c d:LI)=>cond (A4 (b<a)) ((Az s.2.1 b).bind fun h=>(Gu (c,b,s.1,d)).bind fun g=>(Lj (zD .i64 (h+g))).bind fun f=>cond (!f) (A3 (.inr (B6 (6,[],())))) (cond (Bp ((A8 c)+1)) (A3 (.inl (s.1,s.2.1,a,zD .i64 (b+1),A9 c [zD .i64 (h+g)],d,()))) A6)) (A3 (.inr (B7 (c,()))))) s.2.2.1 s.2.2.2.1 s.2.2.2.2.1 s.2.2.2.2.2.1
def PW(x:c2D):Option (LI×Int):=(MV (x.2.1,x.2.2)).bind fun k=>cond (!k) (A3 ([],1)) ((Gs x.1).bind fun a=>cond (!a) (A3 ([],6)) (cond (A4 (0<=(x.1.length:Int))&&Bp (A7 (x.1.length:Int))) ((Al LR (x.2.1,x.1,(x.1.length:Int),0,[],x.2.2,())).bind fun f=>match f with |.inl g=>A3 (g.1,0) |.inr h=>A3 (h.2.1,h.1)) A6))
def a3B:sG:=⟨[.v QL,.v QI,.v (.arr 3 QI)],[.o QI,.v QI],PW⟩
def c4q:sD:=⟨[(250,[1,.sv 22 QL,23,24,.own 8 8 QI,.vp 5 (.arr 3 QI)],[Qe 0 [.own 8 8 QI],Qr [7,.own 6 6 QI]])],[],[]⟩
def Jm(x:Int):Option Bool:=cond (A4 (x>=(-1073741824))) (A3 (A4 (x<1073741824))) (A3 false)
def XL:sG:=⟨[.v QI],[.v .bool],Jm⟩
def EL(s:MF):Option b7n:=cond (A4 (s.2.2.1<s.2.1)) ((Az s.1 s.2.2.1).bind fun h=>(Jm h).bind fun g=>cond (!g) (A3 (.inr (B6 (false,())))) (A3 (.inl (s.1,s.2.1,zD .i64 (s.2.2.1+1),())))) (A3 (.inr (B7 ())))
def Hy(x:LI):Option Bool:=(Al EL (x,(x.length:Int),0,())).bind fun g=>match g with |.inl f=>A3 true |.inr h=>A3 h.1
def Tp:sG:=⟨[.v QL],[.v .bool],Hy⟩
def c4s:sD:=⟨[(26,[.sv 5 QL,6,7],[Qe 0 [],Qr [.sv 2 .bool]])],[],[]⟩
def ND(x:(Int×Int×Unit)):Option c2I:=(JX x).bind fun h=>cond (!h) A6 (cond (A4 (0<=x.1)&&(A4 (x.1<=x.1)&&Bp (A7 x.1))) (cond (A4 (0<=x.1)&&(A4 (x.1<=x.1)&&Bp (A7 x.1))) (A3 ((x.2.1,B3 (A7 x.1) 0,B3 (A7 x.1) 0,()),0)) A6) A6)
def cO:sG:=⟨[.v Q4],[.b a1f,.v QI],ND⟩
def c4t:sD:=⟨[],[],[(3,[.v,.v,.v,.v,.q,.v,.v,.q,.x,.x,.x,.x])]⟩
def Hz(x:Int):Option Int:=some (GZ (EA x (-1073741824)) 1073741823)
def eW:sG:=⟨[.v QI],[.v QI],Hz⟩
def DL(s:b2v):Option (b2v ⊕ c2O):=(fun(a:Int)(b:b2q)=>cond (A4 (a<s.2.1)) (cond (A4 (0<=a)&&A4 (a<(b.2.1.length:Int))) (cond (A4 (0<=a)&&A4 (a<(b.2.2.1.length:Int))) (A3 (.inl (zD .i64 (s.1+(zD .i64 ((B4 b.2.1 (A7 a) 0)*(B4 b.2.2.1 (A7 a) 0)))),s.2.1,zD .i64 (a+1),b,()))) A6) A6) (A3 (.inr (s.1,b,())))) s.2.2.1 s.2.2.2.1
def Cy(x:b2q):Option c3h:=(Al DL (0,(x.2.1.length:Int),0,x,())).bind fun h=>(Hz (AR .i64 h.1 16)).bind fun g=>A3 (g,h.2.1)
def NE:sG:=⟨[.r false (.b a1f)],[.v QI],Cy⟩
def c4u:sD:=⟨[(58,[3,10,11,.box pinned a1f,Qp 0 pinned,.ref 9 pinned [.snd,.fst]],[Qe 0 [3,.box pinned a1f]])],[],[]⟩
def CT(s:(Int×b2v)):Option ((Int×b2v) ⊕ c2O):=(fun(a b c d:Int)(e:b2q)=>cond (A4 (d<c)) (cond (A4 (0<=d)&&A4 (d<(e.2.2.1.length:Int))) (cond (A4 (0<=d)&&A4 (d<(e.2.1.length:Int))) ((show Option (Int×Int×Int×b2v)from cond (A4 ((B4 e.2.2.1 (A7 d) 0) > 0)) (A3 (a,b,d,zD .i64 ((B4 e.2.1 (A7 d) 0)+b),c,d,e,())) (cond (A4 (B4 e.2.2.1 (A7 d) 0<0)) (A3 (a,b,d,zD .i64 ((B4 e.2.1 (A7 d) 0)-b),c,d,e,())) (A3 (a,b,d,B4 e.2.1 (A7 d) 0,c,d,e,())))).bind fun h=>cond (A4 (0<=h.2.2.1)&&A4 (h.2.2.1<(h.2.2.2.2.2.2.1.2.1.length:Int))) (A3 (.inl (h.1,h.2.1,h.2.2.2.2.1,zD .i64 (h.2.2.2.2.2.1+1),(h.2.2.2.2.2.2.1.1,C2 h.2.2.2.2.2.2.1.2.1 (A7 h.2.2.1) (GZ (EA h.2.2.2.1 (-1048576)) 1048576),h.2.2.2.2.2.2.1.2.2),()))) A6) A6) A6) (A3 (.inr (a,e,())))) s.1 s.2.1 s.2.2.1 s.2.2.2.1 s.2.2.2.2.1
def Eb(x:c2I):Option b2q:=(Hz x.2).bind fun f=>(show Option c2W from(Cy x.1).bind fun g=>cond (A4 (f > g.1)) (cond (A4 (g.2.1<0)) A6 (A3 (f,AT .i64 1 g.2.1,g.2,()))) (cond (A4 (f<g.1)) (cond (A4 (g.2.1<0)) A6 (A3 (f,zD .i64 (0-(AT .i64 1 g.2.1)),g.2,()))) (A3 (f,0,g.2,())))).bind fun k=>(Al CT (k.1,k.2.1,(k.2.2.1.2.2.1.length:Int),0,k.2.2.1,())).bind fun h=>cond (A4 (1<=(h.2.1.2.2.1.length:Int))) (cond (A4 (0<(A8 (Xw h.2.1.2.2.1 1 ((A8 h.2.1.2.2.1)-1) h.2.1.2.2.1):Int))) (A3 (h.2.1.1,h.2.1.2.1,C2 (Xw h.2.1.2.2.1 1 ((A8 h.2.1.2.2.1)-1) h.2.1.2.2.1) 0 h.1,h.2.1.2.2.2)) A6) A6
def Oo:sG:=⟨[.r false (.b a1f),.v QI],[],Eb⟩
def c4v:sD:=⟨[(122,[1,4,36,37,.box pinned a1f,Qp 0 pinned,.ref 35 pinned [.snd,.snd,.fst]],[Qe 1 [1,.box pinned a1f,Qp 0 pinned]])],[(7,[Qn [1,4,.box pinned a1f,Qp 0 pinned]]),(15667,[Qn [1,4,6,8,36,37,.box pinned a1f,Qp 0 pinned,.ref 35 pinned [.snd,.snd,.fst]]])],[(17,[.p,.p,.q,.q,.q,.p,.p,.q,.q,.x])]⟩
def HA(s:(Int×Int×LI×b8n)):Option ((Int×Int×LI×b8n) ⊕ (b5z ⊕ b5z)):=(fun(a:Int)(b:LI)(c:Int)(d:LI)=>cond (A4 (a<s.1)) (cond (A4 (0<=a)&&A4 (a<(d.length:Int))) ((Cy s.2.2.2.2.2.1).bind fun h=>(Jm (zD .i64 (h.1+(B4 d (A7 a) 0)))).bind fun g=>cond (!g) (A3 (.inr (B6 ([],6,d,())))) ((Eb (h.2,zD .i64 (h.1+(B4 d (A7 a) 0)))).bind fun f=>cond (A4 (0<=a)&&A4 (a<(d.length:Int))) (A3 (.inl (s.1,zD .i64 (a+1),b,c,C2 d (A7 a) (zD .i64 (h.1+(B4 d (A7 a) 0))),f,()))) A6)) A6) (A3 (.inr (B7 (b,c,d,()))))) s.2.1 s.2.2.1 s.2.2.2.1 s.2.2.2.2.1
def Ku(k:Int)(v:(Int×Int×Unit))(s:(Z4×b5z)):Option ((Z4×b5z) ⊕ (Ex×Z4×b5z)):=(ND v).bind fun f=>cond (f.2 != 0) (A3 (.inr (.ret,s.1,[],f.2,s.2.2.2.1,()))) ((Al HA ((s.2.2.2.1.length:Int),0,s.2.1,s.2.2.1,s.2.2.2.1,f.1,())).bind fun a=>match a with |.inl h=>A3 (.inl (s.1,h.1,h.2.1,h.2.2.1,())) |.inr g=>A3 (.inr (.ret,s.1,g.1,g.2.1,g.2.2.1,())))
def Oz(x:(LI×Z4)):Option (LI×Int):=(Lh x.2).bind fun f=>cond (!f) (A3 ([],1)) ((Hy x.1).bind fun k=>cond (!k) (A3 ([],6)) ((Bi x.1).bind fun a=>cond (Bp (A8 x.2)) ((Pv Ku x.2 (A8 x.2) (x.2,[],0,a,())).bind fun g=>match g with |.inl h=>A3 (h.2.2.2.1,0) |.inr (.normal,a14)=>A3 (a14.2.2.2.1,0) |.inr (.exit e15,a14)=>(cond (e15==0) (A3 (a14.2.2.2.1,0)) A6) |.inr (.ret,a14)=>A3 (a14.2.1,a14.2.2.1)) A6))
def OA:sG:=⟨[.v QL,.v (.list false Q4)],[.v QL,.v QI],Oz⟩
def c4w:sD:=⟨[(8046,[35,36,.box 1001004 QL,.box 1001005 QI,.box 1001006 (.list true QI),.box 1028 a1f,Qp 4 1001004,Qp 5 1001005,Qp 6 1001006,Qp 9 1028,.ref 34 1001006 []],[Qe 2 [.box 1001004 QL,.box 1001005 QI,.box 1001006 (.list true QI),Qp 4 1001004,Qp 5 1001005,Qp 6 1001006],Qr [.box 1001004 QL,.box 1001005 QI,.box 1001006 (.list true QI),Qp 4 1001004,Qp 5 1001005,Qp 6 1001006]])],[],[]⟩
def b7p:Cx:=ZC [(77,Ci),(188,cN),(211,Tp),(213,cO),(214,NE),(215,XL),(216,Oo)] [(6,.list true QI)] 15875 72057594037927936
def b9U:vE:=⟨22,Q4,212,233,[4,5,6],[.sv 22 (.list false Q4),.box 1001004 QL,.box 1001005 QI,.box 1001006 (.list true QI),.ptr 4 1001004 [],.ptr 5 1001005 [],.ptr 6 1001006 []]⟩
theorem b9V(x):a8z b7p c4w b9U Tryz.f169 OA.ps OA.rs x=OA.F x:=by kernel_rfl
def HP(x:Int):Option Bool:=cond (A4 ((-1073741824)<=x)) (A3 (A4 (x<1073741824))) (A3 false)
def oF:sG:=⟨[.v QI],[.v .bool],HP⟩
def LS(s:a5I):Option (a5I ⊕ a6I):=(fun(a:Int)(b:LI)(c d:Int)(e:LI)=>cond (A4 (d<c)) ((Az b d).bind fun g=>(show Option (Int×Int×LI×c2G)from(HP g).bind fun f=>cond (!f) (A3 (a,g,b,c,d,true,e,())) (cond (A4 (a<0)) A6 ((HP (AT .i64 g a)).bind fun k=>A3 (a,g,b,c,d,!k,e,())))).bind fun h=>cond h.2.2.2.2.2.1 (A3 (.inr (B6 (6,[],())))) (cond (A4 (h.1<0)) A6 (cond (Bp ((A8 h.2.2.2.2.2.2.1)+1)) (A3 (.inl (h.1,h.2.2.1,h.2.2.2.1,zD .i64 (h.2.2.2.2.1+1),A9 h.2.2.2.2.2.2.1 [AT .i64 h.2.1 h.1],()))) A6))) (A3 (.inr (B7 (e,()))))) s.1 s.2.1 s.2.2.1 s.2.2.2.1 s.2.2.2.2.1
def NF(x:(LI×Int)):Option (LI×Int):=(show Option b5x from cond (A4 (x.2<0)) (A3 (x.1,x.2,true,())) (A3 (x.1,x.2,A4 (x.2 > 30),()))).bind fun h=>cond h.2.2.1 (A3 ([],1)) ((Al LS (h.2.1,h.1,(h.1.length:Int),0,[],())).bind fun k=>match k with |.inl f=>A3 (f.1,0) |.inr g=>A3 (g.2.1,g.1))
def a3C:sG:=⟨[.v QL,.v QI],[.o QI,.v QI],NF⟩
def c4x:sD:=⟨[(122,[1,.sv 15 QL,16,17,.own 6 6 QI],[Qe 0 [.own 6 6 QI],Qr [5,.own 4 4 QI]])],[(6,[Qn [.sv 0 QL,1,.sv 14 .bool]]),(15666,[Qn [1,8,.sv 15 QL,16,17,.sv 30 .bool,.own 6 6 QI]])],[]⟩
def JZ(s:b5K):Option (b5K ⊕ (LI×Unit)):=cond (A4 (s.2.1<s.1)) ((Az s.2.2.2.1.2.2.2.2.2.2.2.2.1 0).bind fun h=>cond (Bp ((A8 s.2.2.1)+1)) (A3 (.inl (s.1,zD .i64 (s.2.1+1),A9 s.2.2.1 [h],s.2.2.2.1,()))) A6) (A3 (.inr (s.2.2.1,())))
def Sx(x:XJ):Option (LI×Int):=(show Option ((LI×Int×a1e) ⊕ Z5)from cond (x.1.1==0) ((Al JZ (x.2,0,[],x.1,())).bind fun e=>A3 (B6 (0,e.1,()))) (cond (x.1.1==1) (A3 (B7 (x.1.2.2.2.2.2.2.2.2.1,0,x.1,()))) (cond (x.1.1==2) ((Oy (x.1.2.2.2.2.2.2.2.2.1,x.1.2.2.2.2.2.2.2.2.2.2.1,x.1.2.2.1)).bind fun a=>A3 (B7 (a.1,a.2,x.1,()))) (cond (x.1.1==3) ((JY (x.1.2.2.2.2.2.2.2.2.1,x.1.2.2.2.2.2.2.2.2.2.2.1,x.1.2.2.2.2.2.1,x.1.2.2.2.1)).bind fun b=>A3 (B7 (b.1,b.2,x.1,()))) (cond (x.1.1==4) ((JY (x.1.2.2.2.2.2.2.2.2.1,x.1.2.2.2.2.2.2.2.2.2.2.1,x.1.2.2.2.2.2.1,x.1.2.2.2.1)).bind fun k=>cond (k.2==0) ((PW (k.1,x.1.2.2.2.2.1,x.1.2.2.2.2.2.2.1)).bind fun c=>A3 (B7 (c.1,c.2,x.1,()))) (A3 (B7 (k.1,k.2,x.1,())))) (cond (x.1.1==5) ((Oz (x.1.2.2.2.2.2.2.2.2.2.2.1,x.1.2.2.2.2.2.2.2.1)).bind fun d=>A3 (B7 (d.1,d.2,x.1,()))) (A3 (B7 ([],0,x.1,()))))))))).bind fun i=>match i with |.inl f=>(cond (f.2.1 != 0) (A3 ([],f.2.1)) ((NF (f.1,f.2.2.1.2.1)).bind fun g=>A3 (g.1,g.2))) |.inr h=>A3 (h.2.1,h.1)
def a6L:sG:=⟨[.v DY,.v QI],[.o QI,.v QI],Sx⟩
def c4y:sD:=⟨[(3922,[12,13,.own 6 6 QI,.vp 2 DY],[Qe 1 [.own 6 6 QI]])],[(15,[Qn [.sv 6 QL,7,.vp 2 DY],Qr [5,.own 4 6 QI]])],[]⟩
def Rw(x:XJ):Option (LI×Int):=(Ox (x.1,x.2)).bind fun g=>cond (!g) (A3 ([],1)) ((Sx (x.1,x.2)).bind fun h=>cond (h.2 != 0) (A3 ([],1)) (A3 (h.1,0)))
def b0c:sG:=⟨[.v DY,.v QI],[.o QI,.v QI],Rw⟩
def NG(x:Int):Option Bool:=cond (A4 ((-1073741824)<=x)) (A3 (A4 (x<1073741824))) (A3 false)
def a3D:sG:=⟨[.v QI],[.v .bool],NG⟩
def Gv(s:((List LI)×(List LI)×b4P)):Option (((List LI)×(List LI)×b4P) ⊕ (((List LI)×c2E) ⊕ (Bool×Unit))):=(fun(a b:Int)(c:LI)(d e:Int)=>cond (A4 (e<d)) ((Az c e).bind fun h=>(NG h).bind fun g=>cond (!g) (A3 (.inr (B6 (false,())))) (A3 (.inl (s.1,s.2.1,a,b,c,d,zD .i64 (e+1),())))) (A3 (.inr (B7 (s.1,s.2.1,a,b,()))))) s.2.2.1 s.2.2.2.1 s.2.2.2.2.1 s.2.2.2.2.2.1 s.2.2.2.2.2.2.1
def Gw(s:((List LI)×c2E)):Option (((List LI)×c2E) ⊕ Z0):=(fun(a b:Int)=>cond (A4 (b<a)) ((Az s.2.1 b).bind fun g=>(Az s.1 0).bind fun c=>cond ((g.length:Int) != (c.length:Int)) (A3 (.inr (B6 (false,())))) ((Al Gv (s.1,s.2.1,a,b,g,(g.length:Int),0,())).bind fun k=>match k with |.inl h=>A3 (.inl (h.1,h.2.1,h.2.2.1,zD .i64 (h.2.2.2.1+1),())) |.inr f=>A3 (.inr (B6 (f.1,()))))) (A3 (.inr (B7 ())))) s.2.2.1 s.2.2.2.1
def Ll(x:(List LI)):Option Bool:=(show Option ((List LI)×Bool×Unit)from cond (A4 ((x.length:Int)<1)) (A3 (x,true,())) (cond (A4 ((x.length:Int) > 8)) (A3 (x,true,())) ((Az x 0).bind fun a=>A3 (x,A4 ((a.length:Int) > 4096),())))).bind fun h=>cond h.2.1 (A3 false) ((Al Gw (h.1,h.1,(h.1.length:Int),0,())).bind fun f=>match f with |.inl k=>A3 true |.inr g=>A3 g.1)
def cP:sG:=⟨[.v (.list false QL)],[.v .bool],Ll⟩
def c4z:sD:=⟨[(58,[.sv 0 (.list false QL),.sv 22 (.list false QL),23,24],[Qe 0 [],Qr [.sv 2 .bool]]),(29902,[.sv 0 (.list false QL),.sv 22 (.list false QL),23,24,.sv 35 QL,36,37],[Qe 2 [.sv 0 (.list false QL),.sv 22 (.list false QL),23,24],Qr [.sv 2 .bool]])],[(6,[Qn [.sv 0 (.list false QL),.sv 21 .bool]])],[]⟩
def Jn(s:((List LI)×b9E)):Option (((List LI)×b9E) ⊕ Z1):=cond (A4 (s.2.2.1<s.2.1)) ((Az s.1 s.2.2.1).bind fun g=>(Bi g).bind fun h=>cond (Bp ((A8 s.2.2.2.1)+(A8 (C2 ([[]]:List LI) 0 h)))) (A3 (.inl (s.1,s.2.1,zD .i64 (s.2.2.1+1),A9 s.2.2.2.1 (C2 ([[]]:List LI) 0 h),()))) A6) (A3 (.inr (s.2.2.2.1,())))
def Ka(x:(List LI)):Option (List LI):=(Al Jn (x,(x.length:Int),0,([]:(List LI)),())).bind fun h=>A3 h.1
def VW:sG:=⟨[.v (.list false QL)],[.o (.list true QI)],Ka⟩
def c4A:sD:=⟨[(58,[.sv 6 (.list false QL),7,8,.own 3 3 (.list true QI)],[Qe 0 [.own 3 3 (.list true QI)]])],[],[]⟩
def Ff(s:(Int×Int×Int×(List LI)×Z7×Int×Unit)):Option ((Int×Int×Int×(List LI)×Z7×Int×Unit) ⊕ (Z1 ⊕ (Bool×Z1))):=(fun(a:Int)(b:List LI)(c:Z7)(d:Int)=>cond (A4 (a<s.2.1)) (cond (A4 (0<=a)&&A4 (a<((A8 (B4 b (A7 d) []):Nat):Int))) (cond (A4 (0<=c.2.1)&&A4 (c.2.1<(b.length:Int))) (cond (A4 (0<=a)&&A4 (a<((A8 (B4 b (A7 c.2.1) []):Nat):Int))) ((NG (zD .i64 ((B4 (B4 b (A7 c.2.1) []) (A7 a) 0)+(zD .i64 (s.1*(AR .i64 (zD .i64 (c.2.2.1*(B4 (B4 b (A7 d) []) (A7 a) 0))) 8)))))).bind fun h=>cond (!h) (A3 (.inr (B6 (false,b,())))) (cond (A4 (0<=c.2.1)&&A4 (c.2.1<(b.length:Int))) (cond (A4 (0<=a)&&A4 (a<((A8 (B4 b (A7 c.2.1) []):Nat):Int))) (A3 (.inl (s.1,s.2.1,zD .i64 (a+1),C2 b (A7 c.2.1) (C2 (B4 b (A7 c.2.1) []) (A7 a) (zD .i64 ((B4 (B4 b (A7 c.2.1) []) (A7 a) 0)+(zD .i64 (s.1*(AR .i64 (zD .i64 (c.2.2.1*(B4 (B4 b (A7 d) []) (A7 a) 0))) 8)))))),c,((A7 d:Nat):Int),()))) A6) A6)) A6) A6) A6) (A3 (.inr (B7 (b,()))))) s.2.2.1 s.2.2.2.1 s.2.2.2.2.1 s.2.2.2.2.2.1
def LU(x:((List LI)×Z7×Int)):Option (Bool×(List LI)):=cond (A4 (0<=x.2.1.1)&&A4 (x.2.1.1<(x.1.length:Int))) ((Al Ff (x.2.2,((A8 (B4 x.1 (A7 x.2.1.1) []):Nat):Int),0,x.1,x.2.1,((A7 x.2.1.1:Nat):Int),())).bind fun f=>match f with |.inl g=>A3 (true,g.1) |.inr h=>A3 (h.1,h.2.1)) A6
def XM:sG:=⟨[.r false (.o (.list true QI)),.v HX,.v QI],[.v .bool],LU⟩
def c4B:sD:=⟨[(26,[2,15,16,.own 0 pinned (.list true QI),.vp 4 HX,.rfi 14 pinned],[Qe 0 [.own 0 pinned (.list true QI)],Qr [.sv 6 .bool,.own 0 pinned (.list true QI)]])],[],[(4,[.q,.v,.v,.q,.q,.v,.q,.q,.v,.v,.v,.v,.v,.v,.v,.x,.x])]⟩
def IJ(k:Int)(v:Z7)(s:(Zz×(List LI)×TI)):Option ((Zz×(List LI)×TI) ⊕ (Ex×Zz×(List LI)×TI)):=(LU (s.2.2.2.1,v,(-1))).bind fun h=>cond (!h.1) (A3 (.inr (.ret,s.1,([]:(List LI)),6,h.2,()))) (A3 (.inl (s.1,s.2.1,s.2.2.1,h.2,())))
def PX(x:((List LI)×Zz)):Option ((List LI)×Int):=(show Option ((List LI)×Zz×Bool×(List LI)×Int×Unit)from(Ll x.1).bind fun k=>cond (!k) (A3 (x.1,x.2,true,([]:(List LI)),0,())) ((MU (x.2,(x.1.length:Int))).bind fun a=>A3 (x.1,x.2,!a,([]:(List LI)),0,()))).bind fun h=>cond h.2.2.1 (A3 (([]:(List LI)),1)) ((Ka h.1).bind fun b=>cond (Bp (A8 h.2.1)) ((Pv IJ h.2.1 (A8 h.2.1) (h.2.1,h.2.2.2.1,h.2.2.2.2.1,b,())).bind fun f=>match f with |.inl g=>A3 (g.2.2.2.1,0) |.inr (.normal,a8)=>A3 (a8.2.2.2.1,0) |.inr (.exit e9,a8)=>(cond (e9==0) (A3 (a8.2.2.2.1,0)) A6) |.inr (.ret,a8)=>A3 (a8.2.1,a8.2.2.1)) A6)
def PY:sG:=⟨[.v (.list false QL),.v (.list false HX)],[.v (.list false QL),.v QI],PX⟩
def c8n:sD:=⟨[],[(6,[Qn [.sv 0 (.list false QL),.sv 1 (.list false HX),.sv 18 .bool,.box 4 (.list false QL),.box 5 QI,Qp 4 4,Qp 5 5]])],[]⟩
def b9W:Cx:=ZC [(109,cP),(110,jK),(111,VW),(112,XM)] [(6,.list true (.list true QI))] 3 536870912
def c7e:vE:=⟨21,HX,122,171,[4,5,6],[.sv 21 (.list false HX),.box 1001004 (.list false QL),.box 1001005 QI,.box 1001006 (.list true (.list true QI)),.ptr 4 1001004 [],.ptr 5 1001005 [],.ptr 6 1001006 []]⟩
theorem c4C(x):a8z b9W c8n c7e Tryz.f89 PY.ps PY.rs x=PY.F x:=by kernel_rfl
def Gx(s:(ZA×Int×Int×(List LI)×b2y)):Option ((ZA×Int×Int×(List LI)×b2y) ⊕ (((List LI)×b2y) ⊕ c3i)):=(fun(a:Int)(b:List LI)(c:TI)(d:HW)=>cond (A4 (a<s.2.1)) ((Az s.1 a).bind fun g=>(Rw (g,d.2.1)).bind fun h=>cond (h.2 != 0) (A3 (.inr (B6 (1,(0,([]:(List LI)),()),())))) (cond (Bp ((A8 b)+1)) (A3 (.inl (s.1,s.2.1,zD .i64 (a+1),A9 b ([h.1]:List LI),c,d,()))) A6)) (A3 (.inr (B7 (b,c,d,()))))) s.2.2.1 s.2.2.2.1 s.2.2.2.2.1 s.2.2.2.2.2.1
def FN(x:HW):Option c2F:=(show Option (Bool×b2y)from(JV x).bind fun b=>cond (!b) (A3 (true,(0,([]:(List LI)),()),x,())) (A3 ((x.2.2.2.2.1.length:Int) != x.2.2.1.2.1,(0,([]:(List LI)),()),x,()))).bind fun h=>cond h.1 (A3 ((0,([]:(List LI)),()),1)) (cond (A4 (0<=(h.2.2.1.2.2.2.2.1.length:Int))&&Bp (A7 (h.2.2.1.2.2.2.2.1.length:Int))) ((Al Gx (h.2.2.1.2.2.2.2.1,(h.2.2.1.2.2.2.2.1.length:Int),0,([]:(List LI)),h.2.1,h.2.2.1,())).bind fun a=>match a with |.inl g=>((PX (g.1,g.2.2.1.2.2.2.1)).bind fun f=>cond (f.2 != 0) (A3 ((0,([]:(List LI)),()),1)) ((Fu (g.2.2.1.2.2.1.2.2.1,f.1,())).bind fun c=>cond (!c) (A3 ((0,([]:(List LI)),()),1)) (A3 ((g.2.2.1.2.2.1.2.2.1,f.1,()),0)))) |.inr k=>A3 (k.2.1,k.1)) A6)
def oG:sG:=⟨[.v QZ],[.v Pw,.v QI],FN⟩
def c8o:sD:=⟨[(122,[.sv 30 (.list false DY),31,32,.own 4 4 QL,.box 2 Pw,.vp 1 QZ,Qp 2 2],[Qe 0 [.own 4 4 QL,.box 2 Pw,.vp 1 QZ,Qp 2 2],Qr [3,.box 2 Pw,Qp 2 2]])],[(6,[Qn [.sv 23 .bool,.box 2 Pw,.vp 1 QZ,Qp 2 2]])],[]⟩
def Fx(x:HW):Option Bool:=(FN x).bind fun h=>A3 (h.2==0)
def a3E:sG:=⟨[.v QZ],[.v .bool],Fx⟩
def LV(s:b9q):Option (b9q ⊕ Zb):=(fun(a:Int)(b:LI)(c d e:Int)=>cond (A4 (e<8)) (cond (AR .u16 a 15==1) (A3 (.inl (bits .u16 .xor (AT .u16 a 1) 32773,b,c,d,zD .i64 (e+1),()))) (A3 (.inl (AT .u16 a 1,b,c,d,zD .i64 (e+1),())))) (A3 (.inr (a,b,c,d,())))) s.1 s.2.1 s.2.2.1 s.2.2.2.1 s.2.2.2.2.1
def Ik(s:Zb):Option b8k:=(fun(a b:Int)=>cond (A4 (b<a)) ((Az s.2.1 b).bind fun g=>(Al LV (bits .u16 .xor s.1 (AT .u16 (zD .u16 g) 8),s.2.1,a,b,0,())).bind fun h=>A3 (.inl (h.1,h.2.1,h.2.2.1,zD .i64 (h.2.2.2.1+1),()))) (A3 (.inr (s.1,())))) s.2.2.1 s.2.2.2.1
def Gy(x:LI):Option Int:=(Al Ik (0,x,(x.length:Int),0,())).bind fun h=>A3 h.1
def jN:sG:=⟨[.v QB],[.v (.int .u16)],Gy⟩
def c8p:sD:=⟨[(58,[.sv 3 (.int .u16),.sv 7 QB,8,9],[Qe 0 [.sv 3 (.int .u16)]]),(29902,[.sv 3 (.int .u16),.sv 7 QB,8,9,18],[Qe 2 [.sv 3 (.int .u16),.sv 7 QB,8,9]])],[],[]⟩
def Oa(s:b9q):Option (b9q ⊕ Zb):=(fun(a:Int)(b:LI)(c d e:Int)=>cond (A4 (e<8)) (cond (AR .u8 a 7==1) (A3 (.inl (bits .u8 .xor (AT .u8 a 1) 7,b,c,d,zD .i64 (e+1),()))) (A3 (.inl (AT .u8 a 1,b,c,d,zD .i64 (e+1),())))) (A3 (.inr (a,b,c,d,())))) s.1 s.2.1 s.2.2.1 s.2.2.2.1 s.2.2.2.2.1
def Kv(s:Zb):Option b8k:=(fun(a b:Int)=>cond (A4 (b<a)) ((Az s.2.1 b).bind fun g=>(Al Oa (bits .u8 .xor s.1 g,s.2.1,a,b,0,())).bind fun h=>A3 (.inl (h.1,h.2.1,h.2.2.1,zD .i64 (h.2.2.2.1+1),()))) (A3 (.inr (s.1,())))) s.2.2.1 s.2.2.2.1
def LW(x:LI):Option Int:=(Al Kv (0,x,(x.length:Int),0,())).bind fun h=>A3 h.1
def a1o:sG:=⟨[.v QB],[.v QV],LW⟩
def c8q:sD:=⟨[(58,[.sv 3 QV,.sv 7 QB,8,9],[Qe 0 [.sv 3 QV]]),(29902,[.sv 3 QV,.sv 7 QB,8,9,16],[Qe 2 [.sv 3 QV,.sv 7 QB,8,9]])],[],[]⟩
def Qa(x:Int):Option Int:=cond (B8 x 2==0) (A3 (zD .i64 (zD .u64 (C0 x 2)))) (A3 (zD .i64 ((zD .i64 (0-(zD .i64 (zD .u64 (C0 x 2)))))-1)))
def a3F:sG:=⟨[.v QU],[.v QI],Qa⟩
def Hh(s:(LI×Int×Int×a9Z)):Option ((LI×Int×Int×a9Z) ⊕ (LI×a9Z)):=(fun(a:Int)(b:HW)(c:MF)=>cond (A4 (a<s.2.1)) ((AI (c,7)).bind fun h=>(AI (h.2,7)).bind fun g=>(AI (g.2,2048)).bind fun f=>(Qa f.1).bind fun k=>cond (Bp ((A8 b.2.2.2.1)+1)) (A3 (.inl (s.1,s.2.1,zD .u64 (a+1),(b.1,b.2.1,b.2.2.1,A9 b.2.2.2.1 ([(zD .i64 h.1,zD .i64 g.1,k,())]:List Z7),b.2.2.2.2),f.2,()))) A6) (A3 (.inr (s.1,b,c,())))) s.2.2.1 s.2.2.2.1 s.2.2.2.2.1
def Kw(x:LI):Option (HW×Int×Int×Int):=cond (A4 ((x.length:Int)<2)) (A3 ((0,0,(0,0,0,()),[],[],()),0,0,3)) ((show Option (LI×Bool×WI)from(Az x 0).bind fun p=>cond (p != 245) (A3 (x,true,(0,0,(0,0,0,()),[],[],()),())) ((Az x 1).bind fun q=>A3 (x,q != 75,(0,0,(0,0,0,()),[],[],()),()))).bind fun k=>cond k.2.1 (A3 ((0,0,(0,0,0,()),[],[],()),0,0,2)) (cond (A4 (2<=(k.1.length:Int))) ((IH (C1 2 (B9 (A8 k.1) k.1))).bind fun r=>(AI (r,4194304)).bind fun j=>(AI (j.2,4096)).bind fun l=>(AI (l.2,1048576)).bind fun m=>(AI (m.2,8)).bind fun n=>(AI (n.2,24)).bind fun o=>(AI (o.2,16)).bind fun a=>(Al Hh (k.1,a.1,0,(zD .i64 j.1,zD .i64 l.1,(zD .i64 m.1,zD .i64 n.1,zD .i64 o.1,k.2.2.1.2.2.1.2.2.2),k.2.2.1.2.2.2),a.2,())).bind fun h=>(AI (h.2.2.1,1048576)).bind fun b=>(EJ b.2).bind fun f=>cond (f.1 != 0) (A3 ((0,0,(0,0,0,()),[],[],()),0,0,f.1)) ((Ck f.2).bind fun c=>cond (A4 (c.1<1)) (A3 ((0,0,(0,0,0,()),[],[],()),0,0,3)) ((Fs c.2).bind fun g=>cond (A4 (0<=(zD .i64 (2+g.1)))&&A4 ((zD .i64 (2+g.1))<=(h.1.length:Int))) ((LW (B9 (A7 (zD .i64 (2+g.1))) h.1)).bind fun e=>(Az h.1 (zD .i64 (2+g.1))).bind fun d=>cond (e != d) (A3 ((0,0,(0,0,0,()),[],[],()),0,0,5)) ((JV h.2.1).bind fun i=>cond (!i) (A3 ((0,0,(0,0,0,()),[],[],()),0,0,2)) (A3 (h.2.1,zD .i64 ((zD .i64 (2+g.1))+1),zD .i64 b.1,0)))) A6))) A6))
def eX:sG:=⟨[.v QB],[.v (.pair QI (.pair QI (.pair HX (.pair (.list false HX) c3S)))),.v QI,.v QI,.v QI],Kw⟩
def c4D:sD:=⟨[(8186,[.sv 0 QB,.sv 54 QU,.sv 55 QU,.box 2 c3U,.box 1029 Lf,Qp 2 2,Qp 6 1029],[Qe 0 [.sv 0 QB,.box 2 c3U,.box 1029 Lf,Qp 2 2,Qp 6 1029]])],[(14,[Qn [.sv 0 QB,.sv 25 .bool,.box 2 c3U,Qp 2 2]])],[(25,[.v,.v,.v,.v,.v,.v,.v,.v,.x])]⟩
def Sy(x:LI):Option MF:=cond (Bp (A8 x)) (A3 (x,0,0,())) A6
def a6M:sG:=⟨[.v QB],[.b Lf],Sy⟩
def Pb(x:XJ):Option Bool:=(Rw (x.1,x.2)).bind fun h=>A3 (h.2==0)
def b0d:sG:=⟨[.v DY,.v QI],[.v .bool],Pb⟩
def DM(s:b4P):Option (b4P ⊕ Zb):=(fun(a b:Int)(c:LI)(d e:Int)=>cond (b != 0) (cond (A4 (a<32)) ((CM (b,a)).bind fun h=>cond (!h) (A3 (.inl (zD .i64 (a+1),b,c,d,e,()))) (A3 (.inr (a,c,d,e,())))) (A3 (.inr (a,c,d,e,())))) (A3 (.inr (a,c,d,e,())))) s.1 s.2.1 s.2.2.1 s.2.2.2.1 s.2.2.2.2.1
def Il(s:Zb):Option b8k:=(fun(a b:Int)=>cond (A4 (b<a)) ((Az s.2.1 b).bind fun g=>(Al DM (s.1,g,s.2.1,a,b,())).bind fun h=>A3 (.inl (h.1,h.2.1,h.2.2.1,zD .i64 (h.2.2.2.1+1),()))) (A3 (.inr (s.1,())))) s.2.2.1 s.2.2.2.1
def BO(x:LI):Option Int:=(Al Il (0,x,(x.length:Int),0,())).bind fun h=>A3 h.1
def jO:sG:=⟨[.v QL],[.v QI],BO⟩
def c8r:sD:=⟨[(58,[3,.sv 6 QL,7,8],[Qe 0 [3]]),(7474,[3,5,.sv 6 QL,7,8],[Qe 2 [3,.sv 6 QL,7,8]])],[],[]⟩
def AB(x:MF):Option Zb:=some (x.2.2.1,x)
def XN:sG:=⟨[.r false (.b Lf)],[.v QI],AB⟩
def Dr(x:MF):Option Zb:=some (zD .i64 ((zD .i64 (8*(x.1.length:Int)))-x.2.1),x)
def WM:sG:=⟨[.r false (.b Lf)],[.v QI],Dr⟩
def c4E:sD:=⟨[],[],[(1,[.p,.p,.q,.q,.v,.v,.p,.p,.q,.q,.x,.x])]⟩
def Ca(x:b4M):Option Zb:=(Az x.1.1 (zD .i64 (C0 x.2 8))).bind fun h=>cond (A4 (zD .i64 (7-(B8 x.2 8))<0)) A6 (A3 (bits .u8 .and (AR .u8 h (zD .i64 (7-(B8 x.2 8)))) 1,x.1))
def WN:sG:=⟨[.r false (.b Lf),.v QI],[.v QV],Ca⟩
def Fy(s:b2t):Option (b2t ⊕ b9J):=cond (A4 (s.2.2.1<s.2.1)) ((Ca (s.2.2.2.1,s.2.2.2.1.2.1)).bind fun h=>A3 (.inl (bits .u64 .or (AT .u64 s.1 1) (zD .u64 h.1),s.2.1,zD .i64 (s.2.2.1+1),(h.2.1,zD .i64 (h.2.2.1+1),h.2.2.2),()))) (A3 (.inr (s.1,s.2.2.2.1,())))
def Ao(x:b4M):Option Zb:=cond (x.1.2.2.1 != 0) (A3 (0,x.1)) ((show Option c2Q from cond (A4 (x.2<0)) (A3 (x.2,true,x.1,())) (A3 (x.2,A4 (x.2 > 64),x.1,()))).bind fun h=>cond h.2.1 (A3 (0,h.2.2.1.1,h.2.2.1.2.1,1,h.2.2.1.2.2.2)) ((Dr h.2.2.1).bind fun g=>cond (A4 (h.1 > g.1)) (A3 (0,g.2.1,g.2.2.1,3,g.2.2.2.2)) ((Al Fy (0,h.1,0,g.2,())).bind fun f=>A3 (f.1,f.2.1))))
def XO:sG:=⟨[.r false (.b Lf),.v QI],[.v QU],Ao⟩
def c4F:sD:=⟨[(506,[.sv 5 QU,27,28,.box pinned Lf,Qp 0 pinned],[Qe 0 [.sv 5 QU,.box pinned Lf]])],[(14,[Qn [1,.sv 16 .bool,.box pinned Lf,Qp 0 pinned]])],[]⟩
def Bg(x:b4M):Option Zb:=(Ao (x.1,x.2)).bind fun g=>(show Option (Int×c2Q)from cond (g.2.2.2.1 != 0) (A3 (x.2,g.1,true,g.2,())) (A3 (x.2,g.1,x.2==0,g.2,()))).bind fun h=>cond h.2.2.1 (A3 (0,h.2.2.2.1)) (cond (A4 (zD .i64 (64-h.1)<0)) A6 (cond (A4 (zD .i64 (64-h.1)<0)) A6 (A3 (AR .i64 (zD .i64 (AT .u64 h.2.1 (zD .i64 (64-h.1)))) (zD .i64 (64-h.1)),h.2.2.2.1))))
def Ur:sG:=⟨[.r false (.b Lf),.v QI],[.v QI],Bg⟩
def c4G:sD:=⟨[],[(14,[Qn [1,.sv 5 QU,.sv 17 .bool,.box pinned Lf]])],[]⟩
def Im(s:(Int×a9Y)):Option ((Int×a9Y) ⊕ (Int×b5L)):=(fun(a:Int)(b:MF)(c:DU)=>cond (A4 (a<s.2.1)) ((Bg (b,s.1)).bind fun h=>cond (Bp ((A8 c.2.2.2.2.2.1)+1)) (A3 (.inl (s.1,s.2.1,zD .i64 (a+1),h.2,(c.1,c.2.1,c.2.2.1,c.2.2.2.1,c.2.2.2.2.1,A9 c.2.2.2.2.2.1 [h.1],c.2.2.2.2.2.2),()))) A6) (A3 (.inr (s.1,c,b,())))) s.2.2.1 s.2.2.2.1 s.2.2.2.2.1
def LX(x:(MF×DU)):Option (Bool×MF×DU):=(Ao (x.1,5)).bind fun g=>(Ao (g.2,4)).bind fun f=>(Ao (f.2,5)).bind fun k=>(Al Im (zD .i64 k.1,zD .i64 ((zD .i64 g.1)+1),0,k.2,(x.2.1,x.2.2.1,x.2.2.2.1,zD .i64 f.1,x.2.2.2.2.2),())).bind fun h=>(BO h.2.1.2.2.2.2.2.1).bind fun a=>A3 (a==h.1,h.2.2.1,h.2.1)
def jP:sG:=⟨[.r false (.b Lf),.r false (.b b2A)],[.v .bool],LX⟩
def c4H:sD:=⟨[(250,[6,20,21,.box pinned Lf,.box 1000001 b2A,Qp 0 pinned,Qp 1 1000001],[Qe 0 [6,.box 1000001 b2A,.box pinned Lf,Qp 1 1000001]])],[],[(6,[.p,.p,.p,.r [26,1000001],.r [27,1000001],.p,.v,.w [30,1030,pinned],.q,.a [31,32,1000001],.x,.x,.x])]⟩
def EB(s:a9Y):Option (a9Y ⊕ b8p):=(fun(a:Int)(b:MF)(c:DU)=>cond (A4 (a<3)) ((Bg (b,8)).bind fun h=>cond (A4 (0<=a)&&A4 (a<3)) (A3 (.inl (s.1,zD .i64 (a+1),h.2,(c.1,c.2.1,c.2.2.1,c.2.2.2.1,c.2.2.2.2.1,c.2.2.2.2.2.1,C2 c.2.2.2.2.2.2.1 (A7 a) h.1,c.2.2.2.2.2.2.2),()))) A6) (A3 (.inr (s.1,b,c,())))) s.2.1 s.2.2.1 s.2.2.2.1
def Jo(s:(Int×Bool×a9Y)):Option ((Int×Bool×a9Y) ⊕ (Int×Bool×b5L)):=(fun(a b:Int)(c:MF)(d:DU)=>cond (A4 (b<a)) ((Ao (c,5)).bind fun h=>(Ao (h.2,4)).bind fun g=>cond (Bp ((A8 d.2.2.2.2.2.2.2.1)+1)) (A3 (.inl (s.1,s.2.1,a,zD .u64 (b+1),g.2,(d.1,d.2.1,d.2.2.1,d.2.2.2.1,d.2.2.2.2.1,d.2.2.2.2.2.1,d.2.2.2.2.2.2.1,A9 d.2.2.2.2.2.2.2.1 ([(zD .i64 ((zD .i64 h.1)+1),zD .i64 g.1,())]:List (Int×Int×Unit)),d.2.2.2.2.2.2.2.2),()))) A6) (A3 (.inr (s.1,s.2.1,d,c,())))) s.2.2.1 s.2.2.2.1 s.2.2.2.2.1 s.2.2.2.2.2.1
def Nf(x:MF):Option (DU×Int×Bool×MF):=(Ao (x,3)).bind fun h=>(Ao (h.2,5)).bind fun d=>(Ao (d.2,5)).bind fun g=>(show Option (Int×Bool×b5L)from(show Option (b8p ⊕ ((Int×Bool×b5L) ⊕ (Int×Bool×b9P)))from cond (zD .i64 h.1==2) ((Ao (g.2,3)).bind fun m=>A3 (B6 (B7 (zD .i64 g.1,true,(zD .i64 h.1,zD .i64 d.1,zD .i64 m.1,0,0,[],B3 3 0,[],[],(0,[],()),[],()),m.2,())))) (cond (zD .i64 h.1==4) ((Ao (g.2,10)).bind fun n=>(Al EB (zD .i64 g.1,0,n.2,(zD .i64 h.1,zD .i64 d.1,0,0,zD .i64 ((zD .i64 n.1)+1),[],B3 3 0,[],[],(0,[],()),[],()),())).bind fun l=>A3 (B7 (l.1,l.2.1,l.2.2.1,()))) (cond (zD .i64 h.1==3) (A3 (B7 (zD .i64 g.1,g.2,(zD .i64 h.1,zD .i64 d.1,0,0,0,[],B3 3 0,[],[],(0,[],()),[],()),()))) (cond (zD .i64 h.1==5) (A3 (B6 (B6 (zD .i64 g.1,true,g.2,(zD .i64 h.1,zD .i64 d.1,0,0,0,[],B3 3 0,[],[],(0,[],()),[],()),())))) (A3 (B6 (B7 (zD .i64 g.1,true,(zD .i64 h.1,zD .i64 d.1,0,0,0,[],B3 3 0,[],[],(0,[],()),[],()),g.2,())))))))).bind fun o=>match o with |.inl i=>((LX (i.2.1,i.2.2.1)).bind fun c=>A3 (i.1,c.1,c.2.2,c.2.1,())) |.inr j=>(match j with |.inl f=>A3 (f.1,f.2.1,f.2.2.1,f.2.2.2.1,()) |.inr k=>((Ao (k.2.2.1,2)).bind fun e=>(Al Jo (k.1,k.2.1,e.1,0,e.2,k.2.2.2.1,())).bind fun a=>A3 (a.1,a.2.1,a.2.2.1,a.2.2.2.1,())))).bind fun b=>A3 (b.2.2.1,b.1,b.2.1,b.2.2.2.1)
def oH:sG:=⟨[.r false (.b Lf)],[.v (.pair QI (.pair QI (.pair QI (.pair QI (.pair QI (.pair QL (.pair (.arr 3 QI) (.pair (.list false Q4) c3R)))))))),.v QI,.v .bool],Nf⟩
def c4I:sD:=⟨[(8106,[3,.sv 4 .bool,.sv 50 QU,.sv 51 QU,.box pinned Lf,.box 2 b2A,Qp 0 pinned,Qp 2 2],[Qe 7 [3,.sv 4 .bool,.box 2 b2A,.box pinned Lf,Qp 2 2]]),(129550,[3,38,.box pinned Lf,.box 2 b2A,Qp 0 pinned,Qp 2 2],[Qe 5 [3,.box pinned Lf,.box 2 b2A,Qp 0 pinned,Qp 2 2]])],[(63,[Qn [3,.sv 4 .bool,.box 2 b2A,.box pinned Lf,Qp 2 2]]),(2024,[Qn [3,.box pinned Lf,.box 2 b2A,Qp 0 pinned,Qp 2 2],Qe 0 [3,.sv 4 .bool,.box 2 b2A,.box pinned Lf,Qp 2 2],Qe 4 [3,.sv 4 .bool,.box pinned Lf,.box 2 b2A,Qp 0 pinned,Qp 2 2]])],[]⟩
def Cz(x:Int):Option Bool:=cond (A4 (0<=x)) (A3 (A4 (x<=25))) (A3 false)
def ZG:sG:=⟨[.v QI],[.v .bool],Cz⟩
def Ei(s:b2t):Option (b2t ⊕ b9J):=(fun(a b:Int)(c:MF)=>cond (b==zD .i64 (8*(c.1.length:Int))) (A3 (.inr (0,(c.1,c.2.1,3,c.2.2.2),()))) ((Ca (c,b)).bind fun h=>cond (h.1==1) (A3 (.inr (a,(h.2.1,zD .i64 (b+1),h.2.2.2),()))) (cond (a==s.1) (A3 (.inr (0,(h.2.1,h.2.2.1,2,h.2.2.2.2),()))) (A3 (.inl (s.1,zD .i64 (a+1),zD .i64 (b+1),h.2,())))))) s.2.1 s.2.2.1 s.2.2.2.1
def Ec(x:b4M):Option Zb:=cond (x.1.2.2.1 != 0) (A3 (0,x.1)) ((Al Ei (EA x.2 0,0,x.1.2.1,x.1,())).bind fun h=>A3 (h.1,h.2.1))
def VI:sG:=⟨[.r false (.b Lf),.v QI],[.v QI],Ec⟩
def c4J:sD:=⟨[(62,[1,5,6,.box pinned Lf,Qp 0 pinned],[Qr [4,.box pinned Lf]])],[],[(4,[.p,.p,.q,.q,.v,.x])]⟩
def Kb(x:Int):Option Int:=cond (A4 (x>=2147483648)) (A3 0) (cond (B8 x 2==0) (A3 (zD .i64 (zD .u64 (C0 x 2)))) (A3 (zD .i64 ((zD .i64 (0-(zD .i64 (zD .u64 (C0 x 2)))))-1))))
def oI:sG:=⟨[.v QU],[.v QI],Kb⟩
def Sz(x:b4M):Option b4P:=(Ec (x.1,32)).bind fun a=>(AB a.2).bind fun f=>cond (f.1 != 0) ((AB f.2).bind fun c=>A3 (0,c.1,c.2)) (cond (A4 (zD .u64 a.1<32)) ((Ao (f.2,x.2)).bind fun d=>cond (A4 (x.2<0)) A6 ((Kb (zD .u64 ((AT .u64 (zD .u64 a.1) x.2)+d.1))).bind fun j=>(AB d.2).bind fun e=>A3 (j,e.1,e.2))) ((Ao (f.2,32)).bind fun g=>(AB g.2).bind fun k=>cond (k.1 != 0) ((AB k.2).bind fun i=>A3 (0,i.1,i.2)) ((show Option c2Q from cond (A4 (g.1>=2147483648)) (A3 (g.1,true,k.2,())) (cond (A4 (x.2<0)) A6 (A3 (g.1,A4 (AR .u64 g.1 x.2<32),k.2,())))).bind fun h=>cond h.2.1 (A3 (0,2,h.2.2.1)) ((Kb h.1).bind fun b=>A3 (b,0,h.2.2.1)))))
def a6N:sG:=⟨[.r false (.b Lf),.v QI],[.v QI,.v QI],Sz⟩
def c4K:sD:=⟨[],[(254,[Qn [.sv 8 QU,.sv 44 .bool,.box pinned Lf]])],[]⟩
def Ng(s:a9W):Option (a9W ⊕ (c6U ⊕ c6V)):=cond (A4 (s.2.2.1<s.2.1)) ((Sz (s.2.2.2.2.1,s.1)).bind fun h=>cond (h.2.1 != 0) (A3 (.inr (B6 (h.2.1,[],h.2.2,())))) (cond (Bp ((A8 s.2.2.2.1)+1)) (A3 (.inl (s.1,s.2.1,zD .i64 (s.2.2.1+1),A9 s.2.2.2.1 [h.1],h.2.2,()))) A6)) (A3 (.inr (B7 (s.2.2.2.1,s.2.2.2.2.1,()))))
def SA(x:(MF×Int×Int)):Option b7m:=(show Option (Int×c2Q)from(Cz x.2.1).bind fun c=>cond (!c) (A3 (x.2.1,x.2.2,true,x.1,())) (cond (A4 (x.2.2<0)) (A3 (x.2.1,x.2.2,true,x.1,())) (A3 (x.2.1,x.2.2,A4 (x.2.2 > 4194304),x.1,())))).bind fun h=>cond h.2.2.1 (A3 ([],1,h.2.2.2.1)) ((AB h.2.2.2.1).bind fun f=>cond (f.1 != 0) ((AB f.2).bind fun a=>A3 ([],a.1,a.2)) ((Al Ng (h.1,h.2.1,0,[],f.2,())).bind fun b=>match b with |.inl k=>A3 (k.1,0,k.2.1) |.inr g=>A3 (g.2.1,g.1,g.2.2.1)))
def a6O:sG:=⟨[.r false (.b Lf),.v QI,.v QI],[.o QI,.v QI],SA⟩
def c4L:sD:=⟨[(250,[1,27,28,.own 8 8 QI,.box pinned Lf,Qp 0 pinned],[Qe 0 [.own 8 8 QI,.box pinned Lf],Qr [7,.own 6 6 QI,.box pinned Lf]])],[(6,[Qn [1,2,.sv 21 .bool,.box pinned Lf,Qp 0 pinned]])],[]⟩
def LY(s:(Int×a9W)):Option ((Int×a9W) ⊕ b9O):=(fun(a b c:Int)(d:LI)(e:MF)=>cond (A4 (c<b)) ((Bg (e,a)).bind fun h=>cond (Bp ((A8 d)+1)) (A3 (.inl (s.1,a,b,zD .i64 (c+1),A9 d [h.1],h.2,()))) A6) (A3 (.inr (s.1,a,d,e,())))) s.2.1 s.2.2.1 s.2.2.2.1 s.2.2.2.2.1 s.2.2.2.2.2.1
def Qb(x:b4M):Option (Int×b7m):=(Ao (x.1,5)).bind fun h=>(AB h.2).bind fun f=>cond (f.1 != 0) ((AB f.2).bind fun c=>A3 (0,[],c.1,c.2)) (cond (A4 ((zD .i64 h.1)<=25)) ((SA (f.2,zD .i64 h.1,x.2)).bind fun b=>A3 (zD .i64 h.1,b.1,b.2.1,b.2.2)) (cond ((zD .i64 h.1) != 31) (A3 (0,[],2,f.2)) ((Ao (f.2,5)).bind fun d=>(Al LY (zD .i64 h.1,zD .i64 d.1,x.2,0,[],d.2,())).bind fun g=>(AB g.2.2.2.1).bind fun k=>cond (k.1 != 0) ((AB k.2).bind fun e=>A3 (0,[],e.1,e.2)) ((BO g.2.2.1).bind fun a=>cond (a != g.2.1) (A3 (0,[],2,k.2)) (A3 (g.1,g.2.2.1,0,k.2))))))
def a3G:sG:=⟨[.r false (.b Lf),.v QI],[.v QI,.o QI,.v QI],Qb⟩
def c4M:sD:=⟨[(2042,[7,10,37,38,.own 11 11 QI,.box pinned Lf,Qp 0 pinned],[Qe 0 [7,10,.own 11 11 QI,.box pinned Lf,Qp 0 pinned]])],[],[]⟩
def LZ(s:(Int×Int×LI×LI×MF×a9U)):Option ((Int×Int×LI×LI×MF×a9U) ⊕ ((LI×Z5×Z5×b2r) ⊕ (Int×LI×Z5×b2r))):=(fun(a:Int)(b c:LI)(d:MF)(e f:Z5)=>cond (A4 (a<s.1)) (cond (A4 (0<=a)&&A4 (a<(c.length:Int))) ((Qb (d,B4 c (A7 a) 0)).bind fun h=>cond (h.2.2.1 != 0) (A3 (.inr (B6 (h.2.2.1,[],(0,[],()),h.2.2.2,())))) (cond (Bp ((A8 f.2.1)+1)) (cond (Bp ((A8 b)+(A8 h.2.1))) (A3 (.inl (s.1,zD .i64 (a+1),A9 b h.2.1,c,h.2.2.2,e,(f.1,A9 f.2.1 [h.1],f.2.2),()))) A6) A6)) A6) (A3 (.inr (B7 (b,e,f,d,()))))) s.2.1 s.2.2.1 s.2.2.2.1 s.2.2.2.2.1 s.2.2.2.2.2.1 s.2.2.2.2.2.2.1
def Qc(x:(MF×Int×Int)):Option (Z5×b7m):=(Lg (x.2.1,x.2.2)).bind fun d=>cond (!d) (A3 ((0,[],()),[],1,x.1)) ((Ao (x.1,4)).bind fun k=>(AB k.2).bind fun g=>cond (g.1 != 0) ((AB g.2).bind fun b=>A3 ((0,[],()),[],b.1,b.2)) ((Ez (zD .i64 k.1,x.2.1,x.2.2)).bind fun a=>cond ((a.length:Int)==0) (A3 ((0,[],()),[],2,g.2)) ((Al LZ ((a.length:Int),0,[],a,g.2,(0,[],()),(zD .i64 k.1,[],()),())).bind fun c=>match c with |.inl f=>A3 (f.2.2.1,f.1,0,f.2.2.2.1) |.inr h=>A3 (h.2.2.1,h.2.1,h.1,h.2.2.2.1))))
def a3H:sG:=⟨[.r false (.b Lf),.v QI,.v QI],[.v Tm,.o QI,.v QI],Qc⟩
def c4N:sD:=⟨[(4090,[43,44,.own 12 12 QI,.own 42 10 QI,.box pinned Lf,.box 6 Tm,.box 11 c2X,Qp 0 pinned,Qp 6 6,Qp 11 11],[Qe 0 [.own 12 12 QI,.box 6 Tm,.box 11 c2X,.box pinned Lf,Qp 6 6,Qp 11 11],Qr [8,.own 7 7 QI,.box 6 Tm,.box pinned Lf,Qp 6 6]])],[],[]⟩
def OB(s:(Int×Int×Bool×Int×Int×MF×ZB)):Option ((Int×Int×Bool×Int×Int×MF×ZB) ⊕ (Int×Int×Bool×MF×ZB)):=(fun(a:Int)(b:Bool)(c d:Int)(e:MF)(f g:DU)=>cond (A4 (d<c)) ((Bg (e,a)).bind fun h=>cond (Bp ((A8 g.2.2.2.2.2.2.2.2.1)+1)) (A3 (.inl (s.1,a,b,c,zD .i64 (d+1),h.2,f,(g.1,g.2.1,g.2.2.1,g.2.2.2.1,g.2.2.2.2.1,g.2.2.2.2.2.1,g.2.2.2.2.2.2.1,g.2.2.2.2.2.2.2.1,A9 g.2.2.2.2.2.2.2.2.1 [h.1],g.2.2.2.2.2.2.2.2.2),()))) A6) (A3 (.inr (s.1,a,b,e,f,g,())))) s.2.1 s.2.2.1 s.2.2.2.1 s.2.2.2.2.1 s.2.2.2.2.2.1 s.2.2.2.2.2.2.1 s.2.2.2.2.2.2.2.1
def Rx(x:b4M):Option (DU×Zb):=cond (A4 (x.2<1)) (A3 ((0,0,0,0,0,[],B3 3 0,[],[],(0,[],()),[],()),1,x.1)) (cond (A4 (x.2 > 4096)) (A3 ((0,0,0,0,0,[],B3 3 0,[],[],(0,[],()),[],()),1,x.1)) ((AB x.1).bind fun b=>cond (b.1 != 0) (A3 ((0,0,0,0,0,[],B3 3 0,[],[],(0,[],()),[],()),b.1,b.2)) ((Nf b.2).bind fun k=>(AB k.2.2.2).bind fun a=>cond (a.1 != 0) (A3 ((0,0,0,0,0,[],B3 3 0,[],[],(0,[],()),[],()),a.1,a.2)) ((MW (k.1.1,k.1,x.2)).bind fun l=>cond (!l) (A3 ((0,0,0,0,0,[],B3 3 0,[],[],(0,[],()),[],()),2,a.2)) ((Hg (k.1,x.2)).bind fun m=>(Al OB (x.2,k.2.1,k.2.2.1,m,0,a.2,(0,0,0,0,0,[],B3 3 0,[],[],(0,[],()),[],()),k.1,())).bind fun h=>(AB h.2.2.2.1).bind fun f=>cond (f.1 != 0) (A3 ((0,0,0,0,0,[],B3 3 0,[],[],(0,[],()),[],()),f.1,f.2)) ((Ji h.2.2.2.2.2.1.1).bind fun c=>cond c ((Qc (f.2,h.1,(h.2.2.2.2.2.1.2.2.2.2.2.2.2.2.1.length:Int))).bind fun g=>cond (g.2.2.1 != 0) (A3 ((0,0,0,0,0,[],B3 3 0,[],[],(0,[],()),[],()),g.2.2.1,g.2.2.2)) (cond (!h.2.2.1) (A3 ((0,0,0,0,0,[],B3 3 0,[],[],(0,[],()),[],()),2,g.2.2.2)) ((BO h.2.2.2.2.2.1.2.2.2.2.2.2.2.2.1).bind fun d=>cond (d != h.2.1) (A3 ((0,0,0,0,0,[],B3 3 0,[],[],(0,[],()),[],()),2,g.2.2.2)) ((Pb ((h.2.2.2.2.2.1.1,h.2.2.2.2.2.1.2.1,h.2.2.2.2.2.1.2.2.1,h.2.2.2.2.2.1.2.2.2.1,h.2.2.2.2.2.1.2.2.2.2.1,h.2.2.2.2.2.1.2.2.2.2.2.1,h.2.2.2.2.2.1.2.2.2.2.2.2.1,h.2.2.2.2.2.1.2.2.2.2.2.2.2.1,h.2.2.2.2.2.1.2.2.2.2.2.2.2.2.1,g.1,g.2.1,h.2.2.2.2.2.1.2.2.2.2.2.2.2.2.2.2.2),h.1)).bind fun e=>cond (!e) (A3 ((0,0,0,0,0,[],B3 3 0,[],[],(0,[],()),[],()),2,g.2.2.2)) (A3 ((h.2.2.2.2.2.1.1,h.2.2.2.2.2.1.2.1,h.2.2.2.2.2.1.2.2.1,h.2.2.2.2.2.1.2.2.2.1,h.2.2.2.2.2.1.2.2.2.2.1,h.2.2.2.2.2.1.2.2.2.2.2.1,h.2.2.2.2.2.1.2.2.2.2.2.2.1,h.2.2.2.2.2.1.2.2.2.2.2.2.2.1,h.2.2.2.2.2.1.2.2.2.2.2.2.2.2.1,g.1,g.2.1,h.2.2.2.2.2.1.2.2.2.2.2.2.2.2.2.2.2),0,g.2.2.2)))))) (cond (!h.2.2.1) (A3 ((0,0,0,0,0,[],B3 3 0,[],[],(0,[],()),[],()),2,f.2)) ((BO h.2.2.2.2.2.1.2.2.2.2.2.2.2.2.1).bind fun i=>cond (i != h.2.1) (A3 ((0,0,0,0,0,[],B3 3 0,[],[],(0,[],()),[],()),2,f.2)) ((Pb (h.2.2.2.2.2.1,h.1)).bind fun j=>cond (!j) (A3 ((0,0,0,0,0,[],B3 3 0,[],[],(0,[],()),[],()),2,f.2)) (A3 (h.2.2.2.2.2.1,0,f.2)))))))))))
def b0e:sG:=⟨[.r false (.b Lf),.v QI],[.v DY,.v QI],Rx⟩
def c4O:sD:=⟨[(1018,[1,8,.sv 9 .bool,47,48,.box pinned Lf,.box 4 DY,.box 7 (.pair QI (.pair QI (.pair QI (.pair QI (.pair QI (.pair QL (.pair (.arr 3 QI) (.pair (.list false Q4) (.pair (.list true QI) c2Y))))))))),Qp 0 pinned,Qp 4 4,Qp 7 7],[Qe 0 [1,8,.sv 9 .bool,.box pinned Lf,.box 4 DY,.box 7 (.pair QI (.pair QI (.pair QI (.pair QI (.pair QI (.pair QL (.pair (.arr 3 QI) (.pair (.list false Q4) (.pair (.list true QI) c2Y))))))))),Qp 0 pinned,Qp 4 4,Qp 7 7]])],[],[(14,[.r [7,50],.r [7,51],.p,.v,.w [54,1054,pinned],.q,.x,.x,.x])]⟩
def Ej(s:c3j):Option (c3j ⊕ (b9J ⊕ b2r)):=cond (A4 (s.2.1<s.1)) ((Ca (s.2.2.1,s.2.1)).bind fun h=>cond (h.1==1) (A3 (.inr (B6 ((h.2.1,h.2.2.1,2,h.2.2.2.2),())))) (A3 (.inl (s.1,zD .i64 (s.2.1+1),h.2,())))) (A3 (.inr (B7 (s.1,s.2.2.1,()))))
def Ga(x:MF):Option MF:=cond (x.2.2.1 != 0) (A3 x) ((Al Ej (zD .i64 ((zD .i64 (C0 (zD .i64 (x.2.1+7)) 8))*8),x.2.1,x,())).bind fun f=>match f with |.inl h=>A3 (h.2.1.1,h.1,h.2.1.2.2) |.inr g=>A3 g.1)
def VJ:sG:=⟨[.r false (.b Lf)],[],Ga⟩
def c4P:sD:=⟨[(58,[2,3,.box pinned Lf,Qp 0 pinned],[Qe 0 [2,.box pinned Lf,Qp 0 pinned],Qr [.box pinned Lf]])],[],[]⟩
def Kx(s:(Int×Int×Int×HW×a9Z)):Option ((Int×Int×Int×HW×a9Z) ⊕ ((Int×HW×a9Z) ⊕ (Int×Int×WI))):=(fun(a:Int)(b c:HW)(d:MF)=>cond (A4 (a<s.2.1)) ((Rx (d,c.2.1)).bind fun h=>cond (h.2.1 != 0) (A3 (.inr (B6 (0,2,(0,0,(0,0,0,()),[],[],()),())))) (cond (Bp ((A8 c.2.2.2.2.1)+1)) (A3 (.inl (s.1,s.2.1,zD .i64 (a+1),b,(c.1,c.2.1,c.2.2.1,c.2.2.2.1,A9 c.2.2.2.2.1 ([h.1]:List DU),c.2.2.2.2.2),h.2.2,()))) A6)) (A3 (.inr (B7 (s.1,b,c,d,()))))) s.2.2.1 s.2.2.2.1 s.2.2.2.2.1 s.2.2.2.2.2.1
def Cs(x:LI):Option (HW×Int×Int):=(Kw x).bind fun h=>cond (h.2.2.2 != 0) (A3 ((0,0,(0,0,0,()),[],[],()),0,h.2.2.2)) (cond (A4 ((x.length:Int)<zD .i64 ((zD .i64 (h.2.1+h.2.2.1))+2))) (A3 ((0,0,(0,0,0,()),[],[],()),0,3)) (cond (A4 (0<=(zD .i64 (h.2.1+h.2.2.1)))&&A4 ((zD .i64 (h.2.1+h.2.2.1))<=(x.length:Int))) ((Gy (B9 (A7 (zD .i64 (h.2.1+h.2.2.1))) x)).bind fun j=>(Az x (zD .i64 (h.2.1+h.2.2.1))).bind fun e=>(Az x (zD .i64 ((zD .i64 (h.2.1+h.2.2.1))+1))).bind fun i=>cond (j != (bits .u16 .or (AT .u16 (zD .u16 e) 8) (zD .u16 i))) (A3 ((0,0,(0,0,0,()),[],[],()),0,5)) (cond (A4 (0<=(zD .i64 (h.2.1+h.2.2.1)))&&A4 ((zD .i64 (h.2.1+h.2.2.1))<=(x.length:Int))) (cond (A4 (0<=h.2.1)&&A4 (h.2.1<=((A7 (zD .i64 (h.2.1+h.2.2.1)):Nat):Int))) ((Sy (C1 (A7 h.2.1) (B9 (A7 (zD .i64 (h.2.1+h.2.2.1))) x))).bind fun l=>(Al Kx (zD .i64 (h.2.1+h.2.2.1),h.1.2.2.1.2.1,0,(0,0,(0,0,0,()),[],[],()),h.1,l,())).bind fun d=>match d with |.inl k=>((Dr k.2.2.2.1).bind fun f=>cond (A4 (f.1>=8)) (A3 ((0,0,(0,0,0,()),[],[],()),0,2)) ((Ga f.2).bind fun a=>(AB a).bind fun b=>cond (b.1 != 0) (A3 ((0,0,(0,0,0,()),[],[],()),0,2)) ((Fx k.2.2.1).bind fun c=>cond (!c) (A3 ((0,0,(0,0,0,()),[],[],()),0,2)) (A3 (k.2.2.1,zD .i64 (k.1+2),0))))) |.inr g=>A3 (g.2.2.1,g.1,g.2.1)) A6) A6)) A6))
def a1p:sG:=⟨[.v QB],[.v QZ,.v QI,.v QI],Cs⟩
def c8s:sD:=⟨[(2042,[9,59,60,.box 2 QZ,.box 5 b9R,.box 1056 Lf,Qp 2 2,Qp 5 5,Qp 10 1056],[Qe 0 [9,.box 2 QZ,.box 5 b9R,.box 1056 Lf,Qp 2 2,Qp 5 5,Qp 10 1056],Qr [3,4,.box 2 QZ,Qp 2 2]])],[],[(7,[.v,.v,.v,.v,.v,.v,.v,.v,.v,.v,.v,.v,.v,.v,.v,.v,.v,.x])]⟩
def Ds(x:(LI×Rv×Int×Int×Int)):Option (HW×c2F):=(Az x.2.1.2.1 x.2.2.1).bind fun g=>cond (A4 (zD .i64 ((x.1.length:Int)-x.2.2.2.1)<g)) (A3 ((0,0,(0,0,0,()),[],[],()),(0,([]:(List LI)),()),3)) (cond (A4 (0<=(zD .i64 (x.2.2.2.1+g)))&&A4 ((zD .i64 (x.2.2.2.1+g))<=(x.1.length:Int))) (cond (A4 (0<=x.2.2.2.1)&&A4 (x.2.2.2.1<=((A7 (zD .i64 (x.2.2.2.1+g)):Nat):Int))) ((Cs (C1 (A7 x.2.2.2.1) (B9 (A7 (zD .i64 (x.2.2.2.1+g))) x.1))).bind fun h=>cond (h.2.2 != 0) (A3 ((0,0,(0,0,0,()),[],[],()),(0,([]:(List LI)),()),h.2.2)) ((show Option (Bool×HW×b2y)from cond (A4 (h.2.1<g)) (A3 (true,(0,0,(0,0,0,()),[],[],()),(0,([]:(List LI)),()),h.1,())) (cond (!(nE HX h.1.2.2.1 x.2.1.1)) (A3 (true,(0,0,(0,0,0,()),[],[],()),(0,([]:(List LI)),()),h.1,())) (cond (h.1.1 != x.2.2.2.2) (A3 (true,(0,0,(0,0,0,()),[],[],()),(0,([]:(List LI)),()),h.1,())) ((Az x.2.1.2.2.1 x.2.2.1).bind fun a=>A3 (h.1.2.1 != a,(0,0,(0,0,0,()),[],[],()),(0,([]:(List LI)),()),h.1,()))))).bind fun k=>cond k.1 (A3 ((0,0,(0,0,0,()),[],[],()),(0,([]:(List LI)),()),2)) ((FN k.2.2.2.1).bind fun f=>cond (f.2 != 0) (A3 ((0,0,(0,0,0,()),[],[],()),(0,([]:(List LI)),()),f.2)) (A3 (k.2.2.2.1,f.1,0))))) A6) A6)
end Go.Ab
namespace Go.Ab
open IntKind renaming wrap->zD
open Go.Proofs
set_option maxRecDepth 100000
set_option linter.unusedVariables false
def ZH:sG:=⟨[.v QB,.v b1q,.v QI,.v QI,.v QI],[.v QZ,.v Pw,.v QI],Ds⟩
def c8t:sD:=⟨[],[(126,[Qn [.sv 72 .bool,.box 10 QZ,.box 11 Pw,.box 14 QZ,Qp 10 10,Qp 11 11,Qp 14 14]])],[(7,[.v,.v,.x,.x,.q,.q,.v,.v,.x,.x,.x,.q,.q,.v,.x,.x,.x,.q,.q,.v,.v,.v,.v,.v,.x,.x]),(12,[.q,.r [17,86],.w [0,10],.x,.x])]⟩
def Io(x:(Int×Int)):Option (Int×Int):=some (zD .u64 ((zD .u64 ((zD .u64 ((AR .u64 x.1 32)*(AR .u64 x.2 32)))+(AR .u64 (zD .u64 ((zD .u64 ((AR .u64 x.1 32)*(bits .u64 .and x.2 4294967295)))+(AR .u64 (zD .u64 ((bits .u64 .and x.1 4294967295)*(bits .u64 .and x.2 4294967295))) 32))) 32)))+(AR .u64 (zD .u64 ((bits .u64 .and (zD .u64 ((zD .u64 ((AR .u64 x.1 32)*(bits .u64 .and x.2 4294967295)))+(AR .u64 (zD .u64 ((bits .u64 .and x.1 4294967295)*(bits .u64 .and x.2 4294967295))) 32))) 4294967295)+(zD .u64 ((bits .u64 .and x.1 4294967295)*(AR .u64 x.2 32))))) 32)),zD .u64 (x.1*x.2))
def XP:sG:=⟨[.v QU,.v QU],[.v QU,.v QU],Io⟩
def Ma(x:(Int×Int×Int)):Option (Int×Int):=cond (A4 (x.2.2.toNat<=1)) (A3 ((((x.1.toNat+x.2.1.toNat+x.2.2.toNat)%18446744073709551616:Nat):Int),(((x.1.toNat+x.2.1.toNat+x.2.2.toNat) / 18446744073709551616:Nat):Int))) A6
def XQ:sG:=⟨[.v QU,.v QU,.v QU],[.v QU,.v QU],Ma⟩
def b9X:sD:=⟨[],[(3,[Qn [.sv 0 QU,2]]),(7,[Qn [.sv 0 QU,2]]),(15,[Qn [.sv 0 QU,2]])],[]⟩
def Qd(x:Int):Option Int:=Zg (ZC [] [] 5 0) b9X Tryz.f202 [.v (.int .u64)] [.v (.int .i64)] x
def XR:sG:=⟨[.v QU],[.v QI],Qd⟩
def EM(x:Int):Option Int:=(Qd x).bind fun h=>A3 (zD .i64 (64-h))
def Px:sG:=⟨[.v QU],[.v QI],EM⟩
def CA(s:a9V):Option (a9V ⊕ b8m):=(show Option (a9V ⊕ b8m)from cond (A4 (s.2.2.2.2.2.2.2.1>=4294967296)) (A3 (B7 (s.1,s.2.1,s.2.2.1,s.2.2.2.1,s.2.2.2.2.1,s.2.2.2.2.2.1,s.2.2.2.2.2.2.1,s.2.2.2.2.2.2.2.1,s.2.2.2.2.2.2.2.2.1,()))) (cond (A4 ((zD .u64 (s.2.2.2.2.2.2.2.1*s.2.2.2.1)) > (zD .u64 ((zD .u64 (4294967296*s.2.2.2.2.2.2.2.2.1))+s.2.2.2.2.2.1)))) (A3 (B7 (s.1,s.2.1,s.2.2.1,s.2.2.2.1,s.2.2.2.2.1,s.2.2.2.2.2.1,s.2.2.2.2.2.2.1,s.2.2.2.2.2.2.2.1,s.2.2.2.2.2.2.2.2.1,()))) (A3 (B6 (s.1,s.2.1,s.2.2.1,s.2.2.2.1,s.2.2.2.2.1,s.2.2.2.2.2.1,s.2.2.2.2.2.2.1,s.2.2.2.2.2.2.2.1,()))))).bind fun f=>match f with |.inl h=>(cond (A4 ((zD .u64 (h.2.2.2.2.2.2.2.2.1+h.2.2.1))>=4294967296)) (A3 (.inr (h.1,h.2.1,h.2.2.1,h.2.2.2.1,h.2.2.2.2.1,h.2.2.2.2.2.1,h.2.2.2.2.2.2.1,zD .u64 (h.2.2.2.2.2.2.2.1-1),()))) (A3 (.inl (h.1,h.2.1,h.2.2.1,h.2.2.2.1,h.2.2.2.2.1,h.2.2.2.2.2.1,h.2.2.2.2.2.2.1,zD .u64 (h.2.2.2.2.2.2.2.1-1),zD .u64 (h.2.2.2.2.2.2.2.2.1+h.2.2.1),())))) |.inr g=>A3 (.inr (g.1,g.2.1,g.2.2.1,g.2.2.2.1,g.2.2.2.2.1,g.2.2.2.2.2.1,g.2.2.2.2.2.2.1,g.2.2.2.2.2.2.2.1,()))
def CB(s:a9V):Option (a9V ⊕ c2L):=(show Option (a9V ⊕ c2L)from cond (A4 (s.2.2.2.2.2.2.2.2.1>=4294967296)) (A3 (B7 (s.1,s.2.1,s.2.2.1,s.2.2.2.1,s.2.2.2.2.1,s.2.2.2.2.2.1,s.2.2.2.2.2.2.1,s.2.2.2.2.2.2.2.1,s.2.2.2.2.2.2.2.2.1,()))) (cond (A4 ((zD .u64 (s.2.2.2.2.2.2.2.2.1*s.2.2.2.1)) > (zD .u64 ((zD .u64 (4294967296*s.2.2.2.2.2.2.1))+s.2.2.2.2.1)))) (A3 (B7 (s.1,s.2.1,s.2.2.1,s.2.2.2.1,s.2.2.2.2.1,s.2.2.2.2.2.1,s.2.2.2.2.2.2.1,s.2.2.2.2.2.2.2.1,s.2.2.2.2.2.2.2.2.1,()))) (A3 (B6 (s.1,s.2.1,s.2.2.2.2.1,s.2.2.2.2.2.1,s.2.2.2.2.2.2.2.1,s.2.2.2.2.2.2.2.2.1,()))))).bind fun f=>match f with |.inl h=>(cond (A4 ((zD .u64 (h.2.2.2.2.2.2.1+h.2.2.1))>=4294967296)) (A3 (.inr (h.1,h.2.1,h.2.2.2.2.1,h.2.2.2.2.2.1,h.2.2.2.2.2.2.2.1,zD .u64 (h.2.2.2.2.2.2.2.2.1-1),()))) (A3 (.inl (h.1,h.2.1,h.2.2.1,h.2.2.2.1,h.2.2.2.2.1,h.2.2.2.2.2.1,zD .u64 (h.2.2.2.2.2.2.1+h.2.2.1),h.2.2.2.2.2.2.2.1,zD .u64 (h.2.2.2.2.2.2.2.2.1-1),())))) |.inr g=>A3 (.inr (g.1,g.2.1,g.2.2.1,g.2.2.2.1,g.2.2.2.2.1,g.2.2.2.2.2.1,()))
def DN(x:(Int×Int×Int)):Option (Int×Int):=cond (x.2.2==0) A6 (cond (A4 (x.2.2<=x.1)) A6 (cond (x.1==0) (cond (x.2.2==0) A6 (cond (x.2.2==0) A6 (A3 (zD .u64 (C0 x.2.1 x.2.2),B8 x.2.1 x.2.2)))) ((EM x.2.2).bind fun g=>cond (A4 (zD .u64 g<0)) A6 (cond (A4 (zD .u64 g<0)) A6 (cond (A4 (zD .u64 (64-(zD .u64 g))<0)) A6 (cond (A4 (zD .u64 g<0)) A6 (cond (AR .u64 (AT .u64 x.2.2 (zD .u64 g)) 32==0) A6 ((Al CA (AT .u64 x.2.2 (zD .u64 g),zD .u64 g,AR .u64 (AT .u64 x.2.2 (zD .u64 g)) 32,bits .u64 .and (AT .u64 x.2.2 (zD .u64 g)) 4294967295,bits .u64 .or (AT .u64 x.1 (zD .u64 g)) (AR .u64 x.2.1 (zD .u64 (64-(zD .u64 g)))),AR .u64 (AT .u64 x.2.1 (zD .u64 g)) 32,bits .u64 .and (AT .u64 x.2.1 (zD .u64 g)) 4294967295,zD .u64 (C0 (bits .u64 .or (AT .u64 x.1 (zD .u64 g)) (AR .u64 x.2.1 (zD .u64 (64-(zD .u64 g))))) (AR .u64 (AT .u64 x.2.2 (zD .u64 g)) 32)),zD .u64 ((bits .u64 .or (AT .u64 x.1 (zD .u64 g)) (AR .u64 x.2.1 (zD .u64 (64-(zD .u64 g)))))-(zD .u64 ((zD .u64 (C0 (bits .u64 .or (AT .u64 x.1 (zD .u64 g)) (AR .u64 x.2.1 (zD .u64 (64-(zD .u64 g))))) (AR .u64 (AT .u64 x.2.2 (zD .u64 g)) 32)))*(AR .u64 (AT .u64 x.2.2 (zD .u64 g)) 32)))),())).bind fun h=>cond (h.2.2.1==0) A6 ((Al CB (h.1,h.2.1,h.2.2.1,h.2.2.2.1,h.2.2.2.2.2.2.1,h.2.2.2.2.2.2.2.1,zD .u64 ((zD .u64 ((zD .u64 ((zD .u64 (h.2.2.2.2.1*4294967296))+h.2.2.2.2.2.1))-(zD .u64 (h.2.2.2.2.2.2.2.1*h.1))))-(zD .u64 ((zD .u64 (C0 (zD .u64 ((zD .u64 ((zD .u64 (h.2.2.2.2.1*4294967296))+h.2.2.2.2.2.1))-(zD .u64 (h.2.2.2.2.2.2.2.1*h.1)))) h.2.2.1))*h.2.2.1))),zD .u64 ((zD .u64 ((zD .u64 (h.2.2.2.2.1*4294967296))+h.2.2.2.2.2.1))-(zD .u64 (h.2.2.2.2.2.2.2.1*h.1))),zD .u64 (C0 (zD .u64 ((zD .u64 ((zD .u64 (h.2.2.2.2.1*4294967296))+h.2.2.2.2.2.1))-(zD .u64 (h.2.2.2.2.2.2.2.1*h.1)))) h.2.2.1),())).bind fun f=>cond (A4 (f.2.1<0)) A6 (A3 (zD .u64 ((zD .u64 (f.2.2.2.1*4294967296))+f.2.2.2.2.2.1),AR .u64 (zD .u64 ((zD .u64 ((zD .u64 (f.2.2.2.2.1*4294967296))+f.2.2.1))-(zD .u64 (f.2.2.2.2.2.1*f.1)))) f.2.1)))))))))))
def XS:sG:=⟨[.v QU,.v QU,.v QU],[.v QU,.v QU],DN⟩
def c4Q:sD:=⟨[(131068,[.sv 2 QU,.sv 8 QU,.sv 9 QU,.sv 10 QU,.sv 11 QU,.sv 13 QU,.sv 14 QU,.sv 15 QU,.sv 16 QU],[Qe 0 [.sv 2 QU,.sv 8 QU,.sv 9 QU,.sv 10 QU,.sv 11 QU,.sv 13 QU,.sv 14 QU,.sv 15 QU]]),(2097148,[.sv 2 QU,.sv 8 QU,.sv 9 QU,.sv 10 QU,.sv 14 QU,.sv 15 QU,.sv 16 QU,.sv 17 QU,.sv 18 QU],[Qe 2 [.sv 2 QU,.sv 8 QU,.sv 14 QU,.sv 15 QU,.sv 17 QU,.sv 18 QU]])],[(262136,[Qn [.sv 2 QU,.sv 8 QU,.sv 9 QU,.sv 10 QU,.sv 11 QU,.sv 13 QU,.sv 14 QU,.sv 15 QU,.sv 16 QU],Qe 0 [.sv 2 QU,.sv 8 QU,.sv 9 QU,.sv 10 QU,.sv 11 QU,.sv 13 QU,.sv 14 QU,.sv 15 QU]]),(4194296,[Qn [.sv 2 QU,.sv 8 QU,.sv 9 QU,.sv 10 QU,.sv 14 QU,.sv 15 QU,.sv 16 QU,.sv 17 QU,.sv 18 QU],Qe 2 [.sv 2 QU,.sv 8 QU,.sv 14 QU,.sv 15 QU,.sv 17 QU,.sv 18 QU]])],[(6,[.v,.v,.v,.v,.v,.v,.v,.x])]⟩
def Mb(x:(Int×Int×Int)):Option Int:=cond (x.2.2==0) A6 ((DN (B8 x.1 x.2.2,x.2.1,x.2.2)).bind fun h=>A3 h.2)
def XT:sG:=⟨[.v QU,.v QU,.v QU],[.v QU],Mb⟩
def IK(x:(Int×Int×Int)):Option Int:=(Io (x.1,x.2.1)).bind fun h=>(Ma (h.2,x.2.2,0)).bind fun g=>(Mb (zD .u64 (h.1+g.2),g.1,2305843009213693951)).bind fun f=>A3 f
def a3I:sG:=⟨[.v QU,.v QU,.v QU],[.v QU],IK⟩
def Ky(s:Zb):Option b8k:=(fun(a b:Int)=>cond (A4 (b<a)) ((Az s.2.1 b).bind fun h=>(IK (s.1,1000003,zD .u64 ((zD .u64 h)+1))).bind fun g=>A3 (.inl (g,s.2.1,a,zD .i64 (b+1),()))) (A3 (.inr (s.1,())))) s.2.2.1 s.2.2.2.1
def Jp(x:LI):Option Int:=(Al Ky (0,x,(x.length:Int),0,())).bind fun h=>A3 h.1
def XU:sG:=⟨[.v QB],[.v QU],Jp⟩
def c8u:sD:=⟨[(58,[.sv 3 QU,.sv 6 QB,7,8],[Qe 0 [.sv 3 QU]])],[],[]⟩
def Jq(s:(Int×Int×Int×(List LI)×b2u)):Option ((Int×Int×Int×(List LI)×b2u) ⊕ b2u):=(fun(a:Int)(b:List LI)(c d:Int)(e:LI)(f:TI)=>cond (A4 (d<c)) ((Az b d).bind fun h=>(Az h s.1).bind fun g=>cond (Bp ((A8 e)+1)) (A3 (.inl (s.1,s.2.1,a,b,c,zD .i64 (d+1),A9 e [g],f,()))) A6) (A3 (.inr (s.2.1,a,e,f,())))) s.2.2.1 s.2.2.2.1 s.2.2.2.2.1 s.2.2.2.2.2.1 s.2.2.2.2.2.2.1 s.2.2.2.2.2.2.2.1
def Jr(s:b2u):Option (b2u ⊕ (LI×Unit)):=cond (A4 (s.2.1<s.1)) ((Al Jq (s.2.1,s.1,s.2.1,s.2.2.2.1.2.1,(s.2.2.2.1.2.1.length:Int),0,s.2.2.1,s.2.2.2.1,())).bind fun h=>A3 (.inl (h.1,zD .i64 (h.2.1+1),h.2.2.1,h.2.2.2.1,()))) (A3 (.inr (s.2.2.1,())))
def HQ(x:TI):Option LI:=(Fu x).bind fun g=>cond (!g) (A3 []) ((Ft x).bind fun f=>(Al Jr (f,0,[],x,())).bind fun h=>A3 h.1)
def oJ:sG:=⟨[.v Pw],[.o QI],HQ⟩
def c8v:sD:=⟨[(122,[11,12,.own 3 3 QI,.vp 1 Pw],[Qe 0 [.own 3 3 QI]]),(31334,[4,11,12,.sv 16 (.list false QL),17,18,.own 3 3 QI,.vp 1 Pw],[Qe 2 [11,12,.own 3 3 QI,.vp 1 Pw]])],[],[]⟩
def Gz(s:(Int×Int×Int×LI×c2K)):Option ((Int×Int×Int×LI×c2K) ⊕ b8l):=(fun(a:Int)(b:LI)(c d e f:Int)(g:LI)=>cond (A4 (f<e)) (cond (A4 (zD .i64 (8*f)<0)) A6 (cond (Bp ((A8 g)+1)) (A3 (.inl (s.1,s.2.1,a,b,c,d,e,zD .i64 (f+1),A9 g [zD .u8 (bits .i64 .and (AR .i64 a (zD .i64 (8*f))) 255)],()))) A6)) (A3 (.inr (s.1,s.2.1,b,c,d,g,())))) s.2.2.1 s.2.2.2.1 s.2.2.2.2.1 s.2.2.2.2.2.1 s.2.2.2.2.2.2.1 s.2.2.2.2.2.2.2.1 s.2.2.2.2.2.2.2.2.1
def Js(s:b8l):Option (b8l ⊕ a6I):=(fun(a:LI)(b c:Int)(d:LI)=>cond (A4 (c<b)) ((Az a c).bind fun g=>(CM (g,s.1)).bind fun f=>cond (!f) (A3 (.inr (B6 (6,[],())))) ((Al Gz (s.1,s.2.1,g,a,b,c,s.2.1,0,d,())).bind fun h=>A3 (.inl (h.1,h.2.1,h.2.2.1,h.2.2.2.1,zD .i64 (h.2.2.2.2.1+1),h.2.2.2.2.2.1,())))) (A3 (.inr (B7 (d,()))))) s.2.2.1 s.2.2.2.1 s.2.2.2.2.1 s.2.2.2.2.2.1
def Nh(x:(LI×Int)):Option (LI×Int):=(show Option b5x from cond (A4 (x.2<4)) (A3 (x.1,x.2,true,())) (A3 (x.1,x.2,A4 (x.2 > 24),()))).bind fun h=>cond h.2.2.1 (A3 ([],1)) ((Al Js (h.2.1,zD .i64 (C0 (zD .i64 (h.2.1+7)) 8),h.1,(h.1.length:Int),0,[],())).bind fun k=>match k with |.inl f=>A3 (f.1,0) |.inr g=>A3 (g.2.1,g.1))
def oK:sG:=⟨[.v QL,.v QI],[.o QV,.v QI],Nh⟩
def c4R:sD:=⟨[(250,[1,6,.sv 20 QL,21,22,.own 7 7 QV],[Qe 0 [.own 7 7 QV],Qr [5,.own 4 4 QV]]),(128206,[1,6,9,.sv 20 QL,21,22,30,31,.own 7 7 QV],[Qe 2 [1,6,.sv 20 QL,21,22,.own 7 7 QV]])],[(6,[Qn [.sv 0 QL,1,.sv 16 .bool]])],[]⟩
def OC(x:TI):Option (LI×Int):=(Fu x).bind fun g=>cond (!g) (A3 ([],1)) ((HQ x).bind fun f=>(Nh (f,x.1)).bind fun h=>A3 (h.1,h.2))
def a1q:sG:=⟨[.v Pw],[.o QV,.v QI],OC⟩
def c8w:sD:=⟨[],[],[(3,[.v,.q,.v,.v,.x,.q,.q,.x,.x])]⟩
def Kz(s:Z7):Option (Z7 ⊕ (Int×Unit)):=(fun(a b c:Int)=>cond (A4 (a > 0)) ((show Option Z7 from cond (B8 a 2==1) ((IK (b,c,0)).bind fun g=>A3 (a,g,c,())) (A3 (a,b,c,()))).bind fun h=>(IK (h.2.2.1,h.2.2.1,0)).bind fun f=>A3 (.inl (zD .i64 (C0 h.1 2),h.2.1,f,()))) (A3 (.inr (b,())))) s.1 s.2.1 s.2.2.1
def OD(x:Int):Option Int:=(Al Kz (EA x 0,1,1000003,())).bind fun h=>A3 h.1
def a1r:sG:=⟨[.v QI],[.v QU],OD⟩
def c4S:sD:=⟨[(58,[0,.sv 3 QU,.sv 4 QU],[Qe 0 [.sv 3 QU]])],[(932,[Qn [0,.sv 3 QU,.sv 4 QU]])],[]⟩
def Qf(x:(Int×Int×Int)):Option (Int×Bool):=(show Option b9n from cond (A4 (x.1>=2305843009213693951)) (A3 (x.1,x.2.1,x.2.2,true,())) (cond (A4 (x.2.1>=2305843009213693951)) (A3 (x.1,x.2.1,x.2.2,true,())) (A3 (x.1,x.2.1,x.2.2,A4 (x.2.2<0),())))).bind fun h=>cond h.2.2.2.1 (A3 (0,false)) ((OD h.2.2.1).bind fun g=>(IK (h.1,g,h.2.1)).bind fun f=>A3 (f,true))
def a3J:sG:=⟨[.v QU,.v QU,.v QI],[.v QU,.v .bool],Qf⟩
def c8x:sD:=⟨[],[(6,[Qn [.sv 0 QU,.sv 1 QU,2,.sv 17 .bool]])],[]⟩
def GA(x:b9E):Option (Int×Bool):=(OC x.2).bind fun h=>cond (h.2 != 0) (A3 (0,false)) ((Jp h.1).bind fun f=>(Qf (x.1,f,(h.1.length:Int))).bind fun g=>A3 (g.1,g.2))
def jQ:sG:=⟨[.v QU,.v Pw],[.v QU,.v .bool],GA⟩
def Dg(s:(LI×Int×LI×Int×Int×QX×Rv×jI)):Option ((LI×Int×LI×Int×Int×QX×Rv×jI) ⊕ ((LI×Int×QX×Rv×jI) ⊕ (Int×jI))):=(fun(a:Int)(b:LI)(c d:Int)(e:QX)(f:Rv)(g:QX)=>cond (A4 (d<c)) ((Az b d).bind fun k=>(Ds (s.1,f,d,a,g.2.1)).bind fun h=>cond (h.2.2 != 0) (A3 (.inr (B6 (h.2.2,((0,0,0,()),0,0,[],[],()),())))) ((GA (g.2.2.1,h.2.1)).bind fun i=>cond (Bp ((A8 g.2.2.2.1)+1)) (cond (Bp ((A8 g.2.2.2.2.1)+1)) (A3 (.inl (s.1,zD .i64 (a+k),b,c,zD .i64 (d+1),e,f,(g.1,zD .i64 (g.2.1+h.1.2.1),i.1,A9 g.2.2.2.1 ([(g.2.1,zD .i64 (a-f.2.2.2.2.2.1),())]:List (Int×Int×Unit)),A9 g.2.2.2.2.1 ([h.1]:List HW),g.2.2.2.2.2),()))) A6) A6)) (A3 (.inr (B7 (s.1,a,e,f,g,()))))) s.2.1 s.2.2.1 s.2.2.2.1 s.2.2.2.2.1 s.2.2.2.2.2.1 s.2.2.2.2.2.2.1 s.2.2.2.2.2.2.2.1
def Ek(x:LI):Option b0a:=(Fe x).bind fun h=>cond (h.2 != 0) (A3 (((0,0,0,()),0,0,[],[],()),h.2)) ((Al Dg (x,h.1.2.2.2.2.2.1,h.1.2.1,(h.1.2.1.length:Int),0,((0,0,0,()),0,0,[],[],()),h.1,(h.1.1,0,0,[],[],()),())).bind fun k=>match k with |.inl g=>(cond (A4 (g.2.1<(g.1.length:Int))) (A3 (((0,0,0,()),0,0,[],[],()),2)) (cond (g.2.2.2.2.1.2.2.1 != g.2.2.2.1.2.2.2.2.1) (A3 (((0,0,0,()),0,0,[],[],()),5)) (A3 (g.2.2.2.2.1,0)))) |.inr f=>A3 (f.2.1,f.1))
def XV:sG:=⟨[.v QB],[.v nG,.v QI],Ek⟩
def H9:sD:=⟨[(506,[.sv 0 QB,7,.sv 28 QL,29,30,.box 2 nG,.box 4 b1q,.box 6 c3a,Qp 2 2,Qp 4 4,Qp 6 6],[Qe 0 [.sv 0 QB,7,.box 2 nG,.box 4 b1q,.box 6 c3a,Qp 2 2,Qp 4 4,Qp 6 6],Qr [3,.box 2 nG,Qp 2 2]])],[],[]⟩
def Mc(s:((List LI)×Int×Int×TI×TI×c2C)):Option (((List LI)×Int×Int×TI×TI×c2C) ⊕ (TI×b7l)):=(fun(a:Int)(b c:TI)(d:Int×Int×Unit)=>cond (A4 (a<s.2.1)) ((Az s.1 a).bind fun h=>cond (A4 (0<=d.2.1)&&A4 (d.2.1<=(h.length:Int))) (cond (A4 (0<=d.1)&&A4 (d.1<=((A7 d.2.1:Nat):Int))) ((CR (C1 (A7 d.1) (B9 (A7 d.2.1) h))).bind fun g=>cond (Bp ((A8 c.2.1)+1)) (A3 (.inl (s.1,s.2.1,zD .i64 (a+1),b,(c.1,A9 c.2.1 ([g]:List LI),c.2.2),d,()))) A6) A6) A6) (A3 (.inr (b,c,())))) s.2.2.1 s.2.2.2.1 s.2.2.2.2.1 s.2.2.2.2.2.1
def Qg(x:(TI×Int×Int×Unit)):Option c2F:=(Fu x.1).bind fun f=>cond (!f) (A3 ((0,([]:(List LI)),()),1)) ((show Option (Bool×TI×TI×c2C)from cond (A4 (x.2.1<0)) (A3 (true,(0,([]:(List LI)),()),x.1,x.2,())) (cond (A4 (x.2.1>=x.2.2.1)) (A3 (true,(0,([]:(List LI)),()),x.1,x.2,())) ((Ft x.1).bind fun k=>A3 (A4 (x.2.2.1 > k),(0,([]:(List LI)),()),x.1,x.2,())))).bind fun h=>cond h.1 (A3 ((0,([]:(List LI)),()),6)) ((Al Mc (h.2.2.1.2.1,(h.2.2.1.2.1.length:Int),0,h.2.1,(h.2.2.1.1,([]:(List LI)),()),h.2.2.2.1,())).bind fun g=>A3 (g.2.1,0)))
def a3K:sG:=⟨[.v Pw,.v Q4],[.v Pw,.v QI],Qg⟩
def c8y:sD:=⟨[(250,[.sv 35 (.list false QL),36,37,.box 4 Pw,.box 6 (.pair QI Q8),.vp 3 Q4,Qp 4 4,Qp 6 6],[Qe 0 [.box 4 Pw,.box 6 (.pair QI Q8),Qp 4 4,Qp 6 6]])],[(14,[Qn [.sv 29 .bool,.box 4 Pw,.vp 2 Pw,.vp 3 Q4,Qp 4 4]])],[(3,[.x,.x,.x,.x,.v,.v,.v,.v,.x,.x,.x,.v,.v,.v,.v,.x,.x]),(9,[.q,.q,.v,.v,.v,.v,.v,.v,.v,.q,.x,.x,.x])]⟩
def Ct(s:(LI×Int×Int×LI×Int×Int×LI×b5G)):Option ((LI×Int×Int×LI×Int×Int×LI×b5G) ⊕ a6I):=(fun(a b:Int)(c:LI)(d e:Int)(f:LI)(g:Rv)(h:Int×Int×Unit)=>cond (A4 (e<d)) ((Az c e).bind fun n=>(Az g.2.2.1 e).bind fun j=>(show Option ((LI×Int×Int×Int×LI×Int×Int×LI×b5G) ⊕ Z5)from cond (A4 (EA h.1 b<GZ h.2.1 (zD .i64 (b+j)))) ((Ds (s.1,g,e,a,b)).bind fun l=>cond (l.2.2 != 0) (A3 (B6 (l.2.2,[],()))) ((Qg (l.2.1,zD .i64 ((EA h.1 b)-b),zD .i64 ((GZ h.2.1 (zD .i64 (b+j)))-b),())).bind fun m=>cond (m.2 != 0) (A3 (B6 (m.2,[],()))) ((HQ m.1).bind fun o=>cond (Bp ((A8 f)+(A8 o))) (A3 (B7 (s.1,a,n,zD .i64 (b+j),c,d,e,A9 f o,g,h,()))) A6))) (A3 (B7 (s.1,a,n,zD .i64 (b+j),c,d,e,f,g,h,())))).bind fun p=>match p with |.inl k=>A3 (.inl (k.1,zD .i64 (k.2.1+k.2.2.1),k.2.2.2.1,k.2.2.2.2.1,k.2.2.2.2.2.1,zD .i64 (k.2.2.2.2.2.2.1+1),k.2.2.2.2.2.2.2.1,k.2.2.2.2.2.2.2.2.1,k.2.2.2.2.2.2.2.2.2.1,())) |.inr i=>A3 (.inr (B6 (i.1,i.2.1,())))) (A3 (.inr (B7 (f,()))))) s.2.1 s.2.2.1 s.2.2.2.1 s.2.2.2.2.1 s.2.2.2.2.2.1 s.2.2.2.2.2.2.1 s.2.2.2.2.2.2.2.1 s.2.2.2.2.2.2.2.2.1
def Dx(x:MF):Option (LI×Int):=(Fe x.1).bind fun g=>cond (g.2 != 0) (A3 ([],g.2)) ((show Option (LI×Bool×b5G)from cond (A4 (x.2.1<0)) (A3 (x.1,true,g.1,x.2,())) (cond (A4 (x.2.1 > x.2.2.1)) (A3 (x.1,true,g.1,x.2,())) (A3 (x.1,A4 (x.2.2.1 > g.1.2.2.2.1),g.1,x.2,())))).bind fun h=>cond h.2.1 (A3 ([],6)) ((Al Ct (h.1,h.2.2.1.2.2.2.2.2.1,0,h.2.2.1.2.1,(h.2.2.1.2.1.length:Int),0,[],h.2.2.1,h.2.2.2.1,())).bind fun a=>match a with |.inl k=>A3 (k.1,0) |.inr f=>A3 (f.2.1,f.1)))
def XW:sG:=⟨[.v QB,.v Q4],[.o QI,.v QI],Dx⟩
def c8z:sD:=⟨[(1018,[.sv 0 QB,9,10,.sv 48 QL,49,50,.own 8 8 QI,.box 6 b1q,.vp 3 Q4,Qp 6 6],[Qe 0 [.own 8 8 QI],Qr [5,.own 4 4 QI]])],[(30,[Qn [.sv 0 QB,.sv 44 .bool,.box 6 b1q,.vp 3 Q4,Qp 6 6]]),(260711,[Qn [.sv 0 QB,9,12,13,.sv 48 QL,49,50,.own 8 8 QI,.box 6 b1q,.vp 3 Q4,Qp 6 6],Qr [5,.own 4 4 QI]])],[(12,[.v,.v,.v,.v,.v,.v,.v,.v,.v,.x])]⟩
def GB(s:(LI×Z6)):Option ((LI×Z6) ⊕ Z0):=(fun(a:Int)=>cond (A4 (a<(s.1.length:Int))) ((Az s.1 a).bind fun h=>(Az s.2.1 a).bind fun g=>cond (h != g) (A3 (.inr (B6 (false,())))) (A3 (.inl (s.1,s.2.1,zD .i64 (a+1),())))) (A3 (.inr (B7 ())))) s.2.2.1
def CN(x:(LI×LI)):Option Bool:=cond ((x.1.length:Int) != (x.2.length:Int)) (A3 false) ((Al GB (x.1,x.2,0,())).bind fun g=>match g with |.inl f=>A3 true |.inr h=>A3 h.1)
def VX:sG:=⟨[.v QL,.v QL],[.v .bool],CN⟩
def c8A:sD:=⟨[(58,[.sv 0 QL,.sv 1 QL,5],[Qe 0 [],Qr [.sv 4 .bool]])],[],[(6,[.v,.v,.v,.v,.v,.v,.v,.v,.x])]⟩
def CU(x:(Z6×Int)):Option Z6:=(show Option c3g from cond (B8 x.1.2.1 8==0) (cond (Bp ((A8 x.1.1)+1)) (A3 (x.2,(A9 x.1.1 [0],x.1.2),())) A6) (A3 (x.2,x.1,()))).bind fun h=>cond (A4 (0<=(zD .i64 (C0 h.2.1.2.1 8)))&&A4 (zD .i64 (C0 h.2.1.2.1 8)<(h.2.1.1.length:Int))) (cond (A4 (zD .i64 (7-(B8 h.2.1.2.1 8))<0)) A6 (cond (A4 (0<=(zD .i64 (C0 h.2.1.2.1 8)))&&A4 (zD .i64 (C0 h.2.1.2.1 8)<(h.2.1.1.length:Int))) (A3 (C2 h.2.1.1 (A7 (zD .i64 (C0 h.2.1.2.1 8))) (bits .u8 .or (B4 h.2.1.1 (A7 (zD .i64 (C0 h.2.1.2.1 8))) 0) (AT .u8 h.1 (zD .i64 (7-(B8 h.2.1.2.1 8))))),zD .i64 (h.2.1.2.1+1),h.2.1.2.2)) A6)) A6
def XX:sG:=⟨[.r false (.b QY),.v QV],[],CU⟩
def c8B:sD:=⟨[],[(1,[Qn [.sv 1 QV,.box pinned QY,Qp 0 pinned]])],[(2,[.p,.p,.q,.q,.p,.p,.q,.q,.v,.q,.q,.v,.p,.p,.q,.q,.v,.v,.v,.x,.x,.x])]⟩
def Fz(s:b9K):Option (b9K ⊕ b1p):=cond (A4 (s.2.1>=0)) (cond (A4 (s.2.1<0)) A6 ((CU (s.2.2.1,zD .u8 (bits .u64 .and (AR .u64 s.1 s.2.1) 1))).bind fun h=>A3 (.inl (s.1,zD .i64 (s.2.1-1),h,())))) (A3 (.inr (s.2.2.1,())))
def Ap(x:(Z6×Int×Int)):Option b7j:=(show Option (Int×Int×Bool×b1p)from cond (A4 (x.2.2<0)) (A3 (x.2.1,x.2.2,true,x.1,())) (cond (A4 (x.2.2 > 64)) (A3 (x.2.1,x.2.2,true,x.1,())) (cond (A4 (x.2.2<0)) A6 (A3 (x.2.1,x.2.2,(AR .u64 x.2.1 x.2.2) != 0,x.1,()))))).bind fun h=>cond h.2.2.1 (A3 (1,h.2.2.2.1)) ((Al Fz (h.1,zD .i64 (h.2.1-1),h.2.2.2.1,())).bind fun g=>A3 (0,g.1))
def XY:sG:=⟨[.r false (.b QY),.v QU,.v QI],[.v QI],Ap⟩
def c8C:sD:=⟨[(58,[.sv 1 QU,7,.box pinned QY,Qp 0 pinned],[Qe 0 [.box pinned QY]])],[(6,[Qn [.sv 1 QU,2,.sv 19 .bool,.box pinned QY,Qp 0 pinned]])],[]⟩
def DV(x:(Z6×Int×Int)):Option Z6:=cond (A4 (x.2.2<0)) A6 ((Ap (x.1,bits .u64 .and (zD .u64 x.2.1) (zD .u64 ((AT .u64 1 x.2.2)-1)),x.2.2)).bind fun h=>A3 h.2)
def eY:sG:=⟨[.r false (.b QY),.v QI,.v QI],[],DV⟩
def Ip(s:b5B):Option (b5B ⊕ b1p):=(fun(a b:Int)(c:Z6)=>cond (A4 (b<a)) ((Az s.2.1 b).bind fun h=>(DV (c,h,s.1)).bind fun g=>A3 (.inl (s.1,s.2.1,a,zD .i64 (b+1),g,()))) (A3 (.inr (c,())))) s.2.2.1 s.2.2.2.1 s.2.2.2.2.1
def Me(x:(Z6×DU)):Option Z6:=(Ap (x.1,zD .u64 (zD .i64 ((x.2.2.2.2.2.2.1.length:Int)-1)),5)).bind fun f=>(Ap (f.2,zD .u64 x.2.2.2.2.1,4)).bind fun k=>(BO x.2.2.2.2.2.2.1).bind fun h=>(Ap (k.2,zD .u64 h,5)).bind fun a=>(Al Ip (h,x.2.2.2.2.2.2.1,(x.2.2.2.2.2.2.1.length:Int),0,a.2,())).bind fun g=>A3 g.1
def jR:sG:=⟨[.r false (.b QY),.v DY],[],Me⟩
def c8D:sD:=⟨[(254,[4,.sv 27 QL,28,29,.box pinned QY,Qp 0 pinned],[Qe 0 [.box pinned QY]])],[],[]⟩
def Ry(s:MF):Option b7n:=(fun(a b:Int)=>cond (A4 (b<a)) ((Az s.1 b).bind fun g=>(show Option b4N from cond (A4 (g<(-1073741824))) (A3 (s.1,a,b,true,())) (A3 (s.1,a,b,A4 (g>=1073741824),()))).bind fun h=>cond h.2.2.2.1 (A3 (.inr (B6 (false,())))) (A3 (.inl (h.1,h.2.1,zD .i64 (h.2.2.1+1),())))) (A3 (.inr (B7 ())))) s.2.1 s.2.2.1
def Kc(x:Z2):Option Bool:=(show Option (LI×Bool×Unit)from(Lg (x.1,x.2.1)).bind fun k=>cond (!k) (A3 (x.2.2,true,())) (A3 (x.2.2,(x.2.2.length:Int) != (zD .i64 (x.1-x.2.1)),()))).bind fun h=>cond h.2.1 (A3 false) ((Al Ry (h.1,(h.1.length:Int),0,())).bind fun f=>match f with |.inl a=>A3 true |.inr g=>A3 g.1)
def oL:sG:=⟨[.v QI,.v QI,.v QL],[.v .bool],Kc⟩
def c4T:sD:=⟨[(58,[.sv 21 QL,22,23],[Qe 0 [],Qr [.sv 6 .bool]])],[(6,[Qn [.sv 2 QL,.sv 20 .bool]]),(3737,[Qn [.sv 21 QL,22,23,.sv 32 .bool]])],[]⟩
def IL(x:LI):Option Int:=(BO x).bind fun h=>A3 (zD .i64 (5+(zD .i64 (h*(x.length:Int)))))
def a3L:sG:=⟨[.v QL],[.v QI],IL⟩
def Lm(x:Int):Option Bool:=cond (A4 ((-1073741824)<=x)) (A3 (A4 (x<1073741824))) (A3 false)
def a3M:sG:=⟨[.v QI],[.v .bool],Lm⟩
def NH(x:Int):Option Int:=(Lm x).bind fun h=>cond (!h) (A3 0) (cond (A4 (x>=0)) (A3 (zD .u64 (zD .i64 (2*x)))) (A3 (zD .u64 (zD .i64 ((zD .i64 ((-2)*x))-1)))))
def a3N:sG:=⟨[.v QI],[.v QU],NH⟩
def Ln(x:(Int×Int)):Option Int:=(show Option b9D from(Cz x.1).bind fun f=>cond (!f) (A3 (x.1,x.2,true,())) ((Lm x.2).bind fun k=>A3 (x.1,x.2,!k,()))).bind fun h=>cond h.2.2.1 (A3 0) ((NH h.2.1).bind fun g=>cond (A4 (h.1<0)) A6 (cond (A4 (zD .i64 (AR .u64 g h.1)<32)) (A3 (zD .i64 ((zD .i64 ((zD .i64 (AR .u64 g h.1))+1))+h.1))) (A3 65)))
def a3O:sG:=⟨[.v QI,.v QI],[.v QI],Ln⟩
def c4U:sD:=⟨[],[(6,[Qn [0,1,.sv 13 .bool]])],[]⟩
def FO(s:b4P):Option (b4P ⊕ (Int×Unit)):=(fun(a:LI)(b c:Int)=>cond (A4 (c<b)) ((Az a c).bind fun h=>(Ln (s.1,h)).bind fun g=>A3 (.inl (s.1,zD .i64 (s.2.1+g),a,b,zD .i64 (c+1),()))) (A3 (.inr (s.2.1,())))) s.2.2.1 s.2.2.2.1 s.2.2.2.2.1
def FQ(x:(Int×LI)):Option Int:=(Al FO (x.1,0,x.2,(x.2.length:Int),0,())).bind fun h=>A3 h.1
def a6P:sG:=⟨[.v QI,.v QL],[.v QI],FQ⟩
def c4V:sD:=⟨[(58,[0,5,.sv 8 QL,9,10],[Qe 0 [5]])],[],[]⟩
def BP(s:b5D):Option (b5D ⊕ (Int×Unit)):=(fun(a:LI)(b c d:Int)(e:LI)(f:Z5)=>cond (A4 (d<c)) (cond (A4 (0<=d)&&A4 (d<(e.length:Int))) (cond (A4 (0<=(B4 e (A7 d) 0))&&A4 ((B4 e (A7 d) 0)<=(a.length:Int))) (cond (A4 (0<=(B4 e (A7 d) 0))&&A4 ((B4 e (A7 d) 0)<=(a.length:Int))) ((Az f.2.1 d).bind fun h=>cond (h==31) ((IL (B9 (A7 (B4 e (A7 d) 0)) a)).bind fun k=>A3 (.inl (C1 (A7 (B4 e (A7 d) 0)) (B9 (A8 a) a),zD .i64 (b+(zD .i64 (5+k))),c,zD .i64 (d+1),e,f,()))) ((Az f.2.1 d).bind fun g=>(FQ (g,B9 (A7 (B4 e (A7 d) 0)) a)).bind fun i=>A3 (.inl (C1 (A7 (B4 e (A7 d) 0)) (B9 (A8 a) a),zD .i64 (b+(zD .i64 (5+i))),c,zD .i64 (d+1),e,f,())))) A6) A6) A6) (A3 (.inr (b,())))) s.1 s.2.1 s.2.2.1 s.2.2.2.1 s.2.2.2.2.1 s.2.2.2.2.2.1
def Hi(x:c2M):Option Int:=(show Option (Int×Int×LI×b9F)from(NC (x.1,x.2.1,x.2.2.1)).bind fun k=>cond (!k) (A3 (x.2.1,x.2.2.1,x.2.2.2,true,x.1,())) ((Kc (x.2.1,x.2.2.1,x.2.2.2)).bind fun a=>A3 (x.2.1,x.2.2.1,x.2.2.2,!a,x.1,()))).bind fun h=>cond h.2.2.2.1 (A3 0) ((Ez (h.2.2.2.2.1.1,h.1,h.2.1)).bind fun g=>(Al BP (h.2.2.1,4,(g.length:Int),0,g,h.2.2.2.2.1,())).bind fun f=>A3 f.1)
def a1s:sG:=⟨[.v Tm,.v QI,.v QI,.v QL],[.v QI],Hi⟩
def c8E:sD:=⟨[(122,[.sv 3 QL,9,30,31,.own 29 1029 QI,.vp 4 Tm],[Qe 0 [9]])],[(6,[Qn [1,2,.sv 3 QL,.sv 24 .bool,.vp 4 Tm]])],[]⟩
def El(s:b9K):Option (b9K ⊕ b1p):=cond (A4 (s.2.1<s.1)) ((CU (s.2.2.1,0)).bind fun h=>A3 (.inl (s.1,zD .i64 (s.2.1+1),h,()))) (A3 (.inr (s.2.2.1,())))
def Da(x:(Z6×Int)):Option b7j:=(show Option (Int×Bool×b1p)from cond (A4 (x.2<0)) (A3 (x.2,true,x.1,())) (A3 (x.2,A4 (x.2 > 4096),x.1,()))).bind fun h=>cond h.2.1 (A3 (1,h.2.2.1)) ((Al El (h.1,0,h.2.2.1,())).bind fun g=>(CU (g.1,1)).bind fun f=>A3 (0,f))
def VK:sG:=⟨[.r false (.b QY),.v QI],[.v QI],Da⟩
def c4W:sD:=⟨[(58,[11,12,.box pinned QY,Qp 0 pinned],[Qe 0 [.box pinned QY,Qp 0 pinned]])],[(6,[Qn [1,.sv 10 .bool,.box pinned QY,Qp 0 pinned]])],[]⟩
def Ni(s:(Int×LI×c3m)):Option ((Int×LI×c3m) ⊕ ((Int×LI×b1p) ⊕ c3g)):=(fun(a:LI)(b c:Int)(d:Z6)=>cond (A4 (c<b)) ((Az a c).bind fun h=>(Lm h).bind fun g=>cond (!g) (A3 (.inr (B6 (1,d,())))) (A3 (.inl (s.1,s.2.1,a,b,zD .i64 (c+1),d,())))) (A3 (.inr (B7 (s.1,s.2.1,d,()))))) s.2.2.1 s.2.2.2.1 s.2.2.2.2.1 s.2.2.2.2.2.1
def Kd(s:b5B):Option (b5B ⊕ b1p):=(fun(a:Int)(b:LI)(c d:Int)(e:Z6)=>cond (A4 (d<c)) ((Az b d).bind fun i=>(NH i).bind fun h=>cond (A4 (a<0)) A6 (cond (A4 (AR .u64 h a<32)) ((Da (e,zD .i64 (AR .u64 h a))).bind fun j=>cond (A4 (a<0)) A6 ((Ap (j.2,zD .u64 (h-(AT .u64 (AR .u64 h a) a)),a)).bind fun g=>A3 (.inl (a,b,c,zD .i64 (d+1),g.2,())))) ((Da (e,32)).bind fun f=>(Ap (f.2,h,32)).bind fun k=>A3 (.inl (a,b,c,zD .i64 (d+1),k.2,()))))) (A3 (.inr (e,())))) s.1 s.2.1 s.2.2.1 s.2.2.2.1 s.2.2.2.2.1
def SB(x:(Z6×Int×LI)):Option b7j:=(Cz x.2.1).bind fun a=>cond (!a) (A3 (1,x.1)) ((Al Ni (x.2.1,x.2.2,x.2.2,(x.2.2.length:Int),0,x.1,())).bind fun k=>match k with |.inl h=>((Al Kd (h.1,h.2.1,(h.2.1.length:Int),0,h.2.2.1,())).bind fun g=>A3 (0,g.1)) |.inr f=>A3 (f.1,f.2.1))
def a6Q:sG:=⟨[.r false (.b QY),.v QI,.v QL],[.v QI],SB⟩
def c8F:sD:=⟨[(58,[1,.sv 2 QL,.sv 16 QL,17,18,.box pinned QY,Qp 0 pinned],[Qe 0 [1,.sv 2 QL,.box pinned QY,Qp 0 pinned],Qr [6,.box pinned QY]]),(122,[1,.sv 26 QL,27,28,.box pinned QY,Qp 0 pinned],[Qe 2 [.box pinned QY]])],[],[]⟩
def Mg(s:(LI×Int×Int×Int×b2x)):Option ((LI×Int×Int×Int×b2x) ⊕ b2x):=(fun(a b c:Int)(d:LI)(e f:Int)(g:LI)(h:Z6)(i:Z5)=>cond (A4 (f<e)) ((Az d f).bind fun k=>cond (A4 (a<0)) A6 ((Ap (h,bits .u64 .and (zD .u64 k) (zD .u64 ((AT .u64 1 a)-1)),a)).bind fun j=>A3 (.inl (s.1,a,b,c,d,e,zD .i64 (f+1),g,j.2,i,())))) (A3 (.inr (s.1,b,c,g,h,i,())))) s.2.1 s.2.2.1 s.2.2.2.1 s.2.2.2.2.1 s.2.2.2.2.2.1 s.2.2.2.2.2.2.1 s.2.2.2.2.2.2.2.1 s.2.2.2.2.2.2.2.2.1 s.2.2.2.2.2.2.2.2.2.1
def GC(s:b2x):Option (b2x ⊕ b1p):=(fun(a:LI)(b c:Int)(d:LI)(e:Z6)(f:Z5)=>cond (A4 (c<b)) (cond (A4 (0<=c)&&A4 (c<(d.length:Int))) (cond (A4 (0<=(B4 d (A7 c) 0))&&A4 ((B4 d (A7 c) 0)<=(a.length:Int))) (cond (A4 (0<=(B4 d (A7 c) 0))&&A4 ((B4 d (A7 c) 0)<=(a.length:Int))) ((Az f.2.1 c).bind fun j=>(Ap (e,zD .u64 j,5)).bind fun k=>(Az f.2.1 c).bind fun l=>cond (l != 31) ((Az f.2.1 c).bind fun m=>(SB (k.2,m,B9 (A7 (B4 d (A7 c) 0)) a)).bind fun n=>A3 (.inl (C1 (A7 (B4 d (A7 c) 0)) (B9 (A8 a) a),b,zD .i64 (c+1),d,n.2,f,()))) ((BO (B9 (A7 (B4 d (A7 c) 0)) a)).bind fun i=>(Ap (k.2,zD .u64 i,5)).bind fun g=>(Al Mg (C1 (A7 (B4 d (A7 c) 0)) (B9 (A8 a) a),i,b,c,B9 (A7 (B4 d (A7 c) 0)) a,((A8 (B9 (A7 (B4 d (A7 c) 0)) a):Nat):Int),0,d,g.2,f,())).bind fun h=>A3 (.inl (h.1,h.2.1,zD .i64 (h.2.2.1+1),h.2.2.2.1,h.2.2.2.2.1,h.2.2.2.2.2.1,())))) A6) A6) A6) (A3 (.inr (e,())))) s.1 s.2.1 s.2.2.1 s.2.2.2.1 s.2.2.2.2.1 s.2.2.2.2.2.1
def Qh(x:(Z6×c2M)):Option b7j:=(Hi (x.2.1,x.2.2.1,x.2.2.2.1,x.2.2.2.2)).bind fun f=>cond (f==0) (A3 (1,x.1)) ((Ap (x.1,zD .u64 x.2.1.1,4)).bind fun k=>(Ez (x.2.1.1,x.2.2.1,x.2.2.2.1)).bind fun g=>(Al GC (x.2.2.2.2,(g.length:Int),0,g,k.2,x.2.1,())).bind fun h=>A3 (0,h.1))
def a3P:sG:=⟨[.r false (.b QY),.v Tm,.v QI,.v QI,.v QL],[.v QI],Qh⟩
def c8G:sD:=⟨[(122,[.sv 4 QL,33,34,.own 32 1032 QI,.box pinned QY,Qp 0 pinned,.vp 6 Tm],[Qe 0 [.box pinned QY]]),(2005502,[.sv 4 QL,14,33,34,.sv 73 QL,74,75,.own 32 1032 QI,.box pinned QY,Qp 0 pinned,.vp 6 Tm],[Qe 2 [.sv 4 QL,33,34,.own 32 1032 QI,.box pinned QY,Qp 0 pinned,.vp 6 Tm]])],[],[]⟩
def OE(s:(Int×Int×LI×b5M)):Option ((Int×Int×LI×b5M) ⊕ nQ):=(fun(a:LI)(b:Int)(c:Z6)(d:DU)=>cond (A4 (b<3)) ((Az a b).bind fun h=>(DV (c,h,8)).bind fun g=>A3 (.inl (s.1,s.2.1,a,zD .i64 (b+1),g,d,()))) (A3 (.inr (s.1,s.2.1,c,d,())))) s.2.2.1 s.2.2.2.1 s.2.2.2.2.1 s.2.2.2.2.2.1
def OF(s:(Int×Int×Z4×nQ)):Option ((Int×Int×Z4×nQ) ⊕ nQ):=(fun(a:Z4)(b c:Int)(d:Z6)(e:DU)=>cond (A4 (c<b)) ((Az a c).bind fun h=>(Ap (d,zD .u64 (zD .i64 (h.1-1)),5)).bind fun g=>(Ap (g.2,zD .u64 h.2.1,4)).bind fun f=>A3 (.inl (s.1,s.2.1,a,b,zD .i64 (c+1),f.2,e,()))) (A3 (.inr (s.1,s.2.1,d,e,())))) s.2.2.1 s.2.2.2.1 s.2.2.2.2.1 s.2.2.2.2.2.1 s.2.2.2.2.2.2.1
def OG(s:(Int×Int×LI×nQ)):Option ((Int×Int×LI×nQ) ⊕ b5M):=(fun(a:LI)(b c:Int)(d:Z6)(e:DU)=>cond (A4 (c<b)) ((Az a c).bind fun h=>(DV (d,h,s.2.1)).bind fun g=>A3 (.inl (s.1,s.2.1,a,b,zD .i64 (c+1),g,e,()))) (A3 (.inr (s.1,d,e,())))) s.2.2.1 s.2.2.2.1 s.2.2.2.2.1 s.2.2.2.2.2.1 s.2.2.2.2.2.2.1
def Pd(x:(Z6×XJ)):Option b7j:=(Pb (x.2.1,x.2.2)).bind fun p=>cond (!p) (A3 (1,x.1)) ((BO x.2.1.2.2.2.2.2.2.2.2.1).bind fun d=>(Ap (x.1,zD .u64 x.2.1.1,3)).bind fun q=>(Ap (q.2,zD .u64 x.2.1.2.1,5)).bind fun r=>(Ap (r.2,zD .u64 d,5)).bind fun i=>(show Option nQ from(show Option (nQ ⊕ (nQ ⊕ nQ))from cond (x.2.1.1==2) ((Ap (i.2,zD .u64 x.2.1.2.2.1,3)).bind fun t=>A3 (B6 (B7 (x.2.2,d,t.2,x.2.1,())))) (cond (x.2.1.1==4) ((Ap (i.2,zD .u64 (zD .i64 (x.2.1.2.2.2.2.1-1)),10)).bind fun u=>(Al OE (x.2.2,d,x.2.1.2.2.2.2.2.2.1,0,u.2,x.2.1,())).bind fun b=>A3 (B7 (b.1,b.2.1,b.2.2.1,b.2.2.2.1,()))) (cond (x.2.1.1==3) (A3 (B7 (x.2.2,d,i.2,x.2.1,()))) (cond (x.2.1.1==5) (A3 (B6 (B6 (x.2.2,d,i.2,x.2.1,())))) (A3 (B6 (B7 (x.2.2,d,i.2,x.2.1,())))))))).bind fun o=>match o with |.inl k=>((Me (k.2.2.1,k.2.2.2.1)).bind fun l=>A3 (k.1,k.2.1,l,k.2.2.2.1,())) |.inr j=>(match j with |.inl a=>A3 (a.1,a.2.1,a.2.2.1,a.2.2.2.1,()) |.inr h=>((Ap (h.2.2.1,zD .u64 (h.2.2.2.1.2.2.2.2.2.2.2.1.length:Int),2)).bind fun m=>(Al OF (h.1,h.2.1,h.2.2.2.1.2.2.2.2.2.2.2.1,(h.2.2.2.1.2.2.2.2.2.2.2.1.length:Int),0,m.2,h.2.2.2.1,())).bind fun c=>A3 (c.1,c.2.1,c.2.2.1,c.2.2.2.1,())))).bind fun f=>(Al OG (f.1,f.2.1,f.2.2.2.1.2.2.2.2.2.2.2.2.1,(f.2.2.2.1.2.2.2.2.2.2.2.2.1.length:Int),0,f.2.2.1,f.2.2.2.1,())).bind fun g=>(Ji g.2.2.1.1).bind fun n=>cond (!n) (A3 (0,g.2.1)) ((Qh (g.2.1,g.2.2.1.2.2.2.2.2.2.2.2.2.1,g.1,(g.2.2.1.2.2.2.2.2.2.2.2.1.length:Int),g.2.2.1.2.2.2.2.2.2.2.2.2.2.1)).bind fun e=>A3 (e.1,e.2)))
def b0f:sG:=⟨[.r false (.b QY),.v DY,.v QI],[.v QI],Pd⟩
def c8H:sD:=⟨[(2042,[2,7,.sv 94 QL,95,96,.box pinned QY,Qp 0 pinned,.vp 4 DY],[Qe 9 [2,.box pinned QY,Qp 0 pinned,.vp 4 DY]]),(32598,[2,7,.sv 75 (.list false Q4),76,77,.box pinned QY,Qp 0 pinned,.vp 4 DY],[Qe 7 [2,7,.box pinned QY,Qp 0 pinned,.vp 4 DY]]),(260622,[2,7,.sv 57 (.arr 3 QI),58,.box pinned QY,Qp 0 pinned,.vp 4 DY],[Qe 5 [2,7,.box pinned QY,Qp 0 pinned,.vp 4 DY]])],[(127,[Qn [2,7,.box pinned QY,Qp 0 pinned,.vp 4 DY]]),(4072,[Qn [2,7,.box pinned QY,Qp 0 pinned,.vp 4 DY],Qe 0 [2,7,.box pinned QY,Qp 0 pinned,.vp 4 DY],Qe 4 [2,7,.box pinned QY,Qp 0 pinned,.vp 4 DY]])],[]⟩
def Em(s:b1p):Option (b1p ⊕ b1p):=cond ((B8 s.1.2.1 8) != 0) ((CU (s.1,0)).bind fun h=>A3 (.inl (h,()))) (A3 (.inr (s.1,())))
def Gb(x:Z6):Option Z6:=(Al Em (x,())).bind fun h=>A3 h.1
def VL:sG:=⟨[.r false (.b QY)],[],Gb⟩
def c8I:sD:=⟨[(2,[.box pinned QY,Qp 0 pinned],[Qe 0 [.box pinned QY]])],[],[]⟩
def Gc(x:Z6):Option (LI×Z6):=cond (Bp (A8 x.1)) (A3 (x.1,x)) A6
def VM:sG:=⟨[.r false (.b QY)],[.o QV],Gc⟩
def Qi(x:Int):Option Int:=cond (A4 (x>=0)) (A3 (zD .u64 (2*(zD .u64 x)))) (A3 (zD .u64 ((zD .u64 (2*(zD .u64 (zD .i64 (0-(zD .i64 (x+1)))))))+1)))
def a3Q:sG:=⟨[.v QI],[.v QU],Qi⟩
def Mh(s:a5I):Option (a5I ⊕ a5I):=(fun(a b c:Int)(d:LI)=>cond (A4 (a>=128)) (cond (Bp ((A8 d)+1)) (A3 (.inl (zD .u64 (C0 a 128),s.2.1,b,c,A9 d [zD .u8 ((zD .u8 (B8 a 128))+128)],()))) A6) (A3 (.inr (a,s.2.1,b,c,d,())))) s.1 s.2.2.1 s.2.2.2.1 s.2.2.2.2.1
def Mi(s:b4O):Option (b4O ⊕ (LI×Unit)):=cond (A4 (s.2.2.1<s.2.1)) ((Az s.1 s.2.2.1).bind fun g=>(Al Mh (g,s.1,s.2.1,s.2.2.1,s.2.2.2.1,())).bind fun h=>cond (Bp ((A8 h.2.2.2.2.1)+1)) (A3 (.inl (h.2.1,h.2.2.1,zD .i64 (h.2.2.2.1+1),A9 h.2.2.2.2.1 [zD .u8 h.1],()))) A6) (A3 (.inr (s.2.2.2.1,())))
def NI(x:LI):Option LI:=(Al Mi (x,(x.length:Int),0,[],())).bind fun h=>A3 h.1
def a3R:sG:=⟨[.v (.list false QU)],[.o QV],NI⟩
def c8J:sD:=⟨[(58,[.sv 6 (.list false QU),7,8,.own 3 3 QV],[Qe 0 [.own 3 3 QV]]),(14948,[.sv 5 QU,.sv 6 (.list false QU),7,8,.own 3 3 QV],[Qe 2 [.sv 5 QU,.sv 6 (.list false QU),7,8,.own 3 3 QV]])],[],[]⟩
def Hj(s:(Int×Zz×a5H)):Option ((Int×Zz×a5H) ⊕ Z5):=(fun(a b:Int)(c:LI)=>cond (A4 (b<a)) ((Az s.2.1 b).bind fun h=>(Qi h.2.2.1).bind fun g=>cond (Bp ((A8 c)+3)) (A3 (.inl (s.1,s.2.1,a,zD .i64 (b+1),A9 c [zD .u64 h.1,zD .u64 h.2.1,g],()))) A6) (A3 (.inr (s.1,c,())))) s.2.2.1 s.2.2.2.1 s.2.2.2.2.1
def KA(x:(HW×Int)):Option LI:=(Al Hj (x.2,x.1.2.2.2.1,(x.1.2.2.2.1.length:Int),0,([zD .u64 x.1.1,zD .u64 x.1.2.1,zD .u64 x.1.2.2.1.1,zD .u64 x.1.2.2.1.2.1,zD .u64 x.1.2.2.1.2.2.1,zD .u64 (x.1.2.2.2.1.length:Int)]:List Int),())).bind fun g=>cond (Bp ((A8 g.2.1)+1)) ((NI (A9 g.2.1 [zD .u64 g.1])).bind fun h=>cond (Bp (2+(A8 h))) ((LW (A9 [245,75] h)).bind fun f=>cond (Bp ((A8 (A9 [245,75] h))+1)) (A3 (A9 (A9 [245,75] h) [f])) A6) A6) A6
def eZ:sG:=⟨[.v QZ,.v QI],[.o QV],KA⟩
def c8K:sD:=⟨[(58,[1,.sv 33 (.list false HX),34,35,.own 5 5 QU],[Qe 0 [1,.own 5 5 QU]])],[],[(5,[.q,.q,.q,.v,.q,.q,.v,.q,.q,.v,.q,.x,.x])]⟩
def CC(s:b9o):Option (b9o ⊕ (LI×Unit)):=cond (A4 (s.2.2.1<s.2.1)) (cond (Bp ((A8 s.2.2.2.1)+1)) (A3 (.inl (zD .u64 (C0 s.1 256),s.2.1,zD .i64 (s.2.2.1+1),A9 s.2.2.2.1 [zD .u8 (B8 s.1 256)],()))) A6) (A3 (.inr (s.2.2.2.1,())))
def HR(x:(Int×Int)):Option LI:=(FM x.2).bind fun g=>(Al CC (x.1,g,0,[],())).bind fun h=>A3 h.1
def oM:sG:=⟨[.v QU,.v QI],[.o QV],HR⟩
def c8L:sD:=⟨[(58,[.sv 0 QU,7,8,.own 5 5 QV],[Qe 0 [.own 5 5 QV]])],[],[]⟩
def Cl(x:LI):Option LI:=cond (A4 (A8 x<2147483648)) (A3 (C9 x)) A6
def NJ:sG:=⟨[.r false (.o QV)],[],Cl⟩
def GV(x:(Int×Int)):Option LI:=(HR (x.1,x.2)).bind fun h=>(Cl h).bind fun g=>A3 g
def a3S:sG:=⟨[.v QU,.v QI],[.o QV],GV⟩
def Mj(s:(ZA×Int×Int×Z6×WI)):Option ((ZA×Int×Int×Z6×WI) ⊕ ((Z6×WI) ⊕ Z5)):=(fun(a:Int)(b:Z6)(c:HW)=>cond (A4 (a<s.2.1)) ((Az s.1 a).bind fun g=>(Pd (b,g,c.2.1)).bind fun h=>cond (h.1 != 0) (A3 (.inr (B6 (h.1,[],())))) (A3 (.inl (s.1,s.2.1,zD .i64 (a+1),h.2,c,())))) (A3 (.inr (B7 (b,c,()))))) s.2.2.1 s.2.2.2.1 s.2.2.2.2.1
def FA(x:HW):Option (LI×Int):=(Fx x).bind fun d=>cond (!d) (A3 ([],1)) ((Al Mj (x.2.2.2.2.1,(x.2.2.2.2.1.length:Int),0,([],0,()),x,())).bind fun c=>match c with |.inl a=>((Gb a.1).bind fun e=>(Gc e).bind fun g=>(KA (a.2.1,(g.1.length:Int))).bind fun f=>cond (Bp ((A8 f)+(A8 g.1))) ((Gy (A9 f g.1)).bind fun k=>(GV (zD .u64 k,2)).bind fun h=>cond (Bp ((A8 (A9 f g.1))+(A8 h))) (A3 (A9 (A9 f g.1) h,0)) A6) A6) |.inr b=>A3 (b.2.1,b.1))
def a3T:sG:=⟨[.v QZ],[.o QV,.v QI],FA⟩
def H7:sD:=⟨[(122,[.sv 14 (.list false DY),15,16,.box 4 QY,.vp 1 QZ,Qp 4 4],[Qe 0 [.box 4 QY,.vp 1 QZ,Qp 4 4],Qr [3,.own 2 2 QV]])],[],[]⟩
def KB(s:(LI×Int×Int×TI×TI×b5y)):Option ((LI×Int×Int×TI×TI×b5y) ⊕ ((TI×b7l) ⊕ c3i)):=(fun(a:Int)(b c:TI)(d:Z7)=>cond (A4 (a<s.2.1)) ((Az s.1 a).bind fun h=>(CM (h,d.2.2.1)).bind fun g=>cond (!g) (A3 (.inr (B6 (6,(0,([]:(List LI)),()),())))) (cond (d.2.1==0) A6 (cond (A4 (0<=(B8 a d.2.1))&&A4 (B8 a d.2.1<(c.2.1.length:Int))) (cond (Bp ((A8 (B4 c.2.1 (A7 (B8 a d.2.1)) []))+1)) (cond (A4 (0<=(B8 a d.2.1))&&A4 (B8 a d.2.1<((A8 (C2 c.2.1 (A7 (B8 a d.2.1)) (A9 (B4 c.2.1 (A7 (B8 a d.2.1)) []) [h])):Nat):Int))) (cond ((A7 (B8 a d.2.1)==A7 (B8 a d.2.1))&&true) (cond ((A7 (B8 a d.2.1)==A7 (B8 a d.2.1))&&true) (A3 (.inl (s.1,s.2.1,zD .i64 (a+1),b,(c.1,C2 c.2.1 (A7 (B8 a d.2.1)) (A9 (B4 c.2.1 (A7 (B8 a d.2.1)) []) [h]),c.2.2),d,()))) A6) A6) A6) A6) A6))) (A3 (.inr (B7 (b,c,()))))) s.2.2.1 s.2.2.2.1 s.2.2.2.2.1 s.2.2.2.2.2.1
def OH(x:b7k):Option c2F:=(CL x.2).bind fun k=>cond (!k) (A3 ((0,([]:(List LI)),()),1)) (cond ((x.1.length:Int)==0) (A3 ((0,([]:(List LI)),()),7)) (cond (x.2.2.1==0) A6 (cond ((B8 (x.1.length:Int) x.2.2.1) != 0) (A3 ((0,([]:(List LI)),()),3)) (cond (x.2.2.1==0) A6 (cond (A4 ((zD .i64 (C0 (x.1.length:Int) x.2.2.1)) > 4096)) (A3 ((0,([]:(List LI)),()),4)) (cond (A4 (0<=x.2.2.1)&&(A4 (x.2.2.1<=x.2.2.1)&&Bp (A7 x.2.2.1))) ((Al KB (x.1,(x.1.length:Int),0,(0,([]:(List LI)),()),(x.2.2.2.1,B3 (A7 x.2.2.1) [],()),x.2,())).bind fun f=>match f with |.inl g=>A3 (g.2.1,0) |.inr h=>A3 (h.2.1,h.1)) A6))))))
def a1t:sG:=⟨[.v QL,.v HX],[.v Pw,.v QI],OH⟩
def c8M:sD:=⟨[(1018,[.sv 38 QL,39,40,.box 4 Pw,.box 6 (.pair QI Q7),.vp 3 HX,Qp 4 4,Qp 6 6],[Qe 0 [.box 4 Pw,.box 6 (.pair QI Q7),Qp 4 4,Qp 6 6],Qr [5,.box 4 Pw,Qp 4 4]])],[],[(9,[.v,.v,.v,.v,.q,.q,.q,.x]),(16,[.s,.s,.s,.q,.q,.v,.q,.q,.v,.q,.b [6,64,65],.x,.x])]⟩
def Mk(s:(Zz×b9E)):Option ((Zz×b9E) ⊕ (Z1 ⊕ ((List LI)×Int×Unit))):=cond (A4 (s.2.2.1<s.2.1)) ((Az s.1 s.2.2.1).bind fun g=>(LU (s.2.2.2.1,g,1)).bind fun h=>cond (!h.1) (A3 (.inr (B6 (([]:(List LI)),6,())))) (A3 (.inl (s.1,s.2.1,zD .i64 (s.2.2.1+1),h.2,())))) (A3 (.inr (B7 (s.2.2.2.1,()))))
def Rz(x:((List LI)×Zz)):Option ((List LI)×Int):=(show Option ((List LI)×Zz×Bool×Unit)from(Ll x.1).bind fun a=>cond (!a) (A3 (x.1,x.2,true,())) ((MU (x.2,(x.1.length:Int))).bind fun b=>A3 (x.1,x.2,!b,()))).bind fun h=>cond h.2.2.1 (A3 (([]:(List LI)),1)) ((Ka h.1).bind fun c=>(Al Mk (h.2.1,(h.2.1.length:Int),0,c,())).bind fun k=>match k with |.inl f=>A3 (f.1,0) |.inr g=>A3 (g.1,g.2.1))
def b0g:sG:=⟨[.v (.list false QL),.v (.list false HX)],[.v (.list false QL),.v QI],Rz⟩
def c8N:sD:=⟨[(122,[.sv 21 (.list false HX),22,23,.own 6 6 (.list true QI)],[Qe 0 [.own 6 6 (.list true QI)],Qr [.sv 4 (.list false QL),5]])],[(6,[Qn [.sv 0 (.list false QL),.sv 1 (.list false HX),.sv 18 .bool]])],[]⟩
def Jt(s:(Int×LI×b9I)):Option ((Int×LI×b9I) ⊕ b9I):=(fun(a:LI)(b:Int)(c:List LI)(d e:Int)=>cond (A4 (b<(a.length:Int))) ((Az a b).bind fun h=>(Az a (zD .i64 (b-1))).bind fun g=>(Az a (zD .i64 (b-2))).bind fun f=>A3 (.inl (zD .i64 (s.1+(EA (zD .i64 ((zD .i64 (h-(zD .i64 (2*g))))+f)) (zD .i64 (0-(zD .i64 ((zD .i64 (h-(zD .i64 (2*g))))+f)))))),a,zD .i64 (b+1),c,d,e,()))) (A3 (.inr (s.1,c,d,e,())))) s.2.1 s.2.2.1 s.2.2.2.1 s.2.2.2.2.1 s.2.2.2.2.2.1
def Ju(s:b9I):Option (b9I ⊕ (Int×Unit)):=(fun(a b:Int)=>cond (A4 (b<a)) ((Az s.2.1 b).bind fun g=>(Al Jt (s.1,g,2,s.2.1,a,b,())).bind fun h=>A3 (.inl (h.1,h.2.1,h.2.2.1,zD .i64 (h.2.2.2.1+1),()))) (A3 (.inr (s.1,())))) s.2.2.1 s.2.2.2.1
def Ke(x:(List LI)):Option Int:=(Ll x).bind fun g=>cond (!g) (A3 0) ((Al Ju (0,x,(x.length:Int),0,())).bind fun h=>A3 h.1)
def oN:sG:=⟨[.v (.list false QL)],[.v QI],Ke⟩
def c4X:sD:=⟨[(122,[3,.sv 11 (.list false QL),12,13],[Qe 0 [3]]),(31334,[3,.sv 5 QL,6,.sv 11 (.list false QL),12,13],[Qe 2 [3,.sv 11 (.list false QL),12,13]])],[],[(10,[.v,.v,.v,.v,.v,.v,.v,.v,.v,.v,.v,.v,.v,.v,.v,.v,.x,.x])]⟩
def OI(x:Int):Option Zz:=cond (x==1) (A3 ([(0,1,(-256),())]:List Z7)) (cond (x==2) (A3 ([(1,0,(-256),())]:List Z7)) (cond (x==3) (A3 ([(1,0,(-256),()),(0,1,128,())]:List Z7)) (cond (x==4) (A3 ([(1,0,(-106),()),(0,1,181,()),(1,0,(-106),())]:List Z7)) (A3 []))))
def a1u:sG:=⟨[.v QI],[.o HX],OI⟩
def IM(s:((List LI)×Z7)):Option (((List LI)×Z7) ⊕ (Int×Unit)):=(fun(a:List LI)(b c d:Int)=>cond (A4 (d<5)) ((OI d).bind fun f=>(Rz (a,f)).bind fun h=>cond (h.2 != 0) (A3 (.inl (a,b,c,zD .i64 (d+1),()))) ((Ke h.1).bind fun g=>cond (A4 (g<c)) (A3 (.inl (a,d,g,zD .i64 (d+1),()))) (A3 (.inl (a,b,c,zD .i64 (d+1),()))))) (A3 (.inr (b,())))) s.1 s.2.1 s.2.2.1 s.2.2.2.1
def Qj(x:(List LI)):Option Zz:=(Ke x).bind fun g=>(Al IM (x,0,g,1,())).bind fun h=>(OI h.1).bind fun f=>A3 f
def a3U:sG:=⟨[.v (.list false QL)],[.o HX],Qj⟩
def c4Y:sD:=⟨[(58,[.sv 0 (.list false QL),3,4,5],[Qe 0 [3]])],[],[]⟩
def IN(s:(Int×Int×Int×Zz×b2w)):Option ((Int×Int×Int×Zz×b2w) ⊕ (Int×b2w)):=(fun(a b:Int)(c d:Zz)(e:TI)=>cond (A4 (b<s.2.1)) (cond (A4 (0<=b)&&A4 (b<(d.length:Int))) (cond (Bp ((A8 c)+1)) (A3 (.inl (a,s.2.1,zD .i64 (b+1),A9 c ([(zD .i64 (((B4 d (A7 b) (0,0,0,())).1)+a),zD .i64 ((((B4 d (A7 b) (0,0,0,())).2).1)+a),(((B4 d (A7 b) (0,0,0,())).2).2).1,())]:List Z7),d,e,()))) A6) A6) (A3 (.inr (a,c,e,())))) s.1 s.2.2.1 s.2.2.2.1 s.2.2.2.2.1 s.2.2.2.2.2.1
def Ml(s:(Int×b2w)):Option ((Int×b2w) ⊕ (Zz×Unit)):=(fun(a:Int)(b:TI)=>cond (A4 (zD .i64 (a+1)<(b.2.1.length:Int))) (cond (A4 (0<=(zD .i64 (a+2)))&&A4 ((zD .i64 (a+2))<=(b.2.1.length:Int))) (cond (A4 (0<=a)&&A4 (a<=((A7 (zD .i64 (a+2)):Nat):Int))) ((Qj (C1 (A7 a) (B9 (A7 (zD .i64 (a+2))) b.2.1))).bind fun g=>(Al IN (a,(g.length:Int),0,s.2.1,g,b,())).bind fun h=>A3 (.inl (zD .i64 (h.1+2),h.2.1,h.2.2.1,()))) A6) A6) (A3 (.inr (s.2.1,())))) s.1 s.2.2.1
def Lo(x:TI):Option Zz:=(Fu x).bind fun g=>cond (!g) (A3 []) ((Al Ml (0,[],x,())).bind fun h=>A3 h.1)
def a3V:sG:=⟨[.v Pw],[.o HX],Lo⟩
def c8O:sD:=⟨[(122,[4,.own 3 3 HX,.vp 1 Pw],[Qe 0 [.own 3 3 HX]]),(7826,[4,25,26,.own 3 3 HX,.own 24 1024 HX,.vp 1 Pw],[Qe 2 [4,.own 3 3 HX,.vp 1 Pw]])],[],[]⟩
def Jv(s:a5I):Option (a5I ⊕ a6I):=(fun(a:Int)(b:LI)(c d:Int)(e:LI)=>cond (A4 (d<c)) ((Az b d).bind fun g=>(show Option (Int×Int×LI×c2G)from(HP g).bind fun f=>cond (!f) (A3 (a,g,b,c,d,true,e,())) (cond (A4 (a<0)) A6 (cond (AT .i64 1 a==0) A6 (A3 (a,g,b,c,d,(B8 g (AT .i64 1 a)) != 0,e,()))))).bind fun h=>cond h.2.2.2.2.2.1 (A3 (.inr (B6 (6,[],())))) (cond (A4 (h.1<0)) A6 (cond (Bp ((A8 h.2.2.2.2.2.2.1)+1)) (A3 (.inl (h.1,h.2.2.1,h.2.2.2.1,zD .i64 (h.2.2.2.2.1+1),A9 h.2.2.2.2.2.2.1 [AR .i64 h.2.1 h.1],()))) A6))) (A3 (.inr (B7 (e,()))))) s.1 s.2.1 s.2.2.1 s.2.2.2.1 s.2.2.2.2.1
def Kf(x:(LI×Int)):Option (LI×Int):=(show Option b5x from cond (A4 (x.2<0)) (A3 (x.1,x.2,true,())) (A3 (x.1,x.2,A4 (x.2 > 30),()))).bind fun h=>cond h.2.2.1 (A3 ([],1)) ((Al Jv (h.2.1,h.1,(h.1.length:Int),0,[],())).bind fun k=>match k with |.inl f=>A3 (f.1,0) |.inr g=>A3 (g.2.1,g.1))
def oO:sG:=⟨[.v QL,.v QI],[.o QI,.v QI],Kf⟩
def c4Z:sD:=⟨[(122,[1,.sv 15 QL,16,17,.own 6 6 QI],[Qe 0 [.own 6 6 QI],Qr [5,.own 4 4 QI]])],[(6,[Qn [.sv 0 QL,1,.sv 14 .bool]]),(15666,[Qn [1,8,.sv 15 QL,16,17,.sv 30 .bool,.own 6 6 QI]])],[]⟩
def BV(x:Int):Option Int:=cond (x==0) (A3 64) ((Az VV (AR .u64 (zD .u64 ((bits .u64 .and x (zD .u64 (0-x)))*285870213051353865)) 58)).bind fun h=>A3 (zD .i64 h))
def BB:sG:=⟨[.v QU],[.v QI],BV⟩
def Us:Cx:=ZC [] [] 5 0
theorem cQ{Z:Type}{cx:Cx}{ops:List Oper}:∀(l1 l2:List (Md×Oper)) (U:AE) (K:AE->Rs Z),QP cx ops (l1++l2) U K=QP cx ops l1 U fun h=>QP cx ops l2 h K
 | [],_,_,_=>rfl
 |(md,o)::l1,l2,U,K=>by
  simp only[C6,QP];congr 1;funext h;exact cQ l1 l2 h K
theorem ZI{Z:Type}{cx:Cx}{H:sD}{a b:Code}{p:Nat}(h:find H.cuts p=none)(U:AE)(K:Ex->AE->Rs Z):Du cx H (.seq a b) p U K=Du cx H a (2*p) U fun e g=>match e with
   |.normal=>Du cx H b (2*p+1) g K
   |e=>K e g:=by
 simp only[Du,h];rfl
theorem a1v{Z:Type}{cx:Cx}{H:sD}{id:Nat}{ops:Array Oper}{p:Nat}(U:AE)(K:Ex->AE->Rs Z):Du cx H (.region id ops false) p U K=QP cx ops.toList (ops.toList.map fun o=>(.x,o)) U fun h=>K .normal h:=by
 simp only[Du,cF]
def Qk:Code:=match Tryz.f155.body with
 |some c=>c
 |none=>.skip
def b0h:Code->Code
 |.seq a _=>a
 |c=>c
def b5Q:Code->Code
 |.seq _ b=>b
 |c=>c
def b2E:Code->Array Oper
 |.region _ ops _=>ops
 |_=>#[]
def a8C:Code:=b5Q (b5Q Qk)
def WO:List Oper:=(b2E (b0h a8C)).toList
def b2F(x:Int):AE:=(((TM [.v QU] x).set 2 (.val QI (0:Int))).set 3 (.val QU x)).set 4 (.val .bool (x==(0:Int)))
def b7q(x:Int):AE:=(b2F x).set 2 (.val QI (64:Int))
def b2G(e:Ex)(U:AE):Option Int:=match e,U.pd with
  |.exit _,_=>none
  |_,some _=>none
  |_,none=>(U.upto Tryz.f155.ntmps).outs Us [] Tryz.f155.ntmps [.v QI] (Tryz.f155.results.toList.map .inl) fun y _=>some y
def b7r(x a b c i:Int):AE:=((((((b2F x).set 5 (.val QU x)).set 6 (.val QU x)).set 7 (.val QU a)).set 8 (.val QU b)).set 9 (.val QU c)).set 10 (.val QU i)
set_option maxRecDepth 100000
theorem b2H:Qk=.seq (b0h Qk) (.seq (b0h (b5Q Qk)) (.seq (.region 3 (b2E (b0h a8C)) false) .ret)):=by kernel_rfl
theorem b5R(x:Int):Zg Us QH Tryz.f155 BB.ps BB.rs x=Du Us QH Qk 1 (TM [.v (.int .u64)] x) b2G:=rfl
theorem b5S(x:Int)(K:Ex->AE->Option Int):Du Us QH (b0h Qk) 2 (TM [.v (.int .u64)] x) K=K .normal ((TM [.v (.int .u64)] x).set 2 (.val (.int .i64) (0:Int))):=by kernel_rfl
theorem b5T(x:Int)(K:Ex->AE->Option Int):Du Us QH (b0h (b5Q Qk)) 6 ((TM [.v (.int .u64)] x).set 2 (.val (.int .i64) (0:Int))) K=bif x==(0:Int)then K .ret (b7q x)else K .normal (b2F x):=by kernel_rfl
theorem b5U(x:Int):b2G .ret (b7q x)=some (64:Int):=by kernel_rfl
theorem b5V(x:Int)(K:AE->Option Int):QP Us WO ((WO.map fun o=>(Md.x,o)).take 6) (b2F x) K =
  K (b7r x (zD .u64 (0-x)) (bits .u64 .and x (zD .u64 (0-x))) (zD .u64 ((bits .u64 .and x (zD .u64 (0-x)))*(285870213051353865:Int))) (AR .u64 (zD .u64 ((bits .u64 .and x (zD .u64 (0-x)))*(285870213051353865:Int))) (58:Int))):=by kernel_rfl
theorem b5W(x a b c i:Int):QP Us WO ((WO.map fun o=>(Md.x,o)).drop 6) (b7r x a b c i) (fun U=>b2G .ret U)=(Az VV i).bind fun h=>some (zD .i64 h):=by kernel_rfl
theorem b5X(x:Int):QP Us WO (WO.map fun o=>(Md.x,o)) (b2F x) (fun U=>b2G .ret U)=(Az VV (AR .u64 (zD .u64 ((bits .u64 .and x (zD .u64 (0-x)))*(285870213051353865:Int))) (58:Int))).bind fun h=>some (zD .i64 h):=by
 rw[<-List.take_append_drop 6 (WO.map fun o=>(Md.x,o)),cQ,b5V,b5W]
theorem b8s(x:Int):Du Us QH Qk 1 (TM [.v (.int .u64)] x) b2G=BV x:=by
 rw[b2H,ZI rfl,b5S];simp only[];rw[ZI rfl,b5T];simp only[];rw[ZI rfl,a1v];simp only[Du];rw[b5U];exact congrArg (fun z=>bif x==(0:Int)then some (64:Int)else z) (b5X x)
theorem b9Y(x):Zg Us QH Tryz.f155 BB.ps BB.rs x=BB.F x:=(b5R x).trans (b8s x)
def Hk(s:Zb):Option b8k:=(fun(a b:Int)=>cond (A4 (b<a)) ((Az s.2.1 b).bind fun h=>A3 (.inl (bits .i64 .or s.1 h,s.2.1,a,zD .i64 (b+1),()))) (A3 (.inr (s.1,())))) s.2.2.1 s.2.2.2.1
def Fg(x:LI):Option Int:=(Al Hk (0,x,(x.length:Int),0,())).bind fun h=>cond (h.1==0) (A3 0) ((BV (zD .u64 h.1)).bind fun g=>A3 (GZ g 30))
def fA:sG:=⟨[.v QL],[.v QI],Fg⟩
def c5a:sD:=⟨[(58,[3,.sv 6 QL,7,8],[Qe 0 [3]])],[],[]⟩
def HB(s:b9o):Option (b9o ⊕ a5H):=(fun(a b:Int)(c:LI)=>cond (A4 (zD .i64 (a+1)<(c.length:Int))) (cond (A4 (0<=(zD .i64 (a+1)))&&A4 (zD .i64 (a+1)<(c.length:Int))) (cond (A4 (0<=a)&&A4 (a<(c.length:Int))) (cond (A4 (0<=a)&&A4 (a<(c.length:Int))) (A3 (.inl (zD .i64 (a+1),s.2.1,b,C2 c (A7 a) (zD .i64 ((B4 c (A7 (zD .i64 (a+1))) 0)-(B4 c (A7 a) 0))),()))) A6) A6) A6) (A3 (.inr (s.2.1,b,c,())))) s.1 s.2.2.1 s.2.2.2.1
def KC(s:a5H):Option (a5H ⊕ (LI×Unit)):=cond (A4 (s.2.1<s.1)) ((Al HB (0,s.1,s.2.1,s.2.2.1,())).bind fun h=>cond (A4 (0<=(zD .i64 ((h.2.2.1.length:Int)-1)))&&A4 ((zD .i64 ((h.2.2.1.length:Int)-1))<=(h.2.2.1.length:Int))) (cond (A4 ((A7 (zD .i64 ((h.2.2.1.length:Int)-1)))<=(A8 h.2.2.1))) (A3 (.inl (h.1,zD .i64 (h.2.1+1),B9 (A7 (zD .i64 ((h.2.2.1.length:Int)-1))) h.2.2.1,()))) A6) A6) (A3 (.inr (s.2.2.1,())))
def Hl(x:(LI×Int)):Option (LI×Int):=(show Option b5x from cond (A4 (x.2<0)) (A3 (x.1,x.2,true,())) (cond (A4 (x.2 > 4)) (A3 (x.1,x.2,true,())) (A3 (x.1,x.2,A4 ((x.1.length:Int)<x.2),())))).bind fun h=>cond h.2.2.1 (A3 ([],1)) ((Eh h.1).bind fun f=>cond (!f) (A3 ([],6)) (cond (Bp (A8 h.1)) ((Al KC (h.2.1,0,h.1,())).bind fun g=>(Eh g.1).bind fun k=>cond (!k) (A3 ([],6)) (A3 (g.1,0))) A6))
def a1w:sG:=⟨[.v QL,.v QI],[.o QI,.v QI],Hl⟩
def c5b:sD:=⟨[(250,[25,26,.own 6 6 QI],[Qe 0 [.own 6 6 QI]]),(64098,[7,25,26,.own 6 6 QI],[Qe 2 [25,26,.own 6 6 QI]])],[(6,[Qn [.sv 0 QL,1,.sv 19 .bool]])],[(11,[.q,.v,.q,.v,.v,.q,.q,.q,.v,.q,.q,.v,.x,.x])]⟩
def GD(s:b4P):Option (b4P ⊕ (Int×Unit)):=(fun(a:Int)(b:LI)(c d:Int)=>cond (A4 (d<c)) ((Az b d).bind fun h=>cond (A4 ((zD .i64 (d+s.1))>=4)) (A3 (.inl (s.1,zD .i64 (a+(EA h (zD .i64 (0-h)))),b,c,zD .i64 (d+1),()))) (A3 (.inl (s.1,a,b,c,zD .i64 (d+1),())))) (A3 (.inr (a,())))) s.2.1 s.2.2.1 s.2.2.2.1 s.2.2.2.2.1
def Nj(x:(LI×Int)):Option Int:=(Al GD (x.2,0,x.1,(x.1.length:Int),0,())).bind fun h=>A3 h.1
def oP:sG:=⟨[.v QL,.v QI],[.v QI],Nj⟩
def c5c:sD:=⟨[(58,[1,5,.sv 8 QL,9,10],[Qe 0 [5]])],[],[]⟩
def Fh(s:b7k):Option (b7k ⊕ (Int×Unit)):=(fun(a:LI)(b c d:Int)=>cond (A4 (d<=4)) ((Hl (a,d)).bind fun f=>cond (f.2 != 0) (A3 (.inl (a,b,c,zD .i64 (d+1),()))) ((Nj (f.1,d)).bind fun g=>(show Option (LI×Int×b9n)from cond (A4 (c<0)) (A3 (a,b,c,d,g,true,())) (A3 (a,b,c,d,g,A4 (g<c),()))).bind fun h=>cond h.2.2.2.2.2.1 (A3 (.inl (h.1,h.2.2.2.1,h.2.2.2.2.1,zD .i64 (h.2.2.2.1+1),()))) (A3 (.inl (h.1,h.2.1,h.2.2.1,zD .i64 (h.2.2.2.1+1),()))))) (A3 (.inr (b,())))) s.1 s.2.1 s.2.2.1 s.2.2.2.1
def Jw(x:LI):Option Int:=(Al Fh (x,0,(-1),0,())).bind fun h=>A3 h.1
def a1x:sG:=⟨[.v QL],[.v QI],Jw⟩
def c5d:sD:=⟨[(58,[.sv 0 QL,3,4,5],[Qe 0 [3]])],[(7463,[Qn [.sv 0 QL,3,4,5,8,.sv 30 .bool]])],[]⟩
def DB(x:Int):Option Int:=some (GZ (EA x (-1048576)) 1048575)
def jS:sG:=⟨[.v QI],[.v QI],DB⟩
def EN(s:c2T):Option (c2T ⊕ b7m):=(fun(a b:Int)(c:LI)(d e:Int)=>cond (A4 (a<0)) A6 ((DB (AR .i64 b a)).bind fun h=>cond (A4 (a<0)) A6 (cond (h != (AR .i64 b a)) (A3 (.inl (s.1,zD .i64 (a+1),b,c,d,e,()))) (A3 (.inr (s.1,a,c,d,e,())))))) s.2.1 s.2.2.1 s.2.2.2.1 s.2.2.2.2.1 s.2.2.2.2.2.1
def Hm(s:b7m):Option (b7m ⊕ Z6):=(fun(a:LI)(b c:Int)=>cond (A4 (c<b)) ((Az a c).bind fun g=>(Al EN (s.1,s.2.1,g,a,b,c,())).bind fun h=>A3 (.inl (h.1,h.2.1,h.2.2.1,h.2.2.2.1,zD .i64 (h.2.2.2.2.1+1),()))) (A3 (.inr (s.1,s.2.1,())))) s.2.2.1 s.2.2.2.1 s.2.2.2.2.1
def Hn(s:a5I):Option (a5I ⊕ (LI×Unit)):=(fun(a b:Int)(c:LI)=>cond (A4 (b<a)) ((Az s.2.1 b).bind fun h=>cond (A4 (s.1<0)) A6 (cond (A4 (0<=b)&&A4 (b<(c.length:Int))) (A3 (.inl (s.1,s.2.1,a,zD .i64 (b+1),C2 c (A7 b) (AR .i64 h s.1),()))) A6)) (A3 (.inr (c,())))) s.2.2.1 s.2.2.2.1 s.2.2.2.2.1
def KD(x:LI):Option LI:=(Al Hm (x,0,x,(x.length:Int),0,())).bind fun h=>cond (A4 (0<=(h.1.length:Int))&&(A4 ((h.1.length:Int)<=(h.1.length:Int))&&Bp (A7 (h.1.length:Int)))) ((Al Hn (h.2.1,h.1,(h.1.length:Int),0,B3 (A7 (h.1.length:Int)) 0,())).bind fun g=>A3 g.1) A6
def fB:sG:=⟨[.v QL],[.o QI],KD⟩
def c5e:sD:=⟨[(58,[.sv 0 QL,3,.sv 9 QL,10,11],[Qe 0 [.sv 0 QL,3]]),(250,[3,.sv 29 QL,30,31,.own 6 6 QI],[Qe 4 [.own 6 6 QI]]),(7474,[.sv 0 QL,3,5,.sv 9 QL,10,11],[Qe 2 [.sv 0 QL,3,.sv 9 QL,10,11]])],[],[(5,[.v,.v,.v,.v,.v,.v,.v,.x])]⟩
def En(s:b9L):Option (b9L ⊕ (Int×Int×Unit)):=(fun(a b:LI)(c d e:Int)=>cond (A4 (e<(a.length:Int))) ((Az a e).bind fun h=>(Az b (zD .i64 (e-1))).bind fun g=>(Az a e).bind fun f=>(Az a e).bind fun k=>(Az b (zD .i64 (e-1))).bind fun i=>(Az b (zD .i64 (e-1))).bind fun j=>A3 (.inl (a,b,zD .i64 (c+(zD .i64 (h*g))),zD .i64 (d+(zD .i64 ((zD .i64 (f*k))+(zD .i64 (i*j))))),zD .i64 (e+1),()))) (A3 (.inr (c,d,())))) s.1 s.2.1 s.2.2.1 s.2.2.2.1 s.2.2.2.2.1
def Eo(s:(Int×Int×Unit)):Option ((Int×Int×Unit) ⊕ (Int×Int×Unit)):=cond (A4 (s.2.1>=1099511627776)) (A3 (.inl (AR .i64 s.1 1,AR .i64 s.2.1 1,()))) (A3 (.inr (s.1,s.2.1,())))
def Gd(x:b7i):Option Int:=(Al En (x.1,x.2.1,0,0,x.2.2,())).bind fun g=>(Al Eo (g.1,g.2.1,())).bind fun h=>cond (h.2.1==0) (A3 0) (cond (h.2.1==0) A6 ((show Option (Int×Unit)from cond (h.2.1==0) A6 (cond (A4 (B8 (AT .i64 h.1 15) h.2.1<0)) (A3 (zD .i64 ((zD .i64 (C0 (AT .i64 h.1 15) h.2.1))-1),())) (A3 (zD .i64 (C0 (AT .i64 h.1 15) h.2.1),())))).bind fun f=>A3 (GZ (EA f.1 (-16383)) 16383)))
def VN:sG:=⟨[.v QL,.v QL,.v QI],[.v QI],Gd⟩
def c5f:sD:=⟨[(58,[.sv 0 QL,.sv 1 QL,7,8,9],[Qe 0 [7,8]]),(60,[7,8],[Qe 2 [7,8]])],[(255,[Qn [10]])],[(5,[.v,.v,.v,.v,.v,.v,.v,.v,.v,.v,.v,.x,.x]),(6,[.v,.v,.v,.v,.v,.v,.v,.v,.v,.v,.v,.v,.v,.v,.v,.v,.v,.v,.v,.v,.v,.v,.x,.x])]⟩
def Ed(s:(Int×Int×b9N)):Option ((Int×Int×b9N) ⊕ b9N):=(fun(a b c:Int)(d e f:LI)=>cond (A4 (c>=a)) (cond (A4 (0<=c)&&A4 (c<(d.length:Int))) (cond (A4 (0<=(zD .i64 (c-1)))&&A4 (zD .i64 (c-1)<(e.length:Int))) ((DB (zD .i64 ((B4 d (A7 c) 0)-(AR .i64 (zD .i64 (b*(B4 e (A7 (zD .i64 (c-1))) 0))) 14)))).bind fun h=>cond (A4 (0<=c)&&A4 (c<(d.length:Int))) ((DB (zD .i64 ((B4 e (A7 (zD .i64 (c-1))) 0)-(AR .i64 (zD .i64 (b*(B4 d (A7 c) 0))) 14)))).bind fun g=>cond (A4 (0<=c)&&A4 (c<(e.length:Int))) (A3 (.inl (s.1,a,b,zD .i64 (c-1),C2 d (A7 c) h,C2 e (A7 c) g,f,()))) A6) A6) A6) A6) (A3 (.inr (s.1,a,d,e,f,())))) s.2.1 s.2.2.1 s.2.2.2.1 s.2.2.2.2.1 s.2.2.2.2.2.1 s.2.2.2.2.2.2.1
def Ee(s:b9N):Option (b9N ⊕ (LI×Unit)):=(fun(a:Int)(b c d:LI)=>cond (A4 (a<=s.1)) ((Gd (b,c,a)).bind fun g=>cond (Bp ((A8 d)+1)) ((Al Ed (s.1,a,g,zD .i64 ((b.length:Int)-1),b,c,A9 d [g],())).bind fun h=>A3 (.inl (h.1,zD .i64 (h.2.1+1),h.2.2.1,h.2.2.2.1,h.2.2.2.2.1,()))) A6) (A3 (.inr (d,())))) s.2.1 s.2.2.1 s.2.2.2.1 s.2.2.2.2.1
def Jy(x:(LI×Int)):Option (LI×Int):=(show Option b5x from cond (A4 (x.2<1)) (A3 (x.1,x.2,true,())) (cond (A4 (x.2 > 32)) (A3 (x.1,x.2,true,())) (A3 (x.1,x.2,A4 ((x.1.length:Int) > 4096),())))).bind fun h=>cond h.2.2.1 (A3 ([],1)) ((Dq h.1).bind fun k=>cond (!k) (A3 ([],6)) ((KD h.1).bind fun g=>(Bi g).bind fun a=>cond (A4 (0<=h.2.1)&&Bp (A7 h.2.1)) ((Al Ee (h.2.1,1,g,a,[],())).bind fun f=>A3 (f.1,0)) A6))
def ZJ:sG:=⟨[.v QL,.v QI],[.o QI,.v QI],Jy⟩
def c5g:sD:=⟨[(1018,[1,9,.own 6 6 QI,.own 7 7 QI,.own 8 8 QI],[Qe 0 [.own 8 8 QI]]),(260686,[1,9,10,11,.own 6 6 QI,.own 7 7 QI,.own 8 8 QI],[Qe 2 [1,9,.own 6 6 QI,.own 7 7 QI,.own 8 8 QI]])],[(6,[Qn [.sv 0 QL,1,.sv 24 .bool]])],[(16,[.q,.v,.q,.q,.q,.v,.v,.q,.q,.v,.x])]⟩
def CV(s:b9H):Option (b9H ⊕ ((LI×Unit) ⊕ Z6)):=(fun(a:LI)(b c:Int)=>cond (A4 (c<b)) ((Az a c).bind fun g=>(show Option (LI×b4N)from cond (A4 (g<(-16383))) (A3 (s.1,a,b,c,true,())) (A3 (s.1,a,b,c,A4 (g > 16383),()))).bind fun h=>cond h.2.2.2.2.1 (A3 (.inr (B6 ([],1,())))) (A3 (.inl (h.1,h.2.1,h.2.2.1,zD .i64 (h.2.2.2.1+1),())))) (A3 (.inr (B7 (s.1,()))))) s.2.1 s.2.2.1 s.2.2.2.1
def FB(s:(LI×Int×Int×LI×b8l)):Option ((LI×Int×Int×LI×b8l) ⊕ a5I):=(fun(a:Int)(b:LI)(c d:Int)(e:LI)(f g:Int)(h:LI)=>cond (A4 (g<f)) ((Az e g).bind fun k=>(Az s.1 (zD .i64 ((zD .i64 (s.2.1-1))-g))).bind fun i=>cond (Bp ((A8 h)+1)) (A3 (.inl (s.1,s.2.1,a,b,c,d,e,f,zD .i64 (g+1),A9 h [zD .i64 (k-(AR .i64 (zD .i64 (a*i)) 14))],()))) A6) (A3 (.inr (a,b,c,d,h,())))) s.2.2.1 s.2.2.2.1 s.2.2.2.2.1 s.2.2.2.2.2.1 s.2.2.2.2.2.2.1 s.2.2.2.2.2.2.2.1 s.2.2.2.2.2.2.2.2.1 s.2.2.2.2.2.2.2.2.2.1
def Iq(s:b9H):Option (b9H ⊕ (LI×Unit)):=(fun(a:LI)(b c:Int)=>cond (A4 (c<b)) ((Az s.2.1 c).bind fun g=>cond (A4 (0<=(zD .i64 (c+1)))&&Bp (A7 (zD .i64 (c+1)))) ((Al FB (a,c,g,s.2.1,b,c,a,(a.length:Int),0,[],())).bind fun h=>cond (Bp ((A8 h.2.2.2.2.1)+1)) (A3 (.inl (A9 h.2.2.2.2.1 [h.1],h.2.1,h.2.2.1,zD .i64 (h.2.2.2.1+1),()))) A6) A6) (A3 (.inr (a,())))) s.1 s.2.2.1 s.2.2.2.1
def Mm(x:LI):Option (LI×Int):=(show Option (LI×Bool×Unit)from cond (A4 ((x.length:Int)<1)) (A3 (x,true,())) (A3 (x,A4 ((x.length:Int) > 32),()))).bind fun h=>cond h.2.1 (A3 ([],1)) ((Al CV (h.1,h.1,(h.1.length:Int),0,())).bind fun a=>match a with |.inl f=>((Al Iq ([],f.1,(f.1.length:Int),0,())).bind fun g=>A3 (g.1,0)) |.inr k=>A3 (k.1,k.2.1))
def jT:sG:=⟨[.v QL],[.v QL,.v QI],Mm⟩
def c5h:sD:=⟨[(58,[.sv 0 QL,.sv 20 QL,21,22],[Qe 0 [.sv 0 QL],Qr [.sv 2 QL,3]]),(250,[.sv 6 QL,.sv 34 QL,35,36],[Qe 2 [.sv 6 QL]]),(256410,[.sv 6 QL,7,8,.sv 34 QL,35,36,.sv 44 QL,45,46,.own 9 9 QI],[Qe 4 [8,.sv 34 QL,35,36,.own 9 9 QI]])],[(6,[Qn [.sv 0 QL,.sv 19 .bool]]),(3737,[Qn [.sv 0 QL,.sv 20 QL,21,22,.sv 31 .bool]])],[]⟩
def CW(s:b7m):Option (b7m ⊕ (Z6 ⊕ a5H)):=(fun(a:Int)(b:LI)(c d:Int)=>cond (A4 (d<c)) ((Az b d).bind fun g=>(show Option (LI×Int×b4N)from cond (A4 (g<(-35184372088832))) (A3 (s.1,a,b,c,d,true,())) (A3 (s.1,a,b,c,d,A4 (g > 35184372088832),()))).bind fun h=>cond h.2.2.2.2.2.1 (A3 (.inr (B6 (0,1,[],())))) (A3 (.inl (h.1,h.2.1,h.2.2.1,h.2.2.2.1,zD .i64 (h.2.2.2.2.1+1),())))) (A3 (.inr (B7 (s.1,a,()))))) s.2.1 s.2.2.1 s.2.2.2.1 s.2.2.2.2.1
def CX(s:(LI×Int×b8l)):Option ((LI×Int×b8l) ⊕ b4O):=(fun(a b c:Int)(d:LI)(e f:Int)(g:LI)=>cond (A4 (f<e)) ((Az d f).bind fun h=>cond (A4 (b<0)) A6 ((CM (AR .i64 (zD .i64 (h+c)) b,a)).bind fun k=>cond (!k) (A3 (.inr (s.1,a,b,g,()))) (cond (Bp ((A8 g)+1)) (A3 (.inl (s.1,a,b,c,d,e,zD .i64 (f+1),A9 g [AR .i64 (zD .i64 (h+c)) b],()))) A6))) (A3 (.inr (s.1,a,b,g,())))) s.2.1 s.2.2.1 s.2.2.2.1 s.2.2.2.2.1 s.2.2.2.2.2.1 s.2.2.2.2.2.2.1 s.2.2.2.2.2.2.2.1
def DO(s:MF):Option (MF ⊕ (Unit ⊕ a5H)):=(fun(a:Int)=>cond (A4 (a<=14)) ((show Option b7k from cond (A4 (a > 0)) (cond (A4 (zD .i64 (a-1)<0)) A6 (A3 (s.1,s.2.1,a,AT .i64 1 (zD .i64 (a-1)),()))) (A3 (s.1,s.2.1,a,0,()))).bind fun g=>cond (A4 (0<=(g.1.length:Int))&&Bp (A7 (g.1.length:Int))) ((Al CX (g.1,g.2.1,g.2.2.1,g.2.2.2.1,g.1,(g.1.length:Int),0,[],())).bind fun h=>cond ((h.2.2.2.1.length:Int)==(h.1.length:Int)) (A3 (.inr (B6 (zD .i64 (14-h.2.2.1),0,h.2.2.2.1,())))) (A3 (.inl (h.1,h.2.1,zD .i64 (h.2.2.1+1),())))) A6) (A3 (.inr (B7 ())))) s.2.2.1
def Mn(x:(LI×Int)):Option Z3:=(show Option b5x from cond (A4 ((x.1.length:Int)<1)) (A3 (x.1,x.2,true,())) (cond (A4 ((x.1.length:Int) > 32)) (A3 (x.1,x.2,true,())) (cond (A4 (x.2<2)) (A3 (x.1,x.2,true,())) (A3 (x.1,x.2,A4 (x.2 > 16),()))))).bind fun g=>cond g.2.2.1 (A3 ([],0,1)) ((Al CW (g.1,g.2.1,g.1,(g.1.length:Int),0,())).bind fun c=>match c with |.inl a=>((Al DO (a.1,a.2.1,0,())).bind fun k=>match k with |.inl b=>A3 ([],0,6) |.inr h=>A3 (h.2.2.1,h.1,h.2.1)) |.inr f=>A3 (f.2.2.1,f.1,f.2.1))
def jU:sG:=⟨[.v QL,.v QI],[.o QI,.v QI,.v QI],Mn⟩
def c5i:sD:=⟨[(58,[.sv 0 QL,1,.sv 31 QL,32,33],[Qe 0 [.sv 0 QL,1],Qr [5,6,.own 4 4 QI]]),(122,[.sv 0 QL,1,9],[Qe 2 [],Qr [5,6,.own 4 11 QI]]),(125242,[.sv 0 QL,1,9,10,.sv 56 QL,57,58,.own 11 11 QI],[Qe 4 [.sv 0 QL,1,9,.own 11 11 QI]])],[(6,[Qn [.sv 0 QL,1,.sv 30 .bool]]),(3737,[Qn [.sv 0 QL,1,.sv 31 QL,32,33,.sv 42 .bool]]),(3913,[Qn [.sv 0 QL,1,9,10]])],[]⟩
def FR(x:Z3):Option Z3:=(Jy (x.1,x.2.1)).bind fun h=>cond (h.2 != 0) (A3 ([],0,h.2)) ((Mm h.1).bind fun g=>cond (g.2 != 0) (A3 ([],0,g.2)) ((Mn (g.1,x.2.2)).bind fun f=>A3 (f.1,f.2.1,f.2.2)))
def oQ:sG:=⟨[.v QL,.v QI,.v QI],[.o QI,.v QI,.v QI],FR⟩
def jV(s:(LI×c3k)):Option ((LI×c3k) ⊕ (LI×c2L)):=(fun(a:LI)(b c d e f g:Int)=>cond (A4 (g<(a.length:Int))) ((Az a g).bind fun h=>(Az a (zD .i64 (g-e))).bind fun k=>A3 (.inl (a,s.2.1,b,c,d,e,zD .i64 (f+(EA (zD .i64 (h-k)) (zD .i64 (0-(zD .i64 (h-k)))))),zD .i64 (g+1),()))) (A3 (.inr (a,s.2.1,b,c,d,e,f,())))) s.1 s.2.2.1 s.2.2.2.1 s.2.2.2.2.1 s.2.2.2.2.2.1 s.2.2.2.2.2.2.1 s.2.2.2.2.2.2.2.1
def jW(s:(LI×c3f)):Option ((LI×c3f) ⊕ (Int×Unit)):=(fun(a b c:Int)=>cond (A4 (c<=a)) ((Al jV (s.1,s.2.1,a,b,s.2.2.2.2.1,c,0,a,())).bind fun h=>(show Option (LI×Int×Int×Int×b9n)from cond (h.2.2.2.2.2.1==h.2.1) (A3 (h.1,h.2.1,h.2.2.1,h.2.2.2.1,h.2.2.2.2.1,h.2.2.2.2.2.1,h.2.2.2.2.2.2.1,true,())) (A3 (h.1,h.2.1,h.2.2.1,h.2.2.2.1,h.2.2.2.2.1,h.2.2.2.2.2.1,h.2.2.2.2.2.2.1,A4 (h.2.2.2.2.2.2.1<h.2.2.2.2.1),()))).bind fun g=>cond g.2.2.2.2.2.2.2.1 (A3 (.inl (g.1,g.2.1,g.2.2.1,g.2.2.2.2.2.1,g.2.2.2.2.2.2.1,zD .i64 (g.2.2.2.2.2.1+1),()))) (A3 (.inl (g.1,g.2.1,g.2.2.1,g.2.2.2.1,g.2.2.2.2.1,zD .i64 (g.2.2.2.2.2.1+1),())))) (A3 (.inr (b,())))) s.2.2.1 s.2.2.2.1 s.2.2.2.2.2.1
def Ql(x:Z3):Option (Int×Int):=(show Option b4N from cond (A4 (x.2.1<2)) (A3 (x.1,x.2.1,x.2.2,true,())) (cond (A4 (x.2.1 > x.2.2)) (A3 (x.1,x.2.1,x.2.2,true,())) (cond (A4 (x.2.2 > 1024)) (A3 (x.1,x.2.1,x.2.2,true,())) (A3 (x.1,x.2.1,x.2.2,A4 ((x.1.length:Int) > 4096),()))))).bind fun h=>cond h.2.2.2.1 (A3 (0,1)) (cond (A4 ((h.1.length:Int)<=h.2.2.1)) (A3 (0,7)) ((Gs h.1).bind fun f=>cond (!f) (A3 (0,6)) ((Al jW (h.1,h.2.1,h.2.2.1,0,0,h.2.1,())).bind fun g=>A3 (g.1,0))))
def a3W:sG:=⟨[.v QL,.v QI,.v QI],[.v QI,.v QI],Ql⟩
def c5j:sD:=⟨[(506,[.sv 0 QL,1,2,8,9,10],[Qe 0 [8]]),(129610,[.sv 0 QL,1,2,8,9,10,11,12],[Qe 2 [.sv 0 QL,1,2,8,9,10,11]])],[(6,[Qn [.sv 0 QL,1,2,.sv 29 .bool]]),(32403,[Qn [.sv 0 QL,1,2,8,9,10,11,.sv 74 .bool]])],[(15,[.v,.v,.v,.v,.v,.v,.v,.v,.v,.v,.x,.x])]⟩
def IP(s:(LI×b5A)):Option ((LI×b5A) ⊕ a6I):=(fun(a:LI)(b c:Int)(d e:LI)=>cond (A4 (c<b)) ((Az a c).bind fun h=>(Gu (s.1,c,s.2.1,e)).bind fun g=>(Lj (zD .i64 (h-g))).bind fun f=>cond (!f) (A3 (.inr (B6 (6,[],())))) (cond (Bp ((A8 d)+1)) (A3 (.inl (s.1,s.2.1,a,b,zD .i64 (c+1),A9 d [zD .i64 (h-g)],e,()))) A6)) (A3 (.inr (B7 (d,()))))) s.2.2.1 s.2.2.2.1 s.2.2.2.2.1 s.2.2.2.2.2.1 s.2.2.2.2.2.2.1
def NK(x:c2D):Option (LI×Int):=(MV (x.2.1,x.2.2)).bind fun k=>cond (!k) (A3 ([],1)) ((Gs x.1).bind fun a=>cond (!a) (A3 ([],6)) (cond (A4 (0<=(x.1.length:Int))&&Bp (A7 (x.1.length:Int))) ((Al IP (x.1,x.2.1,x.1,(x.1.length:Int),0,[],x.2.2,())).bind fun f=>match f with |.inl g=>A3 (g.1,0) |.inr h=>A3 (h.2.1,h.1)) A6))
def cR:sG:=⟨[.v QL,.v QI,.v (.arr 3 QI)],[.o QI,.v QI],NK⟩
def c5k:sD:=⟨[(250,[.sv 0 QL,1,.sv 22 QL,23,24,.own 8 8 QI,.vp 5 (.arr 3 QI)],[Qe 0 [.own 8 8 QI],Qr [7,.own 6 6 QI]])],[],[]⟩
def a1y(x:Unit):Option (List LI):=Zg (ZC [] [] 1 0) QH Tryz.f230 [] [.o (.arr 3 (.int .i64))] x
def XZ:sG:=⟨[],[.o (.arr 3 QI)],a1y⟩
def b9Z:sD:=⟨[(122,[.sv 0 QL,1,7,.sv 8 .bool,25,26,.own 24 1024 (.arr 3 QI),.box 4 (.arr 3 QI),.box 6 (.arr 3 QI),Qp 4 4,Qp 6 6],[Qe 0 [.sv 8 .bool,.box 4 (.arr 3 QI),.box 6 (.arr 3 QI),Qp 4 4,Qp 6 6]]),(501370,[.sv 0 QL,1,7,.sv 8 .bool,13,25,26,40,41,.own 24 1024 (.arr 3 QI),.own 39 11 QI,.box 4 (.arr 3 QI),.box 6 (.arr 3 QI),.box 10 (.arr 3 QI),Qp 4 4,Qp 6 6,Qp 10 10],[Qe 2 [.sv 0 QL,1,7,.sv 8 .bool,13,25,26,.own 24 1024 (.arr 3 QI),.box 4 (.arr 3 QI),.box 6 (.arr 3 QI),.box 10 (.arr 3 QI),Qp 4 4,Qp 6 6,Qp 10 10]])],[(6,[Qn [.sv 0 QL,1,.sv 21 .bool,.box 4 (.arr 3 QI),Qp 4 4]]),(125343,[Qn [.sv 0 QL,1,7,.sv 8 .bool,13,25,26,.sv 58 .bool,.own 24 1024 (.arr 3 QI),.box 4 (.arr 3 QI),.box 6 (.arr 3 QI),.box 10 (.arr 3 QI),Qp 4 4,Qp 6 6,Qp 10 10]])],[]⟩
def cU(x:(LI×Int)):Option (LI×Int):=Zg (ZC [(197,cR),(230,XZ)] [] 47523 0) b9Z Tryz.f196 [.v (.list false (.int .i64)),.v (.int .i64)] [.v (.arr 3 (.int .i64)),.v (.int .i64)] x
def a3X:sG:=⟨[.v QL,.v QI],[.v (.arr 3 QI),.v QI],cU⟩
def FC(x:LI):Option (DU×Bool):=(Ql (x,16,256)).bind fun h=>cond (h.2 != 0) (A3 ((0,0,0,0,0,[],B3 3 0,[],[],(0,[],()),[],()),false)) ((cU (x,h.1)).bind fun g=>cond (g.2 != 0) (A3 ((0,0,0,0,0,[],B3 3 0,[],[],(0,[],()),[],()),false)) ((NK (x,h.1,g.1)).bind fun k=>cond (k.2 != 0) (A3 ((0,0,0,0,0,[],B3 3 0,[],[],(0,[],()),[],()),false)) ((FR (k.1,4,12)).bind fun f=>cond (f.2.2 != 0) (A3 ((0,0,0,0,0,[],B3 3 0,[],[],(0,[],()),[],()),false)) (A3 ((4,0,0,f.2.1,h.1,f.1,g.1,[],[],(0,[],()),[],()),true)))))
def a1z:sG:=⟨[.v QL],[.v DY,.v .bool],FC⟩
def AD(x:(Int×Int×LI×ZA)):Option (LI×ZA):=(FR (x.2.2.1,x.1,x.2.1)).bind fun h=>cond (h.2.2==0) (cond (Bp ((A8 x.2.2.2)+1)) (A3 (x.2.2.1,A9 x.2.2.2 ([(3,0,0,h.2.1,0,h.1,B3 3 0,[],[],(0,[],()),[],())]:List DU))) A6) (A3 (x.2.2.1,x.2.2.2))
def WP:sG:=⟨[.v QI,.v QI,.r false (.b QL),.r false (.b (.list true DY))],[],AD⟩
def Db(s:(Int×b5I)):Option ((Int×b5I) ⊕ b5I):=cond (A4 (s.1<5)) (cond (Bp ((A8 s.2.1)+1)) (A3 (.inl (zD .i64 (s.1+1),A9 s.2.1 ([(2,0,s.1,0,0,[],B3 3 0,[],[],(0,[],()),[],())]:List DU),s.2.2.1,()))) A6) (A3 (.inr (s.2.1,s.2.2.1,())))
def Jz(x:(LI×Int)):Option ZA:=(Jw x.1).bind fun c=>(show Option (Int×LI×b8o)from cond (A4 (x.2>=1)) ((AD (4,12,x.1,([(0,0,0,0,0,[],B3 3 0,[],[],(0,[],()),[],()),(1,0,0,0,0,[],B3 3 0,[],[],(0,[],()),[],()),(2,0,c,0,0,[],B3 3 0,[],[],(0,[],()),[],())]:List DU))).bind fun d=>(AD (8,12,d.1,d.2)).bind fun e=>A3 (x.2,e.1,e.2,())) (A3 (x.2,x.1,([(0,0,0,0,0,[],B3 3 0,[],[],(0,[],()),[],()),(1,0,0,0,0,[],B3 3 0,[],[],(0,[],()),[],()),(2,0,c,0,0,[],B3 3 0,[],[],(0,[],()),[],())]:List DU),()))).bind fun h=>(show Option (Int×b5I)from cond (A4 (h.1>=2)) (cond (Bp ((A8 h.2.2.1)+1)) (cond (Bp ((A8 (A9 h.2.2.1 ([(5,0,0,0,0,[],B3 3 0,([(16,4,())]:List (Int×Int×Unit)),[],(0,[],()),[],())]:List DU)))+1)) ((FC h.2.1).bind fun i=>cond i.2 (cond (Bp ((A8 (A9 (A9 h.2.2.1 ([(5,0,0,0,0,[],B3 3 0,([(16,4,())]:List (Int×Int×Unit)),[],(0,[],()),[],())]:List DU)) ([(5,0,0,0,0,[],B3 3 0,([(32,3,()),(16,5,())]:List (Int×Int×Unit)),[],(0,[],()),[],())]:List DU)))+1)) (A3 (h.1,A9 (A9 (A9 h.2.2.1 ([(5,0,0,0,0,[],B3 3 0,([(16,4,())]:List (Int×Int×Unit)),[],(0,[],()),[],())]:List DU)) ([(5,0,0,0,0,[],B3 3 0,([(32,3,()),(16,5,())]:List (Int×Int×Unit)),[],(0,[],()),[],())]:List DU)) ([i.1]:List DU),h.2.1,())) A6) (A3 (h.1,A9 (A9 h.2.2.1 ([(5,0,0,0,0,[],B3 3 0,([(16,4,())]:List (Int×Int×Unit)),[],(0,[],()),[],())]:List DU)) ([(5,0,0,0,0,[],B3 3 0,([(32,3,()),(16,5,())]:List (Int×Int×Unit)),[],(0,[],()),[],())]:List DU),h.2.1,()))) A6) A6) (A3 (h.1,h.2.2.1,h.2.1,()))).bind fun f=>(show Option b8o from cond (A4 (f.1>=3)) ((Al Db (0,f.2.1,f.2.2.1,())).bind fun b=>(AD (1,12,b.2.1,b.1)).bind fun j=>(AD (2,12,j.1,j.2)).bind fun l=>(AD (12,14,l.1,l.2)).bind fun g=>(AD (16,14,g.1,g.2)).bind fun k=>A3 (k.2,())) (A3 (f.2.1,()))).bind fun a=>A3 a.1
def ZK:sG:=⟨[.v QL,.v QI],[.v (.list false DY)],Jz⟩
def c5l:sD:=⟨[(4050,[50,.box 5 (.list true DY),.box 2 QL,Qp 5 5,.clo 6 157 [2,5]],[Qe 0 [.box 5 (.list true DY),.box 2 QL,Qp 5 5,.clo 6 157 [2,5]]])],[(15,[Qn [1,.box 2 QL,.box 5 (.list true DY),Qp 2 2,Qp 5 5,.clo 6 157 [2,5]]]),(31,[Qn [1,.box 5 (.list true DY),.box 2 QL,Qp 5 5,.clo 6 157 [2,5]]]),(63,[Qn [.box 5 (.list true DY),Qp 5 5]])],[]⟩
def GF(s:c2S):Option (c2S ⊕ a6I):=(fun(a:LI)(b c:Int)(d:LI)=>cond (A4 (c<(a.length:Int))) ((Az a c).bind fun h=>cond (A4 (0<=c)&&A4 (c<=(a.length:Int))) ((Gr (B9 (A7 c) a,s.2.1,b)).bind fun g=>(HO (zD .i64 (h-g))).bind fun f=>cond (!f) (A3 (.inr (B6 (6,[],())))) (cond (Bp ((A8 d)+1)) (A3 (.inl (a,s.2.1,b,zD .i64 (c+1),A9 d [zD .i64 (h-g)],()))) A6)) A6) (A3 (.inr (B7 (d,()))))) s.1 s.2.2.1 s.2.2.2.1 s.2.2.2.2.1
def Kg(x:b7i):Option (LI×Int):=(show Option b9r from(Hf (x.2.1,x.2.2)).bind fun a=>cond (!a) (A3 (x.1,x.2.1,x.2.2,true,())) (A3 (x.1,x.2.1,x.2.2,A4 ((x.1.length:Int)<(x.2.1.length:Int)),()))).bind fun h=>cond h.2.2.2.1 (A3 ([],1)) ((Dq h.1).bind fun b=>cond (!b) (A3 ([],6)) (cond (A4 (0<=(zD .i64 ((h.1.length:Int)-(h.2.1.length:Int))))&&Bp (A7 (zD .i64 ((h.1.length:Int)-(h.2.1.length:Int))))) ((Al GF (h.1,h.2.1,h.2.2.1,(h.2.1.length:Int),[],())).bind fun k=>match k with |.inl f=>A3 (f.1,0) |.inr g=>A3 (g.2.1,g.1)) A6))
def oR:sG:=⟨[.v QL,.v QL,.v QI],[.o QI,.v QI],Kg⟩
def c5m:sD:=⟨[(250,[.sv 0 QL,.sv 1 QL,2,9,.own 8 8 QI],[Qe 0 [.own 8 8 QI],Qr [7,.own 6 6 QI]])],[(6,[Qn [.sv 0 QL,.sv 1 QL,2,.sv 21 .bool]])],[(9,[.v,.v,.v,.v,.v,.v,.v,.v,.v,.v,.x,.x])]⟩
def HC(s:(Z4×Int×Int×b5C)):Option ((Z4×Int×Int×b5C) ⊕ ((Z4×a5H) ⊕ Z5)):=(fun(a b c:Int)(d:LI)=>cond (A4 (c<b)) (cond (A4 (0<=c)&&A4 (c<(d.length:Int))) ((Cy s.2.2.2.2.2.2.1).bind fun h=>(Jm (zD .i64 ((B4 d (A7 c) 0)-h.1))).bind fun g=>cond (!g) (A3 (.inr (B6 (6,[],())))) ((Eb (h.2,B4 d (A7 c) 0)).bind fun f=>cond (A4 (0<=c)&&A4 (c<(d.length:Int))) (A3 (.inl (s.1,s.2.1,a,b,zD .i64 (c+1),C2 d (A7 c) (zD .i64 ((B4 d (A7 c) 0)-h.1)),f,()))) A6)) A6) (A3 (.inr (B7 (s.1,s.2.1,a,d,()))))) s.2.2.1 s.2.2.2.1 s.2.2.2.2.1 s.2.2.2.2.2.1
def HD(s:(Z4×a5H)):Option ((Z4×a5H) ⊕ a6I):=(fun(a:Int)(b:LI)=>cond (A4 (a<s.2.1)) ((Az s.1 a).bind fun c=>(ND c).bind fun f=>cond (f.2 != 0) (A3 (.inr (B6 (f.2,[],())))) ((Al HC (s.1,s.2.1,a,(b.length:Int),0,b,f.1,())).bind fun k=>match k with |.inl h=>A3 (.inl (h.1,h.2.1,zD .i64 (h.2.2.1+1),h.2.2.2.1,())) |.inr g=>A3 (.inr (B6 (g.1,g.2.1,()))))) (A3 (.inr (B7 (b,()))))) s.2.2.1 s.2.2.2.1
def OJ(x:(LI×Z4)):Option (LI×Int):=(Lh x.2).bind fun k=>cond (!k) (A3 ([],1)) ((Hy x.1).bind fun a=>cond (!a) (A3 ([],6)) ((Bi x.1).bind fun b=>(Al HD (x.2,(x.2.length:Int),0,b,())).bind fun f=>match f with |.inl g=>A3 (g.1,0) |.inr h=>A3 (h.2.1,h.1)))
def a1A:sG:=⟨[.v QL,.v (.list false Q4)],[.o QI,.v QI],OJ⟩
def c5n:sD:=⟨[(250,[.sv 22 (.list false Q4),23,24,.own 6 6 QI],[Qe 0 [.own 6 6 QI],Qr [5,.own 4 4 QI]]),(256414,[.sv 22 (.list false Q4),23,24,37,38,.own 6 6 QI,.box 1030 a1f,Qp 9 1030,.ref 36 6 []],[Qe 2 [.sv 22 (.list false Q4),23,24,.own 6 6 QI],Qr [5,.own 4 4 QI]])],[],[]⟩
def Qm(x:(DU×LI)):Option (Int×DU):=(show Option (LI×LI×Int×a1e)from cond (x.1.1==2) ((Hl (x.2,x.1.2.2.1)).bind fun k=>A3 (x.2,k.1,k.2,x.1,())) (cond (x.1.1==3) ((Kg (x.2,x.1.2.2.2.2.2.1,x.1.2.2.2.1)).bind fun a=>A3 (x.2,a.1,a.2,x.1,())) (cond (x.1.1==4) ((NK (x.2,x.1.2.2.2.2.1,x.1.2.2.2.2.2.2.1)).bind fun g=>cond (g.2==0) ((Kg (g.1,x.1.2.2.2.2.2.1,x.1.2.2.2.1)).bind fun b=>A3 (g.1,b.1,b.2,x.1,())) (A3 (g.1,[],g.2,x.1,()))) (cond (x.1.1==5) ((OJ (x.2,x.1.2.2.2.2.2.2.2.1)).bind fun c=>A3 (x.2,c.1,c.2,x.1,())) (A3 (x.2,[],0,x.1,())))))).bind fun h=>cond (h.2.2.1 != 0) (A3 (h.2.2.1,h.2.2.2.1)) ((Hg (h.2.2.2.1,(h.1.length:Int))).bind fun f=>cond (A4 (0<=f)&&A4 (f<=(h.1.length:Int))) ((Bi (B9 (A7 f) h.1)).bind fun d=>A3 (0,h.2.2.2.1.1,h.2.2.2.1.2.1,h.2.2.2.1.2.2.1,h.2.2.2.1.2.2.2.1,h.2.2.2.1.2.2.2.2.1,h.2.2.2.1.2.2.2.2.2.1,h.2.2.2.1.2.2.2.2.2.2.1,h.2.2.2.1.2.2.2.2.2.2.2.1,d,h.2.2.2.1.2.2.2.2.2.2.2.2.2.1,h.2.1,h.2.2.2.1.2.2.2.2.2.2.2.2.2.2.2)) A6)
def a3Y:sG:=⟨[.r false (.b DY),.v QL],[.v QI],Qm⟩
def c5o:sD:=⟨[],[(15,[Qn [.sv 1 QL,.sv 5 QL,6,.box pinned DY,Qp 0 pinned]])],[(7,[.v,.p,.p,.q,.q,.p,.p,.q,.q,.x,.x,.q,.q,.q,.x]),(9,[.v,.p,.p,.q,.q,.p,.p,.q,.q,.x,.x,.q,.q,.q,.x]),(11,[.q,.p,.p,.q,.q,.p,.p,.q,.q,.x,.x,.q,.q,.q,.x])]⟩
def Mo(s:b7k):Option (b7k ⊕ (Int×Unit)):=(fun(a b:Int)=>cond (A4 (b<=25)) ((FQ (b,s.1)).bind fun h=>cond (A4 (h<a)) (A3 (.inl (s.1,b,h,zD .i64 (b+1),()))) (A3 (.inl (s.1,s.2.1,a,zD .i64 (b+1),())))) (A3 (.inr (s.2.1,())))) s.2.2.1 s.2.2.2.1
def Qo(x:LI):Option Int:=(FQ (0,x)).bind fun g=>(Al Mo (x,0,g,1,())).bind fun h=>A3 h.1
def a3Z:sG:=⟨[.v QL],[.v QI],Qo⟩
def c5p:sD:=⟨[(58,[.sv 0 QL,3,4,5],[Qe 0 [3]])],[],[]⟩
def Mp(x:LI):Option Int:=(Qo x).bind fun h=>(IL x).bind fun g=>(FQ (h,x)).bind fun f=>cond (A4 (g<f)) (A3 31) (A3 h)
def jX:sG:=⟨[.v QL],[.v QI],Mp⟩
def KE(s:(Int×Int×Int×LI×Int×Int×LI×Int×Int×LI×b5F)):Option ((Int×Int×Int×LI×Int×Int×LI×Int×Int×LI×b5F) ⊕ (Int×Int×Int×LI×Int×Int×b5F)):=(fun(a:Int)(b:LI)(c d:Int)(e:LI)(f g:Int)(h:LI)(i j k:Z5)=>cond (A4 (g<f)) (cond (A4 (0<=g)&&A4 (g<(h.length:Int))) (cond (A4 (0<=(B4 h (A7 g) 0))&&A4 ((B4 h (A7 g) 0)<=(e.length:Int))) ((Mp (B9 (A7 (B4 h (A7 g) 0)) e)).bind fun l=>cond (Bp ((A8 k.2.1)+1)) (cond (A4 (0<=(B4 h (A7 g) 0))&&A4 ((B4 h (A7 g) 0)<=(e.length:Int))) (A3 (.inl (s.1,s.2.1,a,b,c,d,C1 (A7 (B4 h (A7 g) 0)) (B9 (A8 e) e),f,zD .i64 (g+1),h,i,j,(k.1,A9 k.2.1 [l],k.2.2),()))) A6) A6) A6) A6) (A3 (.inr (s.1,s.2.1,a,b,c,d,i,j,k,())))) s.2.2.1 s.2.2.2.1 s.2.2.2.2.1 s.2.2.2.2.2.1 s.2.2.2.2.2.2.1 s.2.2.2.2.2.2.2.1 s.2.2.2.2.2.2.2.2.1 s.2.2.2.2.2.2.2.2.2.1 s.2.2.2.2.2.2.2.2.2.2.1 s.2.2.2.2.2.2.2.2.2.2.2.1 s.2.2.2.2.2.2.2.2.2.2.2.2.1
def Fi(s:(Int×Int×Int×LI×Int×Int×a9U)):Option ((Int×Int×Int×LI×Int×Int×a9U) ⊕ a9U):=(fun(a b:Int)(c:LI)(d e:Int)(f g:Z5)=>cond (A4 (e<=(GZ (EA b 0) 8))) ((Ez (e,s.1,a)).bind fun i=>cond ((i.length:Int)==0) (A3 (.inl (s.1,a,b,c,d,zD .i64 (e+1),f,g,()))) ((Al KE (s.1,a,b,c,d,e,c,(i.length:Int),0,i,f,g,(e,[],()),())).bind fun h=>(Hi (h.2.2.2.2.2.2.2.2.1,h.1,h.2.1,h.2.2.2.1)).bind fun j=>(show Option (Int×Int×Int×LI×Int×Int×Int×Bool×b5F)from cond (h.2.2.2.2.1==0) (A3 (h.1,h.2.1,h.2.2.1,h.2.2.2.1,h.2.2.2.2.1,h.2.2.2.2.2.1,j,true,h.2.2.2.2.2.2.1,h.2.2.2.2.2.2.2.1,h.2.2.2.2.2.2.2.2.1,())) (A3 (h.1,h.2.1,h.2.2.1,h.2.2.2.1,h.2.2.2.2.1,h.2.2.2.2.2.1,j,A4 (j<h.2.2.2.2.1),h.2.2.2.2.2.2.1,h.2.2.2.2.2.2.2.1,h.2.2.2.2.2.2.2.2.1,()))).bind fun k=>cond k.2.2.2.2.2.2.2.1 (A3 (.inl (k.1,k.2.1,k.2.2.1,k.2.2.2.1,k.2.2.2.2.2.2.1,zD .i64 (k.2.2.2.2.2.1+1),k.2.2.2.2.2.2.2.2.1,k.2.2.2.2.2.2.2.2.2.2.1,()))) (A3 (.inl (k.1,k.2.1,k.2.2.1,k.2.2.2.1,k.2.2.2.2.1,zD .i64 (k.2.2.2.2.2.1+1),k.2.2.2.2.2.2.2.2.1,k.2.2.2.2.2.2.2.2.2.1,()))))) (A3 (.inr (f,g,())))) s.2.1 s.2.2.1 s.2.2.2.1 s.2.2.2.2.1 s.2.2.2.2.2.1 s.2.2.2.2.2.2.1 s.2.2.2.2.2.2.2.1
def OL(x:(Int×Z2)):Option (Z5×Int):=(Kc (x.1,x.2.1,x.2.2.2)).bind fun g=>cond (!g) (A3 ((0,[],()),1)) ((Al Fi (x.1,x.2.1,x.2.2.1,x.2.2.2,0,0,(0,[],()),(0,[],()),())).bind fun h=>A3 (h.2.1,0))
def a1B:sG:=⟨[.v QI,.v QI,.v QI,.v QL],[.v Tm,.v QI],OL⟩
def c5q:sD:=⟨[(250,[0,1,2,.sv 3 QL,11,12,.box 8 Tm,.box 10 Tm,Qp 8 8,Qp 10 10],[Qe 0 [.box 8 Tm,.box 10 Tm,Qp 8 8,Qp 10 10]]),(512634,[0,1,2,.sv 3 QL,11,12,.sv 15 QL,43,44,.own 42 13 QI,.box 8 Tm,.box 10 Tm,.box 14 c2X,Qp 8 8,Qp 10 10,Qp 14 14],[Qe 2 [0,1,2,.sv 3 QL,11,12,.box 8 Tm,.box 10 Tm,.box 14 c2X,Qp 8 8,Qp 10 10,Qp 14 14]])],[(256319,[Qn [0,1,2,.sv 3 QL,11,12,18,.sv 72 .bool,.box 8 Tm,.box 10 Tm,.box 14 Tm,Qp 8 8,Qp 10 10,Qp 14 14]])],[(15,[.q,.q,.v,.v,.v,.v,.q,.x,.x,.x])]⟩
def HS(s:(LI×LI×b5O)):Option ((LI×LI×b5O) ⊕ ((LI×ZB) ⊕ (Int×a1e))):=(fun(a b:Int)(c d:DU)=>cond (A4 (b<a)) ((Az s.2.1 b).bind fun h=>(Az s.1 0).bind fun g=>cond (h != g) (A3 (.inr (B6 (7,(0,0,0,0,0,[],B3 3 0,[],[],(0,[],()),[],()),())))) (A3 (.inl (s.1,s.2.1,a,zD .i64 (b+1),c,d,())))) (A3 (.inr (B7 (s.1,c,d,()))))) s.2.2.1 s.2.2.2.1 s.2.2.2.2.1 s.2.2.2.2.2.1
def SC(x:(Int×LI×DU)):Option XJ:=(show Option (Int×LI×Int×Bool×ZB)from cond (A4 ((x.2.1.length:Int)<1)) (A3 (x.1,x.2.1,(x.2.1.length:Int),true,(0,0,0,0,0,[],B3 3 0,[],[],(0,[],()),[],()),x.2.2,())) (cond (A4 ((x.2.1.length:Int) > 4096)) (A3 (x.1,x.2.1,(x.2.1.length:Int),true,(0,0,0,0,0,[],B3 3 0,[],[],(0,[],()),[],()),x.2.2,())) ((MW (x.1,x.2.2,(x.2.1.length:Int))).bind fun j=>A3 (x.1,x.2.1,(x.2.1.length:Int),!j,(0,0,0,0,0,[],B3 3 0,[],[],(0,[],()),[],()),x.2.2,())))).bind fun g=>cond g.2.2.2.1 (A3 ((0,0,0,0,0,[],B3 3 0,[],[],(0,[],()),[],()),1)) ((Dw g.2.1).bind fun l=>cond (!l) (A3 ((0,0,0,0,0,[],B3 3 0,[],[],(0,[],()),[],()),6)) ((Jk (g.1,g.2.2.2.2.2.1)).bind fun f=>cond (g.1==0) ((Al HS (g.2.1,g.2.1,(g.2.1.length:Int),0,g.2.2.2.2.1,f,())).bind fun i=>match i with |.inl k=>((Az k.1 0).bind fun d=>A3 ((k.2.2.1.1,k.2.2.1.2.1,k.2.2.1.2.2.1,k.2.2.1.2.2.2.1,k.2.2.1.2.2.2.2.1,k.2.2.1.2.2.2.2.2.1,k.2.2.1.2.2.2.2.2.2.1,k.2.2.1.2.2.2.2.2.2.2.1,[d],k.2.2.1.2.2.2.2.2.2.2.2.2),0)) |.inr e=>A3 (e.2.1,e.1)) ((Fg g.2.1).bind fun a=>(Kf (g.2.1,a)).bind fun b=>cond (b.2 != 0) (A3 ((0,0,0,0,0,[],B3 3 0,[],[],(0,[],()),[],()),6)) (cond (g.1==1) (A3 ((f.1,a,f.2.2.1,f.2.2.2.1,f.2.2.2.2.1,f.2.2.2.2.2.1,f.2.2.2.2.2.2.1,f.2.2.2.2.2.2.2.1,b.1,f.2.2.2.2.2.2.2.2.2),0)) ((Qm ((f.1,a,f.2.2),b.1)).bind fun h=>cond (h.1 != 0) (A3 ((0,0,0,0,0,[],B3 3 0,[],[],(0,[],()),[],()),6)) ((OL (g.2.2.1,(h.2.2.2.2.2.2.2.2.2.1.length:Int),6,h.2.2.2.2.2.2.2.2.2.2.2.1)).bind fun c=>cond (c.2 != 0) (A3 ((0,0,0,0,0,[],B3 3 0,[],[],(0,[],()),[],()),6)) (A3 ((h.2.1,h.2.2.1,h.2.2.2.1,h.2.2.2.2.1,h.2.2.2.2.2.1,h.2.2.2.2.2.2.1,h.2.2.2.2.2.2.2.1,h.2.2.2.2.2.2.2.2.1,h.2.2.2.2.2.2.2.2.2.1,c.1,h.2.2.2.2.2.2.2.2.2.2.2),0))))))))
def a6R:sG:=⟨[.v QI,.v QL,.v DY],[.v DY,.v QI],SC⟩
def c5r:sD:=⟨[(4050,[.sv 1 QL,.sv 39 QL,40,41,.box 6 DY,.box 9 DY,Qp 6 6,Qp 9 9],[Qe 0 [.sv 1 QL,.box 6 DY,.box 9 DY,Qp 6 6,Qp 9 9],Qr [7,.box 6 DY,Qp 6 6]])],[(14,[Qn [0,.sv 1 QL,8,.sv 28 .bool,.box 6 DY,.vp 5 DY,Qp 6 6]])],[]⟩
def Mq(x:Z6):Option b7j:=some (x.2.1,x)
def Ya:sG:=⟨[.r false (.b QY)],[.v QI],Mq⟩
def Ho(x:XJ):Option Int:=(Pd (([],0,()),x.1,x.2)).bind fun h=>cond (h.1 != 0) (A3 0) ((Mq h.2).bind fun g=>A3 g.1)
def a6S:sG:=⟨[.v DY,.v QI],[.v QI],Ho⟩
def Kh(s:(LI×Int×Bool×ZA×b5O)):Option ((LI×Int×Bool×ZA×b5O) ⊕ ZB):=(fun(a:LI)(b:Int)(c:Bool)(d:ZA)(e f:Int)(g h:DU)=>cond (A4 (f<e)) ((Az d f).bind fun l=>(SC (l.1,a,l)).bind fun i=>cond (i.2 != 0) (A3 (.inl (a,b,c,d,e,zD .i64 (f+1),g,h,()))) ((Ho (i.1,(a.length:Int))).bind fun j=>(show Option (LI×Int×Bool×Int×ZA×Int×Int×Bool×DU×ZB)from cond (!c) (A3 (a,b,c,j,d,e,f,true,g,h,i.1,())) (A3 (a,b,c,j,d,e,f,A4 (j<b),g,h,i.1,()))).bind fun k=>cond k.2.2.2.2.2.2.2.1 (A3 (.inl (k.1,k.2.2.2.1,true,k.2.2.2.2.1,k.2.2.2.2.2.1,zD .i64 (k.2.2.2.2.2.2.1+1),k.2.2.2.2.2.2.2.2.1,k.2.2.2.2.2.2.2.2.2.2.1,()))) (A3 (.inl (k.1,k.2.1,k.2.2.1,k.2.2.2.2.1,k.2.2.2.2.2.1,zD .i64 (k.2.2.2.2.2.2.1+1),k.2.2.2.2.2.2.2.2.1,k.2.2.2.2.2.2.2.2.2.1,()))))) (A3 (.inr (g,h,())))) s.1 s.2.1 s.2.2.1 s.2.2.2.1 s.2.2.2.2.1 s.2.2.2.2.2.1 s.2.2.2.2.2.2.1 s.2.2.2.2.2.2.2.1
def IQ(x:(LI×Int)):Option XJ:=(show Option (LI×a9X)from cond (A4 ((x.1.length:Int)<1)) (A3 (x.1,x.2,true,(0,0,0,0,0,[],B3 3 0,[],[],(0,[],()),[],()),())) (cond (A4 ((x.1.length:Int) > 4096)) (A3 (x.1,x.2,true,(0,0,0,0,0,[],B3 3 0,[],[],(0,[],()),[],()),())) (cond (A4 (x.2<0)) (A3 (x.1,x.2,true,(0,0,0,0,0,[],B3 3 0,[],[],(0,[],()),[],()),())) (A3 (x.1,x.2,A4 (x.2 > 3),(0,0,0,0,0,[],B3 3 0,[],[],(0,[],()),[],()),()))))).bind fun h=>cond h.2.2.1 (A3 ((0,0,0,0,0,[],B3 3 0,[],[],(0,[],()),[],()),1)) ((Dw h.1).bind fun a=>cond (!a) (A3 ((0,0,0,0,0,[],B3 3 0,[],[],(0,[],()),[],()),6)) ((Fg h.1).bind fun b=>(Kf (h.1,b)).bind fun f=>cond (f.2 != 0) (A3 ((0,0,0,0,0,[],B3 3 0,[],[],(0,[],()),[],()),f.2)) ((Jz (f.1,h.2.1)).bind fun k=>(Al Kh (h.1,0,false,k,(k.length:Int),0,h.2.2.2.1,(0,0,0,0,0,[],B3 3 0,[],[],(0,[],()),[],()),())).bind fun g=>A3 (g.2.1,0))))
def a6T:sG:=⟨[.v QL,.v QI],[.v DY,.v QI],IQ⟩
def c8P:sD:=⟨[(2042,[.sv 0 QL,9,.sv 10 .bool,.sv 50 (.list false DY),51,52,.box 4 DY,.box 8 DY,Qp 4 4,Qp 8 8],[Qe 0 [.box 4 DY,.box 8 DY,Qp 4 4,Qp 8 8]])],[(6,[Qn [.sv 0 QL,1,.sv 31 .bool,.box 4 DY,Qp 4 4]]),(1045711,[Qn [.sv 0 QL,9,.sv 10 .bool,15,.sv 50 (.list false DY),51,52,.sv 76 .bool,.box 4 DY,.box 8 DY,.box 13 DY,Qp 4 4,Qp 8 8,Qp 13 13]])],[]⟩
def HE(s:(Int×(List LI)×Int×Int×HW×WI)):Option ((Int×(List LI)×Int×Int×HW×WI) ⊕ ((HW×WI) ⊕ (Int×WI))):=(fun(a b:Int)(c d:HW)=>cond (A4 (b<a)) ((Az s.2.1 b).bind fun g=>(IQ (g,s.1)).bind fun h=>cond (h.2 != 0) (A3 (.inr (B6 (h.2,(0,0,(0,0,0,()),[],[],()),())))) (cond (Bp ((A8 d.2.2.2.2.1)+1)) (A3 (.inl (s.1,s.2.1,a,zD .i64 (b+1),c,(d.1,d.2.1,d.2.2.1,d.2.2.2.1,A9 d.2.2.2.2.1 ([h.1]:List DU),d.2.2.2.2.2),()))) A6)) (A3 (.inr (B7 (c,d,()))))) s.2.2.1 s.2.2.2.1 s.2.2.2.2.1 s.2.2.2.2.2.1
def Ep(x:(TI×Z7×Int×Int)):Option (HW×Int):=(show Option (Int×Int×Bool×HW×TI×b5y)from(Fu x.1).bind fun d=>cond (!d) (A3 (x.2.2.1,x.2.2.2,true,(0,0,(0,0,0,()),[],[],()),x.1,x.2.1,())) ((CL x.2.1).bind fun e=>cond (!e) (A3 (x.2.2.1,x.2.2.2,true,(0,0,(0,0,0,()),[],[],()),x.1,x.2.1,())) (cond (x.1.1 != x.2.1.2.2.1) (A3 (x.2.2.1,x.2.2.2,true,(0,0,(0,0,0,()),[],[],()),x.1,x.2.1,())) (cond ((x.1.2.1.length:Int) != x.2.1.2.1) (A3 (x.2.2.1,x.2.2.2,true,(0,0,(0,0,0,()),[],[],()),x.1,x.2.1,())) (cond (A4 (x.2.2.2<0)) (A3 (x.2.2.1,x.2.2.2,true,(0,0,(0,0,0,()),[],[],()),x.1,x.2.1,())) (cond (A4 (x.2.2.2 > 3)) (A3 (x.2.2.1,x.2.2.2,true,(0,0,(0,0,0,()),[],[],()),x.1,x.2.1,())) (A3 (x.2.2.1,x.2.2.2,A4 (x.2.2.1<0),(0,0,(0,0,0,()),[],[],()),x.1,x.2.1,())))))))).bind fun h=>cond h.2.2.1 (A3 ((0,0,(0,0,0,()),[],[],()),1)) ((Ft h.2.2.2.2.1).bind fun c=>cond (A4 (h.1 > (zD .i64 (4194304-c)))) (A3 ((0,0,(0,0,0,()),[],[],()),4)) ((show Option (Int×HW×HW×b7l)from cond (A4 (h.2.1 > 0)) ((Lo h.2.2.2.2.1).bind fun i=>A3 (h.2.1,h.2.2.2.1,(h.1,c,h.2.2.2.2.2.1,i,[],()),h.2.2.2.2.1,())) (A3 (h.2.1,h.2.2.2.1,(h.1,c,h.2.2.2.2.2.1,[],[],()),h.2.2.2.2.1,()))).bind fun f=>(Rz (f.2.2.2.1.2.1,f.2.2.1.2.2.2.1)).bind fun k=>cond (k.2 != 0) (A3 ((0,0,(0,0,0,()),[],[],()),k.2)) ((Al HE (f.1,k.1,(k.1.length:Int),0,f.2.1,f.2.2.1,())).bind fun b=>match b with |.inl a=>A3 (a.2.1,0) |.inr g=>A3 (g.2.1,g.1))))
def a1C:sG:=⟨[.v Pw,.v HX,.v QI,.v QI],[.v QZ,.v QI],Ep⟩
def c8Q:sD:=⟨[(2042,[3,.sv 81 (.list false QL),82,83,.box 8 QZ,.box 10 b9R,Qp 8 8,Qp 10 10],[Qe 0 [.box 8 QZ,.box 10 b9R,Qp 8 8,Qp 10 10],Qr [9,.box 8 QZ,Qp 8 8]])],[(6,[Qn [2,3,.sv 51 .bool,.box 8 QZ,.vp 4 Pw,.vp 5 HX,Qp 8 8]]),(31,[Qn [3,.box 8 QZ,.box 10 b9R,.vp 4 Pw,Qp 8 8,Qp 10 10]])],[(3,[.v,.v,.v,.v,.v,.q,.x])]⟩
def Mr(s:(Int×Int×Int×a3t×Int×Int×b5P)):Option ((Int×Int×Int×a3t×Int×Int×b5P) ⊕ ((Int×Int×b5P) ⊕ (Bool×(List LI)×c2J))):=(fun(a b:Int)(c:a3t)(d e:Int)(f:List LI)(g:b8j)(h:QX)=>cond (A4 (e<d)) ((Az c e).bind fun l=>(show Option (Int×Int×Int×Int×a3t×Int×Int×Bool×(List LI)×b8j×HW×jI)from cond (!(nE HX l.2.2.1 h.1)) (A3 (a,s.2.1,b,e,c,d,e,true,f,g,l,h,())) (A3 (a,s.2.1,b,e,c,d,e,l.1 != a,f,g,l,h,()))).bind fun k=>cond k.2.2.2.2.2.2.2.1 (A3 (.inr (B6 (false,([]:(List LI)),[],())))) ((show Option (Int×Int×Int×a3t×Int×Int×Bool×(List LI)×b8j×HW×jI)from(Az k.2.2.2.2.2.2.2.2.2.2.2.1.2.2.2.1 k.2.2.2.1).bind fun o=>cond (o.1 != k.1) (A3 (k.1,k.2.1,k.2.2.1,k.2.2.2.2.1,k.2.2.2.2.2.1,k.2.2.2.2.2.2.1,true,k.2.2.2.2.2.2.2.2.1,k.2.2.2.2.2.2.2.2.2.1,k.2.2.2.2.2.2.2.2.2.2.1,k.2.2.2.2.2.2.2.2.2.2.2.1,())) ((Az k.2.2.2.2.2.2.2.2.2.2.2.1.2.2.2.1 k.2.2.2.1).bind fun p=>A3 (k.1,k.2.1,k.2.2.1,k.2.2.2.2.1,k.2.2.2.2.2.1,k.2.2.2.2.2.2.1,p.2.1 != k.2.1,k.2.2.2.2.2.2.2.2.1,k.2.2.2.2.2.2.2.2.2.1,k.2.2.2.2.2.2.2.2.2.2.1,k.2.2.2.2.2.2.2.2.2.2.2.1,()))).bind fun i=>cond i.2.2.2.2.2.2.1 (A3 (.inr (B6 (false,([]:(List LI)),[],())))) ((FN i.2.2.2.2.2.2.2.2.2.1).bind fun m=>cond (m.2 != 0) (A3 (.inr (B6 (false,([]:(List LI)),[],())))) ((FA i.2.2.2.2.2.2.2.2.2.1).bind fun n=>cond (n.2 != 0) (A3 (.inr (B6 (false,([]:(List LI)),[],())))) ((GA (i.2.2.1,m.1)).bind fun j=>cond (!j.2) (A3 (.inr (B6 (false,([]:(List LI)),[],())))) (cond (Bp ((A8 i.2.2.2.2.2.2.2.1)+1)) (cond (Bp ((A8 i.2.2.2.2.2.2.2.2.1)+1)) (A3 (.inl (zD .i64 (i.1+i.2.2.2.2.2.2.2.2.2.1.2.1),zD .i64 (i.2.1+(n.1.length:Int)),j.1,i.2.2.2.1,i.2.2.2.2.1,zD .i64 (i.2.2.2.2.2.1+1),A9 i.2.2.2.2.2.2.2.1 ([n.1]:List LI),A9 i.2.2.2.2.2.2.2.2.1 ([m.1]:List TI),i.2.2.2.2.2.2.2.2.2.2.1,()))) A6) A6)))))) (A3 (.inr (B7 (a,b,f,g,h,()))))) s.1 s.2.2.1 s.2.2.2.1 s.2.2.2.2.1 s.2.2.2.2.2.1 s.2.2.2.2.2.2.1 s.2.2.2.2.2.2.2.1 s.2.2.2.2.2.2.2.2.1
end Go.Ab
namespace Go.Ab
open IntKind renaming wrap->zD
open Go.Proofs
set_option maxRecDepth 100000
set_option linter.unusedVariables false
def NL(x:QX):Option ((List LI)×b8j×Bool):=(show Option (Bool×b5P)from(CL x.1).bind fun b=>cond (!b) (A3 (true,([]:(List LI)),[],x,())) (cond (A4 ((x.2.2.2.2.1.length:Int) > 4096)) (A3 (true,([]:(List LI)),[],x,())) (A3 ((x.2.2.2.1.length:Int) != (x.2.2.2.2.1.length:Int),([]:(List LI)),[],x,())))).bind fun k=>cond k.1 (A3 (([]:(List LI)),[],false)) ((Al Mr (0,0,0,k.2.2.2.1.2.2.2.2.1,(k.2.2.2.1.2.2.2.2.1.length:Int),0,k.2.1,k.2.2.1,k.2.2.2.1,())).bind fun a=>match a with |.inl h=>((show Option (Bool×(List LI)×c2J)from cond (h.2.2.2.2.1.2.1 != h.1) (A3 (true,h.2.2.1,h.2.2.2.1,())) (A3 (h.2.2.2.2.1.2.2.1 != h.2.1,h.2.2.1,h.2.2.2.1,()))).bind fun f=>cond f.1 (A3 (([]:(List LI)),[],false)) (A3 (f.2.1,f.2.2.1,true))) |.inr g=>A3 (g.2.1,g.2.2.1,g.1))
def a4a:sG:=⟨[.v nG],[.o QB,.o Pw,.v .bool],NL⟩
def c8R:sD:=⟨[(122,[5,6,.sv 7 QU,.sv 33 (.list false QZ),34,35,.own 2 2 QB,.own 3 3 Pw,.vp 1 nG],[Qe 0 [5,.sv 7 QU,.own 2 2 QB,.own 3 3 Pw,.vp 1 nG],Qr [.sv 4 .bool,.own 2 2 QB,.own 3 3 Pw]])],[(6,[Qn [.sv 31 .bool,.own 2 2 QB,.own 3 3 Pw,.vp 1 nG]]),(62,[Qn [.sv 117 .bool,.own 2 2 QB,.own 3 3 Pw]]),(15666,[Qn [5,6,.sv 7 QU,8,.sv 33 (.list false QZ),34,35,.sv 50 .bool,.own 2 2 QB,.own 3 3 Pw,.box 9 QZ,.vp 1 nG,Qp 9 9]]),(31334,[Qn [5,6,.sv 7 QU,.sv 33 (.list false QZ),34,35,.sv 68 .bool,.own 2 2 QB,.own 3 3 Pw,.box 9 QZ,.vp 1 nG,Qp 9 9]])],[]⟩
def Ms(s:(a3t×Int×Int×(List LI)×LI×jI)):Option ((a3t×Int×Int×(List LI)×LI×jI) ⊕ ((List LI)×LI×jI)):=(fun(a:Int)(b:List LI)(c:LI)(d:QX)=>cond (A4 (a<s.2.1)) ((Az s.1 a).bind fun h=>cond (A4 (0<=a)&&A4 (a<(b.length:Int))) (cond (Bp ((A8 c)+2)) (A3 (.inl (s.1,s.2.1,zD .i64 (a+1),b,A9 c ([zD .u64 ((A8 (B4 b (A7 a) []):Nat):Int),zD .u64 h.2.1]:List Int),d,()))) A6) A6) (A3 (.inr (b,c,d,())))) s.2.2.1 s.2.2.2.1 s.2.2.2.2.1 s.2.2.2.2.2.1
def Mt(s:(Int×Int×LI×Z1)):Option ((Int×Int×LI×Z1) ⊕ (LI×Unit)):=(fun(a:Int)(b:LI)(c:List LI)=>cond (A4 (a<s.1)) (cond (A4 (0<=a)&&A4 (a<(c.length:Int))) (cond (Bp ((A8 b)+(A8 (B4 c (A7 a) [])))) (A3 (.inl (s.1,zD .i64 (a+1),A9 b (B4 c (A7 a) []),c,()))) A6) A6) (A3 (.inr (b,())))) s.2.1 s.2.2.1 s.2.2.2.1
def Qq(x:QX):Option (LI×Int):=(NL x).bind fun k=>cond (!k.2.2) (A3 ([],1)) ((Al Ms (x.2.2.2.2.1,(x.2.2.2.2.1.length:Int),0,k.1,([zD .u64 x.1.1,zD .u64 x.1.2.1,zD .u64 x.1.2.2.1,zD .u64 (x.2.2.2.2.1.length:Int)]:List Int),x,())).bind fun g=>(NI g.2.1).bind fun h=>cond (Bp (4+(A8 h))) ((GV (g.2.2.1.2.2.1,8)).bind fun f=>cond (Bp ((A8 (A9 [75,78,83,68] h))+(A8 f))) ((Gm (A9 (A9 [75,78,83,68] h) f)).bind fun c=>(GV (zD .u64 c,4)).bind fun a=>cond (Bp ((A8 (A9 (A9 [75,78,83,68] h) f))+(A8 a))) ((Al Mt ((g.1.length:Int),0,A9 (A9 (A9 [75,78,83,68] h) f) a,g.1,())).bind fun b=>A3 (b.1,0)) A6) A6) A6)
def a4b:sG:=⟨[.v nG],[.o QV,.v QI],Qq⟩
def c8S:sD:=⟨[(250,[.sv 39 (.list false QZ),40,41,.own 4 4 QB,.own 7 7 QU,.vp 1 nG],[Qe 0 [.own 4 4 QB,.own 7 7 QU,.vp 1 nG]]),(4090,[76,77,.own 10 10 QV,.own 75 4 QB],[Qe 2 [.own 10 10 QV]])],[],[(8,[.q,.q,.v,.q,.q,.v,.v,.q,.q,.v,.q,.x,.x])]⟩
def Ir(s:(LI×Int×Int×Int×LI×Int×b9G)):Option ((LI×Int×Int×Int×LI×Int×b9G) ⊕ ((LI×Int×Int×b9G) ⊕ Z5)):=(fun(a b:Int)(c:LI)(d e:Int)(f:Z7)=>cond (A4 (e<d)) ((Az c e).bind fun h=>(CM (h,f.2.2.1)).bind fun g=>cond (!g) (A3 (.inr (B6 (6,[],())))) (A3 (.inl (s.1,s.2.1,a,b,c,d,zD .i64 (e+1),f,())))) (A3 (.inr (B7 (s.1,s.2.1,a,b,f,()))))) s.2.2.1 s.2.2.2.1 s.2.2.2.2.1 s.2.2.2.2.2.1 s.2.2.2.2.2.2.1 s.2.2.2.2.2.2.2.1
def It(s:(LI×Int×Int×Int×Int×Int×QX×b5y)):Option ((LI×Int×Int×Int×Int×Int×QX×b5y) ⊕ (jI ⊕ Z5)):=(fun(a b c d e:Int)(f:QX)(g:Z7)=>cond (A4 (e<c)) (cond (A4 (0<=(zD .i64 ((GZ (zD .i64 (e+a)) c)*g.2.1)))&&A4 ((zD .i64 ((GZ (zD .i64 (e+a)) c)*g.2.1))<=(s.1.length:Int))) (cond (A4 (0<=(zD .i64 (e*g.2.1)))&&A4 ((zD .i64 (e*g.2.1))<=((A7 (zD .i64 ((GZ (zD .i64 (e+a)) c)*g.2.1)):Nat):Int))) ((OH (C1 (A7 (zD .i64 (e*g.2.1))) (B9 (A7 (zD .i64 ((GZ (zD .i64 (e+a)) c)*g.2.1))) s.1),g)).bind fun i=>cond (i.2 != 0) (A3 (.inr (B6 (i.2,[],())))) ((Ep (i.1,g,e,b)).bind fun h=>cond (h.2 != 0) (A3 (.inr (B6 (h.2,[],())))) ((FA h.1).bind fun k=>cond (k.2 != 0) (A3 (.inr (B6 (k.2,[],())))) ((GA (f.2.2.1,i.1)).bind fun j=>cond (Bp ((A8 f.2.2.2.1)+1)) (cond (Bp ((A8 f.2.2.2.2.1)+1)) (A3 (.inl (s.1,a,b,c,zD .i64 (d+(k.1.length:Int)),zD .i64 (e+a),(f.1,f.2.1,j.1,A9 f.2.2.2.1 ([(e,d,())]:List (Int×Int×Unit)),A9 f.2.2.2.2.1 ([h.1]:List HW),f.2.2.2.2.2),g,()))) A6) A6)))) A6) A6) (A3 (.inr (B7 (f,()))))) s.2.1 s.2.2.1 s.2.2.2.1 s.2.2.2.2.1 s.2.2.2.2.2.1 s.2.2.2.2.2.2.1 s.2.2.2.2.2.2.2.1
def GG(x:c2P):Option (LI×Int):=(show Option (LI×c2R)from(CL x.1).bind fun i=>cond (!i) (A3 (x.2.1,x.2.2.1,x.2.2.2,true,x.1,())) (cond (A4 (x.2.2.1<1)) (A3 (x.2.1,x.2.2.1,x.2.2.2,true,x.1,())) (cond (A4 (x.2.2.1 > 4096)) (A3 (x.2.1,x.2.2.1,x.2.2.2,true,x.1,())) (cond (A4 (x.2.2.2<0)) (A3 (x.2.1,x.2.2.1,x.2.2.2,true,x.1,())) (A3 (x.2.1,x.2.2.1,x.2.2.2,A4 (x.2.2.2 > 3),x.1,())))))).bind fun h=>cond h.2.2.2.1 (A3 ([],1)) (cond (h.2.2.2.2.1.2.1==0) A6 (cond ((B8 (h.1.length:Int) h.2.2.2.2.1.2.1) != 0) (A3 ([],3)) (cond (h.2.2.2.2.1.2.1==0) A6 ((show Option (LI×Int×c2R)from cond (A4 ((zD .i64 (C0 (h.1.length:Int) h.2.2.2.2.1.2.1)) > 4194304)) (A3 (h.1,h.2.1,h.2.2.1,zD .i64 (C0 (h.1.length:Int) h.2.2.2.2.1.2.1),true,h.2.2.2.2.1,())) (cond (h.2.1==0) A6 (A3 (h.1,h.2.1,h.2.2.1,zD .i64 (C0 (h.1.length:Int) h.2.2.2.2.1.2.1),A4 ((zD .i64 (C0 (zD .i64 ((zD .i64 ((zD .i64 (C0 (h.1.length:Int) h.2.2.2.2.1.2.1))+h.2.1))-1)) h.2.1)) > 4096),h.2.2.2.2.1,())))).bind fun g=>cond g.2.2.2.2.1 (A3 ([],4)) ((Al Ir (g.1,g.2.1,g.2.2.1,g.2.2.2.1,g.1,(g.1.length:Int),0,g.2.2.2.2.2.1,())).bind fun e=>match e with |.inl f=>((Al It (f.1,f.2.1,f.2.2.1,f.2.2.2.1,0,0,(f.2.2.2.2.1,f.2.2.2.1,0,[],[],()),f.2.2.2.2.1,())).bind fun c=>match c with |.inl b=>((Qq b.1).bind fun a=>A3 (a.1,a.2)) |.inr k=>A3 (k.2.1,k.1)) |.inr d=>A3 (d.2.1,d.1))))))
def Ut:sG:=⟨[.v HX,.v QL,.v QI,.v QI],[.o QV,.v QI],GG⟩
def c8T:sD:=⟨[(506,[.sv 1 QL,2,3,10,.sv 62 QL,63,64,.vp 4 HX],[Qe 0 [.sv 1 QL,2,3,10,.vp 4 HX],Qr [9,.own 8 8 QV]]),(4090,[.sv 1 QL,2,3,10,14,15,.box 13 c3a,.vp 4 HX,Qp 13 13],[Qe 2 [.box 13 c3a,Qp 13 13],Qr [9,.own 8 8 QV]])],[(6,[Qn [.sv 1 QL,2,3,.sv 39 .bool,.vp 4 HX]]),(62,[Qn [.sv 1 QL,2,3,10,.sv 61 .bool,.vp 4 HX]])],[(20,[.v,.v,.v,.v,.v,.v,.v,.v,.v,.v,.v,.v,.v,.v,.v,.q,.w [0,17],.x])]⟩
def WQ(s:(Int×Int×LI×c2J)):Option ((Int×Int×LI×c2J) ⊕ (LI×Unit)):=(fun(a:Int)(b:LI)(c:b8j)=>cond (A4 (a<s.1)) (cond (A4 (0<=a)&&A4 (a<(c.length:Int))) ((HQ (B4 c (A7 a) (0,([]:(List LI)),()))).bind fun h=>cond (Bp ((A8 b)+(A8 h))) (A3 (.inl (s.1,zD .i64 (a+1),A9 b h,c,()))) A6) A6) (A3 (.inr (b,())))) s.2.1 s.2.2.1 s.2.2.2.1
def Ob(x:QX):Option (LI×Int):=(NL x).bind fun h=>cond (!h.2.2) (A3 ([],1)) ((Al WQ ((h.2.1.length:Int),0,[],h.2.1,())).bind fun g=>A3 (g.1,0))
def Tq:sG:=⟨[.v nG],[.o QI,.v QI],Ob⟩
def c8U:sD:=⟨[(250,[19,20,.own 7 7 QI,.own 18 5 Pw],[Qe 0 [.own 7 7 QI]])],[],[]⟩
def c7f:sD:=⟨[(26,[1,.sv 9 (.list false QZ),10,11],[Qe 0 [],Qr [4,5]])],[],[]⟩
def SD(x:b0a):Option (Int×Int):=Zg (ZC [] [] 115 4) c7f Tryz.f14 [.v nG,.v (.int .i64)] [.v (.int .i64),.v (.int .i64)] x
def Yb:sG:=⟨[.v nG,.v QI],[.v QI,.v QI],SD⟩
def Yc(f0:(c2P)->Option ((List Int)×Int))(f1:(List Int)->Option b0a)(f2:(QX)->Option ((List Int)×Int))(f3:(MF)->Option ((List Int)×Int))(f4:(b0a)->Option (Int×Int))(f5:((List Int)×(List Int))->Option Bool)(f6:(List Int)->Option Int)(x:Unit):Option Bool:=
 (f0 (((8000:Int),((1:Int),((8:Int),()))),(([(1:Int),(2:Int),(3:Int)]:List Int),((2:Int),(0:Int))))).bind fun g=>
 (f1 g.1).bind fun h=>
 (f2 h.1).bind fun f=>
 (f3 (g.1,((1:Int),((3:Int),())))).bind fun k=>
 (f4 (h.1,(2:Int))).bind fun a=>
 bif g.2==(0:Int)then(
 bif h.2==(0:Int)then(
 bif f.2==(0:Int)then(
 bif k.2==(0:Int)then(
 bif a.2==(0:Int)then(
 bif ((A8 h.1.2.2.2.2.1:Nat):Int)==(2:Int)then(
 (f5 (f.1,([(1:Int),(2:Int),(3:Int)]:List Int))).bind fun b=>
 bif b then(
 (f5 (k.1,([(2:Int),(3:Int)]:List Int))).bind fun c=>
 bif c then(
 bif a.1==(1:Int)then(
 (f6 ([(1:Int),(2:Int),(3:Int)]:List Int)).bind fun d=>
 A3 (h.1.2.2.1==d))
 else A3 false)
 else A3 false)
 else A3 false)
 else A3 false)
 else A3 false)
 else A3 false)
 else A3 false)
 else A3 false)
 else A3 false
def Uu(x:Unit):Option Bool:=Yc GG Ek Ob Dx SD CN Jp x
def Uv:sG:=⟨[],[.v .bool],Uu⟩
def H4:sD:=⟨[],[],[(7,[.x,.x,.x,.x,.x,.x,.x,.x,.x,.x,.x,.x,.x,.x,.x,.x,.x,.x,.x,.x,.x,.x,.x,.x,.x,.q,.q,.x,.x,.x,.q,.q,.x,.x,.x,.x,.x,.x,.x,.q,.q,.q,.q,.x,.x,.x])]⟩
theorem oS(h:(c2P)->Option ((List Int)×Int))(g:((List Int))->Option b0a)(f:(QX)->Option ((List Int)×Int))(k:(MF)->Option ((List Int)×Int))(a:(b0a)->Option (Int×Int))(b:(((List Int)×(List Int)))->Option Bool)(c:((List Int))->Option Int)(x:Unit):Zg (ZC [(9,b8q XV g),(10,b8q XW k),(11,b8q VX b),(12,b8q Ut h),(13,b8q Tq f),(14,b8q Yb a),(15,b8q XU c)] [] 4077 0) H4 Tryz.f4 Uv.ps Uv.rs x=Yc h g f k a b c x:=by kernel_rfl
def Qs(x:Z7):Option Bool:=cond (A4 (x.1>=1)) (cond (A4 (x.1<=1048576)) (cond (A4 (x.2.1>=1)) (cond (A4 (x.2.1<=8)) (cond (A4 (x.2.2.1>=4)) (A3 (A4 (x.2.2.1<=24))) (A3 false)) (A3 false)) (A3 false)) (A3 false)) (A3 false)
def a4c:sG:=⟨[.v HX],[.v .bool],Qs⟩
def jY(x:Int):Option Int:=(show Option (Int×Bool×Unit)from cond (A4 (x<1)) (A3 (x,true,())) (A3 (x,A4 (x > 31),()))).bind fun h=>cond h.2.1 (A3 0) (cond (A4 (zD .u64 (zD .i64 (h.1-1))<0)) A6 (A3 (AT .i64 (-1) (zD .u64 (zD .i64 (h.1-1))))))
def b2I:sG:=⟨[.v QI],[.v QI],jY⟩
def c8V:sD:=⟨[],[(6,[Qn [0,.sv 8 .bool]])],[]⟩
def ZL(x:Int):Option Int:=(show Option (Int×Bool×Unit)from cond (A4 (x<1)) (A3 (x,true,())) (A3 (x,A4 (x > 31),()))).bind fun h=>cond h.2.1 (A3 0) (cond (A4 (zD .u64 (zD .i64 (h.1-1))<0)) A6 (A3 (zD .i64 ((AT .i64 1 (zD .u64 (zD .i64 (h.1-1))))-1))))
def b0i:sG:=⟨[.v QI],[.v QI],ZL⟩
def c8W:sD:=⟨[],[(6,[Qn [0,.sv 8 .bool]])],[]⟩
def Pe(x:(Int×Int)):Option Bool:=cond (A4 (x.2>=1)) (cond (A4 (x.2<=31)) ((jY x.2).bind fun h=>cond (A4 (x.1>=h)) ((ZL x.2).bind fun g=>A3 (A4 (x.1<=g))) (A3 false)) (A3 false)) (A3 false)
def b0j:sG:=⟨[.v QI,.v QI],[.v .bool],Pe⟩
def Ki(s:(LI×b9G)):Option ((LI×b9G) ⊕ Z0):=cond (A4 (s.2.1<(s.1.length:Int))) ((Az s.1 s.2.1).bind fun h=>(Pe (h,s.2.2.1.2.2.1)).bind fun g=>cond (!g) (A3 (.inr (B6 (false,())))) (A3 (.inl (s.1,zD .i64 (s.2.1+1),s.2.2.1,())))) (A3 (.inr (B7 ())))
def SE(x:(Z7×LI×Int)):Option Bool:=(show Option (LI×c6S)from(Qs x.1).bind fun k=>cond (!k) (A3 (x.2.1,true,x.1,())) (cond (A4 ((x.2.1.length:Int) > x.2.2)) (A3 (x.2.1,true,x.1,())) (cond (x.1.2.1==0) A6 (A3 (x.2.1,(B8 (x.2.1.length:Int) x.1.2.1) != 0,x.1,()))))).bind fun h=>cond h.2.1 (A3 false) ((Al Ki (h.1,0,h.2.2.1,())).bind fun f=>match f with |.inl a=>A3 true |.inr g=>A3 g.1)
def a6U:sG:=⟨[.v HX,.v QL,.v QI],[.v .bool],SE⟩
def H5:sD:=⟨[(58,[.sv 1 QL,7,.vp 3 HX],[Qe 0 [],Qr [.sv 6 .bool]])],[(6,[Qn [.sv 1 QL,.sv 24 .bool,.vp 3 HX]])],[(6,[.v,.v,.v,.v,.v,.v,.x,.x])]⟩
def SF(x:c2P):Option (LI×QX×Bool):=(GG (x.1,x.2.1,zD .i64 (1+(bits .i64 .and x.2.2.1 63)),bits .i64 .and x.2.2.2 3)).bind fun h=>(Ek h.1).bind fun g=>cond (h.2==0) (A3 (h.1,g.1,g.2==0)) (A3 (h.1,g.1,false))
def a6V:sG:=⟨[.v HX,.v QL,.v QI,.v QI],[.v QB,.v nG,.v .bool],SF⟩
def H6:sD:=⟨[],[],[(3,[.v,.q,.v,.v,.v,.v,.v,.v,.v,.w [0,9],.x])]⟩
def Kj(x:Int):Option Bool:=cond (A4 (x>=2)) (A3 (A4 (x<=5))) (A3 false)
def oT:sG:=⟨[.v QI],[.v .bool],Kj⟩
def Ef(s:(Z4×c2H)):Option ((Z4×c2H) ⊕ Z0):=(fun(a:Int)=>cond (A4 (a<(s.1.length:Int))) ((Az s.1 a).bind fun h=>(Az s.2.1 a).bind fun g=>cond (!(nE Q4 h g)) (A3 (.inr (B6 (false,())))) (A3 (.inl (s.1,s.2.1,zD .i64 (a+1),())))) (A3 (.inr (B7 ())))) s.2.2.1
def JA(x:(Z4×Z4)):Option Bool:=cond ((x.1.length:Int) != (x.2.length:Int)) (A3 false) ((Al Ef (x.1,x.2,0,())).bind fun g=>match g with |.inl f=>A3 true |.inr h=>A3 h.1)
def ZM:sG:=⟨[.v (.list false Q4),.v (.list false Q4)],[.v .bool],JA⟩
def c5s:sD:=⟨[(58,[.sv 0 (.list false Q4),.sv 1 (.list false Q4),5],[Qe 0 [],Qr [.sv 4 .bool]])],[],[(6,[.v,.v,.v,.v,.v,.v,.v,.v,.x])]⟩
def Py(x:(Z5×Z5)):Option Bool:=cond (x.1.1==x.2.1) ((CN (x.1.2.1,x.2.2.1)).bind fun h=>A3 h) (A3 false)
def jZ:sG:=⟨[.v Tm,.v Tm],[.v .bool],Py⟩
def Nk(x:(DU×DU)):Option Bool:=cond (x.1.1==x.2.1) (cond (x.1.2.1==x.2.2.1) (cond (x.1.2.2.1==x.2.2.2.1) (cond (x.1.2.2.2.1==x.2.2.2.2.1) (cond (x.1.2.2.2.2.1==x.2.2.2.2.2.1) ((CN (x.1.2.2.2.2.2.1,x.2.2.2.2.2.2.1)).bind fun h=>cond h (cond (nE (.arr 3 (.int .i64)) x.1.2.2.2.2.2.2.1 x.2.2.2.2.2.2.2.1) ((JA (x.1.2.2.2.2.2.2.2.1,x.2.2.2.2.2.2.2.2.1)).bind fun g=>cond g ((CN (x.1.2.2.2.2.2.2.2.2.1,x.2.2.2.2.2.2.2.2.2.1)).bind fun f=>cond f ((Py (x.1.2.2.2.2.2.2.2.2.2.1,x.2.2.2.2.2.2.2.2.2.2.1)).bind fun k=>cond k ((CN (x.1.2.2.2.2.2.2.2.2.2.2.1,x.2.2.2.2.2.2.2.2.2.2.2.1)).bind fun a=>A3 a) (A3 false)) (A3 false)) (A3 false)) (A3 false)) (A3 false)) (A3 false)) (A3 false)) (A3 false)) (A3 false)) (A3 false)
def oU:sG:=⟨[.v DY,.v DY],[.v .bool],Nk⟩
def Qt(x:DU):Option DU:=cond (x.1==0) (A3 (x.1,0,0,0,0,[],B3 3 0,[],x.2.2.2.2.2.2.2.2.1,(0,[],()),[],())) (cond (x.1==1) (A3 (x.1,x.2.1,0,0,0,[],B3 3 0,[],x.2.2.2.2.2.2.2.2.1,(0,[],()),[],())) ((show Option ZB from cond (x.1==2) (A3 ((0,0,0,0,0,[],B3 3 0,[],[],(0,[],()),[],()),(x.1,x.2.1,x.2.2.1,0,0,[],B3 3 0,[],x.2.2.2.2.2.2.2.2.1,x.2.2.2.2.2.2.2.2.2.1,x.2.2.2.2.2.2.2.2.2.2.1,()),())) (cond (x.1==3) (A3 ((0,0,0,0,0,[],B3 3 0,[],[],(0,[],()),[],()),(x.1,x.2.1,0,x.2.2.2.1,0,x.2.2.2.2.2.1,B3 3 0,[],x.2.2.2.2.2.2.2.2.1,x.2.2.2.2.2.2.2.2.2.1,x.2.2.2.2.2.2.2.2.2.2.1,()),())) (cond (x.1==4) (A3 ((0,0,0,0,0,[],B3 3 0,[],[],(0,[],()),[],()),(x.1,x.2.1,0,x.2.2.2.1,x.2.2.2.2.1,x.2.2.2.2.2.1,x.2.2.2.2.2.2.1,[],x.2.2.2.2.2.2.2.2.1,x.2.2.2.2.2.2.2.2.2.1,x.2.2.2.2.2.2.2.2.2.2.1,()),())) (cond (x.1==5) (A3 ((0,0,0,0,0,[],B3 3 0,[],[],(0,[],()),[],()),(x.1,x.2.1,0,0,0,[],B3 3 0,x.2.2.2.2.2.2.2.1,[],x.2.2.2.2.2.2.2.2.2.1,x.2.2.2.2.2.2.2.2.2.2.1,()),())) (A3 ((0,0,0,0,0,[],B3 3 0,[],[],(0,[],()),[],()),(x.1,x.2.1,0,0,0,[],B3 3 0,[],x.2.2.2.2.2.2.2.2.1,x.2.2.2.2.2.2.2.2.2.1,x.2.2.2.2.2.2.2.2.2.2.1,()),())))))).bind fun h=>A3 h.2.1))
def a4d:sG:=⟨[.v DY],[.v DY],Qt⟩
def c5t:sD:=⟨[],[(127,[Qn [.box 2 DY,.box 3 DY,Qp 2 2,Qp 3 3]])],[(7,[.v,.v,.v,.v,.q,.w [0,3],.x,.x]),(12,[.v,.v,.v,.v,.q,.w [0,3],.x,.x]),(14,[.v,.v,.v,.v,.v,.v,.v,.v,.q,.w [0,3],.q,.w [0,3],.q,.w [0,3],.x,.x])]⟩
def EO(s:MF):Option (MF ⊕ (Z6 ⊕ (Bool×Unit))):=(fun(a:LI)(b c:Int)=>cond (A4 (c<(a.length:Int))) ((show Option b4N from(Az a c).bind fun g=>cond (A4 (g<(-32768))) (A3 (a,b,c,true,())) ((Az a c).bind fun f=>A3 (a,b,c,A4 (f>=32768),()))).bind fun h=>cond h.2.2.2.1 (A3 (.inr (B6 (false,())))) (A3 (.inl (h.1,h.2.1,zD .i64 (h.2.2.1+1),())))) (A3 (.inr (B7 (a,b,()))))) s.1 s.2.1 s.2.2.1
def Fj(x:(LI×Int)):Option Bool:=(Al EO (x.1,x.2,0,())).bind fun f=>match f with |.inl h=>(cond (A4 ((h.1.length:Int)>=1)) (cond (A4 ((h.1.length:Int)<=32)) (cond (A4 (h.2.1>=0)) (A3 (A4 (h.2.1<=15))) (A3 false)) (A3 false)) (A3 false)) |.inr g=>A3 g.1
def fC:sG:=⟨[.v QL,.v QI],[.v .bool],Fj⟩
def c5u:sD:=⟨[(26,[.sv 0 QL,1,5],[Qe 0 [.sv 0 QL,1],Qr [.sv 4 .bool]])],[(420,[Qn [.sv 0 QL,1,5,.sv 23 .bool]])],[]⟩
def GH(s:a5H):Option (a5H ⊕ ((Int×Unit) ⊕ (Bool×Unit))):=(fun(a:Int)(b:LI)=>cond (A4 (a<3)) ((show Option c2G from(Az b a).bind fun g=>cond (A4 (g<(-64))) (A3 (s.1,a,true,b,())) ((Az b a).bind fun f=>A3 (s.1,a,A4 (f > 64),b,()))).bind fun h=>cond h.2.2.1 (A3 (.inr (B6 (false,())))) (A3 (.inl (h.1,zD .i64 (h.2.1+1),h.2.2.2.1,())))) (A3 (.inr (B7 (s.1,()))))) s.2.1 s.2.2.1
def Kk(x:(Int×LI)):Option Bool:=(Al GH (x.1,0,x.2,())).bind fun f=>match f with |.inl h=>(cond (A4 (h.1>=2)) (A3 (A4 (h.1<=1024))) (A3 false)) |.inr g=>A3 g.1
def oV:sG:=⟨[.v QI,.v (.arr 3 QI)],[.v .bool],Kk⟩
def c5v:sD:=⟨[(26,[0,5,.vp 3 (.arr 3 QI)],[Qe 0 [0],Qr [.sv 4 .bool]])],[(420,[Qn [0,5,.sv 19 .bool,.vp 3 (.arr 3 QI)]])],[]⟩
def IR(x:(Int×Int×Unit)):Option Bool:=cond (A4 (x.1>=1)) (cond (A4 (x.1<=32)) (cond (A4 (x.2.1>=0)) (A3 (A4 (x.2.1<=8))) (A3 false)) (A3 false)) (A3 false)
def kA:sG:=⟨[.v Q4],[.v .bool],IR⟩
def FD(s:c2H):Option (c2H ⊕ ((Z4×Unit) ⊕ (Bool×Unit))):=cond (A4 (s.2.1<(s.1.length:Int))) ((Az s.1 s.2.1).bind fun h=>(IR h).bind fun g=>cond (!g) (A3 (.inr (B6 (false,())))) (A3 (.inl (s.1,zD .i64 (s.2.1+1),())))) (A3 (.inr (B7 (s.1,()))))
def IS(x:Z4):Option Bool:=(Al FD (x,0,())).bind fun f=>match f with |.inl h=>A3 (A4 ((h.1.length:Int)<=3)) |.inr g=>A3 g.1
def kC:sG:=⟨[.v (.list false Q4)],[.v .bool],IS⟩
def c5w:sD:=⟨[(26,[.sv 0 (.list false Q4),3],[Qe 0 [.sv 0 (.list false Q4)],Qr [.sv 2 .bool]])],[],[]⟩
def Qu(x:XJ):Option Int:=cond (x.1.1==0) (A3 1) (cond (x.1.1==1) (A3 x.2) (cond (x.1.1==2) ((show Option b5H from cond (A4 (x.1.2.2.1>=0)) (cond (A4 (x.1.2.2.1<=4)) (A3 (A4 (x.1.2.2.1<=x.2),x.1,())) (A3 (false,x.1,()))) (A3 (false,x.1,()))).bind fun g=>cond g.1 (A3 g.2.1.2.2.1) (A3 (-1))) ((show Option b5J from cond (x.1.1==3) (A3 (x.2,x.1.1,x.1.1==3,x.1,())) (A3 (x.2,x.1.1,x.1.1==4,x.1,()))).bind fun h=>cond h.2.2.1 ((show Option b5H from(Fj (h.2.2.2.1.2.2.2.2.2.1,h.2.2.2.1.2.2.2.1)).bind fun k=>cond k (cond (A4 ((h.2.2.2.1.2.2.2.2.2.1.length:Int)<=h.1)) (cond (h.2.2.2.1.1==3) (A3 (true,h.2.2.2.1,())) ((Kk (h.2.2.2.1.2.2.2.2.1,h.2.2.2.1.2.2.2.2.2.2.1)).bind fun a=>A3 (a,h.2.2.2.1,()))) (A3 (false,h.2.2.2.1,()))) (A3 (false,h.2.2.2.1,()))).bind fun f=>cond f.1 (A3 (f.2.1.2.2.2.2.2.1.length:Int)) (A3 (-1))) (cond (h.2.1==5) ((show Option (Bool×Unit)from cond (A4 ((h.2.2.2.1.2.2.2.2.2.2.2.1.length:Int) > 0)) ((IS h.2.2.2.1.2.2.2.2.2.2.2.1).bind fun b=>A3 (b,())) (A3 (false,()))).bind fun c=>cond c.1 (A3 0) (A3 (-1))) (A3 (-1))))))
def a4e:sG:=⟨[.v DY,.v QI],[.v QI],Qu⟩
def c5x:sD:=⟨[],[(1726,[Qn [.sv 27 .bool,.vp 2 DY]]),(1727,[Qn [1,6,.sv 30 .bool,.vp 2 DY]]),(6910,[Qn [.sv 56 .bool,.vp 2 DY]]),(27646,[Qn [.sv 70 .bool]])],[]⟩
def EC(x:Int):Option Bool:=cond (A4 (x>=(-1073741824))) (A3 (A4 (x<1073741824))) (A3 false)
def b0k:sG:=⟨[.v QI],[.v .bool],EC⟩
def HF(s:Z6):Option (Z6 ⊕ Z0):=cond (A4 (s.2.1<(s.1.length:Int))) ((Az s.1 s.2.1).bind fun h=>(EC h).bind fun g=>cond (!g) (A3 (.inr (B6 (false,())))) (A3 (.inl (s.1,zD .i64 (s.2.1+1),())))) (A3 (.inr (B7 ())))
def Ce(x:LI):Option Bool:=(Al HF (x,0,())).bind fun g=>match g with |.inl f=>A3 true |.inr h=>A3 h.1
def a1D:sG:=⟨[.v QL],[.v .bool],Ce⟩
def c5y:sD:=⟨[(26,[.sv 0 QL,3],[Qe 0 [],Qr [.sv 2 .bool]])],[],[]⟩
def Yd(x:(Int×Int)):Option Bool:=cond (A4 (x.1>=1)) (cond (A4 (x.1<=4096)) (cond (A4 (x.2>=0)) (A3 (A4 (x.2<=x.1))) (A3 false)) (A3 false)) (A3 false)
def b2J:sG:=⟨[.v QI,.v QI],[.v .bool],Yd⟩
def Hp(s:c2K):Option (c2K ⊕ Z5):=(fun(a b c:Int)(d:LI)=>cond (A4 (zD .u64 a<0)) A6 (cond (A4 (c<AT .i64 1 (zD .u64 a))) (cond (A4 (zD .u64 a<0)) A6 (cond (Bp ((A8 d)+1)) (A3 (.inl (a,s.2.1,b,zD .i64 (c+1),A9 d [AR .i64 s.2.1 (zD .u64 a)],()))) A6)) (A3 (.inr (b,d,()))))) s.1 s.2.2.1 s.2.2.2.1 s.2.2.2.2.1
def Fk(x:(Int×Int×Int)):Option LI:=(show Option b9n from(Yd (x.2.1,x.2.2)).bind fun f=>cond (!f) (A3 (x.1,x.2.1,x.2.2,true,())) (cond (A4 (x.1<0)) (A3 (x.1,x.2.1,x.2.2,true,())) (cond (A4 (x.1 > 8)) (A3 (x.1,x.2.1,x.2.2,true,())) (cond (A4 (zD .u64 x.1<0)) A6 (cond (AT .i64 1 (zD .u64 x.1)==0) A6 (cond ((B8 x.2.1 (AT .i64 1 (zD .u64 x.1))) != 0) (A3 (x.1,x.2.1,x.2.2,true,())) (cond (A4 (zD .u64 x.1<0)) A6 (A3 (x.1,x.2.1,x.2.2,A4 (AR .i64 x.2.1 (zD .u64 x.1)<x.2.2),()))))))))).bind fun g=>cond g.2.2.2.1 (A3 []) ((Al Hp (g.1,g.2.1,g.2.2.1,0,[],())).bind fun h=>cond (A4 (0<(h.2.1.length:Int))) (cond (A4 (0<(h.2.1.length:Int))) (A3 (C2 h.2.1 0 (zD .i64 ((B4 h.2.1 0 0)-h.1)))) A6) A6)
def fD:sG:=⟨[.v QI,.v QI,.v QI],[.o QI],Fk⟩
def c8X:sD:=⟨[(122,[0,1,2,8,.own 7 7 QI],[Qe 0 [2,.own 7 7 QI]])],[(6,[Qn [0,1,2,.sv 36 .bool]])],[]⟩
def DC(x:Int):Option Bool:=cond (A4 (x>=0)) (A3 (A4 (x<=25))) (A3 false)
def kD:sG:=⟨[.v QI],[.v .bool],DC⟩
def ED(s:(Int×b5w)):Option ((Int×b5w) ⊕ Z0):=cond (A4 (s.1<(s.2.1.2.1.length:Int))) ((show Option (Int×b9F)from(Az s.2.1.2.1 s.1).bind fun g=>(DC g).bind fun k=>cond (!k) ((Az s.2.1.2.1 s.1).bind fun f=>A3 (s.1,f != 31,s.2.1,())) (A3 (s.1,false,s.2.1,()))).bind fun h=>cond h.2.1 (A3 (.inr (B6 (false,())))) (A3 (.inl (zD .i64 (h.1+1),h.2.2.1,())))) (A3 (.inr (B7 ())))
def HT(x:(Z5×Int×Int)):Option Bool:=(Fk (x.1.1,x.2.1,x.2.2)).bind fun h=>(show Option b9F from cond ((h.length:Int)==0) (A3 (true,x.1,())) (A3 ((h.length:Int) != (x.1.2.1.length:Int),x.1,()))).bind fun g=>cond g.1 (A3 false) ((Al ED (0,g.2.1,())).bind fun k=>match k with |.inl a=>A3 true |.inr f=>A3 f.1)
def oW:sG:=⟨[.v Tm,.v QI,.v QI],[.v .bool],HT⟩
def c5z:sD:=⟨[(122,[8,.vp 3 Tm],[Qe 0 [],Qr [.sv 6 .bool]])],[(14,[Qn [.sv 24 .bool,.vp 3 Tm]]),(1956,[Qn [8,.sv 46 .bool,.vp 3 Tm]])],[]⟩
def SG(x:Int):Option LI:=cond (A4 (0<=x)&&A4 (x<5)) (A3 (B4 ([[],[1],[2,(-1)],[3,(-3),1],[4,(-6),4,(-1)]]:List LI) (A7 x) [])) A6
def a1E:sG:=⟨[.v QI],[.v QL],SG⟩
def EP(s:(LI×Int×c2N)):Option ((LI×Int×c2N) ⊕ (LI×a5I)):=(fun(a:Int)(b:LI)(c d e:Int)(f:LI)=>cond (A4 (e<a)) ((Az b e).bind fun h=>cond (A4 (0<=(zD .i64 ((zD .i64 ((f.length:Int)-1))-e)))&&A4 (zD .i64 ((zD .i64 ((f.length:Int)-1))-e)<(f.length:Int))) (A3 (.inl (s.1,a,b,c,zD .i64 (d+(zD .i64 (h*(B4 f (A7 (zD .i64 ((zD .i64 ((f.length:Int)-1))-e))) 0)))),zD .i64 (e+1),f,()))) A6) (A3 (.inr (s.1,a,b,c,d,f,())))) s.2.1 s.2.2.1 s.2.2.2.1 s.2.2.2.2.1 s.2.2.2.2.2.1 s.2.2.2.2.2.2.1
def Hq(s:(LI×Int×b5z)):Option ((LI×Int×b5z) ⊕ a6I):=(fun(a:Int)(b:LI)=>cond (A4 (a<(s.1.length:Int))) ((Az s.1 a).bind fun g=>(Al EP (s.1,s.2.1,s.2.2.1,a,g,0,b,())).bind fun h=>(EC h.2.2.2.2.1).bind fun f=>cond (!f) (A3 (.inr (B6 (6,[],())))) (cond (Bp ((A8 h.2.2.2.2.2.1)+1)) (A3 (.inl (h.1,h.2.1,h.2.2.1,zD .i64 (h.2.2.2.1+1),A9 h.2.2.2.2.2.1 [h.2.2.2.2.1],()))) A6)) (A3 (.inr (B7 (b,()))))) s.2.2.2.1 s.2.2.2.2.1
def KF(x:b7i):Option (LI×Int):=(show Option b9r from cond (A4 (x.2.2<0)) (A3 (x.1,x.2.1,x.2.2,true,())) (cond (A4 (x.2.2 > 4)) (A3 (x.1,x.2.1,x.2.2,true,())) (A3 (x.1,x.2.1,x.2.2,(x.1.length:Int) != x.2.2,())))).bind fun h=>cond h.2.2.2.1 (A3 ([],1)) ((show Option b9r from(Ce h.1).bind fun b=>cond (!b) (A3 (h.1,h.2.1,h.2.2.1,true,())) ((Ce h.2.1).bind fun c=>A3 (h.1,h.2.1,h.2.2.1,!c,()))).bind fun g=>cond g.2.2.2.1 (A3 ([],6)) (cond (Bp (0+(A8 g.1))) ((SG g.2.2.1).bind fun d=>(Al Hq (g.2.1,g.2.2.1,d,0,A9 [] g.1,())).bind fun a=>match a with |.inl k=>A3 (k.1,0) |.inr f=>A3 (f.2.1,f.1)) A6))
def fE:sG:=⟨[.v QL,.v QL,.v QI],[.o QI,.v QI],KF⟩
def c5A:sD:=⟨[(250,[.sv 1 QL,2,.sv 9 QL,10,.own 8 8 QI],[Qe 0 [.own 8 8 QI],Qr [7,.own 6 6 QI]]),(64074,[.sv 1 QL,2,.sv 9 QL,10,11,12,.own 8 8 QI],[Qe 2 [.sv 1 QL,2,.sv 9 QL,10,11,.own 8 8 QI]])],[(6,[Qn [.sv 0 QL,.sv 1 QL,2,.sv 24 .bool]]),(14,[Qn [.sv 0 QL,.sv 1 QL,2,.sv 32 .bool]])],[(13,[.v,.v,.v,.v,.v,.q,.q,.q,.v,.v,.v,.q,.q,.v,.x,.x])]⟩
def DD(s:b9L):Option (b9L ⊕ ((Int×Int×Unit) ⊕ (Int×Unit))):=(fun(a b:LI)(c d e:Int)=>cond (A4 (e<(b.length:Int))) (cond (A4 (e<(a.length:Int))) ((Az a (zD .i64 ((zD .i64 ((a.length:Int)-1))-e))).bind fun h=>(EC h).bind fun f=>cond (!f) (A3 (.inr (B6 (0,())))) ((Az b e).bind fun g=>A3 (.inl (a,b,c,zD .i64 (d+(zD .i64 (g*h))),zD .i64 (e+1),())))) (A3 (.inr (B7 (c,d,()))))) (A3 (.inr (B7 (c,d,()))))) s.1 s.2.1 s.2.2.1 s.2.2.2.1 s.2.2.2.2.1
def Iu(x:b7i):Option Int:=(Fj (x.2.1,x.2.2)).bind fun k=>cond (!k) (A3 0) ((Al DD (x.1,x.2.1,x.2.2,0,0,())).bind fun f=>match f with |.inl h=>(cond (A4 (zD .u64 h.1<0)) A6 (A3 (AR .i64 h.2.1 (zD .u64 h.1)))) |.inr g=>A3 g.1)
def Ye:sG:=⟨[.v QL,.v QL,.v QI],[.v QI],Iu⟩
def c5B:sD:=⟨[(122,[.sv 0 QL,.sv 1 QL,2,7,8],[Qe 0 [2,7],Qr [6]])],[],[]⟩
def Gf(s:c2S):Option (c2S ⊕ a6I):=(fun(a b:Int)(c:LI)=>cond (A4 (b<(s.1.length:Int))) ((Az s.1 b).bind fun h=>(Iu (c,s.2.1,a)).bind fun g=>(EC (zD .i64 (h+g))).bind fun f=>cond (!f) (A3 (.inr (B6 (6,[],())))) (cond (Bp ((A8 c)+1)) (A3 (.inl (s.1,s.2.1,a,zD .i64 (b+1),A9 c [zD .i64 (h+g)],()))) A6)) (A3 (.inr (B7 (c,()))))) s.2.2.1 s.2.2.2.1 s.2.2.2.2.1
def GI(x:(LI×b7i)):Option (LI×Int):=(show Option c2U from(Fj (x.2.2.1,x.2.2.2)).bind fun b=>cond (!b) (A3 (x.1,x.2.1,x.2.2.1,x.2.2.2,true,())) (A3 (x.1,x.2.1,x.2.2.1,x.2.2.2,(x.1.length:Int) != (x.2.2.1.length:Int),()))).bind fun h=>cond h.2.2.2.2.1 (A3 ([],1)) ((show Option c2U from(Ce h.1).bind fun c=>cond (!c) (A3 (h.1,h.2.1,h.2.2.1,h.2.2.2.1,true,())) ((Ce h.2.1).bind fun d=>A3 (h.1,h.2.1,h.2.2.1,h.2.2.2.1,!d,()))).bind fun g=>cond g.2.2.2.2.1 (A3 ([],6)) (cond (Bp (0+(A8 g.1))) ((Al Gf (g.2.1,g.2.2.1,g.2.2.2.1,0,A9 [] g.1,())).bind fun a=>match a with |.inl k=>A3 (k.1,0) |.inr f=>A3 (f.2.1,f.1)) A6))
def ZN:sG:=⟨[.v QL,.v QL,.v QL,.v QI],[.o QI,.v QI],GI⟩
def c5C:sD:=⟨[(250,[.sv 1 QL,.sv 2 QL,3,11,.own 10 10 QI],[Qe 0 [.own 10 10 QI],Qr [9,.own 8 8 QI]])],[(6,[Qn [.sv 0 QL,.sv 1 QL,.sv 2 QL,3,.sv 23 .bool]]),(14,[Qn [.sv 0 QL,.sv 1 QL,.sv 2 QL,3,.sv 31 .bool]])],[(9,[.v,.v,.v,.v,.q,.v,.v,.q,.x,.x])]⟩
def EQ(s:c2N):Option (c2N ⊕ (Int×Unit)):=(fun(a:LI)(b c d:Int)(e:LI)=>cond (A4 (d<3)) (cond (A4 ((zD .i64 ((zD .i64 ((zD .i64 ((a.length:Int)-b))-1))+d))>=0)) ((Az e d).bind fun h=>(Az a (zD .i64 ((zD .i64 ((zD .i64 ((a.length:Int)-b))-1))+d))).bind fun g=>A3 (.inl (a,b,zD .i64 (c+(zD .i64 (h*g))),zD .i64 (d+1),e,()))) (A3 (.inl (a,b,c,zD .i64 (d+1),e,())))) (A3 (.inr (c,())))) s.1 s.2.1 s.2.2.1 s.2.2.2.1 s.2.2.2.2.1
def KG(x:c2D):Option Int:=(Al EQ (x.1,x.2.1,0,0,x.2.2,())).bind fun h=>A3 (AR .i64 h.1 6)
def fF:sG:=⟨[.v QL,.v QI,.v (.arr 3 QI)],[.v QI],KG⟩
def c5D:sD:=⟨[(58,[.sv 0 QL,1,7,8,.vp 5 (.arr 3 QI)],[Qe 0 [7]])],[],[(7,[.v,.v,.v,.v,.v,.v,.v,.v,.v,.x,.x])]⟩
def Iv(s:c3l):Option (c3l ⊕ a6I):=(fun(a:Int)(b c:LI)=>cond (A4 (a<(s.1.length:Int))) ((Az s.1 a).bind fun h=>(KG (b,s.2.1,c)).bind fun g=>(EC (zD .i64 (h+g))).bind fun f=>cond (!f) (A3 (.inr (B6 (6,[],())))) (cond (Bp ((A8 b)+1)) (A3 (.inl (s.1,s.2.1,zD .i64 (a+1),A9 b [zD .i64 (h+g)],c,()))) A6)) (A3 (.inr (B7 (b,()))))) s.2.2.1 s.2.2.2.1 s.2.2.2.2.1
def Mu(x:c2D):Option (LI×Int):=(Kk (x.2.1,x.2.2)).bind fun k=>cond (!k) (A3 ([],1)) ((Ce x.1).bind fun a=>cond (!a) (A3 ([],6)) ((Al Iv (x.1,x.2.1,0,[],x.2.2,())).bind fun f=>match f with |.inl g=>A3 (g.1,0) |.inr h=>A3 (h.2.1,h.1)))
def kE:sG:=⟨[.v QL,.v QI,.v (.arr 3 QI)],[.o QI,.v QI],Mu⟩
def c5E:sD:=⟨[(250,[.sv 0 QL,1,9,.own 8 8 QI,.vp 5 (.arr 3 QI)],[Qe 0 [.own 8 8 QI],Qr [7,.own 6 6 QI]])],[],[(9,[.v,.v,.v,.v,.q,.v,.v,.q,.x,.x])]⟩
def KH(x:(Int×Int×Unit)):Option c2I:=(IR x).bind fun h=>cond (!h) A6 (cond (A4 (0<=x.1)&&(A4 (x.1<=x.1)&&Bp (A7 x.1))) (cond (A4 (0<=x.1)&&(A4 (x.1<=x.1)&&Bp (A7 x.1))) (A3 ((x.2.1,B3 (A7 x.1) 0,B3 (A7 x.1) 0,()),0)) A6) A6)
def fG:sG:=⟨[.v Q4],[.b a1f,.v QI],KH⟩
def c5F:sD:=⟨[],[],[(3,[.v,.v,.v,.v,.q,.v,.v,.q,.x,.x,.x,.x])]⟩
def Pz(x:Int):Option Int:=some (GZ (EA x (-1073741824)) 1073741823)
def a6W:sG:=⟨[.v QI],[.v QI],Pz⟩
def EX(s:c2W):Option (c2W ⊕ c2O):=(fun(a:Int)(b:b2q)=>cond (A4 (a<(b.2.1.length:Int))) (cond (A4 (0<=a)&&A4 (a<(b.2.1.length:Int))) (cond (A4 (0<=a)&&A4 (a<(b.2.2.1.length:Int))) (A3 (.inl (zD .i64 (s.1+(zD .i64 ((B4 b.2.1 (A7 a) 0)*(B4 b.2.2.1 (A7 a) 0)))),zD .i64 (a+1),b,()))) A6) A6) (A3 (.inr (s.1,b,())))) s.2.1 s.2.2.1
def ER(x:b2q):Option c3h:=(Al EX (0,0,x,())).bind fun h=>(Pz (AR .i64 h.1 16)).bind fun g=>A3 (g,h.2.1)
def WR:sG:=⟨[.r false (.b a1f)],[.v QI],ER⟩
def c5G:sD:=⟨[(58,[3,4,.box pinned a1f,Qp 0 pinned],[Qe 0 [3,.box pinned a1f]])],[],[(5,[.v,.p,.p,.q,.q,.v,.q,.q,.p,.p,.q,.q,.v,.q,.q,.v,.x,.x])]⟩
def PB(x:Int):Option Int:=cond (A4 (x > 0)) (A3 1) (cond (A4 (x<0)) (A3 (-1)) (A3 0))
def a6X:sG:=⟨[.v QI],[.v QI],PB⟩
def DE(s:(Int×Int×Int×LI×c2V)):Option ((Int×Int×Int×LI×c2V) ⊕ (Int×LI×c2V)):=(fun(a:Int)(b c:LI)(d:b2q)=>cond (A4 (a<(d.2.1.length:Int))) (cond (A4 (0<=a)&&A4 (a<(d.2.1.length:Int))) (cond (A4 (0<=a)&&A4 (a<(d.2.2.1.length:Int))) ((PB (B4 d.2.2.1 (A7 a) 0)).bind fun h=>cond (A4 (zD .u64 d.1<0)) A6 (cond (Bp ((A8 b)+1)) (A3 (.inl (s.1,s.2.1,zD .i64 (a+1),A9 b [GZ (EA (zD .i64 ((B4 d.2.1 (A7 a) 0)+(AT .i64 (zD .i64 (s.2.1*h)) (zD .u64 d.1)))) (-1048576)) 1048576],c,d,()))) A6)) A6) A6) (A3 (.inr (s.1,b,c,d,())))) s.2.2.1 s.2.2.2.1 s.2.2.2.2.1 s.2.2.2.2.2.1
def Iw(x:c2I):Option b2q:=(Pz x.2).bind fun g=>(ER x.1).bind fun f=>(PB (zD .i64 (g-f.1))).bind fun k=>(Al DE (g,k,0,[],[],f.2,())).bind fun h=>cond (Bp ((A8 h.2.2.1)+1)) (cond (A4 (0<=(zD .i64 ((h.2.2.2.1.2.2.1.length:Int)-1)))&&A4 ((zD .i64 ((h.2.2.2.1.2.2.1.length:Int)-1))<=(h.2.2.2.1.2.2.1.length:Int))) (cond (Bp ((A8 (A9 h.2.2.1 [h.1]))+(A8 (B9 (A7 (zD .i64 ((h.2.2.2.1.2.2.1.length:Int)-1))) (C1 0 h.2.2.2.1.2.2.1))))) (A3 (h.2.2.2.1.1,h.2.1,A9 (A9 h.2.2.1 [h.1]) (B9 (A7 (zD .i64 ((h.2.2.2.1.2.2.1.length:Int)-1))) (C1 0 h.2.2.2.1.2.2.1)),h.2.2.2.1.2.2.2)) A6) A6) A6
def Yf:sG:=⟨[.r false (.b a1f),.v QI],[],Iw⟩
def c5H:sD:=⟨[(122,[1,4,7,.own 5 5 QI,.own 6 6 QI,.box pinned a1f,Qp 0 pinned],[Qe 0 [1,.own 5 5 QI,.own 6 6 QI,.box pinned a1f,Qp 0 pinned]])],[],[(6,[.q,.p,.p,.q,.q,.v,.q,.q,.v,.p,.p,.q,.q,.v,.q,.q,.v,.v,.p,.p,.q,.q,.v,.v,.v,.v,.v,.q,.x,.x]),(7,[.q,.v,.q,.w [6,55,56],.p,.p,.r [59,pinned],.r [60,pinned],.p,.p,.r [63,pinned],.r [64,pinned],.r [65,pinned],.v,.r [67,pinned],.x,.x])]⟩
def ES(s:(Z4×b5C)):Option ((Z4×b5C) ⊕ ((Z4×Z5) ⊕ Z5)):=(fun(a:Int)(b:LI)=>cond (A4 (a<(b.length:Int))) (cond (A4 (0<=a)&&A4 (a<(b.length:Int))) ((ER s.2.2.2.2.1).bind fun h=>(EC (zD .i64 ((B4 b (A7 a) 0)+h.1))).bind fun g=>cond (!g) (A3 (.inr (B6 (6,[],())))) (cond (A4 (0<=a)&&A4 (a<(b.length:Int))) ((Iw (h.2,zD .i64 ((B4 b (A7 a) 0)+h.1))).bind fun f=>A3 (.inl (s.1,s.2.1,zD .i64 (a+1),C2 b (A7 a) (zD .i64 ((B4 b (A7 a) 0)+h.1)),f,()))) A6)) A6) (A3 (.inr (B7 (s.1,s.2.1,b,()))))) s.2.2.1 s.2.2.2.1
def Hr(s:(Z4×Z5)):Option ((Z4×Z5) ⊕ a6I):=cond (A4 (s.2.1>=0)) ((Az s.1 s.2.1).bind fun k=>(KH k).bind fun a=>(Al ES (s.1,s.2.1,0,s.2.2.1,a.1,())).bind fun f=>match f with |.inl g=>A3 (.inl (g.1,zD .i64 (g.2.1-1),g.2.2.1,())) |.inr h=>A3 (.inr (B6 (h.1,h.2.1,())))) (A3 (.inr (B7 (s.2.2.1,()))))
def KI(x:(LI×Z4)):Option (LI×Int):=(IS x.2).bind fun k=>cond (!k) (A3 ([],1)) ((Ce x.1).bind fun a=>cond (!a) (A3 ([],6)) (cond (Bp (0+(A8 x.1))) ((Al Hr (x.2,zD .i64 ((x.2.length:Int)-1),A9 [] x.1,())).bind fun f=>match f with |.inl g=>A3 (g.1,0) |.inr h=>A3 (h.2.1,h.1)) A6))
def fH:sG:=⟨[.v QL,.v (.list false Q4)],[.o QI,.v QI],KI⟩
def c5I:sD:=⟨[(250,[.sv 1 (.list false Q4),7,.own 6 6 QI],[Qe 0 [.own 6 6 QI],Qr [5,.own 4 4 QI]]),(32038,[.sv 1 (.list false Q4),7,10,.own 6 6 QI,.box 1033 a1f,Qp 8 1033],[Qe 2 [.sv 1 (.list false Q4),7,.own 6 6 QI],Qr [5,.own 4 4 QI]])],[],[(13,[.r [6,42],.v,.r [6,44],.r [6,45],.q,.w [47,1033,1047],.x,.x])]⟩
def SH(x:DU):Option (LI×Int):=cond (x.1==2) ((KF (x.2.2.2.2.2.2.2.2.1,x.2.2.2.2.2.2.2.2.2.2.1,x.2.2.1)).bind fun g=>A3 (g.1,g.2)) (cond (x.1==3) ((GI (x.2.2.2.2.2.2.2.2.1,x.2.2.2.2.2.2.2.2.2.2.1,x.2.2.2.2.2.1,x.2.2.2.1)).bind fun f=>A3 (f.1,f.2)) (cond (x.1==4) ((GI (x.2.2.2.2.2.2.2.2.1,x.2.2.2.2.2.2.2.2.2.2.1,x.2.2.2.2.2.1,x.2.2.2.1)).bind fun h=>cond (h.2 != 0) (A3 ([],h.2)) ((Mu (h.1,x.2.2.2.2.1,x.2.2.2.2.2.2.1)).bind fun k=>A3 (k.1,k.2))) (cond (x.1==5) ((KI (x.2.2.2.2.2.2.2.2.2.2.1,x.2.2.2.2.2.2.2.1)).bind fun a=>A3 (a.1,a.2)) (A3 (x.2.2.2.2.2.2.2.2.1,0)))))
def a6Y:sG:=⟨[.v DY],[.v QL,.v QI],SH⟩
def SI(s:b4O):Option (b4O ⊕ a6I):=(fun(a:LI)(b c:Int)(d:LI)=>cond (A4 (c<(a.length:Int))) ((show Option (LI×c2G)from(Az a c).bind fun g=>(EC g).bind fun e=>cond (!e) (A3 (a,b,c,true,d,())) ((Az a c).bind fun f=>cond (A4 (zD .u64 b<0)) A6 ((EC (AT .i64 f (zD .u64 b))).bind fun i=>A3 (a,b,c,!i,d,())))).bind fun h=>cond h.2.2.2.1 (A3 (.inr (B6 (6,[],())))) ((Az h.1 h.2.2.1).bind fun k=>cond (A4 (zD .u64 h.2.1<0)) A6 (cond (Bp ((A8 h.2.2.2.2.1)+1)) (A3 (.inl (h.1,h.2.1,zD .i64 (h.2.2.1+1),A9 h.2.2.2.2.1 [AT .i64 k (zD .u64 h.2.1)],()))) A6))) (A3 (.inr (B7 (d,()))))) s.1 s.2.1 s.2.2.1 s.2.2.2.1
def gE(x:(LI×Int)):Option (LI×Int):=(show Option b5x from cond (A4 (x.2<0)) (A3 (x.1,x.2,true,())) (A3 (x.1,x.2,A4 (x.2 > 30),()))).bind fun g=>cond g.2.2.1 (A3 ([],1)) ((Al SI (g.1,g.2.1,0,[],())).bind fun k=>match k with |.inl f=>A3 (f.1,0) |.inr h=>A3 (h.2.1,h.1))
def b5Y:sG:=⟨[.v QL,.v QI],[.o QI,.v QI],gE⟩
def c5J:sD:=⟨[(122,[.sv 0 QL,1,7,.own 6 6 QI],[Qe 0 [.own 6 6 QI],Qr [5,.own 4 4 QI]])],[(6,[Qn [.sv 0 QL,1,.sv 13 .bool]]),(3912,[Qn [.sv 0 QL,1,7,.sv 36 .bool,.own 6 6 QI]])],[]⟩
def HG(s:b5K):Option (b5K ⊕ (LI×Unit)):=(fun(a:Int)(b:LI)(c:DU)=>cond (A4 (a<s.1)) ((Az c.2.2.2.2.2.2.2.2.1 0).bind fun h=>cond (A4 (0<=a)&&A4 (a<(b.length:Int))) (A3 (.inl (s.1,zD .i64 (a+1),C2 b (A7 a) h,c,()))) A6) (A3 (.inr (b,())))) s.2.1 s.2.2.1 s.2.2.2.1
def OM(x:XJ):Option (LI×Bool):=(show Option a9X from cond (A4 (x.2<1)) (A3 (x.2,true,x.1,())) (cond (A4 (x.2 > 4096)) (A3 (x.2,true,x.1,())) (cond (A4 (x.1.1<0)) (A3 (x.2,true,x.1,())) (cond (A4 (x.1.1 > 5)) (A3 (x.2,true,x.1,())) ((Qt x.1).bind fun d=>(Nk (x.1,d)).bind fun e=>cond (!e) (A3 (x.2,true,x.1,())) (cond (A4 (x.1.2.1<0)) (A3 (x.2,true,x.1,())) (A3 (x.2,A4 (x.1.2.1 > 30),x.1,())))))))).bind fun g=>cond g.2.1 (A3 ([],false)) ((Qu (g.2.2.1,g.1)).bind fun k=>(show Option b5J from cond (A4 (k<0)) (A3 (g.1,k,true,g.2.2.1,())) (cond ((g.2.2.1.2.2.2.2.2.2.2.2.1.length:Int) != k) (A3 (g.1,k,true,g.2.2.1,())) ((Ce g.2.2.1.2.2.2.2.2.2.2.2.1).bind fun i=>cond (!i) (A3 (g.1,k,true,g.2.2.1,())) ((Ce g.2.2.1.2.2.2.2.2.2.2.2.2.2.1).bind fun j=>A3 (g.1,k,!j,g.2.2.1,()))))).bind fun f=>cond f.2.2.1 (A3 ([],false)) ((show Option a9X from(Kj f.2.2.2.1.1).bind fun l=>cond l (cond ((f.2.2.2.1.2.2.2.2.2.2.2.2.2.2.1.length:Int) != (zD .i64 (f.1-f.2.1))) (A3 (f.1,true,f.2.2.2.1,())) ((HT (f.2.2.2.1.2.2.2.2.2.2.2.2.2.1,f.1,f.2.1)).bind fun m=>A3 (f.1,!m,f.2.2.2.1,()))) (A3 (f.1,false,f.2.2.2.1,()))).bind fun h=>cond h.2.1 (A3 ([],false)) (cond (h.2.2.1.1==0) (cond (A4 (0<=h.1)&&(A4 (h.1<=h.1)&&Bp (A7 h.1))) ((Al HG (h.1,0,B3 (A7 h.1) 0,h.2.2.1,())).bind fun c=>A3 (c.1,true)) A6) ((SH h.2.2.1).bind fun a=>cond (a.2 != 0) (A3 ([],false)) ((gE (a.1,h.2.2.1.2.1)).bind fun b=>A3 (b.1,b.2==0))))))
def a1F:sG:=⟨[.v DY,.v QI],[.o QI,.v .bool],OM⟩
def c8Y:sD:=⟨[(8106,[1,8,.own 7 7 QI,.vp 2 DY],[Qe 0 [.own 7 7 QI]])],[(6,[Qn [1,.sv 45 .bool,.vp 2 DY]]),(30,[Qn [1,6,.sv 69 .bool,.vp 2 DY]]),(62,[Qn [1,.sv 89 .bool,.vp 2 DY]])],[(1,[.x,.x,.x,.x,.x,.x,.x,.x,.x,.x,.x,.x,.x,.x,.x,.x,.x,.v,.v,.v,.x,.x,.x,.x,.x,.x,.x,.x,.x,.x,.x,.x,.x])]⟩
def ON(x:XJ):Option Bool:=(OM (x.1,x.2)).bind fun h=>A3 h.2
def a1G:sG:=⟨[.v DY,.v QI],[.v .bool],ON⟩
def Kl(s:MF):Option (MF ⊕ MF):=(fun(a:LI)(b c:Int)=>cond (A4 (b<32)) ((Az a c).bind fun h=>cond (h != 0) ((Az a c).bind fun g=>(Pe (g,b)).bind fun f=>cond (!f) (A3 (.inl (a,zD .i64 (b+1),c,()))) (A3 (.inr (a,b,c,())))) (A3 (.inr (a,b,c,())))) (A3 (.inr (a,b,c,())))) s.1 s.2.1 s.2.2.1
def Nl(s:MF):Option (MF ⊕ (Int×Unit)):=cond (A4 (s.2.2.1<(s.1.length:Int))) ((Al Kl (s.1,s.2.1,s.2.2.1,())).bind fun h=>A3 (.inl (h.1,h.2.1,zD .i64 (h.2.2.1+1),()))) (A3 (.inr (s.2.1,())))
def KP(x:LI):Option Int:=(Al Nl (x,0,0,())).bind fun h=>A3 h.1
def a6Z:sG:=⟨[.v QL],[.v QI],KP⟩
def c8Z:sD:=⟨[(58,[.sv 0 QL,3,4],[Qe 0 [3]]),(1864,[.sv 0 QL,3,4],[Qe 2 [.sv 0 QL,3,4]])],[],[]⟩
def Hs(s:b9p):Option (b9p ⊕ Z9):=(fun(a:Int)(b:LI×Unit)=>cond (A4 (a>=0)) (cond (A4 (zD .u64 a<0)) A6 (cond (Bp ((A8 b.1)+1)) (A3 (.inl (s.1,zD .i64 (a-1),(A9 b.1 [zD .u8 (bits .u64 .and (AR .u64 s.1 (zD .u64 a)) 1)],b.2),()))) A6)) (A3 (.inr (b,())))) s.2.1 s.2.2.1
def Av(x:((LI×Unit)×Int×Int)):Option Z5:=(show Option (Int×Int×Bool×Z9)from cond (A4 (x.2.2<0)) (A3 (x.2.1,x.2.2,true,x.1,())) (cond (A4 (x.2.2 > 64)) (A3 (x.2.1,x.2.2,true,x.1,())) (cond (A4 (x.2.2<64)) (cond (A4 (zD .u64 x.2.2<0)) A6 (A3 (x.2.1,x.2.2,(AR .u64 x.2.1 (zD .u64 x.2.2)) != 0,x.1,()))) (A3 (x.2.1,x.2.2,false,x.1,()))))).bind fun h=>cond h.2.2.1 (A3 (1,h.2.2.2.1)) ((Al Hs (h.1,zD .i64 (h.2.1-1),h.2.2.2.1,())).bind fun g=>A3 (0,g.1))
def fI:sG:=⟨[.r false (.b Q1),.v QU,.v QI],[.v QI],Av⟩
def c9a:sD:=⟨[(58,[.sv 1 QU,7,.box pinned Q1,Qp 0 pinned],[Qe 0 [.box pinned Q1]])],[(6,[Qn [.sv 1 QU,2,.sv 24 .bool,.box pinned Q1,Qp 0 pinned]])],[]⟩
def Ix(s:(LI×b9p)):Option ((LI×b9p) ⊕ Z9):=cond (A4 (s.2.2.1<(s.1.length:Int))) ((Az s.1 s.2.2.1).bind fun h=>cond (A4 (zD .u64 s.2.1<0)) A6 ((Av (s.2.2.2.1,bits .u64 .and (zD .u64 h) (zD .u64 ((AT .u64 1 (zD .u64 s.2.1))-1)),s.2.1)).bind fun g=>A3 (.inl (s.1,s.2.1,zD .i64 (s.2.2.1+1),g.2,())))) (A3 (.inr (s.2.2.2.1,())))
def DF(x:((LI×Unit)×LI×Int)):Option (LI×Unit):=(Al Ix (x.2.1,x.2.2,0,x.1,())).bind fun h=>A3 h.1
def kF:sG:=⟨[.r false (.b Q1),.v QL,.v QI],[],DF⟩
def c9b:sD:=⟨[(6,[.sv 1 QL,2,6,.box pinned Q1,Qp 0 pinned],[Qe 0 [.box pinned Q1]])],[],[]⟩
def HH(x:((LI×Unit)×DU)):Option (LI×Unit):=(Av (x.1,zD .u64 (zD .i64 ((x.2.2.2.2.2.2.1.length:Int)-1)),5)).bind fun g=>(Av (g.2,zD .u64 x.2.2.2.2.1,4)).bind fun f=>(KP x.2.2.2.2.2.2.1).bind fun h=>(Av (f.2,zD .u64 h,5)).bind fun k=>(DF (k.2,x.2.2.2.2.2.2.1,h)).bind fun a=>A3 a
def fJ:sG:=⟨[.r false (.b Q1),.v DY],[],HH⟩
def RB(x:Int):Option Int:=(show Option (Int×Unit)from cond (A4 (x<0)) (A3 (bits .u64 .xor (IntKind.max .u64) (AT .u64 (zD .u64 x) 1),())) (A3 (AT .u64 (zD .u64 x) 1,()))).bind fun h=>A3 h.1
def b2K:sG:=⟨[.v QI],[.v QU],RB⟩
def c9c:sD:=⟨[],[(7,[Qn [.sv 3 QU]])],[]⟩
def RC(x:Int):Option Int:=(EC x).bind fun h=>cond (!h) (A3 0) ((RB x).bind fun g=>A3 g)
def b0l:sG:=⟨[.v QI],[.v QU],RC⟩
def Nm(x:(Int×Int)):Option Int:=(show Option b9D from(DC x.1).bind fun f=>cond (!f) (A3 (x.1,x.2,true,())) ((EC x.2).bind fun k=>A3 (x.1,x.2,!k,()))).bind fun h=>cond h.2.2.1 (A3 0) ((RC h.2.1).bind fun g=>cond (A4 (zD .u64 h.1<0)) A6 (cond (A4 (zD .i64 (AR .u64 g (zD .u64 h.1))<32)) (A3 (zD .i64 ((zD .i64 ((zD .i64 (AR .u64 g (zD .u64 h.1)))+1))+h.1))) (A3 65)))
def oX:sG:=⟨[.v QI,.v QI],[.v QI],Nm⟩
def c5K:sD:=⟨[],[(6,[Qn [0,1,.sv 13 .bool]])],[]⟩
def KJ(s:Zb):Option b8k:=(fun(a:LI)(b c:Int)=>cond (A4 (c<(a.length:Int))) ((Az a c).bind fun h=>(Nm (s.1,h)).bind fun g=>A3 (.inl (s.1,a,zD .i64 (b+g),zD .i64 (c+1),()))) (A3 (.inr (b,())))) s.2.1 s.2.2.1 s.2.2.2.1
def OO(x:(Int×LI)):Option Int:=(Al KJ (x.1,x.2,0,0,())).bind fun h=>A3 h.1
def a1H:sG:=⟨[.v QI,.v QL],[.v QI],OO⟩
def c5L:sD:=⟨[(58,[0,.sv 1 QL,5,6],[Qe 0 [5]])],[],[]⟩
def Nn(x:(Int×LI)):Option Int:=cond (x.1==31) ((KP x.2).bind fun h=>A3 (zD .i64 (5+(zD .i64 ((x.2.length:Int)*h))))) ((OO (x.1,x.2)).bind fun g=>A3 g)
def oY:sG:=⟨[.v QI,.v QL],[.v QI],Nn⟩
def Iy(s:b5D):Option (b5D ⊕ (Int×Unit)):=(fun(a b:Int)(c:LI)(d:Z5)=>cond (A4 (b<(c.length:Int))) ((Az d.2.1 b).bind fun h=>cond (A4 (0<=b)&&A4 (b<(c.length:Int))) (cond (A4 (0<=(zD .i64 (a+(B4 c (A7 b) 0))))&&A4 ((zD .i64 (a+(B4 c (A7 b) 0)))<=(s.1.length:Int))) (cond (A4 (0<=a)&&A4 (a<=((A7 (zD .i64 (a+(B4 c (A7 b) 0))):Nat):Int))) ((Nn (h,C1 (A7 a) (B9 (A7 (zD .i64 (a+(B4 c (A7 b) 0)))) s.1))).bind fun g=>cond (A4 (0<=b)&&A4 (b<(c.length:Int))) (A3 (.inl (s.1,zD .i64 ((zD .i64 (s.2.1+5))+g),zD .i64 (a+(B4 c (A7 b) 0)),zD .i64 (b+1),c,d,()))) A6) A6) A6) A6) (A3 (.inr (s.2.1,())))) s.2.2.1 s.2.2.2.1 s.2.2.2.2.1 s.2.2.2.2.2.1
def Mv(x:c2M):Option Int:=(show Option (Int×Int×LI×b9F)from(HT (x.1,x.2.1,x.2.2.1)).bind fun f=>cond (!f) (A3 (x.2.1,x.2.2.1,x.2.2.2,true,x.1,())) (cond ((x.2.2.2.length:Int) != (zD .i64 (x.2.1-x.2.2.1))) (A3 (x.2.1,x.2.2.1,x.2.2.2,true,x.1,())) ((Ce x.2.2.2).bind fun k=>A3 (x.2.1,x.2.2.1,x.2.2.2,!k,x.1,())))).bind fun h=>cond h.2.2.2.1 (A3 0) ((Fk (h.2.2.2.2.1.1,h.1,h.2.1)).bind fun a=>(Al Iy (h.2.2.1,4,0,0,a,h.2.2.2.2.1,())).bind fun g=>A3 g.1)
def kG:sG:=⟨[.v Tm,.v QI,.v QI,.v QL],[.v QI],Mv⟩
def c9d:sD:=⟨[(250,[.sv 3 QL,9,10,12,.own 11 11 QI,.vp 4 Tm],[Qe 0 [9]])],[(6,[Qn [1,2,.sv 3 QL,.sv 30 .bool,.vp 4 Tm]])],[(8,[.v,.v,.v,.v,.v,.v,.v,.v,.v,.v,.q,.v,.q,.q,.v,.v,.v,.x,.x])]⟩
def FE(s:b9p):Option (b9p ⊕ Z9):=cond (A4 (s.2.1<s.1)) (cond (Bp ((A8 s.2.2.1.1)+1)) (A3 (.inl (s.1,zD .i64 (s.2.1+1),(A9 s.2.2.1.1 [0],s.2.2.1.2),()))) A6) (A3 (.inr (s.2.2.1,())))
def DP(x:((LI×Unit)×Int)):Option Z5:=(show Option (Int×Bool×Z9)from cond (A4 (x.2<0)) (A3 (x.2,true,x.1,())) (A3 (x.2,A4 (x.2 > 4096),x.1,()))).bind fun h=>cond h.2.1 (A3 (1,h.2.2.1)) ((Al FE (h.1,0,h.2.2.1,())).bind fun g=>cond (Bp ((A8 g.1.1)+1)) (A3 (0,A9 g.1.1 [1],g.1.2)) A6)
def Yg:sG:=⟨[.r false (.b Q1),.v QI],[.v QI],DP⟩
def c5M:sD:=⟨[(58,[1,5,.box pinned Q1,Qp 0 pinned],[Qe 0 [.box pinned Q1,Qp 0 pinned]])],[(6,[Qn [1,.sv 11 .bool,.box pinned Q1,Qp 0 pinned]])],[]⟩
def HI(s:(Int×LI×c3e)):Option ((Int×LI×c3e) ⊕ Z9):=(fun(a:Int)(b:LI)(c:Int)(d:LI×Unit)=>cond (A4 (c<(b.length:Int))) ((Az b c).bind fun g=>(RC g).bind fun h=>cond (A4 (zD .u64 a<0)) A6 (cond (A4 (zD .i64 (AR .u64 h (zD .u64 a))<32)) ((DP (d,zD .i64 (AR .u64 h (zD .u64 a)))).bind fun f=>cond (A4 (zD .u64 a<0)) A6 ((Av (f.2,bits .u64 .and h (zD .u64 ((AT .u64 1 (zD .u64 a))-1)),a)).bind fun k=>A3 (.inl (a,b,zD .i64 (c+1),k.2,())))) ((DP (d,32)).bind fun e=>(Av (e.2,h,32)).bind fun i=>A3 (.inl (a,b,zD .i64 (c+1),i.2,()))))) (A3 (.inr (d,())))) s.1 s.2.1 s.2.2.1 s.2.2.2.1
def OP(x:((LI×Unit)×Int×LI)):Option Z5:=(show Option (Int×LI×Bool×Z9)from(DC x.2.1).bind fun f=>cond (!f) (A3 (x.2.1,x.2.2,true,x.1,())) ((Ce x.2.2).bind fun k=>A3 (x.2.1,x.2.2,!k,x.1,()))).bind fun h=>cond h.2.2.1 (A3 (1,h.2.2.2.1)) ((Al HI (h.1,h.2.1,0,h.2.2.2.1,())).bind fun g=>A3 (0,g.1))
def a1I:sG:=⟨[.r false (.b Q1),.v QI,.v QL],[.v QI],OP⟩
def c9e:sD:=⟨[(58,[1,.sv 2 QL,7,.box pinned Q1,Qp 0 pinned],[Qe 0 [.box pinned Q1]])],[(6,[Qn [1,.sv 2 QL,.sv 17 .bool,.box pinned Q1,Qp 0 pinned]])],[]⟩
def EE(s:(LI×Int×Int×LI×(LI×Unit)×b5w)):Option ((LI×Int×Int×LI×(LI×Unit)×b5w) ⊕ Z9):=(fun(a:LI)(b c:Int)(d:LI)(e:LI×Unit)(f:Z5)=>cond (A4 (c<(d.length:Int))) (cond (A4 (0<=c)&&A4 (c<(d.length:Int))) (cond (A4 (0<=(zD .i64 (b+(B4 d (A7 c) 0))))&&A4 ((zD .i64 (b+(B4 d (A7 c) 0)))<=(a.length:Int))) (cond (A4 (0<=b)&&A4 (b<=((A7 (zD .i64 (b+(B4 d (A7 c) 0))):Nat):Int))) ((Az f.2.1 c).bind fun l=>(Av (e,zD .u64 l,5)).bind fun i=>(show Option (LI×Int×Int×LI×(LI×Unit)×b5w)from(Az f.2.1 c).bind fun m=>cond (m==31) ((KP (C1 (A7 b) (B9 (A7 (zD .i64 (b+(B4 d (A7 c) 0)))) a))).bind fun j=>(Av (i.2,zD .u64 j,5)).bind fun n=>(DF (n.2,C1 (A7 b) (B9 (A7 (zD .i64 (b+(B4 d (A7 c) 0)))) a),j)).bind fun o=>A3 (a,b,c,d,o,f,())) ((Az f.2.1 c).bind fun g=>(OP (i.2,g,C1 (A7 b) (B9 (A7 (zD .i64 (b+(B4 d (A7 c) 0)))) a))).bind fun k=>A3 (a,b,c,d,k.2,f,()))).bind fun h=>cond (A4 (0<=h.2.2.1)&&A4 (h.2.2.1<(h.2.2.2.1.length:Int))) (A3 (.inl (h.1,zD .i64 (h.2.1+(B4 h.2.2.2.1 (A7 h.2.2.1) 0)),zD .i64 (h.2.2.1+1),h.2.2.2.1,h.2.2.2.2.1,h.2.2.2.2.2.1,()))) A6) A6) A6) A6) (A3 (.inr (e,())))) s.1 s.2.1 s.2.2.1 s.2.2.2.1 s.2.2.2.2.1 s.2.2.2.2.2.1
def Np(x:((LI×Unit)×c2M)):Option Z5:=(Mv (x.2.1,x.2.2.1,x.2.2.2.1,x.2.2.2.2)).bind fun g=>cond (g==0) (A3 (1,x.1)) ((Av (x.1,zD .u64 x.2.1.1,4)).bind fun f=>(Fk (x.2.1.1,x.2.2.1,x.2.2.2.1)).bind fun k=>(Al EE (x.2.2.2.2,0,0,k,f.2,x.2.1,())).bind fun h=>A3 (0,h.1))
def oZ:sG:=⟨[.r false (.b Q1),.v Tm,.v QI,.v QI,.v QL],[.v QI],Np⟩
def c9f:sD:=⟨[(250,[.sv 4 QL,12,13,.own 11 11 QI,.box pinned Q1,Qp 0 pinned,.vp 6 Tm],[Qe 0 [.box pinned Q1]])],[(16019,[Qn [.sv 4 QL,12,13,.own 11 11 QI,.box pinned Q1,Qp 0 pinned,.vp 6 Tm]])],[]⟩
def KK(s:(Int×b5N)):Option ((Int×b5N) ⊕ b5N):=(fun(a:Int)(b:LI×Unit)(c:DU)=>cond (A4 (a<(c.2.2.2.2.2.2.2.1.length:Int))) ((Az c.2.2.2.2.2.2.2.1 a).bind fun h=>(Av (b,zD .u64 (zD .i64 (h.1-1)),5)).bind fun f=>(Az c.2.2.2.2.2.2.2.1 a).bind fun g=>(Av (f.2,zD .u64 g.2.1,4)).bind fun k=>A3 (.inl (s.1,s.2.1,zD .i64 (a+1),k.2,c,()))) (A3 (.inr (s.1,s.2.1,b,c,())))) s.2.2.1 s.2.2.2.1 s.2.2.2.2.1
def Mw(x:((LI×Unit)×XJ)):Option Z5:=(ON (x.2.1,x.2.2)).bind fun i=>cond (!i) (A3 (1,x.1)) ((KP x.2.1.2.2.2.2.2.2.2.2.1).bind fun f=>(Av (x.1,zD .u64 x.2.1.1,3)).bind fun j=>(Av (j.2,zD .u64 x.2.1.2.1,5)).bind fun l=>(Av (l.2,zD .u64 f,5)).bind fun a=>(show Option b5N from cond (x.2.1.1==2) ((Av (a.2,zD .u64 x.2.1.2.2.1,3)).bind fun m=>A3 (x.2.2,f,m.2,x.2.1,())) (cond (x.2.1.1==3) ((HH (a.2,x.2.1)).bind fun n=>A3 (x.2.2,f,n,x.2.1,())) (cond (x.2.1.1==4) ((Av (a.2,zD .u64 (zD .i64 (x.2.1.2.2.2.2.1-1)),10)).bind fun o=>(DF (o.2,B9 3 x.2.1.2.2.2.2.2.2.1,8)).bind fun p=>(HH (p,x.2.1)).bind fun b=>A3 (x.2.2,f,b,x.2.1,())) (cond (x.2.1.1==5) ((Av (a.2,zD .u64 (x.2.1.2.2.2.2.2.2.2.1.length:Int),2)).bind fun c=>(Al KK (x.2.2,f,0,c.2,x.2.1,())).bind fun g=>A3 (g.1,g.2.1,g.2.2.1,g.2.2.2.1,())) (A3 (x.2.2,f,a.2,x.2.1,())))))).bind fun h=>(DF (h.2.2.1,h.2.2.2.1.2.2.2.2.2.2.2.2.1,h.2.1)).bind fun k=>(Kj h.2.2.2.1.1).bind fun d=>cond d ((Np (k,h.2.2.2.1.2.2.2.2.2.2.2.2.2.1,h.1,(h.2.2.2.1.2.2.2.2.2.2.2.2.1.length:Int),h.2.2.2.1.2.2.2.2.2.2.2.2.2.2.1)).bind fun e=>A3 (0,e.2)) (A3 (0,k)))
def a1J:sG:=⟨[.r false (.b Q1),.v DY,.v QI],[.v QI],Mw⟩
def c9g:sD:=⟨[(2086902,[2,7,8,.box pinned Q1,Qp 0 pinned,.vp 4 DY],[Qe 1 [2,7,.box pinned Q1,Qp 0 pinned,.vp 4 DY]])],[(127,[Qn [2,7,.box pinned Q1,Qp 0 pinned,.vp 4 DY]])],[]⟩
def JB(s:b4O):Option (b4O ⊕ b4O):=(fun(a:Int)(b:LI)=>cond (A4 (a>=128)) (cond (Bp ((A8 b)+1)) (A3 (.inl (s.1,s.2.1,AR .u64 a 7,A9 b [zD .u8 (bits .u64 .or (bits .u64 .and a 127) 128)],()))) A6) (A3 (.inr (s.1,s.2.1,a,b,())))) s.2.2.1 s.2.2.2.1
def JC(s:b5z):Option (b5z ⊕ (LI×Unit)):=cond (A4 (s.2.1<(s.1.length:Int))) ((Az s.1 s.2.1).bind fun g=>(Al JB (s.1,s.2.1,g,s.2.2.1,())).bind fun h=>cond (Bp ((A8 h.2.2.2.1)+1)) (A3 (.inl (h.1,zD .i64 (h.2.1+1),A9 h.2.2.2.1 [zD .u8 h.2.2.1],()))) A6) (A3 (.inr (s.2.2.1,())))
def Dy(x:LI):Option LI:=(Al JC (x,0,[],())).bind fun h=>A3 h.1
def pB:sG:=⟨[.v (.list false QU)],[.o QV],Dy⟩
def c9h:sD:=⟨[(58,[.sv 0 (.list false QU),4,.own 3 3 QV],[Qe 0 [.own 3 3 QV]]),(7460,[.sv 0 (.list false QU),4,.sv 5 QU,.own 3 3 QV],[Qe 2 [.sv 0 (.list false QU),4,.sv 5 QU,.own 3 3 QV]])],[],[]⟩
def Nq(s:(Int×Int×LI×WI)):Option ((Int×Int×LI×WI) ⊕ Z5):=(fun(a:Int)(b:LI)(c:HW)=>cond (A4 (a<(c.2.2.2.1.length:Int))) ((Az c.2.2.2.1 a).bind fun h=>(RB h.2.2.1).bind fun f=>(Dy [zD .u64 h.1,zD .u64 h.2.1,f]).bind fun g=>cond (Bp ((A8 b)+(A8 g))) (A3 (.inl (s.1,zD .i64 (a+1),A9 b g,c,()))) A6) (A3 (.inr (s.1,b,())))) s.2.1 s.2.2.1 s.2.2.2.1
def SJ(x:(HW×Int)):Option LI:=(Dy ([zD .u64 x.1.1,zD .u64 x.1.2.1,zD .u64 x.1.2.2.1.1,zD .u64 x.1.2.2.1.2.1,zD .u64 x.1.2.2.1.2.2.1,zD .u64 (x.1.2.2.2.1.length:Int)]:List Int)).bind fun f=>(Al Nq (x.2,0,f,x.1,())).bind fun h=>(Dy [zD .u64 h.1]).bind fun g=>cond (Bp ((A8 h.2.1)+(A8 g))) (cond (Bp (2+(A8 (A9 h.2.1 g)))) (A3 (A9 [245,75] (A9 h.2.1 g))) A6) A6
def a7a:sG:=⟨[.v QZ,.v QI],[.o QV],SJ⟩
def c9i:sD:=⟨[(58,[1,6,.own 5 5 QV,.vp 2 QZ],[Qe 0 [1,.own 5 5 QV]])],[],[(6,[.q,.q,.q,.v,.q,.q,.v,.q,.q,.v,.q,.q,.x,.x])]⟩
def FF(s:(Int×LI×Z9)):Option ((Int×LI×Z9) ⊕ (LI×Z9)):=(fun(a:Int)(b:LI)(c:LI×Unit)=>cond (A4 (a<(c.1.length:Int))) (cond (A4 (0<=(zD .i64 (C0 a 8)))&&A4 (zD .i64 (C0 a 8)<(b.length:Int))) (cond (A4 (0<=a)&&A4 (a<(c.1.length:Int))) (cond (A4 (zD .u64 (zD .i64 (7-(B8 a 8)))<0)) A6 (cond (A4 (0<=(zD .i64 (C0 a 8)))&&A4 (zD .i64 (C0 a 8)<(b.length:Int))) (A3 (.inl (zD .i64 (a+1),C2 b (A7 (zD .i64 (C0 a 8))) (bits .u8 .or (B4 b (A7 (zD .i64 (C0 a 8))) 0) (AT .u8 (B4 c.1 (A7 a) 0) (zD .u64 (zD .i64 (7-(B8 a 8)))))),c,()))) A6)) A6) A6) (A3 (.inr (b,c,())))) s.1 s.2.1 s.2.2.1
def Iz(x:(LI×Unit)):Option c3d:=cond (A4 (0<=(zD .i64 (C0 (zD .i64 ((x.1.length:Int)+7)) 8)))&&(A4 ((zD .i64 (C0 (zD .i64 ((x.1.length:Int)+7)) 8))<=(zD .i64 (C0 (zD .i64 ((x.1.length:Int)+7)) 8)))&&Bp (A7 (zD .i64 (C0 (zD .i64 ((x.1.length:Int)+7)) 8))))) ((Al FF (0,B3 (A7 (zD .i64 (C0 (zD .i64 ((x.1.length:Int)+7)) 8))) 0,x,())).bind fun h=>A3 (h.1,h.2.1)) A6
def Yh:sG:=⟨[.r false (.b Q1)],[.o QV],Iz⟩
def c9j:sD:=⟨[(58,[4,.own 3 3 QV,.box pinned Q1,Qp 0 pinned],[Qe 0 [.own 3 3 QV,.box pinned Q1]])],[],[(5,[.q,.v,.v,.q,.v,.v,.q,.q,.p,.p,.q,.q,.v,.q,.q,.v,.v,.v,.v,.v,.v,.x,.x])]⟩
def Nr(s:(Int×(LI×Unit)×WI)):Option ((Int×(LI×Unit)×WI) ⊕ ((LI×Unit)×WI)):=(fun(a:HW)=>cond (A4 (s.1<(a.2.2.2.2.1.length:Int))) ((Az a.2.2.2.2.1 s.1).bind fun h=>(Mw (s.2.1,h,a.2.1)).bind fun g=>A3 (.inl (zD .i64 (s.1+1),g.2,a,()))) (A3 (.inr (s.2.1,a,())))) s.2.2.1
def PC(x:HW):Option LI:=(Al Nr (0,([],()),x,())).bind fun h=>(Iz h.1).bind fun g=>(SJ (h.2.1,(g.1.length:Int))).bind fun f=>A3 f
def a7b:sG:=⟨[.v QZ],[.o QV],PC⟩
def H8:sD:=⟨[(58,[4,.box 6 Q1,.vp 1 QZ,Qp 3 6],[Qe 0 [.box 6 Q1,.vp 1 QZ,Qp 3 6]])],[],[(5,[.q,.v,.v,.v,.v,.v,.v,.v,.x]),(6,[.v,.q,.w [6,25,1025],.q,.x,.x])]⟩
def Ht(s:(LI×Int×Int×LI×Int×Int×Int×Int×b2z)):Option ((LI×Int×Int×LI×Int×Int×Int×Int×b2z) ⊕ (LI×Int×Int×LI×Int×Int×Int×b2z)):=(fun(a:Int)(b:LI)(c d e f:Int)(g:LI)(h:QX)(i:HW)(j:Z7)=>cond (A4 (f<(h.2.2.2.2.1.length:Int))) ((Az h.2.2.2.2.1 f).bind fun l=>(FA l).bind fun k=>A3 (.inl (s.1,s.2.1,a,b,c,d,zD .i64 (e+(k.1.length:Int)),zD .i64 (f+1),g,h,i,j,()))) (A3 (.inr (s.1,s.2.1,a,b,c,d,e,g,h,i,j,())))) s.2.2.1 s.2.2.2.1 s.2.2.2.2.1 s.2.2.2.2.2.1 s.2.2.2.2.2.2.1 s.2.2.2.2.2.2.2.1 s.2.2.2.2.2.2.2.2.1 s.2.2.2.2.2.2.2.2.2.1 s.2.2.2.2.2.2.2.2.2.2.1 s.2.2.2.2.2.2.2.2.2.2.2.1
def Oc(x:(Z7×LI×Int×Int×Int×Int×Int)):Option Bool:=(Uu ()).bind fun o=>cond (!o) (A3 false) ((show Option (LI×Int×Int×Int×c2R)from(SE (x.1,x.2.1,120)).bind fun p=>cond (!p) (A3 (x.2.1,x.2.2.1,x.2.2.2.1,x.2.2.2.2.1,x.2.2.2.2.2.1,x.2.2.2.2.2.2,true,x.1,())) (A3 (x.2.1,x.2.2.1,x.2.2.2.1,x.2.2.2.2.1,x.2.2.2.2.2.1,x.2.2.2.2.2.2,x.2.2.2.2.2.2==0,x.1,()))).bind fun a=>cond a.2.2.2.2.2.2.1 (A3 true) ((SF (a.2.2.2.2.2.2.2.1,a.1,a.2.1,a.2.2.1)).bind fun d=>cond (!d.2.2) (A3 false) ((show Option (LI×Int×Int×Int×LI×Bool×QX×b5y)from cond ((d.2.1.2.2.2.2.1.length:Int)==0) (A3 (a.1,a.2.2.2.1,a.2.2.2.2.1,a.2.2.2.2.2.1,d.1,true,d.2.1,a.2.2.2.2.2.2.2.1,())) (A3 (a.1,a.2.2.2.1,a.2.2.2.2.1,a.2.2.2.2.2.1,d.1,(d.2.1.2.2.2.1.length:Int) != (d.2.1.2.2.2.2.1.length:Int),d.2.1,a.2.2.2.2.2.2.2.1,()))).bind fun b=>cond b.2.2.2.2.2.1 (A3 ((b.1.length:Int)==0)) (cond ((b.2.2.2.2.2.2.1.2.2.2.2.1.length:Int)==0) A6 ((Az b.2.2.2.2.2.2.1.2.2.2.2.1 (B8 (bits .i64 .and b.2.1 65535) (b.2.2.2.2.2.2.1.2.2.2.2.1.length:Int))).bind fun i=>(FA i).bind fun n=>cond (n.2 != 0) (A3 false) ((PC i).bind fun q=>(Al Ht (b.1,b.2.2.1,b.2.2.2.1,b.2.2.2.2.1,B8 (bits .i64 .and b.2.1 65535) (b.2.2.2.2.2.2.1.2.2.2.2.1.length:Int),zD .i64 ((q.length:Int)+1),0,0,n.1,b.2.2.2.2.2.2.1,i,b.2.2.2.2.2.2.2.1,())).bind fun f=>(show Option (LI×Int×Int×LI×Int×Int×Int×Bool×b2z)from cond (A4 (f.2.2.2.2.2.1>=(f.2.2.2.2.2.2.2.1.length:Int))) (A3 (f.1,f.2.1,f.2.2.1,f.2.2.2.1,f.2.2.2.2.1,f.2.2.2.2.2.1,f.2.2.2.2.2.2.1,true,f.2.2.2.2.2.2.2.1,f.2.2.2.2.2.2.2.2.1,f.2.2.2.2.2.2.2.2.2.1,f.2.2.2.2.2.2.2.2.2.2.1,())) (A3 (f.1,f.2.1,f.2.2.1,f.2.2.2.1,f.2.2.2.2.1,f.2.2.2.2.2.1,f.2.2.2.2.2.2.1,A4 (f.2.2.2.2.2.2.1 > (f.2.2.2.1.length:Int)),f.2.2.2.2.2.2.2.1,f.2.2.2.2.2.2.2.2.1,f.2.2.2.2.2.2.2.2.2.1,f.2.2.2.2.2.2.2.2.2.2.1,()))).bind fun g=>cond g.2.2.2.2.2.2.2.1 (A3 false) (cond (Bp (0+(A8 g.2.2.2.1))) ((Az g.2.2.2.2.2.2.2.2.2.1.2.2.2.1 g.2.2.2.2.1).bind fun k=>(show Option (LI×Int×Int×LI×Int×Int×Int×Bool×LI×b2z)from cond (A4 (k.2.1<0)) (A3 (g.1,g.2.1,g.2.2.1,g.2.2.2.1,g.2.2.2.2.2.1,g.2.2.2.2.2.2.1,k.2.1,true,g.2.2.2.2.2.2.2.2.1,A9 [] g.2.2.2.1,g.2.2.2.2.2.2.2.2.2.1,g.2.2.2.2.2.2.2.2.2.2.1,g.2.2.2.2.2.2.2.2.2.2.2.1,())) (cond (A4 (k.2.1 > (zD .i64 (g.2.2.2.2.2.2.1-(g.2.2.2.2.2.2.2.2.1.length:Int))))) (A3 (g.1,g.2.1,g.2.2.1,g.2.2.2.1,g.2.2.2.2.2.1,g.2.2.2.2.2.2.1,k.2.1,true,g.2.2.2.2.2.2.2.2.1,A9 [] g.2.2.2.1,g.2.2.2.2.2.2.2.2.2.1,g.2.2.2.2.2.2.2.2.2.2.1,g.2.2.2.2.2.2.2.2.2.2.2.1,())) (cond (A4 (g.2.2.2.2.2.2.2.2.2.2.1.1<0)) (A3 (g.1,g.2.1,g.2.2.1,g.2.2.2.1,g.2.2.2.2.2.1,g.2.2.2.2.2.2.1,k.2.1,true,g.2.2.2.2.2.2.2.2.1,A9 [] g.2.2.2.1,g.2.2.2.2.2.2.2.2.2.1,g.2.2.2.2.2.2.2.2.2.2.1,g.2.2.2.2.2.2.2.2.2.2.2.1,())) (cond (A4 (g.2.2.2.2.2.2.2.2.2.2.1.2.1<0)) (A3 (g.1,g.2.1,g.2.2.1,g.2.2.2.1,g.2.2.2.2.2.1,g.2.2.2.2.2.2.1,k.2.1,true,g.2.2.2.2.2.2.2.2.1,A9 [] g.2.2.2.1,g.2.2.2.2.2.2.2.2.2.1,g.2.2.2.2.2.2.2.2.2.2.1,g.2.2.2.2.2.2.2.2.2.2.2.1,())) (cond (g.2.2.2.2.2.2.2.2.2.2.2.1.2.1==0) A6 (cond (A4 (g.2.2.2.2.2.2.2.2.2.2.1.1 > (zD .i64 (C0 (g.1.length:Int) g.2.2.2.2.2.2.2.2.2.2.2.1.2.1)))) (A3 (g.1,g.2.1,g.2.2.1,g.2.2.2.1,g.2.2.2.2.2.1,g.2.2.2.2.2.2.1,k.2.1,true,g.2.2.2.2.2.2.2.2.1,A9 [] g.2.2.2.1,g.2.2.2.2.2.2.2.2.2.1,g.2.2.2.2.2.2.2.2.2.2.1,g.2.2.2.2.2.2.2.2.2.2.2.1,())) (cond (g.2.2.2.2.2.2.2.2.2.2.2.1.2.1==0) A6 (A3 (g.1,g.2.1,g.2.2.1,g.2.2.2.1,g.2.2.2.2.2.1,g.2.2.2.2.2.2.1,k.2.1,A4 (g.2.2.2.2.2.2.2.2.2.2.1.2.1 > (zD .i64 ((zD .i64 (C0 (g.1.length:Int) g.2.2.2.2.2.2.2.2.2.2.2.1.2.1))-g.2.2.2.2.2.2.2.2.2.2.1.1))),g.2.2.2.2.2.2.2.2.1,A9 [] g.2.2.2.1,g.2.2.2.2.2.2.2.2.2.1,g.2.2.2.2.2.2.2.2.2.2.1,g.2.2.2.2.2.2.2.2.2.2.2.1,()))))))))).bind fun h=>cond h.2.2.2.2.2.2.2.1 (A3 false) (cond (zD .i64 ((h.2.2.2.2.2.2.2.2.1.length:Int)-h.2.2.2.2.1)==0) A6 (cond (A4 (0<=(zD .i64 ((zD .i64 ((zD .i64 ((zD .i64 ((h.2.2.2.1.length:Int)-h.2.2.2.2.2.1))+h.2.2.2.2.2.2.1))+h.2.2.2.2.1))+(B8 (bits .i64 .and h.2.1 65535) (zD .i64 ((h.2.2.2.2.2.2.2.2.1.length:Int)-h.2.2.2.2.1))))))&&A4 (zD .i64 ((zD .i64 ((zD .i64 ((zD .i64 ((h.2.2.2.1.length:Int)-h.2.2.2.2.2.1))+h.2.2.2.2.2.2.1))+h.2.2.2.2.1))+(B8 (bits .i64 .and h.2.1 65535) (zD .i64 ((h.2.2.2.2.2.2.2.2.1.length:Int)-h.2.2.2.2.1))))<(h.2.2.2.2.2.2.2.2.2.1.length:Int))) (cond (A4 (0<=(zD .i64 ((zD .i64 ((zD .i64 ((zD .i64 ((h.2.2.2.1.length:Int)-h.2.2.2.2.2.1))+h.2.2.2.2.2.2.1))+h.2.2.2.2.1))+(B8 (bits .i64 .and h.2.1 65535) (zD .i64 ((h.2.2.2.2.2.2.2.2.1.length:Int)-h.2.2.2.2.1))))))&&A4 (zD .i64 ((zD .i64 ((zD .i64 ((zD .i64 ((h.2.2.2.1.length:Int)-h.2.2.2.2.2.1))+h.2.2.2.2.2.2.1))+h.2.2.2.2.1))+(B8 (bits .i64 .and h.2.1 65535) (zD .i64 ((h.2.2.2.2.2.2.2.2.1.length:Int)-h.2.2.2.2.1))))<(h.2.2.2.2.2.2.2.2.2.1.length:Int))) ((Ek (C2 h.2.2.2.2.2.2.2.2.2.1 (A7 (zD .i64 ((zD .i64 ((zD .i64 ((zD .i64 ((h.2.2.2.1.length:Int)-h.2.2.2.2.2.1))+h.2.2.2.2.2.2.1))+h.2.2.2.2.1))+(B8 (bits .i64 .and h.2.1 65535) (zD .i64 ((h.2.2.2.2.2.2.2.2.1.length:Int)-h.2.2.2.2.1)))))) (bits .u8 .xor (B4 h.2.2.2.2.2.2.2.2.2.1 (A7 (zD .i64 ((zD .i64 ((zD .i64 ((zD .i64 ((h.2.2.2.1.length:Int)-h.2.2.2.2.2.1))+h.2.2.2.2.2.2.1))+h.2.2.2.2.1))+(B8 (bits .i64 .and h.2.1 65535) (zD .i64 ((h.2.2.2.2.2.2.2.2.1.length:Int)-h.2.2.2.2.1)))))) 0) h.2.2.1))).bind fun j=>(Dx (C2 h.2.2.2.2.2.2.2.2.2.1 (A7 (zD .i64 ((zD .i64 ((zD .i64 ((zD .i64 ((h.2.2.2.1.length:Int)-h.2.2.2.2.2.1))+h.2.2.2.2.2.2.1))+h.2.2.2.2.1))+(B8 (bits .i64 .and h.2.1 65535) (zD .i64 ((h.2.2.2.2.2.2.2.2.1.length:Int)-h.2.2.2.2.1)))))) (bits .u8 .xor (B4 h.2.2.2.2.2.2.2.2.2.1 (A7 (zD .i64 ((zD .i64 ((zD .i64 ((zD .i64 ((h.2.2.2.1.length:Int)-h.2.2.2.2.2.1))+h.2.2.2.2.2.2.1))+h.2.2.2.2.1))+(B8 (bits .i64 .and h.2.1 65535) (zD .i64 ((h.2.2.2.2.2.2.2.2.1.length:Int)-h.2.2.2.2.1)))))) 0) h.2.2.1),0,h.2.2.2.2.2.2.2.2.2.2.2.1.1,())).bind fun c=>(Dx (C2 h.2.2.2.2.2.2.2.2.2.1 (A7 (zD .i64 ((zD .i64 ((zD .i64 ((zD .i64 ((h.2.2.2.1.length:Int)-h.2.2.2.2.2.1))+h.2.2.2.2.2.2.1))+h.2.2.2.2.1))+(B8 (bits .i64 .and h.2.1 65535) (zD .i64 ((h.2.2.2.2.2.2.2.2.1.length:Int)-h.2.2.2.2.1)))))) (bits .u8 .xor (B4 h.2.2.2.2.2.2.2.2.2.1 (A7 (zD .i64 ((zD .i64 ((zD .i64 ((zD .i64 ((h.2.2.2.1.length:Int)-h.2.2.2.2.2.1))+h.2.2.2.2.2.2.1))+h.2.2.2.2.1))+(B8 (bits .i64 .and h.2.1 65535) (zD .i64 ((h.2.2.2.2.2.2.2.2.1.length:Int)-h.2.2.2.2.1)))))) 0) h.2.2.1),zD .i64 (h.2.2.2.2.2.2.2.2.2.2.2.1.1+h.2.2.2.2.2.2.2.2.2.2.2.1.2.1),h.2.2.2.2.2.2.2.2.2.2.1.2.1,())).bind fun e=>(Dx (C2 h.2.2.2.2.2.2.2.2.2.1 (A7 (zD .i64 ((zD .i64 ((zD .i64 ((zD .i64 ((h.2.2.2.1.length:Int)-h.2.2.2.2.2.1))+h.2.2.2.2.2.2.1))+h.2.2.2.2.1))+(B8 (bits .i64 .and h.2.1 65535) (zD .i64 ((h.2.2.2.2.2.2.2.2.1.length:Int)-h.2.2.2.2.1)))))) (bits .u8 .xor (B4 h.2.2.2.2.2.2.2.2.2.1 (A7 (zD .i64 ((zD .i64 ((zD .i64 ((zD .i64 ((h.2.2.2.1.length:Int)-h.2.2.2.2.2.1))+h.2.2.2.2.2.2.1))+h.2.2.2.2.1))+(B8 (bits .i64 .and h.2.1 65535) (zD .i64 ((h.2.2.2.2.2.2.2.2.1.length:Int)-h.2.2.2.2.1)))))) 0) h.2.2.1),h.2.2.2.2.2.2.2.2.2.2.2.1.1,zD .i64 (h.2.2.2.2.2.2.2.2.2.2.2.1.1+1),())).bind fun l=>cond (A4 (0<=(zD .i64 (h.2.2.2.2.2.2.2.2.2.2.2.1.1*h.2.2.2.2.2.2.2.2.2.2.2.2.1.2.1)))&&A4 ((zD .i64 (h.2.2.2.2.2.2.2.2.2.2.2.1.1*h.2.2.2.2.2.2.2.2.2.2.2.2.1.2.1))<=(h.1.length:Int))) (cond (Bp (0+(A8 (B9 (A7 (zD .i64 (h.2.2.2.2.2.2.2.2.2.2.2.1.1*h.2.2.2.2.2.2.2.2.2.2.2.2.1.2.1))) h.1)))) (cond (A4 (0<=(zD .i64 ((zD .i64 (h.2.2.2.2.2.2.2.2.2.2.2.1.1+h.2.2.2.2.2.2.2.2.2.2.2.1.2.1))*h.2.2.2.2.2.2.2.2.2.2.2.2.1.2.1)))&&A4 ((zD .i64 ((zD .i64 (h.2.2.2.2.2.2.2.2.2.2.2.1.1+h.2.2.2.2.2.2.2.2.2.2.2.1.2.1))*h.2.2.2.2.2.2.2.2.2.2.2.2.1.2.1))<=(h.1.length:Int))) (cond (Bp ((A8 (A9 [] (B9 (A7 (zD .i64 (h.2.2.2.2.2.2.2.2.2.2.2.1.1*h.2.2.2.2.2.2.2.2.2.2.2.2.1.2.1))) h.1)))+(A8 (C1 (A7 (zD .i64 ((zD .i64 (h.2.2.2.2.2.2.2.2.2.2.2.1.1+h.2.2.2.2.2.2.2.2.2.2.2.1.2.1))*h.2.2.2.2.2.2.2.2.2.2.2.2.1.2.1))) (B9 (A8 h.1) h.1))))) (cond (j.2==5) (cond (c.2==0) (cond (e.2==0) (cond (l.2==5) (cond (Bp (0+(A8 c.1))) (cond (Bp ((A8 (A9 [] c.1))+(A8 e.1))) ((CN (A9 (A9 [] c.1) e.1,A9 (A9 [] (B9 (A7 (zD .i64 (h.2.2.2.2.2.2.2.2.2.2.2.1.1*h.2.2.2.2.2.2.2.2.2.2.2.2.1.2.1))) h.1)) (C1 (A7 (zD .i64 ((zD .i64 (h.2.2.2.2.2.2.2.2.2.2.2.1.1+h.2.2.2.2.2.2.2.2.2.2.2.1.2.1))*h.2.2.2.2.2.2.2.2.2.2.2.2.1.2.1))) (B9 (A8 h.1) h.1)))).bind fun m=>A3 m) A6) A6) (A3 false)) (A3 false)) (A3 false)) (A3 false)) A6) A6) A6) A6) A6) A6))) A6)))))))
def Od:sG:=⟨[.v HX,.v QL,.v QI,.v QI,.v QI,.v QI,.v QV],[.v .bool],Oc⟩
def H3:sD:=⟨[(65530,[.sv 1 QL,5,.sv 6 QV,.sv 15 QB,18,22,23,24,.own 20 20 QV,.box 16 nG,.box 19 QZ,.vp 7 HX,Qp 16 16,Qp 19 19],[Qe 0 [.sv 1 QL,5,.sv 6 QV,.sv 15 QB,18,22,23,.own 20 20 QV,.box 16 nG,.box 19 QZ,.vp 7 HX,Qp 16 16,Qp 19 19]])],[(14,[Qn [.sv 1 QL,2,3,4,5,.sv 6 QV,.sv 47 .bool,.vp 7 HX]]),(126,[Qn [.sv 1 QL,4,5,.sv 6 QV,.sv 15 QB,.sv 71 .bool,.box 16 nG,.vp 7 HX,Qp 16 16]]),(32766,[Qn [.sv 1 QL,5,.sv 6 QV,.sv 15 QB,18,22,23,.sv 126 .bool,.own 20 20 QV,.box 16 nG,.box 19 QZ,.vp 7 HX,Qp 16 16,Qp 19 19]]),(262142,[Qn [.sv 1 QL,5,.sv 6 QV,.sv 15 QB,22,23,28,.sv 178 .bool,.own 20 20 QV,.own 27 27 QV,.box 16 nG,.box 19 QZ,.vp 7 HX,Qp 16 16,Qp 19 19]])],[(26,[.x,.x,.x,.v,.v,.q,.q,.v,.x,.x,.x,.x,.x,.x,.x,.x,.x,.x,.x,.x,.x,.q,.q,.v,.v,.v,.v,.v,.x,.x,.x,.q,.q,.v,.v,.v,.v,.v,.q,.q,.v,.x,.x]),(33,[.q,.v,.q,.q,.v,.v,.v,.v,.w [238,246],.v,.r [19,248],.r [19,249],.r [19,250],.r [19,251],.v,.v,.v,.v,.v,.x,.x])]⟩
end Go.Ab
