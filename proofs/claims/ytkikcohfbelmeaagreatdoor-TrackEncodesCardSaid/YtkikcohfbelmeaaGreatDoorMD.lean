/- Part of the proof: Rv. Conditions: as each statement tells. -/
import Derived.Shelf.RegionOpenPlain
import Derived.WalkKit
import Derived.Lib.Walk
import Derived.Sort.WalkB12
import Derived.Lib.SlicesMore
import Derived.Test.YtkikcohfbelmeaaGreatDoorProg
import Derived.KernelRfl
import Derived.Laws.Externs
import Derived.RangeFuncBound
import Derived.RangeFuncCalls
import Derived.RangeFuncBox
import Derived.OwnWalkIn
import Derived.TacticsInMore
import Derived.LoopNIn
import Derived.LoopIn
import Derived.Test.YtkikcohfbelmeaaGreatDoorMC
noncomputable section
set_option linter.unusedSimpArgs false
set_option linter.unusedVariables false
open Array renaming replicate_succ->C3,replicate_zero->C4,getElem?_modify->D4
open Decidable renaming decide->A4
open Int renaming toNat->A7,tmod->B8,tdiv->B9
open List renaming length->A8,replicate->A9,append->B3,getD->B4,set->C0,take->C1,drop->C2,append_toArray->C5,cons_append->C6,size_toArray->C7,push_toArray->C8,reverse->C9,length_nil->D0,nil_append->D1,mem_singleton->D6
open Nat renaming reduceAdd->D2,reduceSub->D3,le_refl->D7
open Option renaming some->A3,none->A6,getD_some->D5
open Sum renaming inr->B6,inl->B7
namespace Go.Ab
open Go.Proofs Go.RowKit Go.Lib Go.Sort
set_option maxHeartbeats 1600000 in
set_option maxRecDepth 1000000 in
theorem b7m (blk off cap:Nat) (d:Array Int) (w:World) (hH:Holds (Value.int .u8) w blk off d) (hsz:d.size<=9223372036854775807):
  Calls Tryz.prog 101 #[.slice (some ⟨blk,off,none⟩) d.size cap] w fun e w'=>e=.returned (.tuple #[])/\∃n,w'=putRow (Value.int .u8) (Sort.ahead w n) blk off d.reverse:=by
 have kZ:Tryz.prog.follows .mixedOrders=true:=by kernel_rfl
 go_enter Tryz.func101,Tryz.ntmps101
 go_wp2
 go_loopg [2,3] d.size (fun k s2 s3 wr=>∃(i jn:Nat)(jz:Int)(dk:Array Int)(n:Nat),s2=.int .i64 i/\s3=.int .i64 jz/\((i:Int)<jz->jz=jn/\jn<d.size)/\(¬ (i:Int)<jz->¬ i<jn)/\jn-i<=k/\
  dk.size=d.size/\wr=putRow (Value.int .u8) (Sort.ahead w n) blk off dk/\reverseLoop i jn dk=reverseLoop 0 (d.size-1) d)
 case atStart=>exact⟨0,d.size-1,(d.size:Int)-1,d,0,rfl,rfl,fun h=>⟨by omega,by omega⟩,fun h=>by omega,by omega,rfl,(putRow_self (Value.int .u8) w blk off d hH).symm,rfl⟩
 case round=>
  obtain⟨i,jn,jz,dk,n,rfl,rfl,h1,h2,hk,hds,hwr,heq⟩:=hrel
  by_cases hlt:(i:Int)<jz
  ·obtain⟨rfl,hjn⟩:=h1 hlt
   have hij:i<jn:=by omega
   have hHk:Holds (Value.int .u8) wr blk off dk:=by rw[hwr];exact holds_putRow (Value.int .u8) _ blk off d dk (holds_ahead (Value.int .u8) w n blk off d hH) hds
   have⟨ci,fi⟩:=hHk i (by omega)
   have⟨cj,fj⟩:=hHk jn (by omega)
   have A:Aside (wr=putRow (Value.int .u8) (Sort.ahead w n) blk off dk):=hwr
   clear hwr hHk hH h1 h2
   go_wp2_with fail
   go_region_o
   go_wp2
   go_roundg (jn-1-(i+1))
   case measure=>omega
   case rel=>
    rw[reverseLoop,if_pos hij]at heq
    exact⟨i+1,jn-1,(jn:Int)-1,swp dk i jn,n+1,by simp,rfl,fun h=>⟨by omega,by omega⟩,fun h=>by omega,D7 _,by rw[size_swp];exact hds,
     swap_world (Value.int .u8) (by omega) (by omega) A.out (by first|rfl|simp[getElem!_pos,show jn<dk.size by omega]) (by first|rfl|simp[getElem!_pos,show i<dk.size by omega]),heq⟩
  ·have hnot:=h2 hlt
   go_wp2
   go_end0
   refine⟨rfl,n,?_⟩
   rw[reverseLoop,if_neg hnot]at heq
   rw[<-Lib.reverseLoop_reverse,<-heq]
set_option maxHeartbeats 1000000 in
theorem b4F (a:Option Addr) (cap:Nat) (w:World):
  Calls Tryz.prog 101 #[.slice a 0 cap] w fun e w'=>e=.returned (.tuple #[])/\w'=w:=by
 go_enter Tryz.func101,Tryz.ntmps101
 go_wp2
 go_loopg [2,3] 0 (fun _ s2 s3 wr=>s2=.int .i64 0/\s3=.int .i64 (-1)/\wr=w)
 case atStart=>exact⟨rfl,rfl,rfl⟩
 case round=>
  obtain⟨rfl,rfl,rfl⟩:=hrel
  go_wp2
  go_end0
  exact⟨rfl,rfl⟩
end Go.Ab
namespace Go.Ab
open Go.Proofs Go.RowKit Go.Lib Go.Sort
theorem b1u{w:World}{b o:Nat}{l:List Int}{cs:List Value}(a:cs=l.map (Value.int .u8))(g:∀(j:Nat)(u:Value),cs[j]?=some u->w.cell? ⟨b,o+j,none⟩=some u) {k:Nat}(d:BY w b k)(q:o+l.length<=k):Holds (Value.int .u8) w b o l.toArray:=by(intro j i;have f:j<l.length:=by simpa using i);refine⟨?_,?_⟩;rw[g j (.int .u8 l[j]) (by rw[a,List.getElem?_map,lG f];rfl)];simp[getElem!_pos,f];have⟨c,e,lo,p,h,m,n⟩:=d;simp only[World.frozen?,h];simp only[Bool.and_eq_false_iff,decide_eq_false_iff_not];omega
theorem a7T{w:World}{b o:Nat}{d:Array Int}{n c k:Nat}(h:BY w c k):BY (putRow (Value.int .u8) (Sort.ahead w n) b o d) c k:=by have⟨g,e,lo,i,h,f,a⟩:=h;by_cases hb:b=c;subst hb;refine⟨putCells (Value.int .u8) o d g,e,lo,i,?_,by simpa[putCells]using f,a⟩;show(w.heap.modify b _)[b]?=_;simp[D4,h,onCells];refine⟨g,e,lo,i,?_,f,a⟩;show(w.heap.modify b _)[c]?=_;simp[D4,h,hb]
theorem a7U{w:World}{b o:Nat}{d:Array Int}{n c:Nat}(h:c≠b):(putRow (Value.int .u8) (Sort.ahead w n) b o d).heap[c]?=w.heap[c]?:=by show(w.heap.modify b _)[c]?=_;simp[D4,Ne.symm h]
theorem b7n(G:YE):KU Tryz.prog G 101 ⟨[.r false (.o (.int .u8))],[],fun x=>bif A4 (A8 (x:List Int)<2147483648)then some (C9 (x:List Int))else none⟩:=by
 intro w B M g (x:List Int) (y:List Int) hG hy hB hhp hov hargs hrel hpins;have k2:A8 x<2147483648/\(C9 x)=y:=by rcases Ai hy with⟨h,D⟩|⟨h,D⟩;exact⟨of_decide_eq_true h,Option.some.inj D⟩;cases D
 obtain⟨k3,rfl⟩:=k2;have h6:(Ws [PA.r false (.o (.int .u8))] x).rt (pinned+0)=some ⟨false,.list true (.int .u8),x⟩:=rfl;have⟨s,g7,g9⟩:=hpins 0 (by simp[AW]) rfl;have hg:=hrel.pins 0 s g7 (by rw[h6];simp);have g6:=hrel.roots _ _ h6;have⟨Z,R,hd,hR,O⟩:=g6.rd;obtain⟨g0,-⟩|⟨-,⟨v,hv⟩,-,hO⟩:=O;cases g0;rw[hv]at hg hd;subst hg;have P:g.getD 0 undef=v:=g9;have m:g=#[v]:=by have E:g.size=1:=hargs;apply Array.ext;simpa using E;intro i D h3;(have:i=0:=by simp at h3;exact h3);subst this;rw[<-P];simp[Array.getD,E]
 have h5:Af w M.ov=cells w:=by rw[hov];rfl
 rw[h5]at hd;have K:∀(t:World)(y:List Int) R',t.heap.size=w.heap.size->AL (cells t) (.list true (.int .u8)) ((Src.one v).rd (cells t))=some (y,Z,R')->(∀b k,BY w b k->BY t b k)->(∀b,b<B.size->¬ B.F b->t.heap[b]?=w.heap[b]?)->Gr t=Gr w->wR B t (EJ (RA.all [PA.r false (.o (.int .u8))] []) y) ([]++(AW [PA.r false (.o (.int .u8))] 0).map (Gu [PA.r false (.o (.int .u8))] g)) [(.one v,Z)]:=by(intro t y R' k7 I X V g3;have d:∀c∈Z.map (·.1),B.F c\/B.size<=c:=fun c O=>hrel.mine c ⟨pinned+0,by rw[hO];exact O⟩;refine⟨rfl,rfl,fun k it u L E D h3=>?_,?_,?_,?_,?_,by omega,fun b hb hF=>?_,by rw[g3];exact hrel.still⟩);(cases k with|succ k=>simp at h3|zero=>(have e1:it=⟨.o (.int .u8),y⟩:=(Option.some.inj E).symm;have e2:u=v:=by have:u=g.getD 0 undef:=(Option.some.inj D).symm;rw[this,P]);have e3:L=(.one v,Z):=(Option.some.inj h3).symm;subst e1 e2 e3;refine⟨rfl,⟨Z,R',I,?_,.inr ⟨rfl,⟨_,rfl⟩,⟨_,rfl⟩,rfl⟩⟩⟩;rw[jV (e:=.int .u8) rfl I];simp);intro L N;rw[D6]at N;subst N;rw[<-hO];exact hrel.nodup _;intro k k' L L' E D k6;(have:k=0:=by have:=(lS.1 E).1;simpa using this);(have:k'=0:=by have:=(lS.1 D).1;simpa using this);omega;intro L N p hp;rw[D6]at N;subst N;exact X _ _ (hrel.live (pinned+0) p (by rw[hO];exact hp));intro L N c O;rw[D6]at N;subst N;exact d c O;rw[V b hb hF,hhp]
 have h7:∀a c,v=.slice a 0 c->x=[]->Calls Tryz.prog 101 g w fun e t=>∃vr Ls,e=.returned (jU vr)/\vr.length=0/\wR B t (EJ (RA.all [PA.r false (.o (.int .u8))] []) (C9 x)) (vr++(AW [PA.r false (.o (.int .u8))] 0).map (Gu [PA.r false (.o (.int .u8))] g)) Ls:=by(intro a c l hx;have O:=b4F a c w;rw[<-l,<-m]at O;refine O.mono fun e t h=>?_);obtain⟨rfl,rfl⟩:=h;subst hx;exact⟨[],_,rfl,rfl,K t [] R rfl hd (fun _ _ h=>h) (fun _ _ _=>rfl) rfl⟩
 rcases b2W (e:=.int .u8) rfl hd with⟨l,hx,-,-⟩|⟨b,n,c,cs,l,hb,g5,C,A,g1,T,k4,h4⟩;exact h7 _ _ l hx;replace C:n=x.length:=C;by_cases hn:n=0;subst hn;exact h7 _ _ l (List.length_eq_zero_iff.1 (show x.length=0 from C.symm));have Q:c≠0:=by omega
 replace hb:=hb.resolve_left Q;rw[if_neg Q]at A;simp only[Ty.cells,Nat.mul_one]at A g1;have V:BY w b.block (b.off+c):=hrel.live (pinned+0) (b.block,b.off+c) (by rw[hO,A];simp);have g2:cs=x.map (Value.int .u8):=by have:=UQ x n 0 (by omega) h4;simpa using this
 have hH:Holds (Value.int .u8) w b.block b.off x.toArray:=b1u g2 T V (by omega);have hw:=b7m b.block b.off c x.toArray w hH (by simp;omega);have h9:(⟨b.block,b.off,none⟩:Addr)=b:=by cases b;simp at hb;subst hb;rfl
 rw[h9,show(x.toArray).size=n by simp[C],<-l,<-m]at hw;refine hw.mono fun e t h=>?_
 obtain⟨rfl,q,rfl⟩:=h;have h8:=holds_putRow (Value.int .u8) (Sort.ahead w q) b.block b.off _ x.toArray.reverse (holds_ahead (Value.int .u8) w q b.block b.off _ hH) (by simp);have d:B.F b.block\/B.size<=b.block:=hrel.mine _ ⟨pinned+0,by rw[hO,A];simp⟩;have Y:∀(j:Nat)(z:Int),(C9 x)[j]?=some z->AL (cells (putRow (Value.int .u8) (Sort.ahead w q) b.block b.off x.toArray.reverse)) (.int .u8) ((Src.at b.block (b.off+j*(Ty.int .u8).cells)).rd (cells (putRow (Value.int .u8) (Sort.ahead w q) b.block b.off x.toArray.reverse)))=some (z,[],[]):=by(intro j z hz;have g4:j<x.reverse.length:=(lS.1 hz).1;have hj:j<x.toArray.reverse.size:=by simpa using g4);(have E:=(h8 j hj).1;have D:x.toArray.reverse[j]! = z:=by rw[getElem!_pos _ j hj];have:(C9 x)[j]'(by simpa using hj)=z:=(lS.1 hz).2;rw[<-this];simp);(rw[D]at E;have k0:(Src.at b.block (b.off+j*(Ty.int .u8).cells)).rd (cells (putRow (Value.int .u8) (Sort.ahead w q) b.block b.off x.toArray.reverse)) 0=some (.int .u8 z):=by show World.cell? _ ⟨b.block,b.off+j*1+0,none⟩=_;rw[Nat.mul_one];exact E);simp only[AL,k0,if_true];rfl
 have⟨R',U,k5⟩:=qD (f:=fun i=>AL (cells (putRow (Value.int .u8) (Sort.ahead w q) b.block b.off x.toArray.reverse)) (.int .u8) ((Src.at b.block (b.off+i*(Ty.int .u8).cells)).rd (cells (putRow (Value.int .u8) (Sort.ahead w q) b.block b.off x.toArray.reverse)))) (S:=fun _=>False) (C9 x) 0 fun j z hz=>⟨[],by rw[Nat.zero_add];exact Y j z hz,by simp⟩;have k1:(C9 x).length=n:=by rw[List.length_reverse];exact C.symm
 have H:=k1▸U;have I:=ZD (rd:=(Src.one v).rd (cells (putRow (Value.int .u8) (Sort.ahead w q) b.block b.off x.toArray.reverse))) (by rw[l];rfl) hb g5 Q H;have h0:Z=[(b.block,b.off+c*(Ty.int .u8).cells)]:=by rw[A];simp[Ty.cells]
 refine⟨[],_,rfl,rfl,K _ _ R' (by simp) (by rw[h0];exact I) (fun _ _ h=>a7T h) (fun a ha hF=>a7U fun e=>?_) rfl⟩;subst e;rcases d with h|h;exact hF h;omega
end Go.Ab
namespace Go.Ab
open Go.Proofs Go.RowKit
theorem c0c(P:Program)(w:World)(x y c:Int)(h:c.toNat<=1):(add64Entry #[.int .u64 x,.int .u64 y,.int .u64 c]).run P w=.ok (.tuple #[.int .u64 (((x.toNat+y.toNat+c.toNat)%18446744073709551616:Nat):Int),.int .u64 (((x.toNat+y.toNat+c.toNat) / 18446744073709551616:Nat):Int)]) w:=by cases c with|ofNat k=>((have:k=0\/k=1:=by simp at h;omega);rcases this with rfl|rfl<;>rfl)|negSucc n=>rfl
theorem b3s(m:DU)(Sh:Nat->Prop)(n:Int):Ci m Sh (.int .u64) n (.int .u64 n):=by refine⟨fun h=>(by cases h),fun _=>rfl,[],?_,by simp⟩;rfl
theorem c0d(G:YE):b6H Tryz.prog G 77 ⟨[.v (.int .u64),.v (.int .u64),.v (.int .u64)],[.v (.int .u64),.v (.int .u64)],fun(x:Int×(Int×Int))=>bif A4 (x.2.2.toNat<=1)then some ((((x.1.toNat+x.2.1.toNat+x.2.2.toNat)%18446744073709551616:Nat):Int),(((x.1.toNat+x.2.1.toNat+x.2.2.toNat) / 18446744073709551616:Nat):Int))else none⟩:=by
 intro w B M a (x:Int×(Int×Int)) (y:Int×Int) hG o hB hhp hov hargs hrel hpins;have⟨m,o⟩:=(Ai o).elim id fun h=>by cases h.2
 have m:x.2.2.toNat<=1:=of_decide_eq_true m;cases o;have p:a.size=3:=hargs;have q:=Ay.int (k:=.u64) (n:=x.1) (g:=M.g) (rt:=(Ws [.v (.int .u64),.v (.int .u64),.v (.int .u64)] x).rt) (hrel.slots 0 (by decide));have f:=Ay.int (k:=.u64) (n:=x.2.1) (g:=M.g) (rt:=(Ws [.v (.int .u64),.v (.int .u64),.v (.int .u64)] x).rt) (hrel.slots 1 (by decide));have d:=Ay.int (k:=.u64) (n:=x.2.2) (g:=M.g) (rt:=(Ws [.v (.int .u64),.v (.int .u64),.v (.int .u64)] x).rt) (hrel.slots 2 (by decide));have t:a=#[.int .u64 x.1,.int .u64 x.2.1,.int .u64 x.2.2]:=by rw[<-q,<-f,<-d];apply Array.ext;simpa using p;intro i l r;(have:i=0\/i=1\/i=2:=by simp at r;omega);rcases this with rfl|rfl|rfl<;>simp[Array.getD,p]
 subst t;refine⟨_,w,?_,[.int .u64 (((x.1.toNat+x.2.1.toNat+x.2.2.toNat)%18446744073709551616:Nat):Int),.int .u64 (((x.1.toNat+x.2.1.toNat+x.2.2.toNat) / 18446744073709551616:Nat):Int)],[(.one undef,[]),(.one undef,[])],rfl,rfl,?_⟩;rw[run_callFunc_extern Tryz.func77 (by kernel_rfl) (by kernel_rfl) (by kernel_rfl) (e:=add64Entry) (by kernel_rfl),c0c _ _ _ _ _ m];rfl;refine⟨rfl,rfl,fun k z v L f d l=>?_,by simp,fun k A L u f d l c j=>?_,by simp,by simp,by omega,fun b _ _=>(hhp b).symm,hrel.still⟩;match k with|0=>(cases f;cases d;cases l;exact⟨b3s _ _ _,rfl⟩)|1=>(cases f;cases d;cases l;exact⟨b3s _ _ _,rfl⟩)|k+2=>cases f
 match k,f with|0,f=>(cases f;cases j)|1,f=>(cases f;cases j)|k+2,f=>cases f
end Go.Ab
namespace Go.Ab
open Go.Proofs Go.RowKit
attribute [local go_sem] Oper.semAt_some
set_option maxHeartbeats 1000000 in
theorem c0e:b1q Tryz.prog 294 305:=by refine⟨⟨_,_,Tryz.func294,rfl,by kernel_rfl⟩,fun A len cap w=>(callsIn_wide (n:=3)).1 ?_⟩;refine callsIn_of_wp Tryz.func294 rfl trivial ?_;simp only[Tryz.ntmps294,C7,lC,D0,D2,D3,C3,C4,C8,C5,D1,C6];gi_wp2;go_ret;exact⟨rfl,_,rfl⟩
abbrev ZS:Ty:=.pair (.int .i64) (.pair (.int .i64) .unit)
set_option maxRecDepth 100000 in
set_option maxHeartbeats 2000000 in
theorem b7o (l Bs b off len cap:Nat) (p q:Nat->Int) (J:Nat->World->Prop) (Jx:World->Prop) (W:World)
  (hJ:∀k W',J k W'->W'.cell? ⟨Bs,0,none⟩=some (.slice (some ⟨b,off,none⟩) len cap))
  (hlen:len<2147483648)
  (hcs:∀k W',k<len->J (k+1) W'->W'.cell? ⟨b,off+k*2,none⟩=some (.int .i64 (p k))/\W'.cell? ⟨b,off+k*2+1,none⟩=some (.int .i64 (q k)))
  (hY:∀n W',n<len->J (n+1) W'->YieldAt (Fr none) 0 Tryz.prog l #[.int .i64 (n:Int),.agg #[.int .i64 (p n),.int .i64 (q n)]] W' fun en W''=>(en=.returned (.bool true)/\J n W'')\/(en=.returned (.bool false)/\Jx W''))
  (h0:J len W):
  CallsIn (Fr none) 0 Tryz.prog 305 #[.func (.yield l) #[] #[],.pointer (some ⟨Bs,0,none⟩)] W fun en W'=>(∃v,en=.returned v)/\(J 0 W'\/Jx W'):=by
 refine callsIn_of_wp Tryz.func305 rfl trivial ?_
 simp only[Tryz.ntmps305,C7,lC,D0,D2,D3,C3,C4,C8,C5,D1,C6]
 have hBs:=hJ _ _ h0
 gi_wp2
 gi_loopw [3] (fun i wr=>∃k:Nat,k<=len/\i=.int .i64 ((k:Int)-1)/\J k wr) (fun i _=>(intOf i+1).toNat)
 case atStart=>exact⟨len,D7 _,rfl,h0⟩
 case round=>
  obtain⟨k,hk,rfl,hJs⟩:=hrel
  cases k with
  |succ n=>
   have⟨fn,tmps,assign,body,hy,hR⟩:=hY n wr (by omega) hJs
   have hcx:=hJ _ _ hJs
   have⟨hc0,hc1⟩:=hcs n wr (by omega) hJs
   gi_wp2
   refine hR.mono ?_
   rintro e W3 (⟨rfl,hJ3⟩|⟨rfl,hJx3⟩)
   ·gi_wp2
    go_roundw
    case rel=>exact⟨n,by omega,by simp,hJ3⟩
    case measure=>simp[intOf]
   ·gi_wp2
    refine bodyPost_ret (results_none rfl _ _ _) rfl ?_
    exact⟨⟨_,rfl⟩,.inr hJx3⟩
  |zero=>
   gi_wp2
   go_end0
   exact⟨⟨_,rfl⟩,.inl hJs⟩
set_option maxRecDepth 100000 in
set_option maxHeartbeats 2000000 in
theorem b4G (l Bs:Nat) (A:Option Addr) (c:Nat) (J:Nat->World->Prop) (W:World) (hBs:W.cell? ⟨Bs,0,none⟩=some (.slice A 0 c)) (h0:J 0 W):
  CallsIn (Fr none) 0 Tryz.prog 305 #[.func (.yield l) #[] #[],.pointer (some ⟨Bs,0,none⟩)] W fun en W'=>(∃v,en=.returned v)/\J 0 W':=by
 refine callsIn_of_wp Tryz.func305 rfl trivial ?_
 simp only[Tryz.ntmps305,C7,lC,D0,D2,D3,C3,C4,C8,C5,D1,C6]
 gi_wp2
 gi_loopw [3] (fun i wr=>i=.int .i64 (-1)/\J 0 wr) (fun _ _=>0)
 case atStart=>exact⟨rfl,h0⟩
 case round=>
  obtain⟨rfl,hJs⟩:=hrel
  gi_wp2
  go_end0
  exact⟨⟨_,rfl⟩,hJs⟩
theorem a3S{m:DU}{Sh:Nat->Prop}{b o:Nat}{x:ZS.sK}{R}(h:AL m ZS ((Src.at b o).rd m)=some (x,[],R)):m b o=some (.int .i64 x.1)/\m b (o+1)=some (.int .i64 x.2.1)/\Ci m Sh ZS x (.agg #[.int .i64 x.1,.int .i64 x.2.1]):=by have⟨p,q,u⟩:=x;simp only[ZS,AL,Src.rd,Ty.cells,Nat.add_zero]at h;split at h;cases h;rename_i w i r g;split at g;rename_i n c;split at g;rename_i e;subst e;simp only[sj]at g;obtain⟨rfl,rfl,rfl⟩:=g;split at h;cases h;rename_i y j t k;split at k;cases k;rename_i z l v f;split at f;rename_i d a;split at f;rename_i e;subst e;simp only[sj]at f k h;obtain⟨rfl,rfl,rfl⟩:=f;obtain⟨rfl,rfl,rfl⟩:=k;obtain⟨⟨rfl,rfl,rfl⟩,-,-⟩:=h;exact⟨c,a,fun _=>⟨_,rfl,rfl⟩,fun h=>(by cases h),[],rfl,by simp⟩;cases f;cases f;cases g;cases g
theorem YT {P:Program} {f:FuncId} (hb:ZJ P f) (args:Array Value) (w:World):(callFunc f args).run P w=.ok (.enter f args) w:=by
 obtain ⟨fn,c',h1,h2,h3⟩:=hb;have h4 : ¬ fn.name = "runtime.NumGoroutine" := by simpa using h3
 simp [callFunc,program,Sem.run,h1,h2,h4,Result.andThen]
theorem c0f:a5B Tryz.prog 305 ZS:=by refine⟨fun j w=>YT ⟨_,_,Tryz.func305,rfl,by kernel_rfl⟩ j w,fun l E V f J I W m y Q q=>?_⟩;have⟨F,Sh,C⟩:=y _ _ q;obtain⟨A,n,c,rfl,rfl,T,B,o⟩:=C.header;by_cases hx0:f.length=0;rw[hx0]at q F;exact(b4G l E A c J W F q).mono fun e g h=>⟨h.1,.inl h.2⟩;cases A with|none=>have:=o rfl;omega|some A=>have⟨b,i,G⟩:=A;have:=(B _ rfl).resolve_left (by omega);(simp only at this;subst this;have z:∀k g,k<f.length->J (k+1) g->∃x,f[k]?=some x/\g.cell? ⟨b,i+k*2,none⟩=some (.int .i64 x.1)/\g.cell? ⟨b,i+k*2+1,none⟩=some (.int .i64 x.2.1):=by intro k g r d;obtain⟨-,a,D⟩:=y _ _ d;have⟨H,U,K,R,e,L,M,N,v,O,P⟩:=D.elem rfl (lG r);simp only[Value.slice.injEq,sj]at e;obtain⟨rfl,rfl,rfl⟩:=e;obtain⟨t,u,-⟩:=a3S (Sh:=a) v;exact⟨_,lG r,t,u⟩);(refine b7o l E b i f.length c (fun k=>((f[k]?).getD ZS.dflt).1) (fun k=>((f[k]?).getD ZS.dflt).2.1) J I W (fun k g d=>(y k g d).1) m (fun k g r d=>?_) (fun n g S d=>?_) q;have⟨x,p,t,u⟩:=z k g r d;simp only[p,D5];exact⟨t,u⟩;have p:f[n]?=some f[n]:=lG S;simp only[p,D5];refine Q n _ _ g p d fun a D=>?_);have⟨H,U,K,R,e,L,M,N,v,O,P⟩:=D.elem rfl p;exact(a3S (Sh:=a) v).2.2
set_option maxHeartbeats 1000000 in
theorem c0g:b1q Tryz.prog 193 250:=by refine⟨⟨_,_,Tryz.func193,rfl,by kernel_rfl⟩,fun A len cap w=>(callsIn_wide (n:=3)).1 ?_⟩;refine callsIn_of_wp Tryz.func193 rfl trivial ?_;simp only[Tryz.ntmps193,C7,lC,D0,D2,D3,C3,C4,C8,C5,D1,C6];gi_wp2;go_ret;exact⟨rfl,_,rfl⟩
abbrev rM:Ty:=.pair (.int .i64) (.pair (.int .i64) (.pair (.int .i64) .unit))
set_option maxRecDepth 100000 in
set_option maxHeartbeats 2000000 in
theorem b7p (l Bs b off len cap:Nat) (p q r:Nat->Int) (J:Nat->World->Prop) (Jx:World->Prop) (W:World)
  (hJ:∀k W',J k W'->W'.cell? ⟨Bs,0,none⟩=some (.slice (some ⟨b,off,none⟩) len cap))
  (hlen:len<2147483648)
  (hcs:∀k W',k<len->J (k+1) W'->W'.cell? ⟨b,off+k*3,none⟩=some (.int .i64 (p k))/\W'.cell? ⟨b,off+k*3+1,none⟩=some (.int .i64 (q k))/\W'.cell? ⟨b,off+k*3+2,none⟩=some (.int .i64 (r k)))
  (hY:∀n W',n<len->J (n+1) W'->YieldAt (Fr none) 0 Tryz.prog l #[.int .i64 (n:Int),.agg #[.int .i64 (p n),.int .i64 (q n),.int .i64 (r n)]] W' fun en W''=>(en=.returned (.bool true)/\J n W'')\/(en=.returned (.bool false)/\Jx W''))
  (h0:J len W):
  CallsIn (Fr none) 0 Tryz.prog 250 #[.func (.yield l) #[] #[],.pointer (some ⟨Bs,0,none⟩)] W fun en W'=>(∃v,en=.returned v)/\(J 0 W'\/Jx W'):=by
 refine callsIn_of_wp Tryz.func250 rfl trivial ?_
 simp only[Tryz.ntmps250,C7,lC,D0,D2,D3,C3,C4,C8,C5,D1,C6]
 have hBs:=hJ _ _ h0
 gi_wp2
 gi_loopw [3] (fun i wr=>∃k:Nat,k<=len/\i=.int .i64 ((k:Int)-1)/\J k wr) (fun i _=>(intOf i+1).toNat)
 case atStart=>exact⟨len,D7 _,rfl,h0⟩
 case round=>
  obtain⟨k,hk,rfl,hJs⟩:=hrel
  cases k with
  |succ n=>
   have⟨fn,tmps,assign,body,hy,hR⟩:=hY n wr (by omega) hJs
   have hcx:=hJ _ _ hJs
   have⟨hc0,hc1,hc2⟩:=hcs n wr (by omega) hJs
   gi_wp2
   refine hR.mono ?_
   rintro e W3 (⟨rfl,hJ3⟩|⟨rfl,hJx3⟩)
   ·gi_wp2
    go_roundw
    case rel=>exact⟨n,by omega,by simp,hJ3⟩
    case measure=>simp[intOf]
   ·gi_wp2
    refine bodyPost_ret (results_none rfl _ _ _) rfl ?_
    exact⟨⟨_,rfl⟩,.inr hJx3⟩
  |zero=>
   gi_wp2
   go_end0
   exact⟨⟨_,rfl⟩,.inl hJs⟩
set_option maxRecDepth 100000 in
set_option maxHeartbeats 2000000 in
theorem b4H (l Bs:Nat) (A:Option Addr) (c:Nat) (J:Nat->World->Prop) (W:World) (hBs:W.cell? ⟨Bs,0,none⟩=some (.slice A 0 c)) (h0:J 0 W):
  CallsIn (Fr none) 0 Tryz.prog 250 #[.func (.yield l) #[] #[],.pointer (some ⟨Bs,0,none⟩)] W fun en W'=>(∃v,en=.returned v)/\J 0 W':=by
 refine callsIn_of_wp Tryz.func250 rfl trivial ?_
 simp only[Tryz.ntmps250,C7,lC,D0,D2,D3,C3,C4,C8,C5,D1,C6]
 gi_wp2
 gi_loopw [3] (fun i wr=>i=.int .i64 (-1)/\J 0 wr) (fun _ _=>0)
 case atStart=>exact⟨rfl,h0⟩
 case round=>
  obtain⟨rfl,hJs⟩:=hrel
  gi_wp2
  go_end0
  exact⟨⟨_,rfl⟩,hJs⟩
theorem a5E{m:DU}{rd:Nat->Option Value}{x o r}(h:AL m (.int .i64) rd=some (x,o,r)):rd 0=some (.int .i64 x)/\o=[]/\r=[]:=by simp only[AL]at h;split at h;rename_i k n g;split at h;rename_i e;subst e;simp only[sj,pJ]at h;obtain⟨rfl,rfl,rfl⟩:=h;exact⟨g,rfl,rfl⟩;cases h;cases h
theorem rN{m:DU}{a b:Ty}{rd:Nat->Option Value}{x o r}(h:AL m (.pair a b) rd=some (x,o,r)):∃o1 g o2 r2,AL m a rd=some (x.1,o1,g)/\AL m b (fun j=>rd (a.cells+j))=some (x.2,o2,r2)/\o=o1++o2/\r=g++r2:=by simp only[AL]at h;split at h;cases h;rename_i c o1 g f;split at h;cases h;rename_i d o2 r2 k;simp only[sj,pJ]at h;obtain⟨rfl,rfl,rfl⟩:=h;exact⟨_,_,_,_,f,k,rfl,rfl⟩
theorem a7V{m:DU}{Sh:Nat->Prop}{b o:Nat}{x:rM.sK}{R}(h:AL m rM ((Src.at b o).rd m)=some (x,[],R)):m b o=some (.int .i64 x.1)/\m b (o+1)=some (.int .i64 x.2.1)/\m b (o+2)=some (.int .i64 x.2.2.1)/\Ci m Sh rM x (.agg #[.int .i64 x.1,.int .i64 x.2.1,.int .i64 x.2.2.1]):=by obtain⟨_,_,_,_,g,f,-,-⟩:=rN h;obtain⟨_,_,_,_,k,a,-,-⟩:=rN f;obtain⟨_,_,_,_,c,-,-,-⟩:=rN a;exact⟨(a5E g).1,(a5E k).1,(a5E c).1,fun _=>⟨_,rfl,rfl⟩,fun h=>(by cases h),[],rfl,by simp⟩
theorem c0h:a5B Tryz.prog 250 rM:=by refine⟨fun j w=>YT ⟨_,_,Tryz.func250,rfl,by kernel_rfl⟩ j w,fun l F X a J K W m z S q=>?_⟩;have⟨G,Sh,D⟩:=z _ _ q;obtain⟨A,n,c,rfl,rfl,U,C,o⟩:=D.header;by_cases hx0:a.length=0;rw[hx0]at q G;exact(b4H l F A c J W G q).mono fun e g h=>⟨h.1,.inl h.2⟩;cases A with|none=>have:=o rfl;omega|some A=>have⟨b,f,H⟩:=A;have:=(C _ rfl).resolve_left (by omega);(simp only at this;subst this;have B:∀k g,k<a.length->J (k+1) g->∃x,a[k]?=some x/\g.cell? ⟨b,f+k*3,none⟩=some (.int .i64 x.1)/\g.cell? ⟨b,f+k*3+1,none⟩=some (.int .i64 x.2.1)/\g.cell? ⟨b,f+k*3+2,none⟩=some (.int .i64 x.2.2.1):=by intro k g r i;obtain⟨-,d,E⟩:=z _ _ i;have⟨I,V,L,R,e,M,N,O,y,P,Q⟩:=E.elem rfl (lG r);simp only[Value.slice.injEq,sj]at e;obtain⟨rfl,rfl,rfl⟩:=e;obtain⟨t,u,v,-⟩:=a7V (Sh:=d) y;exact⟨_,lG r,t,u,v⟩);(refine b7p l F b f a.length c (fun k=>((a[k]?).getD rM.dflt).1) (fun k=>((a[k]?).getD rM.dflt).2.1) (fun k=>((a[k]?).getD rM.dflt).2.2.1) J K W (fun k g i=>(z k g i).1) m (fun k g r i=>?_) (fun n g T i=>?_) q;have⟨x,p,t,u,v⟩:=B k g r i;simp only[p,D5];exact⟨t,u,v⟩;have p:a[n]?=some a[n]:=lG T;simp only[p,D5];refine S n _ _ g p i fun d E=>?_);have⟨I,V,L,R,e,M,N,O,y,P,Q⟩:=E.elem rfl p;exact(a7V (Sh:=d) y).2.2.2
end Go.Ab
namespace Go.Ab
open IntKind renaming wrap->zB
open Go.Proofs
set_option maxRecDepth 100000
set_option linter.unusedVariables false
@[reducible] def QO(a b:Type):Type:=Option (a ⊕ b)
abbrev QI:Ty:=.int .i64
abbrev QL:Ty:=.list false QI
abbrev QU:Ty:=.int .u64
abbrev QV:Ty:=.int .u8
abbrev QB:Ty:=.list false QV
abbrev LI:Type:=List Int
instance (n:Nat):OfNat wZ n:=⟨.sv n QI⟩
@[reducible] def Qp(i n:Nat):wZ:=.ptr i n []
@[reducible] def Qn(l:Ao):Ex×Ao:=(.normal,l)
@[reducible] def Qe(n:Nat)(l:Ao):Ex×Ao:=(.exit n,l)
@[reducible] def Qr(l:Ao):Ex×Ao:=(.ret,l)
def QH:sF:=⟨[],[],[]⟩
def Qm:Ao->Nat->Ao|[],_=>[]|e::r,m=>bif m%2==1 then e::Qm r (m/2)else Qm r (m/2)
def Qx:Nat->Ex|0=>.normal|1=>.ret|n+2=>.exit n
def Qo(l:Ao):List Nat->Wq|x::m::r=>(Qx x,Qm l m)::Qo l r|_=>[]
@[reducible] def Qb(n:Nat):wZ:=.sv n .bool
def Qd(n:Nat)(a:List Nat):Md:=match n with|0=>.v|1=>.q|2=>.x|3=>.p|4=>.s|5=>.u|8=>.w a|9=>.a a|10=>.b a|_=>.r a
def Qg:Nat->Nat->List (List Nat)->List Md|0,_,_=>[]|k+1,n,l=>Qd (n%16) (l.headD [])::Qg k (n/16) (bif n%16/7==0 then l else l.drop 1)
def Qh(l:Ao)(a c:List (List Nat))(d:List (Nat×List Md)):sF:=⟨a.map fun x=>(x.headD 0,Qm l ((x.drop 1).headD 0),Qo l (x.drop 2)),c.map fun x=>(x.headD 0,Qo l (x.drop 1)),d⟩
abbrev Z0:Type:=(Unit ⊕ (Bool×Unit))
abbrev Z1:Type:=((List LI)×Int)
abbrev Z2:Type:=(LI×LI)
abbrev Z3:Type:=((List LI)×Unit)
abbrev Z4:Type:=(LI×(Int×Int))
abbrev Z5:Type:=(Int×(Int×LI))
abbrev Z6:Type:=(Int×(LI×Unit))
abbrev Z7:Type:=(LI×(Int×Unit))
abbrev Z8:Type:=(List (Int×(Int×Unit)))
abbrev Z9:Type:=(Int×(Int×(Int×Unit)))
abbrev c9k:Type:=(Bool×(LI×Unit))
abbrev c4Z:Type:=(LI×(Bool×Unit))
abbrev b6m:Type:=((LI×Unit)×Unit)
abbrev c4I:Type:=(Int×(Int×(Bool×Unit)))
abbrev b7q:Type:=(LI×(LI×Int))
abbrev c5a:Type:=(LI×(Int×LI))
abbrev UF:Type:=(Int×Z3)
abbrev c2e:Type:=((List LI)×(Int×Unit))
abbrev c9l:Type:=(LI×(LI×Unit))
abbrev SE:Type:=(LI×(Int×(Int×Unit)))
abbrev UG:Type:=(List Z9)
abbrev a3T:Type:=(Int×Z6)
abbrev b9H:Type:=(Int×Z7)
abbrev d4F:Type:=(Int×c9k)
abbrev b1v:Type:=(LI×(Int×(Bool×Unit)))
abbrev c9K:Type:=(Int×Z9)
abbrev c0i:Type:=(Z6×Unit)
abbrev b6n:Type:=(Z7×Unit)
abbrev c9m:Type:=(Bool×Z6)
abbrev c9L:Type:=(Int×b6m)
abbrev c0j:Type:=(Z9×Unit)
abbrev c5b:Type:=(Int×c4I)
abbrev c3C:Type:=(List UF)
abbrev c3D:Type:=((List LI)×(Int×(Int×Unit)))
abbrev c5c:Type:=(Int×UF)
abbrev b4I:Type:=(Int×c9l)
abbrev c9n:Type:=(LI×Z8)
abbrev b6o:Type:=(LI×Z6)
abbrev c9o:Type:=(LI×Z7)
abbrev c0k:Type:=(UF×Unit)
abbrev a7b:Type:=(LI×Z9)
abbrev a5F:Type:=(Int×SE)
abbrev c2f:Type:=(Int×a3T)
abbrev b7r:Type:=(LI×c4I)
abbrev d4g:Type:=(Int×d4F)
abbrev c9p:Type:=(Int×c9K)
abbrev c9M:Type:=(Int×b6n)
abbrev c9q:Type:=(Z8×(Int×Unit))
abbrev c4J:Type:=(Int×c9L)
abbrev c9r:Type:=(Int×c5b)
abbrev c4K:Type:=(Bool×c0i)
abbrev d4G:Type:=(Int×c0j)
abbrev d4H:Type:=(Bool×c0j)
abbrev d4I:Type:=(LI×c9l)
abbrev c5d:Type:=(Int×c3D)
abbrev c9s:Type:=((List LI)×Z9)
abbrev b1w:Type:=(LI×a3T)
abbrev c9t:Type:=(LI×SE)
abbrev c9N:Type:=(Int×b4I)
abbrev c9u:Type:=(b4I×Int)
abbrev c3E:Type:=(Int×c0k)
abbrev c0l:Type:=(Int×a5F)
abbrev a7W:Type:=((LI×Unit) ⊕ Z6)
abbrev d4J:Type:=(Z6×(LI×Unit))
abbrev c3F:Type:=(LI×b1v)
abbrev d4h:Type:=(b4I×Unit)
abbrev d4K:Type:=(LI×c0i)
abbrev c4L:Type:=(Int×a7b)
abbrev c9v:Type:=(Int×c2f)
abbrev c9w:Type:=(Bool×c0k)
abbrev c4M:Type:=(Int×c9p)
abbrev c5e:Type:=(Int×c9M)
abbrev c2g:Type:=(SE ⊕ (Int×Unit))
abbrev c9O:Type:=(Int×d4G)
abbrev d4L:Type:=(Int×d4H)
abbrev c5f:Type:=((List LI)×UF)
abbrev c5g:Type:=((List LI)×UG)
abbrev d4M:Type:=(Int×d4I)
abbrev b3t:Type:=(Int×b1w)
abbrev c5h:Type:=(LI×a5F)
abbrev c4N:Type:=(LI×a7b)
abbrev c9x:Type:=(Z6×Z5)
abbrev d4N:Type:=(LI×c0k)
abbrev c9y:Type:=(LI×c2f)
abbrev c3G:Type:=(Int×c3E)
abbrev c9z:Type:=(LI×d4g)
abbrev c9A:Type:=(Int×d4h)
abbrev d4O:Type:=(Int×d4K)
abbrev c5i:Type:=(Z9×Z4)
abbrev c4O:Type:=(Z8×Z6)
abbrev c9B:Type:=(UG×(Int×(Int×Unit)))
abbrev c3H:Type:=(a5F ⊕ (Int×Unit))
abbrev c9P:Type:=(Int×c4M)
abbrev c9C:Type:=(Int×c9O)
abbrev c5j:Type:=(Int×d4L)
abbrev c2h:Type:=(SE ⊕ Z0)
abbrev c9D:Type:=(Int×d4M)
abbrev c3I:Type:=(LI×c9N)
abbrev c4P:Type:=(LI×b1w)
abbrev c9E:Type:=(LI×c0l)
abbrev b1x:Type:=(Int×b3t)
abbrev c9Q:Type:=(LI×d4J)
abbrev c0m:Type:=(LI×d4h)
abbrev c0n:Type:=(LI×c3F)
abbrev c0o:Type:=(Int×d4N)
abbrev c0p:Type:=(Int×c9A)
abbrev c9R:Type:=(Int×d4O)
abbrev c3J:Type:=(LI×c5e)
abbrev c0q:Type:=(Z6×c0i)
abbrev c9S:Type:=(Z7×c0i)
abbrev c3K:Type:=(Int×c9P)
abbrev b7s:Type:=(Int×c9D)
abbrev c0r:Type:=(Int×c3I)
abbrev b7t:Type:=(LI×b3t)
abbrev c3L:Type:=(Int×c0m)
abbrev b1y:Type:=(Int×c0o)
abbrev c0s:Type:=(UG×UF)
abbrev b7u:Type:=(Int×c0p)
abbrev c9T:Type:=(Int×c9R)
abbrev c0t:Type:=(Int×c3J)
abbrev c3M:Type:=(UF×c0j)
abbrev c9U:Type:=(Int×c0q)
abbrev b4J:Type:=(Int×c3K)
abbrev c3N:Type:=(Int×c3L)
abbrev c5k:Type:=(UG×c0k)
abbrev c9V:Type:=(LI×c9S)
abbrev c9W:Type:=(Int×c9U)
abbrev c0u:Type:=(LI×c9T)
abbrev a5G:Type:=(Int×c5k)
abbrev c9X:Type:=(Int×c9V)
abbrev c9Y:Type:=(Z8×c9Q)
abbrev c9Z:Type:=(LI×c9W)
abbrev d0a:Type:=(Int×c9X)
abbrev b7v:Type:=(Z6×c0q)
abbrev d0b:Type:=(Int×c9Z)
abbrev d0c:Type:=(LI×c9Y)
abbrev b7w:Type:=(LI×d0a)
abbrev c0v:Type:=(Z8×c3N)
abbrev d0d:Type:=(UF×c3M)
abbrev d0e:Type:=(LI×b7v)
abbrev d0f:Type:=(Int×d0b)
abbrev c0w:Type:=(Int×d0d)
abbrev d0g:Type:=(UG×c5k)
abbrev d0h:Type:=(Int×d0e)
abbrev c0x:Type:=(Int×d0f)
abbrev d0i:Type:=(LI×d0c)
abbrev d0j:Type:=(Int×d0g)
abbrev c0y:Type:=(Int×d0h)
abbrev d0k:Type:=(Int×d0i)
abbrev c0z:Type:=(Int×d0j)
abbrev d0l:Type:=(Int×d0k)
abbrev d0m:Type:=(Int×d0l)
abbrev d0n:Type:=(Int×d0m)
abbrev DI:Type:=(Int×d0n)
abbrev Tw:Type:=(List DI)
abbrev WW:Type:=(DI×Int)
abbrev a7X:Type:=(DI×Unit)
abbrev b4K:Type:=(Tw×Unit)
abbrev c0A:Type:=(Bool×a7X)
abbrev c5l:Type:=(LI×a7X)
abbrev d0o:Type:=(Int×b4K)
abbrev a7Y:Type:=(Int×c0A)
abbrev c0B:Type:=(Tw×(LI×Unit))
abbrev d0p:Type:=(Int×c5l)
abbrev d0q:Type:=((LI×Unit)×a7X)
abbrev c0C:Type:=(Int×a7Y)
abbrev c0D:Type:=(LI×d0o)
abbrev c0E:Type:=(Int×d0p)
abbrev d0r:Type:=(Z7×a7X)
abbrev d0s:Type:=(Int×d0q)
abbrev c0F:Type:=(Int×d0r)
abbrev c0G:Type:=(Int×d0s)
abbrev d0t:Type:=(UG×b4K)
abbrev a2m:Type:=(Int×c0F)
abbrev d0u:Type:=(Z9×d0t)
abbrev d0v:Type:=(Int×d0u)
abbrev Mk:Type:=(Int×d0v)
abbrev RU:Type:=(List Mk)
abbrev c0H:Type:=(Mk×Int)
abbrev rO:Type:=(Mk×Unit)
abbrev d0w:Type:=(RU×Unit)
abbrev c3O:Type:=(UF×rO)
abbrev d0x:Type:=(Z8×d0w)
abbrev d0y:Type:=(Int×d0x)
abbrev d0z:Type:=(Int×d0y)
abbrev c3P:Type:=((List LI)×c3O)
abbrev hZ:Type:=(DI×a7X)
abbrev c0I:Type:=(Int×c3P)
abbrev c5m:Type:=(Int×hZ)
abbrev c0J:Type:=(Int×c5m)
abbrev TT:Type:=(Z9×d0z)
abbrev b4L:Type:=(TT×Int)
abbrev b1z:Type:=(TT×Unit)
abbrev b4M:Type:=(LI×b1z)
abbrev c0K:Type:=(TT×c0j)
abbrev d0A:Type:=(c3C×b1z)
abbrev c0L:Type:=((List LI)×d0A)
abbrev c0M:Type:=(DI×hZ)
abbrev c0N:Type:=(Mk×rO)
abbrev b4N:Type:=(Int×c0N)
abbrev c3Q:Type:=(TT×b1z)
abbrev c0O:Type:=(Int×c3Q)
abbrev c0P:Type:=(TT×c0K)
abbrev Q0:Ty:=(.pair QI .unit)
abbrev Q1:Ty:=(.pair (.list true QV) .unit)
abbrev Q2:Ty:=(.pair (.list true QI) .unit)
abbrev Q3:Ty:=(.pair QL .unit)
abbrev Q4:Ty:=(.pair QI Q0)
abbrev Q5:Ty:=(.pair QU Q0)
abbrev Q6:Ty:=(.pair (.nl QL) .unit)
abbrev Q7:Ty:=(.pair (.list true (.list true QI)) .unit)
abbrev Q8:Ty:=(.pair (.list true QL) .unit)
abbrev Q9:Ty:=(.pair (.list false QL) .unit)
abbrev a3U:Ty:=(.pair (.list true QV) Q0)
abbrev c9F:Ty:=(.pair QI Q2)
abbrev iA:Ty:=(.pair QI Q3)
abbrev EP:Ty:=(.pair QI Q4)
abbrev d4i:Ty:=(.pair QI Q5)
abbrev d4j:Ty:=(.pair QI Q7)
abbrev c5n:Ty:=(.pair (.list true QI) Q2)
abbrev Vb:Ty:=(.pair QI Q9)
abbrev Rw:Ty:=(.pair QB Q4)
abbrev b3u:Ty:=(.pair QI c5n)
abbrev d4P:Ty:=(.pair (.list true QI) d4i)
abbrev d4Q:Ty:=(.pair QL d4i)
abbrev d0B:Ty:=(.pair iA Q3)
abbrev d0C:Ty:=(.pair (.list true QI) d4P)
abbrev d4k:Ty:=(.pair QL d4Q)
abbrev d4l:Ty:=(.pair (.nl QI) d0B)
abbrev d4R:Ty:=(.pair QL d0B)
abbrev d4S:Ty:=(.pair (.list true Q4) d4l)
abbrev d4T:Ty:=(.pair (.list false Q4) d4l)
abbrev d4U:Ty:=(.pair EP d0C)
abbrev c5o:Ty:=(.pair EP d4k)
abbrev d4V:Ty:=(.pair (.list false Q4) d4R)
abbrev d4W:Ty:=(.pair (.arr 3 QI) d4S)
abbrev d4X:Ty:=(.pair (.arr 3 QI) d4T)
abbrev d4Y:Ty:=(.pair (.arr 3 QI) d4V)
abbrev d4Z:Ty:=(.pair (.list true QI) d4W)
abbrev d5a:Ty:=(.pair QL d4X)
abbrev d5b:Ty:=(.pair QL d4Y)
abbrev d5c:Ty:=(.pair QI d4Z)
abbrev d5d:Ty:=(.pair QI d5a)
abbrev d5e:Ty:=(.pair QI d5b)
abbrev d5f:Ty:=(.pair QI d5c)
abbrev d5g:Ty:=(.pair QI d5d)
abbrev d5h:Ty:=(.pair QI d5e)
abbrev d5i:Ty:=(.pair QI d5f)
abbrev d5j:Ty:=(.pair QI d5g)
abbrev d5k:Ty:=(.pair QI d5h)
abbrev d0D:Ty:=(.pair QI d5i)
abbrev d0E:Ty:=(.pair QI d5j)
abbrev d4m:Ty:=(.pair QI d5k)
abbrev b7x:Ty:=(.pair QI d0D)
abbrev Hu:Ty:=(.pair QI d4m)
abbrev d0F:Ty:=(.pair (.nl Hu) .unit)
abbrev d5l:Ty:=(.pair (.list true Hu) .unit)
abbrev d5m:Ty:=(.pair (.list false Hu) .unit)
abbrev d5n:Ty:=(.pair (.nl EP) d0F)
abbrev d5o:Ty:=(.pair (.list true EP) d0F)
abbrev d5p:Ty:=(.pair (.list false EP) d5l)
abbrev d5q:Ty:=(.pair (.list false EP) d5m)
abbrev d5r:Ty:=(.pair EP d5n)
abbrev d5s:Ty:=(.pair EP d5o)
abbrev d5t:Ty:=(.pair EP d5p)
abbrev d5u:Ty:=(.pair EP d5q)
abbrev a3V:Ty:=(.pair QI d5r)
abbrev d0G:Ty:=(.pair QI d5s)
abbrev c5p:Ty:=(.pair QI d5t)
abbrev d4n:Ty:=(.pair QI d5u)
abbrev d5v:Ty:=(.pair QI d0G)
abbrev d0H:Ty:=(.pair QI c5p)
abbrev TI:Ty:=(.pair QI d4n)
abbrev d5w:Ty:=(.pair (.nl TI) .unit)
abbrev d5x:Ty:=(.pair (.list true TI) .unit)
abbrev d0I:Ty:=(.pair (.list false TI) .unit)
abbrev d5y:Ty:=(.pair (.nl Q4) d5w)
abbrev d5z:Ty:=(.pair (.list true Q4) d5x)
abbrev d5A:Ty:=(.pair (.list true Q4) d0I)
abbrev d5B:Ty:=(.pair (.list false Q4) d0I)
abbrev d5C:Ty:=(.pair QU d5y)
abbrev d5D:Ty:=(.pair QU d5z)
abbrev d5E:Ty:=(.pair QU d5A)
abbrev d5F:Ty:=(.pair QU d5B)
abbrev b4O:Ty:=(.pair QI d5C)
abbrev c9G:Ty:=(.pair QI d5D)
abbrev d4o:Ty:=(.pair QI d5E)
abbrev d4p:Ty:=(.pair QI d5F)
abbrev d4q:Ty:=(.pair EP c9G)
abbrev d5G:Ty:=(.pair EP d4o)
abbrev a7Z:Ty:=(.pair EP d4p)
def b3v:List (Nat×Ty):=[(2,.int .i64),(3,.int .i64),(5,.int .u8),(9,.str),(23,.pair QI Q4),(24,.list false QI),(26,.list false QV),(27,.int .i64),(32,.int .u64),(33,.list false Q4),(34,.list false TI),(36,.pair EP d4p),(43,.pair QI Q0),(50,.list false QL),(52,.pair QI Q9),(55,.list false EP),(56,.list false Hu),(58,.pair QI d4n),(65,.pair QI Q0),(70,.pair EP d4k),(75,.list false QB),(76,.list false Vb),(89,.arr 3 QI),(90,.list false Q4),(92,.pair QI Q3),(94,.pair QI d4m),(99,.pair QB Q0),(105,.int .u16),(109,.list false QU),(111,.int .u32),(133,.pair QI Q4),(149,.pair QI Q0),(155,.int .u64),(162,.pair QB .unit),(168,.pair QB Q4),(204,.pair QB Q4),(216,.arr 64 QV),(248,.list false (.arr 3 QI)),(268,.pair QI (.pair QL Q3)),(270,.pair QI (.pair QL Q3))]
def T0:Nat->Option Ty:=fun t=>find b3v t
def b7y:List Nat:=[23,65,89,133,149]
def d0J:Nat->Bool:=fun t=>b7y.contains t
def b1A:List Nat:=[]
def d0K:Nat->Bool:=fun t=>b1A.contains t
def YU:(List Int):=[0,1,56,2,57,49,28,3,61,58,42,50,38,29,17,4,62,47,59,36,45,43,51,22,53,39,33,30,24,18,12,5,63,55,48,27,60,41,37,16,46,35,44,21,52,32,23,11,54,26,40,15,34,20,31,10,25,14,19,9,13,8,7,6]
def G0:Nat->Option ((t:Ty)×t.sK):=fun g=>find ([(2,⟨.arr 64 QV,YU⟩)]:List (Nat×((t:Ty)×t.sK))) g
@[reducible] def Gs(a:List (Nat×sG))(b:List (Nat×Ty))(c d:Nat):Cx:=⟨d0K,d0J,T0,fun f=>find a f,fun n=>find b n,c.testBit,d.testBit,G0⟩
@[reducible] def YF(cx:Cx)(H:sF)(fn:Func)(ps:List PA)(rs:List RA):sG:=⟨ps,rs,fun x=>a2d cx H fn ps rs x⟩
@[reducible] def c3R(s:sG)(f:(DG (s.ps.map PA.ty)).sK->Option (DG ((RA.all s.ps s.rs).map RA.ty)).sK):sG:=⟨s.ps,s.rs,f⟩
def Lj(x:Int):Option Bool:=cond (A4 (4<=x)) (A3 (A4 (x<=24))) (A3 false)
def a2n:sG:=⟨[.v QI],[.v .bool],Lj⟩
def DB(x:Z9):Option Bool:=cond (A4 (1<=x.1)) (cond (A4 (x.1<=1048576)) (cond (A4 (1<=x.2.1)) (cond (A4 (x.2.1<=8)) ((Lj x.2.2.1).bind fun h=>A3 h) (A3 false)) (A3 false)) (A3 false)) (A3 false)
def YV:sG:=⟨[.v EP],[.v .bool],DB⟩
def Vc(x:Int):Option Int:=(show Option (Int×Bool×Unit)from cond (A4 (x<1)) (A3 (x,true,())) (A3 (x,A4 (x > 31),()))).bind fun h=>cond h.2.1 (A3 0) (cond (A4 (zB .i64 (h.1-1)<0)) A6 (A3 (AO .i64 (-1) (zB .i64 (h.1-1)))))
def a5H:sG:=⟨[.v QI],[.v QI],Vc⟩
def d5H:sF:=Qh [0,Qb 8] [] [[6,0,3]] []
def Tx(x:Int):Option Int:=(show Option (Int×Bool×Unit)from cond (A4 (x<1)) (A3 (x,true,())) (A3 (x,A4 (x > 31),()))).bind fun h=>cond h.2.1 (A3 0) (cond (A4 (zB .i64 (h.1-1)<0)) A6 (A3 (zB .i64 ((AO .i64 1 (zB .i64 (h.1-1)))-1))))
def a2o:sG:=⟨[.v QI],[.v QI],Tx⟩
def d5I:sF:=Qh [0,Qb 8] [] [[6,0,3]] []
def Cr(x:Int×Int):Option Bool:=cond (A4 (x.2>=1)) (cond (A4 (x.2<=31)) ((Vc x.2).bind fun h=>cond (A4 (h<=x.1)) ((Tx x.2).bind fun g=>A3 (A4 (x.1<=g))) (A3 false)) (A3 false)) (A3 false)
def a2p:sG:=⟨[.v QI,.v QI],[.v .bool],Cr⟩
def LM(s:LI×Int×c0w):QO (LI×Int×c0w) ((UF×c0k) ⊕ c3E):=(fun(a:Int)(b c:UF)(d:Z9)=>cond (A4 (a<s.2.1)) ((Aq s.1 a).bind fun h=>(Cr (h,d.2.2.1)).bind fun g=>cond (!g) (A3 (.inr (B6 (6,(0,([]:(List LI)),()),())))) (cond (d.2.1==0) A6 (cond (A4 (0<=(B8 a d.2.1))&&A4 (B8 a d.2.1<(c.2.1.length:Int))) (cond (AZ ((A8 (B4 c.2.1 (A7 (B8 a d.2.1)) []))+1)) (cond (A4 (0<=(B8 a d.2.1))&&A4 (B8 a d.2.1<((A8 (C0 c.2.1 (A7 (B8 a d.2.1)) (B3 (B4 c.2.1 (A7 (B8 a d.2.1)) []) [h])):Nat):Int))) (cond ((A7 (B8 a d.2.1)==A7 (B8 a d.2.1))&&true) (cond ((A7 (B8 a d.2.1)==A7 (B8 a d.2.1))&&true) (A3 (.inl (s.1,s.2.1,zB .i64 (a+1),b,(c.1,C0 c.2.1 (A7 (B8 a d.2.1)) (B3 (B4 c.2.1 (A7 (B8 a d.2.1)) []) [h]),c.2.2),d,()))) A6) A6) A6) A6) A6))) (A3 (.inr (B7 (b,c,()))))) s.2.2.1 s.2.2.2.1 s.2.2.2.2.1 s.2.2.2.2.2.1
def QE(x:a7b):Option (UF×Int):=(DB x.2).bind fun k=>cond (!k) (A3 ((0,([]:(List LI)),()),1)) (cond ((x.1.length:Int)==0) (A3 ((0,([]:(List LI)),()),7)) (cond (x.2.2.1==0) A6 (cond ((B8 (x.1.length:Int) x.2.2.1) != 0) (A3 ((0,([]:(List LI)),()),3)) (cond (x.2.2.1==0) A6 (cond (A4 ((zB .i64 (B9 (x.1.length:Int) x.2.2.1)) > 4096)) (A3 ((0,([]:(List LI)),()),4)) (cond (A4 (0<=x.2.2.1)&&(A4 (x.2.2.1<=x.2.2.1)&&AZ (A7 x.2.2.1))) ((Ah LM (x.1,(x.1.length:Int),0,(0,([]:(List LI)),()),(x.2.2.2.1,A9 (A7 x.2.2.1) [],()),x.2,())).bind fun f=>match f with |.inl g=>A3 (g.2.1,0) |.inr h=>A3 (h.2.1,h.1)) A6))))))
def a5I:sG:=⟨[.v QL,.v EP],[.v Vb,.v QI],QE⟩
def d5J:sF:=Qh [.sv 38 QL,39,40,5,.box 4 Vb,.box 6 d4j,.vp 3 EP,Qp 4 4,Qp 6 6] [[1018,503,2,432,1,152]] [] [(9,Qg 8 554762240 []),(16,Qg 13 609198446548292 [[6,64,65]])]
def Hx(x:UF):Option Int:=cond ((x.2.1.length:Int)==0) (A3 0) ((Aq x.2.1 0).bind fun h=>A3 (h.length:Int))
def kJ:sG:=⟨[.v Vb],[.v QI],Hx⟩
def GM(s:(List LI)×Int×Int×LI×c3G):QO ((List LI)×Int×Int×LI×c3G) (((List LI)×c3G) ⊕ (Bool×Unit)):=(fun(a:Int)(b:LI)(c d:Int)(e:UF)=>cond (A4 (d<c)) ((Aq b d).bind fun h=>(Cr (h,e.1)).bind fun g=>cond (!g) (A3 (.inr (B6 (false,())))) (A3 (.inl (s.1,s.2.1,a,b,c,zB .i64 (d+1),e,())))) (A3 (.inr (B7 (s.1,s.2.1,a,e,()))))) s.2.2.1 s.2.2.2.1 s.2.2.2.2.1 s.2.2.2.2.2.1 s.2.2.2.2.2.2.1
def GN(s:(List LI)×c3G):QO ((List LI)×c3G) Z0:=cond (A4 (s.2.2.1<s.2.1)) ((Aq s.1 s.2.2.1).bind fun k=>(Hx s.2.2.2.1).bind fun a=>cond ((k.length:Int) != a) (A3 (.inr (B6 (false,())))) ((Ah GM (s.1,s.2.1,s.2.2.1,k,(k.length:Int),0,s.2.2.2.1,())).bind fun f=>match f with |.inl h=>A3 (.inl (h.1,h.2.1,zB .i64 (h.2.2.1+1),h.2.2.2.1,())) |.inr g=>A3 (.inr (B6 (g.1,()))))) (A3 (.inr (B7 ())))
def Hy(x:UF):Option Bool:=(show Option c9w from(Lj x.1).bind fun b=>cond (!b) (A3 (true,x,())) (cond (A4 ((x.2.1.length:Int)<1)) (A3 (true,x,())) (A3 (A4 ((x.2.1.length:Int) > 8),x,())))).bind fun h=>cond h.1 (A3 false) ((show Option c9w from(Hx h.2.1).bind fun c=>cond (A4 (c<1)) (A3 (true,h.2.1,())) ((Hx h.2.1).bind fun d=>A3 (A4 (d > 4096),h.2.1,()))).bind fun g=>cond g.1 (A3 false) ((Ah GN (g.2.1.2.1,(g.2.1.2.1.length:Int),0,g.2.1,())).bind fun k=>match k with |.inl a=>A3 true |.inr f=>A3 f.1))
def kK:sG:=⟨[.v Vb],[.v .bool],Hy⟩
def d5K:sF:=Qh [.sv 32 (.list false QL),33,34,.sv 43 QL,44,45,Qb 2,Qb 22,Qb 30,.vp 1 Vb] [[122,519,2,0,1,64],[62670,575,4,519,1,64]] [[6,0,640],[14,0,768]] []
def Ps(x:Int):Option Bool:=cond (A4 ((-1073741824)<=x)) (A3 (A4 (x<1073741824))) (A3 false)
def a8a:sG:=⟨[.v QI],[.v .bool],Ps⟩
def GO(s:(List LI)×(List LI)×c0l):QO ((List LI)×(List LI)×c0l) (((List LI)×c3D) ⊕ (Bool×Unit)):=(fun(a b:Int)(c:LI)(d e:Int)=>cond (A4 (e<d)) ((Aq c e).bind fun h=>(Ps h).bind fun g=>cond (!g) (A3 (.inr (B6 (false,())))) (A3 (.inl (s.1,s.2.1,a,b,c,d,zB .i64 (e+1),())))) (A3 (.inr (B7 (s.1,s.2.1,a,b,()))))) s.2.2.1 s.2.2.2.1 s.2.2.2.2.1 s.2.2.2.2.2.1 s.2.2.2.2.2.2.1
def GP(s:(List LI)×c3D):QO ((List LI)×c3D) Z0:=(fun(a b:Int)=>cond (A4 (b<a)) ((Aq s.2.1 b).bind fun g=>(Aq s.1 0).bind fun c=>cond ((g.length:Int) != (c.length:Int)) (A3 (.inr (B6 (false,())))) ((Ah GO (s.1,s.2.1,a,b,g,(g.length:Int),0,())).bind fun k=>match k with |.inl h=>A3 (.inl (h.1,h.2.1,h.2.2.1,zB .i64 (h.2.2.2.1+1),())) |.inr f=>A3 (.inr (B6 (f.1,()))))) (A3 (.inr (B7 ())))) s.2.2.1 s.2.2.2.1
def MA(x:List LI):Option Bool:=(show Option ((List LI)×Bool×Unit)from cond (A4 ((x.length:Int)<1)) (A3 (x,true,())) (cond (A4 ((x.length:Int) > 8)) (A3 (x,true,())) ((Aq x 0).bind fun a=>A3 (x,A4 ((a.length:Int) > 4096),())))).bind fun h=>cond h.2.1 (A3 false) ((Ah GP (h.1,h.1,(h.1.length:Int),0,())).bind fun f=>match f with |.inl k=>A3 true |.inr g=>A3 g.1)
def kL:sG:=⟨[.v (.list false QL)],[.v .bool],MA⟩
def d5L:sF:=Qh [.sv 0 (.list false QL),.sv 22 (.list false QL),23,24,.sv 35 QL,36,37,Qb 2,Qb 21] [[58,15,2,0,1,128],[29902,127,4,15,1,128]] [[6,0,257]] []
def Ll(s:Int×c9B):QO (Int×c9B) Z0:=(fun(a:Int)(b:UG)(c d:Int)=>cond (A4 (d<c)) ((Aq b d).bind fun h=>(show Option (Int×UG×c5j)from cond (A4 (h.1<0)) (A3 (a,b,c,d,true,h,())) (cond (A4 (h.1>=a)) (A3 (a,b,c,d,true,h,())) (cond (A4 (h.2.1<0)) (A3 (a,b,c,d,true,h,())) (cond (A4 (h.2.1>=a)) (A3 (a,b,c,d,true,h,())) (A3 (a,b,c,d,h.1==h.2.1,h,())))))).bind fun g=>cond g.2.2.2.2.1 (A3 (.inr (B6 (false,())))) ((show Option (Int×UG×c4I)from cond (A4 (g.2.2.2.2.2.1.2.2.1<(-1024))) (A3 (g.1,g.2.1,g.2.2.1,g.2.2.2.1,true,())) (A3 (g.1,g.2.1,g.2.2.1,g.2.2.2.1,A4 (g.2.2.2.2.2.1.2.2.1 > 1024),()))).bind fun f=>cond f.2.2.2.2.1 (A3 (.inr (B6 (false,())))) (A3 (.inl (f.1,f.2.1,f.2.2.1,zB .i64 (f.2.2.2.1+1),()))))) (A3 (.inr (B7 ())))) s.1 s.2.1 s.2.2.1 s.2.2.2.1
def Ox(x:UG×Int):Option Bool:=(show Option (UG×Int×Bool×Unit)from cond (A4 (x.2<1)) (A3 (x.1,x.2,true,())) (cond (A4 (x.2 > 8)) (A3 (x.1,x.2,true,())) (A3 (x.1,x.2,A4 ((x.1.length:Int) > 16),())))).bind fun h=>cond h.2.2.1 (A3 false) ((Ah Ll (h.2.1,h.1,(h.1.length:Int),0,())).bind fun f=>match f with |.inl k=>A3 true |.inr g=>A3 g.1)
def rP:sG:=⟨[.v (.list false EP),.v QI],[.v .bool],Ox⟩
def d5M:sF:=Qh [Qb 4,.sv 0 (.list false EP),1,.sv 18 (.list false EP),19,20,Qb 17,Qb 50,.box 6 EP,Qp 6 6,Qb 58] [[58,60,2,0,1,1]] [[6,0,70],[7474,0,956],[7475,0,1084]] []
def Bf(x:LI):Option LI:=ZQ x
def Ck:sG:=⟨[.v QL],[.o QI],Bf⟩
def c5q:Cx:=Gs [] [] 5 0
theorem d0L(x):a2d c5q QH Tryz.f75 Ck.ps Ck.rs x=Ck.F x:=Eq.trans (show _=rL x by kernel_rfl) (ZR x)
def Kn(s:(List LI)×c5c):QO ((List LI)×c5c) Z3:=cond (A4 (s.2.2.1<s.2.1)) ((Aq s.1 s.2.2.1).bind fun g=>(Bf g).bind fun h=>cond (AZ ((A8 s.2.2.2.1)+(A8 (C0 ([[]]:List LI) 0 h)))) (A3 (.inl (s.1,s.2.1,zB .i64 (s.2.2.1+1),B3 s.2.2.2.1 (C0 ([[]]:List LI) 0 h),()))) A6) (A3 (.inr (s.2.2.2.1,())))
def Lm(x:List LI):Option (List LI):=(Ah Kn (x,(x.length:Int),0,([]:(List LI)),())).bind fun h=>A3 h.1
def YW:sG:=⟨[.v (.list false QL)],[.o (.list true QI)],Lm⟩
def d5N:sF:=Qh [.sv 6 (.list false QL),7,8,.own 3 3 (.list true QI)] [[58,15,2,8]] [] []
def Fs(s:Int×Int×Int×(List LI)×Z9×Int×Unit):QO (Int×Int×Int×(List LI)×Z9×Int×Unit) (Z3 ⊕ (Bool×Z3)):=(fun(a:Int)(b:List LI)(c:Z9)(d:Int)=>cond (A4 (a<s.2.1)) (cond (A4 (0<=a)&&A4 (a<((A8 (B4 b (A7 d) []):Nat):Int))) (cond (A4 (0<=c.2.1)&&A4 (c.2.1<(b.length:Int))) (cond (A4 (0<=a)&&A4 (a<((A8 (B4 b (A7 c.2.1) []):Nat):Int))) ((Ps (zB .i64 ((B4 (B4 b (A7 c.2.1) []) (A7 a) 0)+(zB .i64 (s.1*(Au .i64 (zB .i64 (c.2.2.1*(B4 (B4 b (A7 d) []) (A7 a) 0))) 8)))))).bind fun h=>cond (!h) (A3 (.inr (B6 (false,b,())))) (cond (A4 (0<=c.2.1)&&A4 (c.2.1<(b.length:Int))) (cond (A4 (0<=a)&&A4 (a<((A8 (B4 b (A7 c.2.1) []):Nat):Int))) (A3 (.inl (s.1,s.2.1,zB .i64 (a+1),C0 b (A7 c.2.1) (C0 (B4 b (A7 c.2.1) []) (A7 a) (zB .i64 ((B4 (B4 b (A7 c.2.1) []) (A7 a) 0)+(zB .i64 (s.1*(Au .i64 (zB .i64 (c.2.2.1*(B4 (B4 b (A7 d) []) (A7 a) 0))) 8)))))),c,((A7 d:Nat):Int),()))) A6) A6)) A6) A6) A6) (A3 (.inr (B7 (b,()))))) s.2.2.1 s.2.2.2.1 s.2.2.2.2.1 s.2.2.2.2.2.1
def MY(x:(List LI)×Z9×Int):Option (Bool×(List LI)):=cond (A4 (0<=x.2.1.1)&&A4 (x.2.1.1<(x.1.length:Int))) ((Ah Fs (x.2.2,((A8 (B4 x.1 (A7 x.2.1.1) []):Nat):Int),0,x.1,x.2.1,((A7 x.2.1.1:Nat):Int),())).bind fun f=>match f with |.inl g=>A3 (true,g.1) |.inr h=>A3 (h.1,h.2.1)) A6
def cW:sG:=⟨[.r false (.o (.list true QI)),.v EP,.v QI],[.v .bool],MY⟩
def d5O:sF:=Qh [2,15,16,Qb 6,.own 0 pinned (.list true QI),.vp 4 EP,.rfi 14 pinned] [[26,119,2,16,1,24]] [] [(4,Qg 17 39199331156918079489 [])]
def MZ(s:UG×c5c):QO (UG×c5c) (Z3 ⊕ c2e):=cond (A4 (s.2.2.1<s.2.1)) ((Aq s.1 s.2.2.1).bind fun g=>(MY (s.2.2.2.1,g,1)).bind fun h=>cond (!h.1) (A3 (.inr (B6 (([]:(List LI)),6,())))) (A3 (.inl (s.1,s.2.1,zB .i64 (s.2.2.1+1),h.2,())))) (A3 (.inr (B7 (s.2.2.2.1,()))))
def Rx(x:c5g):Option Z1:=(show Option ((List LI)×UG×Bool×Unit)from(MA x.1).bind fun a=>cond (!a) (A3 (x.1,x.2,true,())) ((Ox (x.2,(x.1.length:Int))).bind fun b=>A3 (x.1,x.2,!b,()))).bind fun h=>cond h.2.2.1 (A3 (([]:(List LI)),1)) ((Lm h.1).bind fun c=>(Ah MZ (h.2.1,(h.2.1.length:Int),0,c,())).bind fun k=>match k with |.inl f=>A3 (f.1,0) |.inr g=>A3 (g.1,g.2.1))
def b4P:sG:=⟨[.v (.list false QL),.v (.list false EP)],[.v (.list false QL),.v QI],Rx⟩
def d5P:sF:=Qh [.sv 21 (.list false EP),22,23,.own 6 6 (.list true QI),.sv 4 (.list false QL),5,.sv 0 (.list false QL),.sv 1 (.list false EP),Qb 18] [[122,15,2,8,1,48]] [[6,0,448]] []
def Dk(s:Int×LI×c5d):QO (Int×LI×c5d) c5d:=(fun(a:LI)(b:Int)(c:List LI)(d e:Int)=>cond (A4 (b<(a.length:Int))) ((Aq a b).bind fun h=>(Aq a (zB .i64 (b-1))).bind fun g=>(Aq a (zB .i64 (b-2))).bind fun f=>A3 (.inl (zB .i64 (s.1+(DH (zB .i64 ((zB .i64 (h-(zB .i64 (2*g))))+f)) (zB .i64 (0-(zB .i64 ((zB .i64 (h-(zB .i64 (2*g))))+f)))))),a,zB .i64 (b+1),c,d,e,()))) (A3 (.inr (s.1,c,d,e,())))) s.2.1 s.2.2.1 s.2.2.2.1 s.2.2.2.2.1 s.2.2.2.2.2.1
def Dm(s:c5d):QO c5d (Int×Unit):=(fun(a b:Int)=>cond (A4 (b<a)) ((Aq s.2.1 b).bind fun g=>(Ah Dk (s.1,g,2,s.2.1,a,b,())).bind fun h=>A3 (.inl (h.1,h.2.1,h.2.2.1,zB .i64 (h.2.2.2.1+1),()))) (A3 (.inr (s.1,())))) s.2.2.1 s.2.2.2.1
def Gd(x:List LI):Option Int:=(MA x).bind fun g=>cond (!g) (A3 0) ((Ah Dm (0,x,(x.length:Int),0,())).bind fun h=>A3 h.1)
def a2q:sG:=⟨[.v (.list false QL)],[.v QI],Gd⟩
def d0M:sF:=Qh [3,.sv 5 QL,6,.sv 11 (.list false QL),12,13] [[122,57,2,1],[31334,63,4,57]] [] [(10,Qg 18 627189298506124754944 [])]
def Na(x:Int):Option UG:=cond (x==1) (A3 ([(0,1,(-256),())]:List Z9)) (cond (x==2) (A3 ([(1,0,(-256),())]:List Z9)) (cond (x==3) (A3 ([(1,0,(-256),()),(0,1,128,())]:List Z9)) (cond (x==4) (A3 ([(1,0,(-106),()),(0,1,181,()),(1,0,(-106),())]:List Z9)) (A3 []))))
def a5J:sG:=⟨[.v QI],[.o EP],Na⟩
def DJ(s:c9s):QO c9s (Int×Unit):=(fun(a:List LI)(b c d:Int)=>cond (A4 (d<5)) ((Na d).bind fun f=>(Rx (a,f)).bind fun h=>cond (h.2 != 0) (A3 (.inl (a,b,c,zB .i64 (d+1),()))) ((Gd h.1).bind fun g=>cond (A4 (g<c)) (A3 (.inl (a,d,g,zB .i64 (d+1),()))) (A3 (.inl (a,b,c,zB .i64 (d+1),()))))) (A3 (.inr (b,())))) s.1 s.2.1 s.2.2.1 s.2.2.2.1
def MB(x:List LI):Option UG:=(Gd x).bind fun g=>(Ah DJ (x,0,g,1,())).bind fun h=>(Na h.1).bind fun f=>A3 f
def a8b:sG:=⟨[.v (.list false QL)],[.o EP],MB⟩
def d5Q:sF:=Qh [.sv 0 (.list false QL),3,4,5] [[58,15,2,2]] [] []
def JF(s:Int×c0z):QO (Int×c0z) a5G:=(fun(a b:Int)(c d:UG)(e:UF)=>cond (A4 (b<s.2.1)) (cond (A4 (0<=b)&&A4 (b<(d.length:Int))) (cond (AZ ((A8 c)+1)) (A3 (.inl (a,s.2.1,zB .i64 (b+1),B3 c ([(zB .i64 (((B4 d (A7 b) (0,0,0,())).1)+a),zB .i64 ((((B4 d (A7 b) (0,0,0,())).2).1)+a),(((B4 d (A7 b) (0,0,0,())).2).2).1,())]:List Z9),d,e,()))) A6) A6) (A3 (.inr (a,c,e,())))) s.1 s.2.2.1 s.2.2.2.1 s.2.2.2.2.1 s.2.2.2.2.2.1
def EU(s:a5G):QO a5G (UG×Unit):=(fun(a:Int)(b:UF)=>cond (A4 (zB .i64 (a+1)<(b.2.1.length:Int))) (cond (A4 (0<=(zB .i64 (a+2)))&&A4 ((zB .i64 (a+2))<=(b.2.1.length:Int))) (cond (A4 (0<=a)&&A4 (a<=((A7 (zB .i64 (a+2)):Nat):Int))) ((MB (C2 (A7 a) (C1 (A7 (zB .i64 (a+2))) b.2.1))).bind fun g=>(Ah JF (a,(g.length:Int),0,s.2.1,g,b,())).bind fun h=>A3 (.inl (zB .i64 (h.1+2),h.2.1,h.2.2.1,()))) A6) A6) (A3 (.inr (s.2.1,())))) s.1 s.2.2.1
def Hz(x:UF):Option UG:=(Hy x).bind fun g=>cond (!g) (A3 []) ((Ah EU (0,[],x,())).bind fun h=>A3 h.1)
def a8c:sG:=⟨[.v Vb],[.o EP],Hz⟩
def d5R:sF:=Qh [4,25,26,.own 3 3 EP,.own 24 1024 EP,.vp 1 Vb] [[122,41,2,8],[7826,63,4,41]] [] []
def Dn(s:SE):Option c2h:=(fun(a b:Int)=>cond (A4 (b<a)) ((Aq s.1 b).bind fun g=>(show Option b7r from cond (A4 (g<(-1073741824))) (A3 (s.1,a,b,true,())) (A3 (s.1,a,b,A4 (g>=1073741824),()))).bind fun h=>cond h.2.2.2.1 (A3 (.inr (B6 (false,())))) (A3 (.inl (h.1,h.2.1,zB .i64 (h.2.2.1+1),())))) (A3 (.inr (B7 ())))) s.2.1 s.2.2.1
def DC(x:LI):Option Bool:=(Ah Dn (x,(x.length:Int),0,())).bind fun g=>match g with |.inl f=>A3 true |.inr h=>A3 h.1
def a2r:sG:=⟨[.v QL],[.v .bool],DC⟩
def d5S:sF:=Qh [.sv 5 QL,6,7,Qb 2,Qb 16] [[26,7,2,0,1,8]] [[1689,0,23]] []
def IP(x:Int):Option Bool:=cond (A4 ((-1073741824)<=x)) (A3 (A4 (x<1073741824))) (A3 false)
def a2s:sG:=⟨[.v QI],[.v .bool],IP⟩
def Ko(s:b3t):QO b3t a7W:=(fun(a:Int)(b:LI)(c d:Int)(e:LI)=>cond (A4 (d<c)) ((Aq b d).bind fun g=>(show Option (Int×Int×c9z)from(IP g).bind fun f=>cond (!f) (A3 (a,g,b,c,d,true,e,())) (cond (A4 (a<0)) A6 (cond (AO .i64 1 a==0) A6 (A3 (a,g,b,c,d,(B8 g (AO .i64 1 a)) != 0,e,()))))).bind fun h=>cond h.2.2.2.2.2.1 (A3 (.inr (B6 (6,[],())))) (cond (A4 (h.1<0)) A6 (cond (AZ ((A8 h.2.2.2.2.2.2.1)+1)) (A3 (.inl (h.1,h.2.2.1,h.2.2.2.1,zB .i64 (h.2.2.2.2.1+1),B3 h.2.2.2.2.2.2.1 [Au .i64 h.2.1 h.1],()))) A6))) (A3 (.inr (B7 (e,()))))) s.1 s.2.1 s.2.2.1 s.2.2.2.1 s.2.2.2.2.1
def Ln(x:LI×Int):Option (LI×Int):=(show Option b1v from cond (A4 (x.2<0)) (A3 (x.1,x.2,true,())) (A3 (x.1,x.2,A4 (x.2 > 30),()))).bind fun h=>cond h.2.2.1 (A3 ([],1)) ((Ah Ko (h.2.1,h.1,(h.1.length:Int),0,[],())).bind fun k=>match k with |.inl f=>A3 (f.1,0) |.inr g=>A3 (g.2.1,g.1))
def a2t:sG:=⟨[.v QL,.v QI],[.o QI,.v QI],Ln⟩
def d5T:sF:=Qh [5,.own 4 4 QI,.sv 0 QL,1,Qb 14,8,.sv 15 QL,16,17,Qb 30,.own 6 6 QI] [[122,1480,2,1024,1,3]] [[6,0,28],[15666,0,2024]] []
def BU(x:Int):Option Int:=cond (x==0) (A3 64) ((Aq YU (Au .u64 (zB .u64 ((bits .u64 .and x (zB .u64 (0-x)))*285870213051353865)) 58)).bind fun h=>A3 (zB .i64 h))
def Bz:sG:=⟨[.v QU],[.v QI],BU⟩
def WX:Cx:=Gs [] [] 5 0
theorem kM{Z:Type}{cx:Cx}{ops:List Oper}:∀(l1 l2:List (Md×Oper)) (U:AE) (K:AE->Rs Z),Tn cx ops (l1++l2) U K=Tn cx ops l1 U fun h=>Tn cx ops l2 h K|[],_,_,_=>rfl|(md,o)::l1,l2,U,K=>by simp only[C6,Tn];congr 1;funext h;exact kM l1 l2 h K
theorem iB{Z:Type}{cx:Cx}{H:sF}{a b:Code}{p:Nat}(h:find H.cuts p=none)(U:AE)(K:Ex->AE->Rs Z):Dv cx H (.seq a b) p U K=Dv cx H a (2*p) U fun e g=>match e with
   |.normal=>Dv cx H b (2*p+1) g K
   |e=>K e g:=by
 simp only[Dv,h];rfl
theorem a5K{Z:Type}{cx:Cx}{H:sF}{id:Nat}{ops:Array Oper}{p:Nat}(U:AE)(K:Ex->AE->Rs Z):Dv cx H (.region id ops false) p U K=Tn cx ops.toList (ops.toList.map fun o=>(.x,o)) U fun h=>K .normal h:=by simp only[Dv,cF]
def SF:Code:=match Tryz.f144.body with|some c=>c|none=>.skip
def b4Q:Code->Code|.seq a _=>a|c=>c
def c0Q:Code->Code|.seq _ b=>b|c=>c
def b7z:Code->Array Oper|.region _ ops _=>ops|_=>#[]
def b3w:Code:=c0Q (c0Q SF)
def ZT:List Oper:=(b7z (b4Q b3w)).toList
def b7A(x:Int):AE:=(((Ws [.v QU] x).set 2 (.val QI (0:Int))).set 3 (.val QU x)).set 4 (.val .bool (x==(0:Int)))
def c2i(x:Int):AE:=(b7A x).set 2 (.val QI (64:Int))
def b7B(e:Ex)(U:AE):Option Int:=match e,U.pd with|.exit _,_=>none|_,some _=>none|_,none=>(U.upto Tryz.f144.ntmps).outs WX [] Tryz.f144.ntmps [.v QI] (Tryz.f144.results.toList.map .inl) fun y _=>some y
def c2j(x a b c i:Int):AE:=((((((b7A x).set 5 (.val QU x)).set 6 (.val QU x)).set 7 (.val QU a)).set 8 (.val QU b)).set 9 (.val QU c)).set 10 (.val QU i)
set_option maxRecDepth 100000
theorem b7C:SF=.seq (b4Q SF) (.seq (b4Q (c0Q SF)) (.seq (.region 3 (b7z (b4Q b3w)) false) .ret)):=by kernel_rfl
theorem c0R(x:Int):a2d WX QH Tryz.f144 Bz.ps Bz.rs x=Dv WX QH SF 1 (Ws [.v (.int .u64)] x) b7B:=rfl
theorem c0S(x:Int)(K:Ex->AE->Option Int):Dv WX QH (b4Q SF) 2 (Ws [.v (.int .u64)] x) K=K .normal ((Ws [.v (.int .u64)] x).set 2 (.val (.int .i64) (0:Int))):=by kernel_rfl
theorem c0T(x:Int)(K:Ex->AE->Option Int):Dv WX QH (b4Q (c0Q SF)) 6 ((Ws [.v (.int .u64)] x).set 2 (.val (.int .i64) (0:Int))) K=bif x==(0:Int)then K .ret (c2i x)else K .normal (b7A x):=by kernel_rfl
theorem c0U(x:Int):b7B .ret (c2i x)=some (64:Int):=by kernel_rfl
theorem c0V(x:Int)(K:AE->Option Int):Tn WX ZT ((ZT.map fun o=>(Md.x,o)).take 6) (b7A x) K =K (c2j x (zB .u64 (0-x)) (bits .u64 .and x (zB .u64 (0-x))) (zB .u64 ((bits .u64 .and x (zB .u64 (0-x)))*(285870213051353865:Int))) (Au .u64 (zB .u64 ((bits .u64 .and x (zB .u64 (0-x)))*(285870213051353865:Int))) (58:Int))):=by kernel_rfl
theorem c0W(x a b c i:Int):Tn WX ZT ((ZT.map fun o=>(Md.x,o)).drop 6) (c2j x a b c i) (fun U=>b7B .ret U)=(Aq YU i).bind fun h=>some (zB .i64 h):=by kernel_rfl
theorem c0X(x:Int):Tn WX ZT (ZT.map fun o=>(Md.x,o)) (b7A x) (fun U=>b7B .ret U)=(Aq YU (Au .u64 (zB .u64 ((bits .u64 .and x (zB .u64 (0-x)))*(285870213051353865:Int))) (58:Int))).bind fun h=>some (zB .i64 h):=by rw[<-List.take_append_drop 6 (ZT.map fun o=>(Md.x,o)),kM,c0V,c0W]
theorem c3S(x:Int):Dv WX QH SF 1 (Ws [.v (.int .u64)] x) b7B=BU x:=by rw[b7C,iB rfl,c0S];simp only[];rw[iB rfl,c0T];simp only[];rw[iB rfl,a5K];simp only[Dv];rw[c0U];exact cG (fun z=>bif x==(0:Int)then some (64:Int)else z) (c0X x)
theorem c5r(x):a2d WX QH Tryz.f144 Bz.ps Bz.rs x=Bz.F x:=(c0R x).trans (c3S x)
def HH(s:a5F):Option c3H:=(fun(a b:Int)=>cond (A4 (b<a)) ((Aq s.2.1 b).bind fun h=>A3 (.inl (bits .i64 .or s.1 h,s.2.1,a,zB .i64 (b+1),()))) (A3 (.inr (s.1,())))) s.2.2.1 s.2.2.2.1
def Ft(x:LI):Option Int:=(Ah HH (0,x,(x.length:Int),0,())).bind fun h=>cond (h.1==0) (A3 0) ((BU (zB .u64 h.1)).bind fun g=>A3 (En g 30))
def nB:sG:=⟨[.v QL],[.v QI],Ft⟩
def d5U:sF:=Qh [3,.sv 6 QL,7,8] [[58,15,2,1]] [] []
def VK(s:SE):Option c2h:=(fun(a b:Int)=>cond (A4 (b<a)) ((Aq s.1 b).bind fun g=>(show Option b7r from cond (A4 (g<(-1073741824))) (A3 (s.1,a,b,true,())) (A3 (s.1,a,b,A4 (g>=1073741824),()))).bind fun h=>cond h.2.2.2.1 (A3 (.inr (B6 (false,())))) (A3 (.inl (h.1,h.2.1,zB .i64 (h.2.2.1+1),())))) (A3 (.inr (B7 ())))) s.2.1 s.2.2.1
def EA(x:LI):Option Bool:=(Ah VK (x,(x.length:Int),0,())).bind fun g=>match g with |.inl f=>A3 true |.inr h=>A3 h.1
def a5L:sG:=⟨[.v QL],[.v .bool],EA⟩
def d0N:sF:=Qh [.sv 5 QL,6,7,Qb 2,Qb 16] [[26,7,2,0,1,8]] [[1689,0,23]] []
def Ii(s:c2f):QO c2f a3T:=(fun(a b:Int)(c:LI)=>cond (A4 (zB .i64 (a+1)<(c.length:Int))) (cond (A4 (0<=(zB .i64 (a+1)))&&A4 (zB .i64 (a+1)<(c.length:Int))) (cond (A4 (0<=a)&&A4 (a<(c.length:Int))) (cond (A4 (0<=a)&&A4 (a<(c.length:Int))) (A3 (.inl (zB .i64 (a+1),s.2.1,b,C0 c (A7 a) (zB .i64 ((B4 c (A7 (zB .i64 (a+1))) 0)-(B4 c (A7 a) 0))),()))) A6) A6) A6) (A3 (.inr (s.2.1,b,c,())))) s.1 s.2.2.1 s.2.2.2.1
def LN(s:a3T):QO a3T (LI×Unit):=cond (A4 (s.2.1<s.1)) ((Ah Ii (0,s.1,s.2.1,s.2.2.1,())).bind fun h=>cond (A4 (0<=(zB .i64 ((h.2.2.1.length:Int)-1)))&&A4 ((zB .i64 ((h.2.2.1.length:Int)-1))<=(h.2.2.1.length:Int))) (cond (A4 ((A7 (zB .i64 ((h.2.2.1.length:Int)-1)))<=(A8 h.2.2.1))) (A3 (.inl (h.1,zB .i64 (h.2.1+1),C1 (A7 (zB .i64 ((h.2.2.1.length:Int)-1))) h.2.2.1,()))) A6) A6) (A3 (.inr (s.2.2.1,())))
def HI(x:LI×Int):Option (LI×Int):=(show Option b1v from cond (A4 (x.2<0)) (A3 (x.1,x.2,true,())) (cond (A4 (x.2 > 4)) (A3 (x.1,x.2,true,())) (A3 (x.1,x.2,A4 ((x.1.length:Int)<x.2),())))).bind fun h=>cond h.2.2.1 (A3 ([],1)) ((EA h.1).bind fun f=>cond (!f) (A3 ([],6)) (cond (AZ (A8 h.1)) ((Ah LN (h.2.1,0,h.1,())).bind fun g=>(EA g.1).bind fun k=>cond (!k) (A3 ([],6)) (A3 (g.1,0))) A6))
def a5M:sG:=⟨[.v QL,.v QI],[.o QI,.v QI],HI⟩
def d0O:sF:=Qh [7,25,26,.own 6 6 QI,.sv 0 QL,1,Qb 19] [[250,14,2,8],[64098,15,4,14]] [[6,0,112]] [(11,Qg 14 9571317725528321 [])]
def GQ(s:c0l):QO c0l (Int×Unit):=(fun(a:Int)(b:LI)(c d:Int)=>cond (A4 (d<c)) ((Aq b d).bind fun h=>cond (A4 ((zB .i64 (d+s.1))>=4)) (A3 (.inl (s.1,zB .i64 (a+(DH h (zB .i64 (0-h)))),b,c,zB .i64 (d+1),()))) (A3 (.inl (s.1,a,b,c,zB .i64 (d+1),())))) (A3 (.inr (a,())))) s.2.1 s.2.2.1 s.2.2.2.1 s.2.2.2.2.1
def OO(x:LI×Int):Option Int:=(Ah GQ (x.2,0,x.1,(x.1.length:Int),0,())).bind fun h=>A3 h.1
def a2u:sG:=⟨[.v QL,.v QI],[.v QI],OO⟩
def d0P:sF:=Qh [1,5,.sv 8 QL,9,10] [[58,31,2,2]] [] []
def Fu(s:a7b):QO a7b (Int×Unit):=(fun(a:LI)(b c d:Int)=>cond (A4 (d<=4)) ((HI (a,d)).bind fun f=>cond (f.2 != 0) (A3 (.inl (a,b,c,zB .i64 (d+1),()))) ((OO (f.1,d)).bind fun g=>(show Option (LI×c9r)from cond (A4 (c<0)) (A3 (a,b,c,d,g,true,())) (A3 (a,b,c,d,g,A4 (g<c),()))).bind fun h=>cond h.2.2.2.2.2.1 (A3 (.inl (h.1,h.2.2.2.1,h.2.2.2.2.1,zB .i64 (h.2.2.2.1+1),()))) (A3 (.inl (h.1,h.2.1,h.2.2.1,zB .i64 (h.2.2.2.1+1),()))))) (A3 (.inr (b,())))) s.1 s.2.1 s.2.2.1 s.2.2.2.1
def Kp(x:LI):Option Int:=(Ah Fu (x,0,(-1),0,())).bind fun h=>A3 h.1
def a5N:sG:=⟨[.v QL],[.v QI],Kp⟩
def d0Q:sF:=Qh [.sv 0 QL,3,4,5,8,Qb 30] [[58,15,2,2]] [[7463,0,63]] []
def IQ(x:Int):Option Bool:=cond (A4 (x>=(-1073741824))) (A3 (A4 (x<1073741824))) (A3 false)
def a2v:sG:=⟨[.v QI],[.v .bool],IQ⟩
def Ep(s:SE):Option c2h:=cond (A4 (s.2.2.1<s.2.1)) ((Aq s.1 s.2.2.1).bind fun h=>(IQ h).bind fun g=>cond (!g) (A3 (.inr (B6 (false,())))) (A3 (.inl (s.1,s.2.1,zB .i64 (s.2.2.1+1),())))) (A3 (.inr (B7 ())))
def Dp(x:LI):Option Bool:=(Ah Ep (x,(x.length:Int),0,())).bind fun g=>match g with |.inl f=>A3 true |.inr h=>A3 h.1
def iC:sG:=⟨[.v QL],[.v .bool],Dp⟩
def d0R:sF:=Qh [.sv 5 QL,6,7,Qb 2] [[26,7,2,0,1,8]] [] []
def EV(x:Int):Option Int:=some (En (DH x (-1048576)) 1048575)
def rQ:sG:=⟨[.v QI],[.v QI],EV⟩
def HJ(s:c9E):QO c9E c5h:=(fun(a b:Int)(c:LI)(d e:Int)=>cond (A4 (a<0)) A6 ((EV (Au .i64 b a)).bind fun h=>cond (A4 (a<0)) A6 (cond (h != (Au .i64 b a)) (A3 (.inl (s.1,zB .i64 (a+1),b,c,d,e,()))) (A3 (.inr (s.1,a,c,d,e,())))))) s.2.1 s.2.2.1 s.2.2.2.1 s.2.2.2.2.1 s.2.2.2.2.2.1
def HK(s:c5h):QO c5h Z7:=(fun(a:LI)(b c:Int)=>cond (A4 (c<b)) ((Aq a c).bind fun g=>(Ah HJ (s.1,s.2.1,g,a,b,c,())).bind fun h=>A3 (.inl (h.1,h.2.1,h.2.2.1,h.2.2.2.1,zB .i64 (h.2.2.2.2.1+1),()))) (A3 (.inr (s.1,s.2.1,())))) s.2.2.1 s.2.2.2.1 s.2.2.2.2.1
def HL(s:b3t):QO b3t (LI×Unit):=(fun(a b:Int)(c:LI)=>cond (A4 (b<a)) ((Aq s.2.1 b).bind fun h=>cond (A4 (s.1<0)) A6 (cond (A4 (0<=b)&&A4 (b<(c.length:Int))) (A3 (.inl (s.1,s.2.1,a,zB .i64 (b+1),C0 c (A7 b) (Au .i64 h s.1),()))) A6)) (A3 (.inr (c,())))) s.2.2.1 s.2.2.2.1 s.2.2.2.2.1
def Ij(x:LI):Option LI:=(Ah HK (x,0,x,(x.length:Int),0,())).bind fun h=>cond (A4 (0<=(h.1.length:Int))&&(A4 ((h.1.length:Int)<=(h.1.length:Int))&&AZ (A7 (h.1.length:Int)))) ((Ah HL (h.2.1,h.1,(h.1.length:Int),0,A9 (A7 (h.1.length:Int)) 0,())).bind fun g=>A3 g.1) A6
def nC:sG:=⟨[.v QL],[.o QI],Ij⟩
def d0S:sF:=Qh [.sv 0 QL,3,.sv 29 QL,30,31,.own 6 6 QI,5,.sv 9 QL,10,11] [[58,899,2,3],[250,62,6,32],[7474,963,4,899]] [] [(5,Qg 8 536870912 [])]
def Cg(s:c4N):QO c4N (Int×Int×Unit):=cond (A4 (s.2.2.2.2.1<(s.1.length:Int))) ((Aq s.1 s.2.2.2.2.1).bind fun h=>(Aq s.2.1 (zB .i64 (s.2.2.2.2.1-1))).bind fun g=>(Aq s.1 s.2.2.2.2.1).bind fun f=>(Aq s.1 s.2.2.2.2.1).bind fun k=>(Aq s.2.1 (zB .i64 (s.2.2.2.2.1-1))).bind fun a=>(Aq s.2.1 (zB .i64 (s.2.2.2.2.1-1))).bind fun b=>A3 (.inl (s.1,s.2.1,zB .i64 (s.2.2.1+(zB .i64 (h*g))),zB .i64 (s.2.2.2.1+(zB .i64 ((zB .i64 (f*k))+(zB .i64 (a*b))))),zB .i64 (s.2.2.2.2.1+1),()))) (A3 (.inr (s.2.2.1,s.2.2.2.1,())))
def CN(s:Int×Int×Unit):QO (Int×Int×Unit) (Int×Int×Unit):=cond (A4 (s.2.1>=1099511627776)) (A3 (.inl (Au .i64 s.1 1,Au .i64 s.2.1 1,()))) (A3 (.inr (s.1,s.2.1,())))
def CX(x:b7q):Option Int:=(Ah Cg (x.1,x.2.1,0,0,x.2.2,())).bind fun g=>(Ah CN (g.1,g.2.1,())).bind fun h=>cond (h.2.1==0) (A3 0) (cond (h.2.1==0) A6 ((show Option (Int×Unit)from cond (h.2.1==0) A6 (cond (A4 (B8 (AO .i64 h.1 15) h.2.1<0)) (A3 (zB .i64 ((zB .i64 (B9 (AO .i64 h.1 15) h.2.1))-1),())) (A3 (zB .i64 (B9 (AO .i64 h.1 15) h.2.1),())))).bind fun f=>A3 (En (DH f.1 (-16383)) 16383)))
def YG:sG:=⟨[.v QL,.v QL,.v QI],[.v QI],CX⟩
def d0T:sF:=Qh [.sv 0 QL,.sv 1 QL,7,8,9,10] [[58,31,2,12],[60,12,4,12]] [[255,0,32]] [(5,Qg 13 598134325510144 []),(6,Qg 24 10522490333925732336642555904 [])]
def CY(s:Int×b7s):QO (Int×b7s) c9D:=(fun(a b c:Int)(d e f:LI)=>cond (A4 (c>=a)) (cond (A4 (0<=c)&&A4 (c<(d.length:Int))) (cond (A4 (0<=(zB .i64 (c-1)))&&A4 (zB .i64 (c-1)<(e.length:Int))) ((EV (zB .i64 ((B4 d (A7 c) 0)-(Au .i64 (zB .i64 (b*(B4 e (A7 (zB .i64 (c-1))) 0))) 14)))).bind fun h=>cond (A4 (0<=c)&&A4 (c<(d.length:Int))) ((EV (zB .i64 ((B4 e (A7 (zB .i64 (c-1))) 0)-(Au .i64 (zB .i64 (b*(B4 d (A7 c) 0))) 14)))).bind fun g=>cond (A4 (0<=c)&&A4 (c<(e.length:Int))) (A3 (.inl (s.1,a,b,zB .i64 (c-1),C0 d (A7 c) h,C0 e (A7 c) g,f,()))) A6) A6) A6) A6) (A3 (.inr (s.1,a,d,e,f,())))) s.2.1 s.2.2.1 s.2.2.2.1 s.2.2.2.2.1 s.2.2.2.2.2.1 s.2.2.2.2.2.2.1
def Gw(s:c9D):QO c9D (LI×Unit):=(fun(a:Int)(b c d:LI)=>cond (A4 (a<=s.1)) ((CX (b,c,a)).bind fun g=>cond (AZ ((A8 d)+1)) ((Ah CY (s.1,a,g,zB .i64 ((b.length:Int)-1),b,c,B3 d [g],())).bind fun h=>A3 (.inl (h.1,zB .i64 (h.2.1+1),h.2.2.1,h.2.2.2.1,h.2.2.2.2.1,()))) A6) (A3 (.inr (d,())))) s.2.1 s.2.2.1 s.2.2.2.1 s.2.2.2.2.1
def Kq(x:LI×Int):Option (LI×Int):=(show Option b1v from cond (A4 (x.2<1)) (A3 (x.1,x.2,true,())) (cond (A4 (x.2 > 32)) (A3 (x.1,x.2,true,())) (A3 (x.1,x.2,A4 ((x.1.length:Int) > 4096),())))).bind fun h=>cond h.2.2.1 (A3 ([],1)) ((Dp h.1).bind fun k=>cond (!k) (A3 ([],6)) ((Ij h.1).bind fun g=>(Bf g).bind fun a=>cond (A4 (0<=h.2.1)&&AZ (A7 h.2.1)) ((Ah Gw (h.2.1,1,g,a,[],())).bind fun f=>A3 (f.1,0)) A6))
def iD:sG:=⟨[.v QL,.v QI],[.o QI,.v QI],Kq⟩
def d0U:sF:=Qh [.sv 0 QL,1,9,10,11,.own 6 6 QI,.own 7 7 QI,.own 8 8 QI,Qb 24] [[1018,230,2,128],[260686,254,4,230]] [[6,0,259]] [(16,Qg 11 2203586728193 [])]
def CO(s:c9t):QO c9t ((LI×Unit) ⊕ Z7):=(fun(a:LI)(b c:Int)=>cond (A4 (c<b)) ((Aq a c).bind fun g=>(show Option (LI×b7r)from cond (A4 (g<(-16383))) (A3 (s.1,a,b,c,true,())) (A3 (s.1,a,b,c,A4 (g > 16383),()))).bind fun h=>cond h.2.2.2.2.1 (A3 (.inr (B6 ([],1,())))) (A3 (.inl (h.1,h.2.1,h.2.2.1,zB .i64 (h.2.2.2.1+1),())))) (A3 (.inr (B7 (s.1,()))))) s.2.1 s.2.2.1 s.2.2.2.1
def FE(s:LI×Int×Int×LI×b1x):QO (LI×Int×Int×LI×b1x) b3t:=(fun(a:Int)(b:LI)(c d:Int)(e:LI)(f g:Int)(h:LI)=>cond (A4 (g<f)) ((Aq e g).bind fun k=>(Aq s.1 (zB .i64 ((zB .i64 (s.2.1-1))-g))).bind fun i=>cond (AZ ((A8 h)+1)) (A3 (.inl (s.1,s.2.1,a,b,c,d,e,f,zB .i64 (g+1),B3 h [zB .i64 (k-(Au .i64 (zB .i64 (a*i)) 14))],()))) A6) (A3 (.inr (a,b,c,d,h,())))) s.2.2.1 s.2.2.2.1 s.2.2.2.2.1 s.2.2.2.2.2.1 s.2.2.2.2.2.2.1 s.2.2.2.2.2.2.2.1 s.2.2.2.2.2.2.2.2.1 s.2.2.2.2.2.2.2.2.2.1
def Jg(s:c9t):QO c9t (LI×Unit):=(fun(a:LI)(b c:Int)=>cond (A4 (c<b)) ((Aq s.2.1 c).bind fun g=>cond (A4 (0<=(zB .i64 (c+1)))&&AZ (A7 (zB .i64 (c+1)))) ((Ah FE (a,c,g,s.2.1,b,c,a,(a.length:Int),0,[],())).bind fun h=>cond (AZ ((A8 h.2.2.2.2.1)+1)) (A3 (.inl (B3 h.2.2.2.2.1 [h.1],h.2.1,h.2.2.1,zB .i64 (h.2.2.2.1+1),()))) A6) A6) (A3 (.inr (a,())))) s.1 s.2.2.1 s.2.2.2.1
def JG(x:LI):Option (LI×Int):=(show Option c4Z from cond (A4 ((x.length:Int)<1)) (A3 (x,true,())) (A3 (x,A4 ((x.length:Int) > 32),()))).bind fun h=>cond h.2.1 (A3 ([],1)) ((Ah CO (h.1,h.1,(h.1.length:Int),0,())).bind fun a=>match a with |.inl f=>((Ah Jg ([],f.1,(f.1.length:Int),0,())).bind fun g=>A3 (g.1,0)) |.inr k=>A3 (k.1,k.2.1))
def rR:sG:=⟨[.v QL],[.v QL,.v QI],JG⟩
def d0V:sF:=Qh [.sv 0 QL,.sv 20 QL,21,22,.sv 6 QL,7,8,.sv 34 QL,35,36,.sv 44 QL,45,46,.own 9 9 QI,.sv 2 QL,3,Qb 19,Qb 31] [[58,15,2,1,1,49152],[250,912,4,16],[256410,16368,6,9152]] [[6,0,65537],[3737,0,131087]] []
def CP(s:c5h):QO c5h (Z7 ⊕ a3T):=(fun(a:Int)(b:LI)(c d:Int)=>cond (A4 (d<c)) ((Aq b d).bind fun g=>(show Option (LI×Int×b7r)from cond (A4 (g<(-35184372088832))) (A3 (s.1,a,b,c,d,true,())) (A3 (s.1,a,b,c,d,A4 (g > 35184372088832),()))).bind fun h=>cond h.2.2.2.2.2.1 (A3 (.inr (B6 (0,1,[],())))) (A3 (.inl (h.1,h.2.1,h.2.2.1,h.2.2.2.1,zB .i64 (h.2.2.2.2.1+1),())))) (A3 (.inr (B7 (s.1,a,()))))) s.2.1 s.2.2.1 s.2.2.2.1 s.2.2.2.2.1
def FF(s:LI×Int×b1x):QO (LI×Int×b1x) b1w:=(fun(a b c:Int)(d:LI)(e f:Int)(g:LI)=>cond (A4 (f<e)) ((Aq d f).bind fun h=>cond (A4 (b<0)) A6 ((Cr (Au .i64 (zB .i64 (h+c)) b,a)).bind fun k=>cond (!k) (A3 (.inr (s.1,a,b,g,()))) (cond (AZ ((A8 g)+1)) (A3 (.inl (s.1,a,b,c,d,e,zB .i64 (f+1),B3 g [Au .i64 (zB .i64 (h+c)) b],()))) A6))) (A3 (.inr (s.1,a,b,g,())))) s.2.1 s.2.2.1 s.2.2.2.1 s.2.2.2.2.1 s.2.2.2.2.2.1 s.2.2.2.2.2.2.1 s.2.2.2.2.2.2.2.1
def FG(s:SE):QO SE (Unit ⊕ a3T):=(fun(a:Int)=>cond (A4 (a<=14)) ((show Option a7b from cond (A4 (a > 0)) (cond (A4 (zB .i64 (a-1)<0)) A6 (A3 (s.1,s.2.1,a,AO .i64 1 (zB .i64 (a-1)),()))) (A3 (s.1,s.2.1,a,0,()))).bind fun g=>cond (A4 (0<=(g.1.length:Int))&&AZ (A7 (g.1.length:Int))) ((Ah FF (g.1,g.2.1,g.2.2.1,g.2.2.2.1,g.1,(g.1.length:Int),0,[],())).bind fun h=>cond ((h.2.2.2.1.length:Int)==(h.1.length:Int)) (A3 (.inr (B6 (zB .i64 (14-h.2.2.1),0,h.2.2.2.1,())))) (A3 (.inl (h.1,h.2.1,zB .i64 (h.2.2.1+1),())))) A6) (A3 (.inr (B7 ())))) s.2.2.1
def Nb(x:LI×Int):Option Z4:=(show Option b1v from cond (A4 ((x.1.length:Int)<1)) (A3 (x.1,x.2,true,())) (cond (A4 ((x.1.length:Int) > 32)) (A3 (x.1,x.2,true,())) (cond (A4 (x.2<2)) (A3 (x.1,x.2,true,())) (A3 (x.1,x.2,A4 (x.2 > 16),()))))).bind fun g=>cond g.2.2.1 (A3 ([],0,1)) ((Ah CP (g.1,g.2.1,g.1,(g.1.length:Int),0,())).bind fun c=>match c with |.inl a=>((Ah FG (a.1,a.2.1,0,())).bind fun k=>match k with |.inl b=>A3 ([],0,6) |.inr h=>A3 (h.2.2.1,h.1,h.2.1)) |.inr f=>A3 (f.2.2.1,f.1,f.2.1))
def rS:sG:=⟨[.v QL,.v QI],[.o QI,.v QI,.v QI],Nb⟩
def d0W:sF:=Qh [.sv 0 QL,1,.sv 31 QL,32,33,9,10,.sv 56 QL,57,58,.own 11 11 QI,5,6,.own 4 4 QI,.own 4 11 QI,Qb 30,Qb 42] [[58,31,2,3,1,14336],[122,35,4,0,1,22528],[125242,2019,6,1059]] [[6,0,32771],[3737,0,65567],[3913,0,99]] []
def Gf(x:Z4):Option Z4:=(Kq (x.1,x.2.1)).bind fun h=>cond (h.2 != 0) (A3 ([],0,h.2)) ((JG h.1).bind fun g=>cond (g.2 != 0) (A3 ([],0,g.2)) ((Nb (g.1,x.2.2)).bind fun f=>A3 (f.1,f.2.1,f.2.2)))
def a2w:sG:=⟨[.v QL,.v QI,.v QI],[.o QI,.v QI,.v QI],Gf⟩
def MC(x:Int):Option Bool:=cond (A4 (x>=(-1073741824))) (A3 (A4 (x<1073741824))) (A3 false)
def a8d:sG:=⟨[.v QI],[.v .bool],MC⟩
def FH(s:SE):Option c2h:=cond (A4 (s.2.2.1<s.2.1)) ((Aq s.1 s.2.2.1).bind fun h=>(MC h).bind fun g=>cond (!g) (A3 (.inr (B6 (false,())))) (A3 (.inl (s.1,s.2.1,zB .i64 (s.2.2.1+1),())))) (A3 (.inr (B7 ())))
def GR(x:LI):Option Bool:=(Ah FH (x,(x.length:Int),0,())).bind fun g=>match g with |.inl f=>A3 true |.inr h=>A3 h.1
def rT:sG:=⟨[.v QL],[.v .bool],GR⟩
def d0X:sF:=Qh [.sv 5 QL,6,7,Qb 2] [[26,7,2,0,1,8]] [] []
def rU(s:LI×c9P):QO (LI×c9P) (LI×c4M):=(fun(a:LI)(b c d e f g:Int)=>cond (A4 (g<(a.length:Int))) ((Aq a g).bind fun h=>(Aq a (zB .i64 (g-e))).bind fun k=>A3 (.inl (a,s.2.1,b,c,d,e,zB .i64 (f+(DH (zB .i64 (h-k)) (zB .i64 (0-(zB .i64 (h-k)))))),zB .i64 (g+1),()))) (A3 (.inr (a,s.2.1,b,c,d,e,f,())))) s.1 s.2.2.1 s.2.2.2.1 s.2.2.2.2.1 s.2.2.2.2.2.1 s.2.2.2.2.2.2.1 s.2.2.2.2.2.2.2.1
def rV(s:LI×c9p):QO (LI×c9p) (Int×Unit):=(fun(a b c:Int)=>cond (A4 (c<=a)) ((Ah rU (s.1,s.2.1,a,b,s.2.2.2.2.1,c,0,a,())).bind fun h=>(show Option (LI×Int×Int×c9r)from cond (h.2.2.2.2.2.1==h.2.1) (A3 (h.1,h.2.1,h.2.2.1,h.2.2.2.1,h.2.2.2.2.1,h.2.2.2.2.2.1,h.2.2.2.2.2.2.1,true,())) (A3 (h.1,h.2.1,h.2.2.1,h.2.2.2.1,h.2.2.2.2.1,h.2.2.2.2.2.1,h.2.2.2.2.2.2.1,A4 (h.2.2.2.2.2.2.1<h.2.2.2.2.1),()))).bind fun g=>cond g.2.2.2.2.2.2.2.1 (A3 (.inl (g.1,g.2.1,g.2.2.1,g.2.2.2.2.2.1,g.2.2.2.2.2.2.1,zB .i64 (g.2.2.2.2.2.1+1),()))) (A3 (.inl (g.1,g.2.1,g.2.2.1,g.2.2.2.1,g.2.2.2.2.1,zB .i64 (g.2.2.2.2.2.1+1),())))) (A3 (.inr (b,())))) s.2.2.1 s.2.2.2.1 s.2.2.2.2.2.1
def SG(x:Z4):Option (Int×Int):=(show Option b7r from cond (A4 (x.2.1<2)) (A3 (x.1,x.2.1,x.2.2,true,())) (cond (A4 (x.2.1 > x.2.2)) (A3 (x.1,x.2.1,x.2.2,true,())) (cond (A4 (x.2.2 > 1024)) (A3 (x.1,x.2.1,x.2.2,true,())) (A3 (x.1,x.2.1,x.2.2,A4 ((x.1.length:Int) > 4096),()))))).bind fun h=>cond h.2.2.2.1 (A3 (0,1)) (cond (A4 ((h.1.length:Int)<=h.2.2.1)) (A3 (0,7)) ((GR h.1).bind fun f=>cond (!f) (A3 (0,6)) ((Ah rV (h.1,h.2.1,h.2.2.1,0,0,h.2.1,())).bind fun g=>A3 (g.1,0))))
def a8e:sG:=⟨[.v QL,.v QI,.v QI],[.v QI,.v QI],SG⟩
def d0Y:sF:=Qh [.sv 0 QL,1,2,8,9,10,11,12,Qb 29,Qb 74] [[506,63,2,8],[129610,255,4,127]] [[6,0,263],[32403,0,639]] [(15,Qg 12 37383395344384 [])]
def Lo(s:Z7):QO Z7 Z0:=cond (A4 (s.2.1<3)) ((Aq s.1 s.2.1).bind fun g=>(show Option b1v from cond (A4 (g<(-64))) (A3 (s.1,s.2.1,true,())) (A3 (s.1,s.2.1,A4 (g > 64),()))).bind fun h=>cond h.2.2.1 (A3 (.inr (B6 (false,())))) (A3 (.inl (h.1,zB .i64 (h.2.1+1),())))) (A3 (.inr (B7 ())))
def Oy(x:Int×LI):Option Bool:=(show Option c9k from cond (A4 (x.1<2)) (A3 (true,x.2,())) (A3 (A4 (x.1 > 1024),x.2,()))).bind fun h=>cond h.1 (A3 false) ((Ah Lo (h.2.1,0,())).bind fun f=>match f with |.inl k=>A3 true |.inr g=>A3 g.1)
def b1B:sG:=⟨[.v QI,.v (.arr 3 QI)],[.v .bool],Oy⟩
def d0Z:sF:=Qh [.sv 13 (.arr 3 QI),14,Qb 4,Qb 12,.vp 3 (.arr 3 QI),Qb 22] [[58,3,2,0,1,4]] [[6,0,24],[3737,0,35]] []
def FI(s:LI×Int×Int×b9H):QO (LI×Int×Int×b9H) (Int×Unit):=(fun(a b c:Int)(d:LI)(e:Int)=>cond (A4 (e<3)) ((Aq d e).bind fun h=>cond (A4 ((zB .i64 ((zB .i64 ((zB .i64 (a-b))-1))+e))>=0)) ((Aq s.1 (zB .i64 ((zB .i64 ((zB .i64 (a-b))-1))+e))).bind fun g=>A3 (.inl (s.1,a,b,zB .i64 (c+(zB .i64 (h*g))),d,zB .i64 (e+1),()))) (A3 (.inl (s.1,a,b,c,d,zB .i64 (e+1),())))) (A3 (.inr (c,())))) s.2.1 s.2.2.1 s.2.2.2.1 s.2.2.2.2.1 s.2.2.2.2.2.1
def GS(x:LI×Z5):Option Int:=(Ah FI (x.1,x.2.1,x.2.2.1,0,x.2.2.2,0,())).bind fun h=>A3 (Au .i64 h.1 6)
def rW:sG:=⟨[.v QL,.v QI,.v QI,.v (.arr 3 QI)],[.v QI],GS⟩
def d1a:sF:=Qh [.sv 0 QL,1,2,9,.sv 13 (.arr 3 QI),14] [[58,63,2,8]] [] []
def JH(s:LI×c0r):QO (LI×c0r) a7W:=(fun(a:LI)(b c:Int)(d e:LI)=>cond (A4 (c<b)) ((Aq a c).bind fun h=>(GS (s.1,c,s.2.1,e)).bind fun g=>(MC (zB .i64 (h-g))).bind fun f=>cond (!f) (A3 (.inr (B6 (6,[],())))) (cond (AZ ((A8 d)+1)) (A3 (.inl (s.1,s.2.1,a,b,zB .i64 (c+1),B3 d [zB .i64 (h-g)],e,()))) A6)) (A3 (.inr (B7 (d,()))))) s.2.2.1 s.2.2.2.1 s.2.2.2.2.1 s.2.2.2.2.2.1 s.2.2.2.2.2.2.1
def Pt(x:c5a):Option (LI×Int):=(Oy (x.2.1,x.2.2)).bind fun k=>cond (!k) (A3 ([],1)) ((GR x.1).bind fun a=>cond (!a) (A3 ([],6)) (cond (A4 (0<=(x.1.length:Int))&&AZ (A7 (x.1.length:Int))) ((Ah JH (x.1,x.2.1,x.1,(x.1.length:Int),0,[],x.2.2,())).bind fun f=>match f with |.inl g=>A3 (g.1,0) |.inr h=>A3 (h.2.1,h.1)) A6))
def kN:sG:=⟨[.v QL,.v QI,.v (.arr 3 QI)],[.o QI,.v QI],Pt⟩
def d1b:sF:=Qh [.sv 0 QL,1,.sv 22 QL,23,24,.own 8 8 QI,.vp 5 (.arr 3 QI),7,.own 6 6 QI] [[250,127,2,32,1,384]] [] []
def cX:sG:=YF (Gs [] [] 1 0) QH Tryz.f258 [] [.o (.arr 3 QI)]
def c5s:sF:=Qh [.sv 0 QL,1,7,Qb 8,13,25,26,40,41,Qb 21,Qb 58,.own 24 1024 (.arr 3 QI),.own 39 11 QI,.box 4 (.arr 3 QI),.box 6 (.arr 3 QI),.box 10 (.arr 3 QI),Qp 4 4,Qp 6 6,Qp 10 10] [[122,223343,2,221192],[501370,522751,4,518271]] [[6,0,74243],[125343,0,519295]] []
def kO:sG:=YF (Gs [(202,kN),(258,cX)] [] 47523 0) c5s Tryz.f201 [.v QL,.v QI] [.v (.arr 3 QI),.v QI]
def a8f(x:LI×Int):Option (LI×Int):=kO.F x
def FJ(x:LI):Option (DI×Bool):=(SG (x,16,256)).bind fun h=>cond (h.2 != 0) (A3 ((0,0,0,0,0,[],A9 3 0,[],[],(0,[],()),[],()),false)) ((a8f (x,h.1)).bind fun g=>cond (g.2 != 0) (A3 ((0,0,0,0,0,[],A9 3 0,[],[],(0,[],()),[],()),false)) ((Pt (x,h.1,g.1)).bind fun k=>cond (k.2 != 0) (A3 ((0,0,0,0,0,[],A9 3 0,[],[],(0,[],()),[],()),false)) ((Gf (k.1,4,12)).bind fun f=>cond (f.2.2 != 0) (A3 ((0,0,0,0,0,[],A9 3 0,[],[],(0,[],()),[],()),false)) (A3 ((4,0,0,f.2.1,h.1,f.1,g.1,[],[],(0,[],()),[],()),true)))))
def a5O:sG:=⟨[.v QL],[.v Hu,.v .bool],FJ⟩
def AB(x:Int×Int×LI×Tw):Option (LI×Tw):=(Gf (x.2.2.1,x.1,x.2.1)).bind fun h=>cond (h.2.2==0) (cond (AZ ((A8 x.2.2.2)+1)) (A3 (x.2.2.1,B3 x.2.2.2 ([(3,0,0,h.2.1,0,h.1,A9 3 0,[],[],(0,[],()),[],())]:List DI))) A6) (A3 (x.2.2.1,x.2.2.2))
def ZU:sG:=⟨[.v QI,.v QI,.r false (.b QL),.r false (.b (.list true Hu))],[],AB⟩
def CZ(s:Int×c0B):QO (Int×c0B) c0B:=cond (A4 (s.1<5)) (cond (AZ ((A8 s.2.1)+1)) (A3 (.inl (zB .i64 (s.1+1),B3 s.2.1 ([(2,0,s.1,0,0,[],A9 3 0,[],[],(0,[],()),[],())]:List DI),s.2.2.1,()))) A6) (A3 (.inr (s.2.1,s.2.2.1,())))
def Ks(x:LI×Int):Option Tw:=(Kp x.1).bind fun c=>(show Option (Int×LI×b4K)from cond (A4 (x.2>=1)) ((AB (4,12,x.1,([(0,0,0,0,0,[],A9 3 0,[],[],(0,[],()),[],()),(1,0,0,0,0,[],A9 3 0,[],[],(0,[],()),[],()),(2,0,c,0,0,[],A9 3 0,[],[],(0,[],()),[],())]:List DI))).bind fun d=>(AB (8,12,d.1,d.2)).bind fun e=>A3 (x.2,e.1,e.2,())) (A3 (x.2,x.1,([(0,0,0,0,0,[],A9 3 0,[],[],(0,[],()),[],()),(1,0,0,0,0,[],A9 3 0,[],[],(0,[],()),[],()),(2,0,c,0,0,[],A9 3 0,[],[],(0,[],()),[],())]:List DI),()))).bind fun h=>(show Option (Int×c0B)from cond (A4 (h.1>=2)) (cond (AZ ((A8 h.2.2.1)+1)) (cond (AZ ((A8 (B3 h.2.2.1 ([(5,0,0,0,0,[],A9 3 0,([(16,4,())]:List (Int×Int×Unit)),[],(0,[],()),[],())]:List DI)))+1)) ((FJ h.2.1).bind fun i=>cond i.2 (cond (AZ ((A8 (B3 (B3 h.2.2.1 ([(5,0,0,0,0,[],A9 3 0,([(16,4,())]:List (Int×Int×Unit)),[],(0,[],()),[],())]:List DI)) ([(5,0,0,0,0,[],A9 3 0,([(32,3,()),(16,5,())]:List (Int×Int×Unit)),[],(0,[],()),[],())]:List DI)))+1)) (A3 (h.1,B3 (B3 (B3 h.2.2.1 ([(5,0,0,0,0,[],A9 3 0,([(16,4,())]:List (Int×Int×Unit)),[],(0,[],()),[],())]:List DI)) ([(5,0,0,0,0,[],A9 3 0,([(32,3,()),(16,5,())]:List (Int×Int×Unit)),[],(0,[],()),[],())]:List DI)) ([i.1]:List DI),h.2.1,())) A6) (A3 (h.1,B3 (B3 h.2.2.1 ([(5,0,0,0,0,[],A9 3 0,([(16,4,())]:List (Int×Int×Unit)),[],(0,[],()),[],())]:List DI)) ([(5,0,0,0,0,[],A9 3 0,([(32,3,()),(16,5,())]:List (Int×Int×Unit)),[],(0,[],()),[],())]:List DI),h.2.1,()))) A6) A6) (A3 (h.1,h.2.2.1,h.2.1,()))).bind fun f=>(show Option b4K from cond (A4 (f.1>=3)) ((Ah CZ (0,f.2.1,f.2.2.1,())).bind fun b=>(AB (1,12,b.2.1,b.1)).bind fun j=>(AB (2,12,j.1,j.2)).bind fun l=>(AB (12,14,l.1,l.2)).bind fun g=>(AB (16,14,g.1,g.2)).bind fun k=>A3 (k.2,())) (A3 (f.2.1,()))).bind fun a=>A3 a.1
def iE:sG:=⟨[.v QL,.v QI],[.v (.list false Hu)],Ks⟩
def d5V:sF:=⟨[(4050,[50,.box 5 (.list true Hu),.box 2 QL,Qp 5 5,.clo 6 146 [2,5]],[Qe 0 [.box 5 (.list true Hu),.box 2 QL,Qp 5 5,.clo 6 146 [2,5]]])],[(15,[Qn [1,.box 2 QL,.box 5 (.list true Hu),Qp 2 2,Qp 5 5,.clo 6 146 [2,5]]]),(31,[Qn [1,.box 5 (.list true Hu),.box 2 QL,Qp 5 5,.clo 6 146 [2,5]]]),(63,[Qn [.box 5 (.list true Hu),Qp 5 5]])],[]⟩
def Ik(s:SE):Option c2h:=(fun(a b:Int)=>cond (A4 (b<a)) ((Aq s.1 b).bind fun g=>(show Option b7r from cond (A4 (g<(-32768))) (A3 (s.1,a,b,true,())) (A3 (s.1,a,b,A4 (g>=32768),()))).bind fun h=>cond h.2.2.2.1 (A3 (.inr (B6 (false,())))) (A3 (.inl (h.1,h.2.1,zB .i64 (h.2.2.1+1),())))) (A3 (.inr (B7 ())))) s.2.1 s.2.2.1
def HM(x:LI×Int):Option Bool:=(show Option c4Z from cond (A4 ((x.1.length:Int)<1)) (A3 (x.1,true,())) (cond (A4 ((x.1.length:Int) > 32)) (A3 (x.1,true,())) (cond (A4 (x.2<0)) (A3 (x.1,true,())) (A3 (x.1,A4 (x.2 > 15),()))))).bind fun h=>cond h.2.1 (A3 false) ((Ah Ik (h.1,(h.1.length:Int),0,())).bind fun f=>match f with |.inl k=>A3 true |.inr g=>A3 g.1)
def a5P:sG:=⟨[.v QL,.v QI],[.v .bool],HM⟩
def d1c:sF:=Qh [.sv 23 QL,24,25,Qb 4,.sv 0 QL,Qb 22,Qb 34] [[58,7,2,0,1,8]] [[6,0,48],[3737,0,71]] []
def Lp(x:Int×Int×Unit):Option Bool:=cond (A4 (x.1>=1)) (cond (A4 (x.1<=32)) (cond (A4 (x.2.1>=0)) (A3 (A4 (x.2.1<=8))) (A3 false)) (A3 false)) (A3 false)
def a2x:sG:=⟨[.v Q4],[.v .bool],Lp⟩
def JI(s:Z8×Int×Int×Unit):QO (Z8×Int×Int×Unit) Z0:=cond (A4 (s.2.2.1<s.2.1)) ((Aq s.1 s.2.2.1).bind fun h=>(Lp h).bind fun g=>cond (!g) (A3 (.inr (B6 (false,())))) (A3 (.inl (s.1,s.2.1,zB .i64 (s.2.2.1+1),())))) (A3 (.inr (B7 ())))
def MD(x:Z8):Option Bool:=cond (A4 ((x.length:Int) > 3)) (A3 false) ((Ah JI (x,(x.length:Int),0,())).bind fun g=>match g with |.inl f=>A3 true |.inr h=>A3 h.1)
def kP:sG:=⟨[.v (.list false Q4)],[.v .bool],MD⟩
def d1d:sF:=Qh [.sv 8 (.list false Q4),9,10,Qb 2] [[58,7,2,0,1,8]] [] []
def TU(x:Int×WW):Option Bool:=(show Option c0C from cond (x.1==0) (A3 (x.2.2,x.1,x.1==0,x.2.1,())) (A3 (x.2.2,x.1,x.1==1,x.2.1,()))).bind fun h=>cond h.2.2.1 (A3 true) (cond (h.2.1==2) (cond (A4 (h.2.2.2.1.2.2.1>=0)) (cond (A4 (h.2.2.2.1.2.2.1<=4)) (A3 (A4 (h.2.2.2.1.2.2.1<=h.1))) (A3 false)) (A3 false)) (cond (h.2.1==3) ((HM (h.2.2.2.1.2.2.2.2.2.1,h.2.2.2.1.2.2.2.1)).bind fun g=>cond g (A3 (A4 ((h.2.2.2.1.2.2.2.2.2.1.length:Int)<=h.1))) (A3 false)) (cond (h.2.1==4) ((HM (h.2.2.2.1.2.2.2.2.2.1,h.2.2.2.1.2.2.2.1)).bind fun f=>cond f (cond (A4 ((h.2.2.2.1.2.2.2.2.2.1.length:Int)<=h.1)) ((Oy (h.2.2.2.1.2.2.2.2.1,h.2.2.2.1.2.2.2.2.2.2.1)).bind fun k=>A3 k) (A3 false)) (A3 false)) (cond (h.2.1==5) (cond (A4 ((h.2.2.2.1.2.2.2.2.2.2.2.1.length:Int) > 0)) ((MD h.2.2.2.1.2.2.2.2.2.2.2.1).bind fun a=>A3 a) (A3 false)) (A3 false)))))
def a3W:sG:=⟨[.v QI,.v Hu,.v QI],[.v .bool],TU⟩
def d1e:sF:=Qh [2,7,Qb 8,.vp 4 Hu] [] [[26,0,15]] []
def EW(x:LI):Option LI:=ZQ x
def BZ:sG:=⟨[.v QL],[.v QL],EW⟩
def c2k:Cx:=Gs [] [] 5 0
theorem c5t(x):a2d c2k QH Tryz.f75 BZ.ps BZ.rs x=BZ.F x:=Eq.trans (show _=rL x by kernel_rfl) (ZR x)
def Bu(x:Z8):Option Z8:=ZQ x
def Bv:sG:=⟨[.v (.list false Q4)],[.v (.list false Q4)],Bu⟩
def b7D:Cx:=Gs [] [] 5 0
theorem c3T(x):a2d b7D QH Tryz.f206 Bv.ps Bv.rs x=Bv.F x:=Eq.trans (show _=rL x by kernel_rfl) (ZR x)
def Kt(x:Int×DI):Option DI:=(show Option hZ from(show Option (c0M ⊕ (hZ ⊕ c0M))from cond (x.1==2) (A3 (B6 (B7 ((0,0,0,0,0,[],A9 3 0,[],[],(0,[],()),[],()),(x.1,0,x.2.2.2.1,0,0,[],A9 3 0,[],[],(0,[],()),[],()),())))) (cond (x.1==4) (A3 (B7 ((0,0,0,0,0,[],A9 3 0,[],[],(0,[],()),[],()),(x.1,0,0,0,x.2.2.2.2.2.1,[],x.2.2.2.2.2.2.2.1,[],[],(0,[],()),[],()),x.2,()))) (cond (x.1==3) (A3 (B7 ((0,0,0,0,0,[],A9 3 0,[],[],(0,[],()),[],()),(x.1,0,0,0,0,[],A9 3 0,[],[],(0,[],()),[],()),x.2,()))) (cond (x.1==5) (A3 (B6 (B6 ((0,0,0,0,0,[],A9 3 0,[],[],(0,[],()),[],()),(x.1,0,0,0,0,[],A9 3 0,[],[],(0,[],()),[],()),x.2,())))) (A3 (B6 (B7 ((0,0,0,0,0,[],A9 3 0,[],[],(0,[],()),[],()),(x.1,0,0,0,0,[],A9 3 0,[],[],(0,[],()),[],()),())))))))).bind fun c=>match c with |.inl g=>((EW g.2.2.1.2.2.2.2.2.1).bind fun a=>A3 (g.1,(g.2.1.1,g.2.1.2.1,g.2.1.2.2.1,g.2.2.1.2.2.2.1,g.2.1.2.2.2.2.1,a,g.2.1.2.2.2.2.2.2),())) |.inr k=>(match k with |.inl f=>A3 (f.1,f.2.1,()) |.inr h=>((Bu h.2.2.1.2.2.2.2.2.2.2.1).bind fun b=>A3 (h.1,(h.2.1.1,h.2.1.2.1,h.2.1.2.2.1,h.2.1.2.2.2.1,h.2.1.2.2.2.2.1,h.2.1.2.2.2.2.2.1,h.2.1.2.2.2.2.2.2.1,b,h.2.1.2.2.2.2.2.2.2.2),())))).bind fun d=>A3 d.2.1
def a5Q:sG:=⟨[.v QI,.v Hu],[.v Hu],Kt⟩
def d1f:sF:=Qh [.box 4 Hu,.box 5 Hu,.vp 3 Hu,Qp 4 4,Qp 5 5] [] [[7,0,27],[232,0,31,2,27,6,31]] [(8,Qg 8 578879488 [[0,5]]),(9,Qg 9 9262071808 [[0,5]])]
def Nc(x:WW):Option Int:=cond (x.1.1==0) (A3 1) (cond (x.1.1==1) (A3 x.2) (cond (x.1.1==2) (A3 x.1.2.2.1) ((show Option c0A from cond (x.1.1==3) (A3 (x.1.1==3,x.1,())) (A3 (x.1.1==4,x.1,()))).bind fun h=>cond h.1 (A3 (h.2.1.2.2.2.2.2.1.length:Int)) (A3 0))))
def cY:sG:=⟨[.v Hu,.v QI],[.v QI],Nc⟩
def d1g:sF:=Qh [Qb 16,.vp 2 Hu] [] [[1727,0,3]] []
def Er(s:c9E):QO c9E (Int×Int×Unit):=(fun(a:LI)(b c:Int)(d:LI)(e f:Int)=>cond (A4 (f<e)) ((Aq d f).bind fun h=>cond (A4 (zB .i64 ((zB .i64 ((a.length:Int)-1))-f)<0)) (A3 (.inr (b,c,()))) ((Aq a (zB .i64 ((zB .i64 ((a.length:Int)-1))-f))).bind fun g=>A3 (.inl (a,b,zB .i64 (c+(zB .i64 (h*g))),d,e,zB .i64 (f+1),())))) (A3 (.inr (b,c,())))) s.1 s.2.1 s.2.2.1 s.2.2.2.1 s.2.2.2.2.1 s.2.2.2.2.2.1
def GU(x:b7q):Option Int:=(Ah Er (x.1,x.2.2,0,x.2.1,(x.2.1.length:Int),0,())).bind fun h=>cond (A4 (h.1<0)) A6 (A3 (Au .i64 h.2.1 h.1))
def iF:sG:=⟨[.v QL,.v QL,.v QI],[.v QI],GU⟩
def d1h:sF:=Qh [.sv 0 QL,2,7,.sv 11 QL,12,13] [[58,63,2,6]] [] []
def GV(s:c4P):QO c4P a7W:=(fun(a:LI)(b c:Int)(d:LI)=>cond (A4 (c<(a.length:Int))) ((Aq a c).bind fun h=>cond (A4 (0<=c)&&A4 (c<=(a.length:Int))) ((GU (C1 (A7 c) a,s.2.1,b)).bind fun g=>(IQ (zB .i64 (h-g))).bind fun f=>cond (!f) (A3 (.inr (B6 (6,[],())))) (cond (AZ ((A8 d)+1)) (A3 (.inl (a,s.2.1,b,zB .i64 (c+1),B3 d [zB .i64 (h-g)],()))) A6)) A6) (A3 (.inr (B7 (d,()))))) s.1 s.2.2.1 s.2.2.2.1 s.2.2.2.2.1
def Lq(x:b7q):Option (LI×Int):=(show Option c3F from(HM (x.2.1,x.2.2)).bind fun a=>cond (!a) (A3 (x.1,x.2.1,x.2.2,true,())) (A3 (x.1,x.2.1,x.2.2,A4 ((x.1.length:Int)<(x.2.1.length:Int)),()))).bind fun h=>cond h.2.2.2.1 (A3 ([],1)) ((Dp h.1).bind fun b=>cond (!b) (A3 ([],6)) (cond (A4 (0<=(zB .i64 ((h.1.length:Int)-(h.2.1.length:Int))))&&AZ (A7 (zB .i64 ((h.1.length:Int)-(h.2.1.length:Int))))) ((Ah GV (h.1,h.2.1,h.2.2.1,(h.2.1.length:Int),[],())).bind fun k=>match k with |.inl f=>A3 (f.1,0) |.inr g=>A3 (g.2.1,g.1)) A6))
def a2y:sG:=⟨[.v QL,.v QL,.v QI],[.o QI,.v QI],Lq⟩
def d1i:sF:=Qh [.sv 0 QL,.sv 1 QL,2,9,.own 8 8 QI,7,.own 6 6 QI,Qb 21] [[250,31,2,16,1,96]] [[6,0,135]] [(9,Qg 12 37383395344384 [])]
def Ku(x:Int):Option Bool:=cond (A4 (x>=(-1073741824))) (A3 (A4 (x<1073741824))) (A3 false)
def cZ:sG:=⟨[.v QI],[.v .bool],Ku⟩
def EX(s:SE):Option c2h:=cond (A4 (s.2.2.1<s.2.1)) ((Aq s.1 s.2.2.1).bind fun h=>(Ku h).bind fun g=>cond (!g) (A3 (.inr (B6 (false,())))) (A3 (.inl (s.1,s.2.1,zB .i64 (s.2.2.1+1),())))) (A3 (.inr (B7 ())))
def Il(x:LI):Option Bool:=(Ah EX (x,(x.length:Int),0,())).bind fun g=>match g with |.inl f=>A3 true |.inr h=>A3 h.1
def VL:sG:=⟨[.v QL],[.v .bool],Il⟩
def d1j:sF:=Qh [.sv 5 QL,6,7,Qb 2] [[26,7,2,0,1,8]] [] []
def Pu(x:Int×Int×Unit):Option c9u:=(Lp x).bind fun h=>cond (!h) A6 (cond (A4 (0<=x.1)&&(A4 (x.1<=x.1)&&AZ (A7 x.1))) (cond (A4 (0<=x.1)&&(A4 (x.1<=x.1)&&AZ (A7 x.1))) (A3 ((x.2.1,A9 (A7 x.1) 0,A9 (A7 x.1) 0,()),0)) A6) A6)
def kQ:sG:=⟨[.v Q4],[.b b3u,.v QI],Pu⟩
def d1k:sF:=Qh [] [] [] [(3,Qg 12 37529692733440 [])]
def Im(x:Int):Option Int:=some (En (DH x (-1073741824)) 1073741823)
def nD:sG:=⟨[.v QI],[.v QI],Im⟩
def DW(s:b7u):QO b7u c9A:=(fun(a:Int)(b:b4I)=>cond (A4 (a<s.2.1)) (cond (A4 (0<=a)&&A4 (a<(b.2.1.length:Int))) (cond (A4 (0<=a)&&A4 (a<(b.2.2.1.length:Int))) (A3 (.inl (zB .i64 (s.1+(zB .i64 ((B4 b.2.1 (A7 a) 0)*(B4 b.2.2.1 (A7 a) 0)))),s.2.1,zB .i64 (a+1),b,()))) A6) A6) (A3 (.inr (s.1,b,())))) s.2.2.1 s.2.2.2.1
def Cy(x:b4I):Option c9N:=(Ah DW (0,(x.2.1.length:Int),0,x,())).bind fun h=>(Im (Au .i64 h.1 16)).bind fun g=>A3 (g,h.2.1)
def Pv:sG:=⟨[.r false (.b b3u)],[.v QI],Cy⟩
def d1l:sF:=Qh [3,10,11,.box pinned b3u,Qp 0 pinned,.ref 9 pinned [.snd,.fst]] [[58,63,2,9]] [] []
def CQ(s:Int×b7u):QO (Int×b7u) c9A:=(fun(a b c d:Int)(e:b4I)=>cond (A4 (d<c)) (cond (A4 (0<=d)&&A4 (d<(e.2.2.1.length:Int))) (cond (A4 (0<=d)&&A4 (d<(e.2.1.length:Int))) ((show Option (Int×Int×Int×b7u)from cond (A4 ((B4 e.2.2.1 (A7 d) 0) > 0)) (A3 (a,b,d,zB .i64 ((B4 e.2.1 (A7 d) 0)+b),c,d,e,())) (cond (A4 (B4 e.2.2.1 (A7 d) 0<0)) (A3 (a,b,d,zB .i64 ((B4 e.2.1 (A7 d) 0)-b),c,d,e,())) (A3 (a,b,d,B4 e.2.1 (A7 d) 0,c,d,e,())))).bind fun h=>cond (A4 (0<=h.2.2.1)&&A4 (h.2.2.1<(h.2.2.2.2.2.2.1.2.1.length:Int))) (A3 (.inl (h.1,h.2.1,h.2.2.2.2.1,zB .i64 (h.2.2.2.2.2.1+1),(h.2.2.2.2.2.2.1.1,C0 h.2.2.2.2.2.2.1.2.1 (A7 h.2.2.1) (En (DH h.2.2.2.1 (-1048576)) 1048576),h.2.2.2.2.2.2.1.2.2),()))) A6) A6) A6) (A3 (.inr (a,e,())))) s.1 s.2.1 s.2.2.1 s.2.2.2.1 s.2.2.2.2.1
def Es(x:c9u):Option b4I:=(Im x.2).bind fun f=>(show Option c0p from(Cy x.1).bind fun g=>cond (A4 (f > g.1)) (cond (A4 (g.2.1<0)) A6 (A3 (f,AO .i64 1 g.2.1,g.2,()))) (cond (A4 (f<g.1)) (cond (A4 (g.2.1<0)) A6 (A3 (f,zB .i64 (0-(AO .i64 1 g.2.1)),g.2,()))) (A3 (f,0,g.2,())))).bind fun k=>(Ah CQ (k.1,k.2.1,(k.2.2.1.2.2.1.length:Int),0,k.2.2.1,())).bind fun h=>cond (A4 (1<=(h.2.1.2.2.1.length:Int))) (cond (A4 (0<(A8 (cH h.2.1.2.2.1 1 ((A8 h.2.1.2.2.1)-1) h.2.1.2.2.1):Int))) (A3 (h.2.1.1,h.2.1.2.1,C0 (cH h.2.1.2.2.1 1 ((A8 h.2.1.2.2.1)-1) h.2.1.2.2.1) 0 h.1,h.2.1.2.2.2)) A6) A6
def Qq:sG:=⟨[.r false (.b b3u),.v QI],[],Es⟩
def d1m:sF:=Qh [1,4,6,8,36,37,.box pinned b3u,Qp 0 pinned,.ref 35 pinned [.snd,.snd,.fst]] [[122,499,3,193]] [[7,0,195],[15667,0,511]] [(17,Qg 10 142055903539 [])]
def Io(s:Z8×Int×Int×c3N):QO (Z8×Int×Int×c3N) ((Z8×a3T) ⊕ Z6):=(fun(a b c:Int)(d:LI)=>cond (A4 (c<b)) (cond (A4 (0<=c)&&A4 (c<(d.length:Int))) ((Cy s.2.2.2.2.2.2.1).bind fun h=>(Ku (zB .i64 ((B4 d (A7 c) 0)-h.1))).bind fun g=>cond (!g) (A3 (.inr (B6 (6,[],())))) ((Es (h.2,B4 d (A7 c) 0)).bind fun f=>cond (A4 (0<=c)&&A4 (c<(d.length:Int))) (A3 (.inl (s.1,s.2.1,a,b,zB .i64 (c+1),C0 d (A7 c) (zB .i64 ((B4 d (A7 c) 0)-h.1)),f,()))) A6)) A6) (A3 (.inr (B7 (s.1,s.2.1,a,d,()))))) s.2.2.1 s.2.2.2.1 s.2.2.2.2.1 s.2.2.2.2.2.1
def Ip(s:Z8×a3T):QO (Z8×a3T) a7W:=(fun(a:Int)(b:LI)=>cond (A4 (a<s.2.1)) ((Aq s.1 a).bind fun c=>(Pu c).bind fun f=>cond (f.2 != 0) (A3 (.inr (B6 (f.2,[],())))) ((Ah Io (s.1,s.2.1,a,(b.length:Int),0,b,f.1,())).bind fun k=>match k with |.inl h=>A3 (.inl (h.1,h.2.1,zB .i64 (h.2.2.1+1),h.2.2.2.1,())) |.inr g=>A3 (.inr (B6 (g.1,g.2.1,()))))) (A3 (.inr (B7 (b,()))))) s.2.2.1 s.2.2.2.1
def QF(x:c9n):Option (LI×Int):=(MD x.2).bind fun k=>cond (!k) (A3 ([],1)) ((Il x.1).bind fun a=>cond (!a) (A3 ([],6)) ((Bf x.1).bind fun b=>(Ah Ip (x.2,(x.2.length:Int),0,b,())).bind fun f=>match f with |.inl g=>A3 (g.1,0) |.inr h=>A3 (h.2.1,h.1)))
def a5R:sG:=⟨[.v QL,.v (.list false Q4)],[.o QI,.v QI],QF⟩
def d1n:sF:=Qh [.sv 22 (.list false Q4),23,24,37,38,.own 6 6 QI,.box 1030 b3u,Qp 9 1030,.ref 36 6 [],5,.own 4 4 QI] [[250,39,2,32,1,1536],[256414,511,4,39,1,1536]] [] []
def SH(x:DI×LI):Option (Int×DI):=(show Option (LI×LI×Int×a7X)from cond (x.1.1==2) ((HI (x.2,x.1.2.2.1)).bind fun k=>A3 (x.2,k.1,k.2,x.1,())) (cond (x.1.1==3) ((Lq (x.2,x.1.2.2.2.2.2.1,x.1.2.2.2.1)).bind fun a=>A3 (x.2,a.1,a.2,x.1,())) (cond (x.1.1==4) ((Pt (x.2,x.1.2.2.2.2.1,x.1.2.2.2.2.2.2.1)).bind fun g=>cond (g.2==0) ((Lq (g.1,x.1.2.2.2.2.2.1,x.1.2.2.2.1)).bind fun b=>A3 (g.1,b.1,b.2,x.1,())) (A3 (g.1,[],g.2,x.1,()))) (cond (x.1.1==5) ((QF (x.2,x.1.2.2.2.2.2.2.2.1)).bind fun c=>A3 (x.2,c.1,c.2,x.1,())) (A3 (x.2,[],0,x.1,())))))).bind fun h=>cond (h.2.2.1 != 0) (A3 (h.2.2.1,h.2.2.2.1)) ((Nc (h.2.2.2.1,(h.1.length:Int))).bind fun f=>cond (A4 (0<=f)&&A4 (f<=(h.1.length:Int))) ((Bf (C1 (A7 f) h.1)).bind fun d=>A3 (0,h.2.2.2.1.1,h.2.2.2.1.2.1,h.2.2.2.1.2.2.1,h.2.2.2.1.2.2.2.1,h.2.2.2.1.2.2.2.2.1,h.2.2.2.1.2.2.2.2.2.1,h.2.2.2.1.2.2.2.2.2.2.1,h.2.2.2.1.2.2.2.2.2.2.2.1,d,h.2.2.2.1.2.2.2.2.2.2.2.2.2.1,h.2.1,h.2.2.2.1.2.2.2.2.2.2.2.2.2.2.2)) A6)
def a8g:sG:=⟨[.r false (.b Hu),.v QL],[.v QI],SH⟩
def d1o:sF:=Qh [.sv 1 QL,.sv 5 QL,6,.box pinned Hu,Qp 0 pinned] [] [[15,0,31]] [(7,Qg 15 148920195945141040 []),(9,Qg 15 148920195945141040 []),(11,Qg 15 148920195945141041 [])]
def Pw(x:Int×Int):Option Bool:=cond (A4 (1<=x.1)) (cond (A4 (x.1<=4096)) (cond (A4 (0<=x.2)) (A3 (A4 (x.2<=x.1))) (A3 false)) (A3 false)) (A3 false)
def kR:sG:=⟨[.v QI,.v QI],[.v .bool],Pw⟩
def Kv(s:a3T):QO a3T (LI×Unit):=(fun(a:LI)=>cond (A4 (s.1<0)) A6 (cond (A4 ((a.length:Int)<AO .i64 1 s.1)) (cond (AZ ((A8 a)+1)) (A3 (.inl (s.1,s.2.1,B3 a [s.2.1],()))) A6) (A3 (.inr (a,()))))) s.2.2.1
def Gg(x:Int×Int×Int):Option LI:=(show Option c5b from(Pw (x.2.1,x.2.2)).bind fun k=>cond (!k) (A3 (x.1,x.2.1,x.2.2,true,())) (cond (A4 (x.1<0)) (A3 (x.1,x.2.1,x.2.2,true,())) (A3 (x.1,x.2.1,x.2.2,A4 (x.1 > 8),())))).bind fun h=>cond h.2.2.2.1 (A3 []) (cond (A4 (h.1<0)) A6 ((show Option c5b from cond (A4 (h.1<0)) A6 (cond ((AO .i64 (Au .i64 h.2.1 h.1) h.1) != h.2.1) (A3 (h.1,h.2.2.1,Au .i64 h.2.1 h.1,true,())) (A3 (h.1,h.2.2.1,Au .i64 h.2.1 h.1,A4 (Au .i64 h.2.1 h.1<h.2.2.1),())))).bind fun g=>cond g.2.2.2.1 (A3 []) ((Ah Kv (g.1,g.2.2.1,[zB .i64 (g.2.2.1-g.2.1)],())).bind fun f=>A3 f.1)))
def YX:sG:=⟨[.v QI,.v QI,.v QI],[.o QI],Gg⟩
def d1p:sF:=Qh [0,1,2,7,.own 8 8 QI,Qb 20,Qb 33] [[252,25,2,16]] [[6,0,39],[30,0,77]] []
def TV(s:SE):Option c2h:=(fun(a b:Int)=>cond (A4 (b<a)) ((Aq s.1 b).bind fun g=>(show Option b7r from cond (A4 (g<(-1073741824))) (A3 (s.1,a,b,true,())) (A3 (s.1,a,b,A4 (g>=1073741824),()))).bind fun h=>cond h.2.2.2.1 (A3 (.inr (B6 (false,())))) (A3 (.inl (h.1,h.2.1,zB .i64 (h.2.2.1+1),())))) (A3 (.inr (B7 ())))) s.2.1 s.2.2.1
def Lr(x:Z5):Option Bool:=(show Option c4Z from(Pw (x.1,x.2.1)).bind fun k=>cond (!k) (A3 (x.2.2,true,())) (A3 (x.2.2,(x.2.2.length:Int) != (zB .i64 (x.1-x.2.1)),()))).bind fun h=>cond h.2.1 (A3 false) ((Ah TV (h.1,(h.1.length:Int),0,())).bind fun f=>match f with |.inl a=>A3 true |.inr g=>A3 g.1)
def a2z:sG:=⟨[.v QI,.v QI,.v QL],[.v .bool],Lr⟩
def d1q:sF:=Qh [.sv 21 QL,22,23,Qb 6,.sv 2 QL,Qb 20,Qb 32] [[58,7,2,0,1,8]] [[6,0,48],[3737,0,71]] []
def GW(s:SE):Option c2h:=(fun(a:LI)(b c:Int)=>cond (A4 (c<b)) ((Aq a c).bind fun h=>(show Option b7r from cond (A4 (h<0)) (A3 (a,b,c,h != 31,())) (cond (A4 (h > 25)) (A3 (a,b,c,h != 31,())) (A3 (a,b,c,false,())))).bind fun g=>cond g.2.2.2.1 (A3 (.inr (B6 (false,())))) (A3 (.inl (g.1,g.2.1,zB .i64 (g.2.2.1+1),())))) (A3 (.inr (B7 ())))) s.1 s.2.1 s.2.2.1
def Px(x:Z6×Int×Int):Option Bool:=(Gg (x.1.1,x.2.1,x.2.2)).bind fun g=>(show Option c4K from cond ((g.length:Int)==0) (A3 (true,x.1,())) (A3 ((x.1.2.1.length:Int) != (g.length:Int),x.1,()))).bind fun h=>cond h.1 (A3 false) ((Ah GW (h.2.1.2.1,(h.2.1.2.1.length:Int),0,())).bind fun k=>match k with |.inl a=>A3 true |.inr f=>A3 f.1)
def a8h:sG:=⟨[.v iA,.v QI,.v QI],[.v .bool],Px⟩
def d1r:sF:=Qh [.sv 27 QL,28,29,Qb 6,Qb 25,.vp 3 iA,Qb 42] [[122,7,2,0,1,8]] [[14,0,48],[7833,0,71]] []
def DX(s:c0l):QO c0l a5F:=(fun(a b:Int)(c:LI)(d e:Int)=>cond (b != 0) (cond (A4 (a<32)) ((Cr (b,a)).bind fun h=>cond (!h) (A3 (.inl (zB .i64 (a+1),b,c,d,e,()))) (A3 (.inr (a,c,d,e,())))) (A3 (.inr (a,c,d,e,())))) (A3 (.inr (a,c,d,e,())))) s.1 s.2.1 s.2.2.1 s.2.2.2.1 s.2.2.2.2.1
def Jh(s:a5F):Option c3H:=(fun(a b:Int)=>cond (A4 (b<a)) ((Aq s.2.1 b).bind fun g=>(Ah DX (s.1,g,s.2.1,a,b,())).bind fun h=>A3 (.inl (h.1,h.2.1,h.2.2.1,zB .i64 (h.2.2.2.1+1),()))) (A3 (.inr (s.1,())))) s.2.2.1 s.2.2.2.1
def EY(x:LI):Option Int:=(Ah Jh (0,x,(x.length:Int),0,())).bind fun h=>A3 h.1
def Nd:sG:=⟨[.v QL],[.v QI],EY⟩
def d5W:sF:=Qh [3,5,.sv 6 QL,7,8] [[58,29,2,1],[7474,31,4,29]] [] []
def JJ(x:LI):Option Int:=(EY x).bind fun h=>A3 (zB .i64 (5+(zB .i64 (h*(x.length:Int)))))
def a8i:sG:=⟨[.v QL],[.v QI],JJ⟩
def GX(x:Int):Option Bool:=cond (A4 (0<=x)) (A3 (A4 (x<=25))) (A3 false)
def TW:sG:=⟨[.v QI],[.v .bool],GX⟩
def ME(x:Int):Option Bool:=cond (A4 ((-1073741824)<=x)) (A3 (A4 (x<1073741824))) (A3 false)
def a8j:sG:=⟨[.v QI],[.v .bool],ME⟩
def Py(x:Int):Option Int:=(ME x).bind fun h=>cond (!h) (A3 0) (cond (A4 (x>=0)) (A3 (zB .u64 (zB .i64 (2*x)))) (A3 (zB .u64 (zB .i64 ((zB .i64 ((-2)*x))-1)))))
def a8k:sG:=⟨[.v QI],[.v QU],Py⟩
def MF(x:Int×Int):Option Int:=(show Option c4I from(GX x.1).bind fun f=>cond (!f) (A3 (x.1,x.2,true,())) ((ME x.2).bind fun k=>A3 (x.1,x.2,!k,()))).bind fun h=>cond h.2.2.1 (A3 0) ((Py h.2.1).bind fun g=>cond (A4 (h.1<0)) A6 (cond (A4 (zB .i64 (Au .u64 g h.1)<32)) (A3 (zB .i64 ((zB .i64 ((zB .i64 (Au .u64 g h.1))+1))+h.1))) (A3 65)))
def a8l:sG:=⟨[.v QI,.v QI],[.v QI],MF⟩
def d1s:sF:=Qh [0,1,Qb 13] [] [[6,0,7]] []
def Gi(s:c0l):QO c0l (Int×Unit):=(fun(a:LI)(b c:Int)=>cond (A4 (c<b)) ((Aq a c).bind fun h=>(MF (s.1,h)).bind fun g=>A3 (.inl (s.1,zB .i64 (s.2.1+g),a,b,zB .i64 (c+1),()))) (A3 (.inr (s.2.1,())))) s.2.2.1 s.2.2.2.1 s.2.2.2.2.1
def Gj(x:Int×LI):Option Int:=(Ah Gi (x.1,0,x.2,(x.2.length:Int),0,())).bind fun h=>A3 h.1
def b1C:sG:=⟨[.v QI,.v QL],[.v QI],Gj⟩
def d1t:sF:=Qh [0,5,.sv 8 QL,9,10] [[58,31,2,2]] [] []
def BM(s:c0u):QO c0u (Int×Unit):=(fun(a:LI)(b c d:Int)(e:LI)(f:Z6)=>cond (A4 (d<c)) (cond (A4 (0<=d)&&A4 (d<(e.length:Int))) (cond (A4 (0<=(B4 e (A7 d) 0))&&A4 ((B4 e (A7 d) 0)<=(a.length:Int))) (cond (A4 (0<=(B4 e (A7 d) 0))&&A4 ((B4 e (A7 d) 0)<=(a.length:Int))) ((Aq f.2.1 d).bind fun h=>cond (h==31) ((JJ (C1 (A7 (B4 e (A7 d) 0)) a)).bind fun k=>A3 (.inl (C2 (A7 (B4 e (A7 d) 0)) (C1 (A8 a) a),zB .i64 (b+(zB .i64 (5+k))),c,zB .i64 (d+1),e,f,()))) ((Aq f.2.1 d).bind fun g=>(Gj (g,C1 (A7 (B4 e (A7 d) 0)) a)).bind fun i=>A3 (.inl (C2 (A7 (B4 e (A7 d) 0)) (C1 (A8 a) a),zB .i64 (b+(zB .i64 (5+i))),c,zB .i64 (d+1),e,f,())))) A6) A6) A6) (A3 (.inr (b,())))) s.1 s.2.1 s.2.2.1 s.2.2.2.1 s.2.2.2.2.1 s.2.2.2.2.2.1
def HN(x:c9x):Option Int:=(show Option (Int×Int×LI×c4K)from(Px (x.1,x.2.1,x.2.2.1)).bind fun k=>cond (!k) (A3 (x.2.1,x.2.2.1,x.2.2.2,true,x.1,())) ((Lr (x.2.1,x.2.2.1,x.2.2.2)).bind fun a=>A3 (x.2.1,x.2.2.1,x.2.2.2,!a,x.1,()))).bind fun h=>cond h.2.2.2.1 (A3 0) ((Gg (h.2.2.2.2.1.1,h.1,h.2.1)).bind fun g=>(Ah BM (h.2.2.1,4,(g.length:Int),0,g,h.2.2.2.2.1,())).bind fun f=>A3 f.1)
def a5S:sG:=⟨[.v iA,.v QI,.v QI,.v QL],[.v QI],HN⟩
def d1u:sF:=Qh [1,2,.sv 3 QL,9,30,31,.own 29 1029 QI,Qb 24,.vp 4 iA] [[122,380,2,8]] [[6,0,391]] []
def Nf(s:a7b):QO a7b (Int×Unit):=(fun(a b:Int)=>cond (A4 (b<=25)) ((Gj (b,s.1)).bind fun h=>cond (A4 (h<a)) (A3 (.inl (s.1,b,h,zB .i64 (b+1),()))) (A3 (.inl (s.1,s.2.1,a,zB .i64 (b+1),())))) (A3 (.inr (s.2.1,())))) s.2.2.1 s.2.2.2.1
def SI(x:LI):Option Int:=(Gj (0,x)).bind fun g=>(Ah Nf (x,0,g,1,())).bind fun h=>A3 h.1
def a8m:sG:=⟨[.v QL],[.v QI],SI⟩
def d1v:sF:=Qh [.sv 0 QL,3,4,5] [[58,15,2,2]] [] []
def Ng(x:LI):Option Int:=(SI x).bind fun h=>(JJ x).bind fun g=>(Gj (h,x)).bind fun f=>cond (A4 (g<f)) (A3 31) (A3 h)
def rX:sG:=⟨[.v QL],[.v QI],Ng⟩
def LO(s:Int×Int×Int×LI×Int×Int×LI×c0y):QO (Int×Int×Int×LI×Int×Int×LI×c0y) (Int×Int×Int×LI×Int×Int×b7v):=(fun(a:Int)(b:LI)(c d:Int)(e:LI)(f g:Int)(h:LI)(i j k:Z6)=>cond (A4 (g<f)) (cond (A4 (0<=g)&&A4 (g<(h.length:Int))) (cond (A4 (0<=(B4 h (A7 g) 0))&&A4 ((B4 h (A7 g) 0)<=(e.length:Int))) ((Ng (C1 (A7 (B4 h (A7 g) 0)) e)).bind fun l=>cond (AZ ((A8 k.2.1)+1)) (cond (A4 (0<=(B4 h (A7 g) 0))&&A4 ((B4 h (A7 g) 0)<=(e.length:Int))) (A3 (.inl (s.1,s.2.1,a,b,c,d,C2 (A7 (B4 h (A7 g) 0)) (C1 (A8 e) e),f,zB .i64 (g+1),h,i,j,(k.1,B3 k.2.1 [l],k.2.2),()))) A6) A6) A6) A6) (A3 (.inr (s.1,s.2.1,a,b,c,d,i,j,k,())))) s.2.2.1 s.2.2.2.1 s.2.2.2.2.1 s.2.2.2.2.2.1 s.2.2.2.2.2.2.1 s.2.2.2.2.2.2.2.1 s.2.2.2.2.2.2.2.2.1 s.2.2.2.2.2.2.2.2.2.1 s.2.2.2.2.2.2.2.2.2.2.1 s.2.2.2.2.2.2.2.2.2.2.2.1 s.2.2.2.2.2.2.2.2.2.2.2.2.1
def Fv(s:c0x):QO c0x c0q:=(fun(a b:Int)(c:LI)(d e:Int)(f g:Z6)=>cond (A4 (e<=(En (DH b 0) 8))) ((Gg (e,s.1,a)).bind fun i=>cond ((i.length:Int)==0) (A3 (.inl (s.1,a,b,c,d,zB .i64 (e+1),f,g,()))) ((Ah LO (s.1,a,b,c,d,e,c,(i.length:Int),0,i,f,g,(e,[],()),())).bind fun h=>(HN (h.2.2.2.2.2.2.2.2.1,h.1,h.2.1,h.2.2.2.1)).bind fun j=>(show Option (Int×Int×Int×LI×Int×Int×Int×Bool×b7v)from cond (h.2.2.2.2.1==0) (A3 (h.1,h.2.1,h.2.2.1,h.2.2.2.1,h.2.2.2.2.1,h.2.2.2.2.2.1,j,true,h.2.2.2.2.2.2.1,h.2.2.2.2.2.2.2.1,h.2.2.2.2.2.2.2.2.1,())) (A3 (h.1,h.2.1,h.2.2.1,h.2.2.2.1,h.2.2.2.2.1,h.2.2.2.2.2.1,j,A4 (j<h.2.2.2.2.1),h.2.2.2.2.2.2.1,h.2.2.2.2.2.2.2.1,h.2.2.2.2.2.2.2.2.1,()))).bind fun k=>cond k.2.2.2.2.2.2.2.1 (A3 (.inl (k.1,k.2.1,k.2.2.1,k.2.2.2.1,k.2.2.2.2.2.2.1,zB .i64 (k.2.2.2.2.2.1+1),k.2.2.2.2.2.2.2.2.1,k.2.2.2.2.2.2.2.2.2.2.1,()))) (A3 (.inl (k.1,k.2.1,k.2.2.1,k.2.2.2.1,k.2.2.2.2.1,zB .i64 (k.2.2.2.2.2.1+1),k.2.2.2.2.2.2.2.2.1,k.2.2.2.2.2.2.2.2.2.1,()))))) (A3 (.inr (f,g,())))) s.2.1 s.2.2.1 s.2.2.2.1 s.2.2.2.2.1 s.2.2.2.2.2.1 s.2.2.2.2.2.2.1 s.2.2.2.2.2.2.2.1
def QG(x:Int×Z5):Option (Z6×Int):=(Lr (x.1,x.2.1,x.2.2.2)).bind fun g=>cond (!g) (A3 ((0,[],()),1)) ((Ah Fv (x.1,x.2.1,x.2.2.1,x.2.2.2,0,0,(0,[],()),(0,[],()),())).bind fun h=>A3 (h.2.1,0))
def a5T:sG:=⟨[.v QI,.v QI,.v QI,.v QL],[.v iA,.v QI],QG⟩
def d1w:sF:=Qh [0,1,2,.sv 3 QL,11,12,.sv 15 QL,43,44,.own 42 13 QI,18,Qb 72,.box 8 iA,.box 10 iA,.box 14 c9F,.box 14 iA,Qp 8 8,Qp 10 10,Qp 14 14] [[250,208959,2,208896],[512634,488447,4,487487]] [[256319,0,506943]] [(15,Qg 10 146582536209 [])]
def IR(s:LI×LI×c0J):QO (LI×LI×c0J) ((LI×hZ) ⊕ (Int×a7X)):=(fun(a b:Int)(c d:DI)=>cond (A4 (b<a)) ((Aq s.2.1 b).bind fun h=>(Aq s.1 0).bind fun g=>cond (h != g) (A3 (.inr (B6 (7,(0,0,0,0,0,[],A9 3 0,[],[],(0,[],()),[],()),())))) (A3 (.inl (s.1,s.2.1,a,zB .i64 (b+1),c,d,())))) (A3 (.inr (B7 (s.1,c,d,()))))) s.2.2.1 s.2.2.2.1 s.2.2.2.2.1 s.2.2.2.2.2.1
def Vd(x:Int×LI×DI):Option WW:=(show Option (Int×LI×Int×Bool×hZ)from cond (A4 ((x.2.1.length:Int)<1)) (A3 (x.1,x.2.1,(x.2.1.length:Int),true,(0,0,0,0,0,[],A9 3 0,[],[],(0,[],()),[],()),x.2.2,())) (cond (A4 ((x.2.1.length:Int) > 4096)) (A3 (x.1,x.2.1,(x.2.1.length:Int),true,(0,0,0,0,0,[],A9 3 0,[],[],(0,[],()),[],()),x.2.2,())) ((TU (x.1,x.2.2,(x.2.1.length:Int))).bind fun j=>A3 (x.1,x.2.1,(x.2.1.length:Int),!j,(0,0,0,0,0,[],A9 3 0,[],[],(0,[],()),[],()),x.2.2,())))).bind fun g=>cond g.2.2.2.1 (A3 ((0,0,0,0,0,[],A9 3 0,[],[],(0,[],()),[],()),1)) ((DC g.2.1).bind fun l=>cond (!l) (A3 ((0,0,0,0,0,[],A9 3 0,[],[],(0,[],()),[],()),6)) ((Kt (g.1,g.2.2.2.2.2.1)).bind fun f=>cond (g.1==0) ((Ah IR (g.2.1,g.2.1,(g.2.1.length:Int),0,g.2.2.2.2.1,f,())).bind fun i=>match i with |.inl k=>((Aq k.1 0).bind fun d=>A3 ((k.2.2.1.1,k.2.2.1.2.1,k.2.2.1.2.2.1,k.2.2.1.2.2.2.1,k.2.2.1.2.2.2.2.1,k.2.2.1.2.2.2.2.2.1,k.2.2.1.2.2.2.2.2.2.1,k.2.2.1.2.2.2.2.2.2.2.1,[d],k.2.2.1.2.2.2.2.2.2.2.2.2),0)) |.inr e=>A3 (e.2.1,e.1)) ((Ft g.2.1).bind fun a=>(Ln (g.2.1,a)).bind fun b=>cond (b.2 != 0) (A3 ((0,0,0,0,0,[],A9 3 0,[],[],(0,[],()),[],()),6)) (cond (g.1==1) (A3 ((f.1,a,f.2.2.1,f.2.2.2.1,f.2.2.2.2.1,f.2.2.2.2.2.1,f.2.2.2.2.2.2.1,f.2.2.2.2.2.2.2.1,b.1,f.2.2.2.2.2.2.2.2.2),0)) ((SH ((f.1,a,f.2.2),b.1)).bind fun h=>cond (h.1 != 0) (A3 ((0,0,0,0,0,[],A9 3 0,[],[],(0,[],()),[],()),6)) ((QG (g.2.2.1,(h.2.2.2.2.2.2.2.2.2.1.length:Int),6,h.2.2.2.2.2.2.2.2.2.2.2.1)).bind fun c=>cond (c.2 != 0) (A3 ((0,0,0,0,0,[],A9 3 0,[],[],(0,[],()),[],()),6)) (A3 ((h.2.1,h.2.2.1,h.2.2.2.1,h.2.2.2.2.1,h.2.2.2.2.2.1,h.2.2.2.2.2.2.1,h.2.2.2.2.2.2.2.1,h.2.2.2.2.2.2.2.2.1,h.2.2.2.2.2.2.2.2.2.1,c.1,h.2.2.2.2.2.2.2.2.2.2.2),0))))))))
def b1D:sG:=⟨[.v QI,.v QL,.v Hu],[.v Hu,.v QI],Vd⟩
def d5X:sF:=Qh [7,0,.sv 1 QL,.sv 39 QL,40,41,8,Qb 28,.box 6 Hu,.box 9 Hu,.vp 5 Hu,Qp 6 6,Qp 9 9] [[4050,6972,2,6916,1,2305]] [[14,0,3526]] []
def Nh(x:Int):Option Bool:=cond (x != 0) (A3 (x != 1)) (A3 false)
def dA:sG:=⟨[.v QI],[.v .bool],Nh⟩
def SJ(x:DI):Option Bool:=(Kt (x.1,x)).bind fun h=>cond (x.2.2.1==h.2.2.1) (cond (x.2.2.2.1==h.2.2.2.1) (cond (x.2.2.2.2.1==h.2.2.2.2.1) (cond (gE (.arr 3 (.int .i64)) x.2.2.2.2.2.2.1 h.2.2.2.2.2.2.1) (cond ((x.2.2.2.2.2.1.length:Int)==(h.2.2.2.2.2.1.length:Int)) (A3 ((x.2.2.2.2.2.2.2.1.length:Int)==(h.2.2.2.2.2.2.2.1.length:Int))) (A3 false)) (A3 false)) (A3 false)) (A3 false)) (A3 false)
def a8n:sG:=⟨[.v Hu],[.v .bool],SJ⟩
def QJ(x:WW):Option Bool:=(show Option a7Y from cond (A4 (x.2<1)) (A3 (x.2,true,x.1,())) (cond (A4 (x.2 > 4096)) (A3 (x.2,true,x.1,())) ((TU (x.1.1,x.1,x.2)).bind fun b=>cond (!b) (A3 (x.2,true,x.1,())) ((SJ x.1).bind fun c=>A3 (x.2,!c,x.1,()))))).bind fun h=>cond h.2.1 (A3 false) ((show Option a7Y from cond (A4 (h.2.2.1.2.1<0)) (A3 (h.1,true,h.2.2.1,())) (cond (A4 (h.2.2.1.2.1 > 30)) (A3 (h.1,true,h.2.2.1,())) (cond (h.2.2.1.1==0) (A3 (h.1,h.2.2.1.2.1 != 0,h.2.2.1,())) (A3 (h.1,false,h.2.2.1,()))))).bind fun g=>cond g.2.1 (A3 false) ((Nc (g.2.2.1,g.1)).bind fun k=>(show Option c0C from cond ((g.2.2.1.2.2.2.2.2.2.2.2.1.length:Int) != k) (A3 (g.1,k,true,g.2.2.1,())) ((DC g.2.2.1.2.2.2.2.2.2.2.2.1).bind fun d=>cond (!d) (A3 (g.1,k,true,g.2.2.1,())) ((DC g.2.2.1.2.2.2.2.2.2.2.2.2.2.1).bind fun e=>A3 (g.1,k,!e,g.2.2.1,())))).bind fun f=>cond f.2.2.1 (A3 false) ((Nh f.2.2.2.1.1).bind fun i=>cond (!i) (cond ((f.2.2.2.1.2.2.2.2.2.2.2.2.2.2.1.length:Int)==0) (cond (f.2.2.2.1.2.2.2.2.2.2.2.2.2.1.1==0) (A3 ((f.2.2.2.1.2.2.2.2.2.2.2.2.2.1.2.1.length:Int)==0)) (A3 false)) (A3 false)) (cond ((f.2.2.2.1.2.2.2.2.2.2.2.2.2.2.1.length:Int)==zB .i64 (f.1-f.2.1)) ((Px (f.2.2.2.1.2.2.2.2.2.2.2.2.2.1,f.1,f.2.1)).bind fun a=>A3 a) (A3 false)))))
end Go.Ab
namespace Go.Ab
open IntKind renaming wrap->zB
open Go.Proofs
set_option maxRecDepth 100000
set_option linter.unusedVariables false
def a5U:sG:=⟨[.v Hu,.v QI],[.v .bool],QJ⟩
def d1x:sF:=Qh [1,Qb 24,Qb 42,5,Qb 62,.vp 2 Hu] [] [[6,0,35],[14,0,37],[62,0,57]] []
def Br(x:Int×LI):Option (Int×LI):=(Aq x.2 (zB .i64 ((x.2.length:Int)-x.1))).bind fun h=>A3 (h,x.2)
def nE:sG:=⟨[.v QI,.r false (.b QL)],[.v QI],Br⟩
def OP(x:LI×Int):Option Int:=cond (x.2==1) ((Br (1,x.1)).bind fun d=>A3 d.1) (cond (x.2==2) ((Br (1,x.1)).bind fun g=>(Br (2,g.2)).bind fun e=>A3 (zB .i64 ((zB .i64 (2*g.1))-e.1))) (cond (x.2==3) ((Br (1,x.1)).bind fun f=>(Br (2,f.2)).bind fun k=>(Br (3,k.2)).bind fun i=>A3 (zB .i64 ((zB .i64 ((zB .i64 (3*f.1))-(zB .i64 (3*k.1))))+i.1))) (cond (x.2==4) ((Br (1,x.1)).bind fun a=>(Br (2,a.2)).bind fun b=>(Br (3,b.2)).bind fun c=>(Br (4,c.2)).bind fun h=>A3 (zB .i64 ((zB .i64 ((zB .i64 ((zB .i64 (4*a.1))-(zB .i64 (6*b.1))))+(zB .i64 (4*c.1))))-h.1))) (A3 0))))
def a2A:sG:=⟨[.v QL,.v QI],[.v QI],OP⟩
def LP(s:b3t):QO b3t a7W:=(fun(a b:Int)(c:LI)=>cond (A4 (b<a)) ((Aq s.2.1 b).bind fun h=>(OP (c,s.1)).bind fun g=>(EA [zB .i64 (h+g)]).bind fun f=>cond (!f) (A3 (.inr (B6 (6,[],())))) (cond (AZ ((A8 c)+1)) (A3 (.inl (s.1,s.2.1,a,zB .i64 (b+1),B3 c [zB .i64 (h+g)],()))) A6)) (A3 (.inr (B7 (c,()))))) s.2.2.1 s.2.2.2.1 s.2.2.2.2.1
def QK(x:b7q):Option (LI×Int):=(show Option c3F from cond (A4 (x.2.2<0)) (A3 (x.1,x.2.1,x.2.2,true,())) (cond (A4 (x.2.2 > 4)) (A3 (x.1,x.2.1,x.2.2,true,())) (A3 (x.1,x.2.1,x.2.2,(x.1.length:Int) != x.2.2,())))).bind fun h=>cond h.2.2.2.1 (A3 ([],1)) ((show Option c3F from(EA h.1).bind fun b=>cond (!b) (A3 (h.1,h.2.1,h.2.2.1,true,())) ((EA h.2.1).bind fun c=>A3 (h.1,h.2.1,h.2.2.1,!c,()))).bind fun g=>cond g.2.2.2.1 (A3 ([],6)) (cond (AZ (A8 g.1)) ((Ah LP (g.2.2.1,g.2.1,(g.2.1.length:Int),0,g.1,())).bind fun a=>match a with |.inl k=>A3 (k.1,0) |.inr f=>A3 (f.2.1,f.1)) A6))
def a5V:sG:=⟨[.v QL,.v QL,.v QI],[.o QI,.v QI],QK⟩
def d1y:sF:=Qh [7,.own 6 6 QI,.sv 0 QL,.sv 1 QL,2,.sv 34 QL,35,36,.own 8 8 QI,Qb 23,Qb 31] [[250,496,2,256,1,3]] [[6,0,540],[14,0,1052]] []
def Kw(s:b7t):QO b7t a7W:=(fun(a:LI)(b c:Int)(d:LI)=>cond (A4 (c<b)) ((Aq a c).bind fun h=>(GU (d,s.1,s.2.1)).bind fun g=>(IQ (zB .i64 (g+h))).bind fun f=>cond (!f) (A3 (.inr (B6 (6,[],())))) (cond (AZ ((A8 d)+1)) (A3 (.inl (s.1,s.2.1,a,b,zB .i64 (c+1),B3 d [zB .i64 (g+h)],()))) A6)) (A3 (.inr (B7 (d,()))))) s.2.2.1 s.2.2.2.1 s.2.2.2.2.1 s.2.2.2.2.2.1
def Lu(x:LI×b7q):Option (LI×Int):=(show Option c0n from(HM (x.2.2.1,x.2.2.2)).bind fun b=>cond (!b) (A3 (x.1,x.2.1,x.2.2.1,x.2.2.2,true,())) (A3 (x.1,x.2.1,x.2.2.1,x.2.2.2,(x.1.length:Int) != (x.2.2.1.length:Int),()))).bind fun h=>cond h.2.2.2.2.1 (A3 ([],1)) ((show Option c0n from(Dp h.1).bind fun c=>cond (!c) (A3 (h.1,h.2.1,h.2.2.1,h.2.2.2.1,true,())) ((Dp h.2.1).bind fun d=>A3 (h.1,h.2.1,h.2.2.1,h.2.2.2.1,!d,()))).bind fun g=>cond g.2.2.2.2.1 (A3 ([],6)) (cond (A4 (0<=(zB .i64 ((g.1.length:Int)+(g.2.1.length:Int))))&&AZ (A7 (zB .i64 ((g.1.length:Int)+(g.2.1.length:Int))))) (cond (AZ (0+(A8 g.1))) ((Ah Kw (g.2.2.1,g.2.2.2.1,g.2.1,(g.2.1.length:Int),0,B3 [] g.1,())).bind fun a=>match a with |.inl k=>A3 (k.1,0) |.inr f=>A3 (f.2.1,f.1)) A6) A6))
def a2B:sG:=⟨[.v QL,.v QL,.v QL,.v QI],[.o QI,.v QI],Lu⟩
def d1z:sF:=Qh [9,.own 8 8 QI,.sv 0 QL,.sv 1 QL,.sv 2 QL,3,.sv 42 QL,43,44,.own 10 10 QI,Qb 24,Qb 32] [[506,1008,2,512,1,3]] [[6,0,1084],[14,0,2108]] []
def Ni(s:c0r):QO c0r a7W:=(fun(a b:Int)(c d:LI)=>cond (A4 (b<a)) ((Aq s.2.1 b).bind fun h=>(GS (c,b,s.1,d)).bind fun g=>(MC (zB .i64 (h+g))).bind fun f=>cond (!f) (A3 (.inr (B6 (6,[],())))) (cond (AZ ((A8 c)+1)) (A3 (.inl (s.1,s.2.1,a,zB .i64 (b+1),B3 c [zB .i64 (h+g)],d,()))) A6)) (A3 (.inr (B7 (c,()))))) s.2.2.1 s.2.2.2.1 s.2.2.2.2.1 s.2.2.2.2.2.1
def SK(x:c5a):Option (LI×Int):=(Oy (x.2.1,x.2.2)).bind fun k=>cond (!k) (A3 ([],1)) ((GR x.1).bind fun a=>cond (!a) (A3 ([],6)) (cond (A4 (0<=(x.1.length:Int))&&AZ (A7 (x.1.length:Int))) ((Ah Ni (x.2.1,x.1,(x.1.length:Int),0,[],x.2.2,())).bind fun f=>match f with |.inl g=>A3 (g.1,0) |.inr h=>A3 (h.2.1,h.1)) A6))
def a8o:sG:=⟨[.v QL,.v QI,.v (.arr 3 QI)],[.o QI,.v QI],SK⟩
def d1A:sF:=Qh [1,.sv 22 QL,23,24,.own 8 8 QI,.vp 5 (.arr 3 QI),7,.own 6 6 QI] [[250,63,2,16,1,192]] [] []
def Iq(s:Int×Int×LI×c3L):QO (Int×Int×LI×c3L) (b6o ⊕ b6o):=(fun(a:Int)(b:LI)(c:Int)(d:LI)=>cond (A4 (a<s.1)) (cond (A4 (0<=a)&&A4 (a<(d.length:Int))) ((Cy s.2.2.2.2.2.1).bind fun h=>(Ku (zB .i64 (h.1+(B4 d (A7 a) 0)))).bind fun g=>cond (!g) (A3 (.inr (B6 ([],6,d,())))) ((Es (h.2,zB .i64 (h.1+(B4 d (A7 a) 0)))).bind fun f=>cond (A4 (0<=a)&&A4 (a<(d.length:Int))) (A3 (.inl (s.1,zB .i64 (a+1),b,c,C0 d (A7 a) (zB .i64 (h.1+(B4 d (A7 a) 0))),f,()))) A6)) A6) (A3 (.inr (B7 (b,c,d,()))))) s.2.1 s.2.2.1 s.2.2.2.1 s.2.2.2.2.1
def LQ(k:Int)(v:(Int×Int×Unit))(s:(Z8×b6o)):Option ((Z8×b6o) ⊕ (Ex×Z8×b6o)):=(Pu v).bind fun f=>cond (f.2 != 0) (A3 (.inr (.ret,s.1,[],f.2,s.2.2.2.1,()))) ((Ah Iq ((s.2.2.2.1.length:Int),0,s.2.1,s.2.2.1,s.2.2.2.1,f.1,())).bind fun a=>match a with |.inl h=>A3 (.inl (s.1,h.1,h.2.1,h.2.2.1,())) |.inr g=>A3 (.inr (.ret,s.1,g.1,g.2.1,g.2.2.1,())))
def QM(x:c9n):Option (LI×Int):=(MD x.2).bind fun f=>cond (!f) (A3 ([],1)) ((Il x.1).bind fun k=>cond (!k) (A3 ([],6)) ((Bf x.1).bind fun a=>cond (AZ (A8 x.2)) ((RT LQ x.2 (A8 x.2) (x.2,[],0,a,())).bind fun g=>match g with |.inl h=>A3 (h.2.2.2.1,0) |.inr (.normal,a14)=>A3 (a14.2.2.2.1,0) |.inr (.exit e15,a14)=>(cond (e15==0) (A3 (a14.2.2.2.1,0)) A6) |.inr (.ret,a14)=>A3 (a14.2.1,a14.2.2.1)) A6))
def QN:sG:=⟨[.v QL,.v (.list false Q4)],[.v QL,.v QI],QM⟩
def d1B:sF:=Qh [35,36,.box 1001004 QL,.box 1001005 QI,.box 1001006 (.list true QI),.box 1028 b3u,Qp 4 1001004,Qp 5 1001005,Qp 6 1001006,Qp 9 1028,.ref 34 1001006 []] [[8046,2047,4,476,1,476]] [] []
def c2l:Cx:=Gs [(75,Ck),(205,kP),(264,VL),(265,kQ),(266,Pv),(267,cZ),(268,Qq)] [(6,.list true QI)] 15875 72057594037927936
def c5u:vF:=⟨22,Q4,294,305,[4,5,6],[.sv 22 (.list false Q4),.box 1001004 QL,.box 1001005 QI,.box 1001006 (.list true QI),.ptr 4 1001004 [],.ptr 5 1001005 [],.ptr 6 1001006 []]⟩
theorem c5v(x):b3r c2l d1B c5u Tryz.f248 QN.ps QN.rs x=QN.F x:=by kernel_rfl
def Nj(s:b3t):QO b3t a7W:=(fun(a:Int)(b:LI)(c d:Int)(e:LI)=>cond (A4 (d<c)) ((Aq b d).bind fun g=>(show Option (Int×Int×c9z)from(IP g).bind fun f=>cond (!f) (A3 (a,g,b,c,d,true,e,())) (cond (A4 (a<0)) A6 ((IP (AO .i64 g a)).bind fun k=>A3 (a,g,b,c,d,!k,e,())))).bind fun h=>cond h.2.2.2.2.2.1 (A3 (.inr (B6 (6,[],())))) (cond (A4 (h.1<0)) A6 (cond (AZ ((A8 h.2.2.2.2.2.2.1)+1)) (A3 (.inl (h.1,h.2.2.1,h.2.2.2.1,zB .i64 (h.2.2.2.2.1+1),B3 h.2.2.2.2.2.2.1 [AO .i64 h.2.1 h.1],()))) A6))) (A3 (.inr (B7 (e,()))))) s.1 s.2.1 s.2.2.1 s.2.2.2.1 s.2.2.2.2.1
def Pz(x:LI×Int):Option (LI×Int):=(show Option b1v from cond (A4 (x.2<0)) (A3 (x.1,x.2,true,())) (A3 (x.1,x.2,A4 (x.2 > 30),()))).bind fun h=>cond h.2.2.1 (A3 ([],1)) ((Ah Nj (h.2.1,h.1,(h.1.length:Int),0,[],())).bind fun k=>match k with |.inl f=>A3 (f.1,0) |.inr g=>A3 (g.2.1,g.1))
def a8p:sG:=⟨[.v QL,.v QI],[.o QI,.v QI],Pz⟩
def d1C:sF:=Qh [5,.own 4 4 QI,.sv 0 QL,1,Qb 14,8,.sv 15 QL,16,17,Qb 30,.own 6 6 QI] [[122,1480,2,1024,1,3]] [[6,0,28],[15666,0,2024]] []
def Lv(s:c0E):QO c0E (LI×Unit):=cond (A4 (s.2.1<s.1)) ((Aq s.2.2.2.1.2.2.2.2.2.2.2.2.1 0).bind fun h=>cond (AZ ((A8 s.2.2.1)+1)) (A3 (.inl (s.1,zB .i64 (s.2.1+1),B3 s.2.2.1 [h],s.2.2.2.1,()))) A6) (A3 (.inr (s.2.2.1,())))
def Ve(x:WW):Option (LI×Int):=(show Option ((LI×Int×a7X) ⊕ Z6)from cond (x.1.1==0) ((Ah Lv (x.2,0,[],x.1,())).bind fun e=>A3 (B6 (0,e.1,()))) (cond (x.1.1==1) (A3 (B7 (x.1.2.2.2.2.2.2.2.2.1,0,x.1,()))) (cond (x.1.1==2) ((QK (x.1.2.2.2.2.2.2.2.2.1,x.1.2.2.2.2.2.2.2.2.2.2.1,x.1.2.2.1)).bind fun a=>A3 (B7 (a.1,a.2,x.1,()))) (cond (x.1.1==3) ((Lu (x.1.2.2.2.2.2.2.2.2.1,x.1.2.2.2.2.2.2.2.2.2.2.1,x.1.2.2.2.2.2.1,x.1.2.2.2.1)).bind fun b=>A3 (B7 (b.1,b.2,x.1,()))) (cond (x.1.1==4) ((Lu (x.1.2.2.2.2.2.2.2.2.1,x.1.2.2.2.2.2.2.2.2.2.2.1,x.1.2.2.2.2.2.1,x.1.2.2.2.1)).bind fun k=>cond (k.2==0) ((SK (k.1,x.1.2.2.2.2.1,x.1.2.2.2.2.2.2.1)).bind fun c=>A3 (B7 (c.1,c.2,x.1,()))) (A3 (B7 (k.1,k.2,x.1,())))) (cond (x.1.1==5) ((QM (x.1.2.2.2.2.2.2.2.2.2.2.1,x.1.2.2.2.2.2.2.2.1)).bind fun d=>A3 (B7 (d.1,d.2,x.1,()))) (A3 (B7 ([],0,x.1,()))))))))).bind fun i=>match i with |.inl f=>(cond (f.2.1 != 0) (A3 ([],f.2.1)) ((Pz (f.1,f.2.2.1.2.1)).bind fun g=>A3 (g.1,g.2))) |.inr h=>A3 (h.2.1,h.1)
def b1E:sG:=⟨[.v Hu,.v QI],[.o QI,.v QI],Ve⟩
def d1D:sF:=Qh [12,13,.own 6 6 QI,.sv 6 QL,7,.vp 2 Hu,5,.own 4 6 QI] [[3922,39,3,4]] [[15,0,56,1,192]] []
def TX(x:WW):Option (LI×Int):=(QJ (x.1,x.2)).bind fun g=>cond (!g) (A3 ([],1)) ((Ve (x.1,x.2)).bind fun h=>cond (h.2 != 0) (A3 ([],1)) (A3 (h.1,0)))
def b4R:sG:=⟨[.v Hu,.v QI],[.o QI,.v QI],TX⟩
def Yl(x:WW):Option Bool:=(TX (x.1,x.2)).bind fun h=>A3 (h.2==0)
def a3X:sG:=⟨[.v Hu,.v QI],[.v .bool],Yl⟩
def CR(x:Z7×Int):Option Z7:=(show Option c9M from cond (B8 x.1.2.1 8==0) (cond (AZ ((A8 x.1.1)+1)) (A3 (x.2,(B3 x.1.1 [0],x.1.2),())) A6) (A3 (x.2,x.1,()))).bind fun h=>cond (A4 (0<=(zB .i64 (B9 h.2.1.2.1 8)))&&A4 (zB .i64 (B9 h.2.1.2.1 8)<(h.2.1.1.length:Int))) (cond (A4 (zB .i64 (7-(B8 h.2.1.2.1 8))<0)) A6 (cond (A4 (0<=(zB .i64 (B9 h.2.1.2.1 8)))&&A4 (zB .i64 (B9 h.2.1.2.1 8)<(h.2.1.1.length:Int))) (A3 (C0 h.2.1.1 (A7 (zB .i64 (B9 h.2.1.2.1 8))) (bits .u8 .or (B4 h.2.1.1 (A7 (zB .i64 (B9 h.2.1.2.1 8))) 0) (AO .u8 h.1 (zB .i64 (7-(B8 h.2.1.2.1 8))))),zB .i64 (h.2.1.2.1+1),h.2.1.2.2)) A6)) A6
def dB:sG:=⟨[.r false (.b a3U),.v QV],[],CR⟩
def d5Y:sF:=Qh [.sv 1 QV,.box pinned a3U,Qp 0 pinned] [] [[1,0,7]] [(2,Qg 22 41254594833684711563530547 [])]
def FK(s:c5e):QO c5e b6n:=cond (A4 (s.2.1>=0)) (cond (A4 (s.2.1<0)) A6 ((CR (s.2.2.1,zB .u8 (bits .u64 .and (Au .u64 s.1 s.2.1) 1))).bind fun h=>A3 (.inl (s.1,zB .i64 (s.2.1-1),h,())))) (A3 (.inr (s.2.2.1,())))
def Ap(x:Z7×Int×Int):Option b9H:=(show Option (Int×Int×Bool×b6n)from cond (A4 (x.2.2<0)) (A3 (x.2.1,x.2.2,true,x.1,())) (cond (A4 (x.2.2 > 64)) (A3 (x.2.1,x.2.2,true,x.1,())) (cond (A4 (x.2.2<0)) A6 (A3 (x.2.1,x.2.2,(Au .u64 x.2.1 x.2.2) != 0,x.1,()))))).bind fun h=>cond h.2.2.1 (A3 (1,h.2.2.2.1)) ((Ah FK (h.1,zB .i64 (h.2.1-1),h.2.2.2.1,())).bind fun g=>A3 (0,g.1))
def dC:sG:=⟨[.r false (.b a3U),.v QU,.v QI],[.v QI],Ap⟩
def d5Z:sF:=Qh [.sv 1 QU,7,2,Qb 19,.box pinned a3U,Qp 0 pinned] [[58,51,2,16]] [[6,0,61]] []
def Ei(x:Z7×Int×Int):Option Z7:=cond (A4 (x.2.2<0)) A6 ((Ap (x.1,bits .u64 .and (zB .u64 x.2.1) (zB .u64 ((AO .u64 1 x.2.2)-1)),x.2.2)).bind fun h=>A3 h.2)
def nF:sG:=⟨[.r false (.b a3U),.v QI,.v QI],[],Ei⟩
def Ji(s:c0t):QO c0t b6n:=(fun(a b:Int)(c:Z7)=>cond (A4 (b<a)) ((Aq s.2.1 b).bind fun h=>(Ei (c,h,s.1)).bind fun g=>A3 (.inl (s.1,s.2.1,a,zB .i64 (b+1),g,()))) (A3 (.inr (c,())))) s.2.2.1 s.2.2.2.1 s.2.2.2.2.1
def Nk(x:Z7×DI):Option Z7:=(Ap (x.1,zB .u64 (zB .i64 ((x.2.2.2.2.2.2.1.length:Int)-1)),5)).bind fun f=>(Ap (f.2,zB .u64 x.2.2.2.2.1,4)).bind fun k=>(EY x.2.2.2.2.2.2.1).bind fun h=>(Ap (k.2,zB .u64 h,5)).bind fun a=>(Ah Ji (h,x.2.2.2.2.2.2.1,(x.2.2.2.2.2.2.1.length:Int),0,a.2,())).bind fun g=>A3 g.1
def rY:sG:=⟨[.r false (.b a3U),.v Hu],[],Nk⟩
def d6a:sF:=Qh [4,.sv 27 QL,28,29,.box pinned a3U,Qp 0 pinned] [[254,63,2,16]] [] []
def EB(s:c5e):QO c5e b6n:=cond (A4 (s.2.1<s.1)) ((CR (s.2.2.1,0)).bind fun h=>A3 (.inl (s.1,zB .i64 (s.2.1+1),h,()))) (A3 (.inr (s.2.2.1,())))
def Da(x:Z7×Int):Option b9H:=(show Option (Int×Bool×b6n)from cond (A4 (x.2<0)) (A3 (x.2,true,x.1,())) (A3 (x.2,A4 (x.2 > 4096),x.1,()))).bind fun h=>cond h.2.1 (A3 (1,h.2.2.1)) ((Ah EB (h.1,0,h.2.2.1,())).bind fun g=>(CR (g.1,1)).bind fun f=>A3 (0,f))
def YH:sG:=⟨[.r false (.b a3U),.v QI],[.v QI],Da⟩
def d1E:sF:=Qh [11,12,1,Qb 10,.box pinned a3U,Qp 0 pinned] [[58,51,2,48]] [[6,0,60]] []
def OQ(s:Int×LI×c3J):QO (Int×LI×c3J) ((Int×LI×b6n) ⊕ c9M):=(fun(a:LI)(b c:Int)(d:Z7)=>cond (A4 (c<b)) ((Aq a c).bind fun h=>(ME h).bind fun g=>cond (!g) (A3 (.inr (B6 (1,d,())))) (A3 (.inl (s.1,s.2.1,a,b,zB .i64 (c+1),d,())))) (A3 (.inr (B7 (s.1,s.2.1,d,()))))) s.2.2.1 s.2.2.2.1 s.2.2.2.2.1 s.2.2.2.2.2.1
def Lw(s:c0t):QO c0t b6n:=(fun(a:Int)(b:LI)(c d:Int)(e:Z7)=>cond (A4 (d<c)) ((Aq b d).bind fun i=>(Py i).bind fun h=>cond (A4 (a<0)) A6 (cond (A4 (Au .u64 h a<32)) ((Da (e,zB .i64 (Au .u64 h a))).bind fun j=>cond (A4 (a<0)) A6 ((Ap (j.2,zB .u64 (h-(AO .u64 (Au .u64 h a) a)),a)).bind fun g=>A3 (.inl (a,b,c,zB .i64 (d+1),g.2,())))) ((Da (e,32)).bind fun f=>(Ap (f.2,h,32)).bind fun k=>A3 (.inl (a,b,c,zB .i64 (d+1),k.2,()))))) (A3 (.inr (e,())))) s.1 s.2.1 s.2.2.1 s.2.2.2.1 s.2.2.2.2.1
def Vf(x:Z7×Int×LI):Option b9H:=(GX x.2.1).bind fun a=>cond (!a) (A3 (1,x.1)) ((Ah OQ (x.2.1,x.2.2,x.2.2,(x.2.2.length:Int),0,x.1,())).bind fun k=>match k with |.inl h=>((Ah Lw (h.1,h.2.1,(h.2.1.length:Int),0,h.2.2.1,())).bind fun g=>A3 (0,g.1)) |.inr f=>A3 (f.1,f.2.1))
def b1F:sG:=⟨[.r false (.b a3U),.v QI,.v QL],[.v QI],Vf⟩
def d1F:sF:=Qh [1,.sv 2 QL,.sv 16 QL,17,18,.sv 26 QL,27,28,6,.box pinned a3U,Qp 0 pinned] [[58,1567,2,1539,1,768],[122,1761,4,512]] [] []
def Nl(s:LI×Int×Int×Int×b7w):QO (LI×Int×Int×Int×b7w) b7w:=(fun(a b c:Int)(d:LI)(e f:Int)(g:LI)(h:Z7)(i:Z6)=>cond (A4 (f<e)) ((Aq d f).bind fun k=>cond (A4 (a<0)) A6 ((Ap (h,bits .u64 .and (zB .u64 k) (zB .u64 ((AO .u64 1 a)-1)),a)).bind fun j=>A3 (.inl (s.1,a,b,c,d,e,zB .i64 (f+1),g,j.2,i,())))) (A3 (.inr (s.1,b,c,g,h,i,())))) s.2.1 s.2.2.1 s.2.2.2.1 s.2.2.2.2.1 s.2.2.2.2.2.1 s.2.2.2.2.2.2.1 s.2.2.2.2.2.2.2.1 s.2.2.2.2.2.2.2.2.1 s.2.2.2.2.2.2.2.2.2.1
def GY(s:b7w):QO b7w b6n:=(fun(a:LI)(b c:Int)(d:LI)(e:Z7)(f:Z6)=>cond (A4 (c<b)) (cond (A4 (0<=c)&&A4 (c<(d.length:Int))) (cond (A4 (0<=(B4 d (A7 c) 0))&&A4 ((B4 d (A7 c) 0)<=(a.length:Int))) (cond (A4 (0<=(B4 d (A7 c) 0))&&A4 ((B4 d (A7 c) 0)<=(a.length:Int))) ((Aq f.2.1 c).bind fun j=>(Ap (e,zB .u64 j,5)).bind fun k=>(Aq f.2.1 c).bind fun l=>cond (l != 31) ((Aq f.2.1 c).bind fun m=>(Vf (k.2,m,C1 (A7 (B4 d (A7 c) 0)) a)).bind fun n=>A3 (.inl (C2 (A7 (B4 d (A7 c) 0)) (C1 (A8 a) a),b,zB .i64 (c+1),d,n.2,f,()))) ((EY (C1 (A7 (B4 d (A7 c) 0)) a)).bind fun i=>(Ap (k.2,zB .u64 i,5)).bind fun g=>(Ah Nl (C2 (A7 (B4 d (A7 c) 0)) (C1 (A8 a) a),i,b,c,C1 (A7 (B4 d (A7 c) 0)) a,((A8 (C1 (A7 (B4 d (A7 c) 0)) a):Nat):Int),0,d,g.2,f,())).bind fun h=>A3 (.inl (h.1,h.2.1,zB .i64 (h.2.2.1+1),h.2.2.2.1,h.2.2.2.2.1,h.2.2.2.2.2.1,())))) A6) A6) A6) (A3 (.inr (e,())))) s.1 s.2.1 s.2.2.1 s.2.2.2.1 s.2.2.2.2.1 s.2.2.2.2.2.1
def SL(x:Z7×c9x):Option b9H:=(HN (x.2.1,x.2.2.1,x.2.2.2.1,x.2.2.2.2)).bind fun f=>cond (f==0) (A3 (1,x.1)) ((Ap (x.1,zB .u64 x.2.1.1,4)).bind fun k=>(Gg (x.2.1.1,x.2.2.1,x.2.2.2.1)).bind fun g=>(Ah GY (x.2.2.2.2,(g.length:Int),0,g,k.2,x.2.1,())).bind fun h=>A3 (0,h.1))
def a8q:sG:=⟨[.r false (.b a3U),.v iA,.v QI,.v QI,.v QL],[.v QI],SL⟩
def d6b:sF:=Qh [.sv 4 QL,14,33,34,.sv 73 QL,74,75,.own 32 1032 QI,.box pinned a3U,Qp 0 pinned,.vp 6 iA] [[122,1933,2,256],[2005502,2047,4,1933]] [] []
def QP(s:Int×Int×LI×c0F):QO (Int×Int×LI×c0F) a2m:=(fun(a:LI)(b:Int)(c:Z7)(d:DI)=>cond (A4 (b<3)) ((Aq a b).bind fun h=>(Ei (c,h,8)).bind fun g=>A3 (.inl (s.1,s.2.1,a,zB .i64 (b+1),g,d,()))) (A3 (.inr (s.1,s.2.1,c,d,())))) s.2.2.1 s.2.2.2.1 s.2.2.2.2.1 s.2.2.2.2.2.1
def QQ(s:Int×Int×Z8×a2m):QO (Int×Int×Z8×a2m) a2m:=(fun(a:Z8)(b c:Int)(d:Z7)(e:DI)=>cond (A4 (c<b)) ((Aq a c).bind fun h=>(Ap (d,zB .u64 (zB .i64 (h.1-1)),5)).bind fun g=>(Ap (g.2,zB .u64 h.2.1,4)).bind fun f=>A3 (.inl (s.1,s.2.1,a,b,zB .i64 (c+1),f.2,e,()))) (A3 (.inr (s.1,s.2.1,d,e,())))) s.2.2.1 s.2.2.2.1 s.2.2.2.2.1 s.2.2.2.2.2.1 s.2.2.2.2.2.2.1
def QR(s:Int×Int×LI×a2m):QO (Int×Int×LI×a2m) c0F:=(fun(a:LI)(b c:Int)(d:Z7)(e:DI)=>cond (A4 (c<b)) ((Aq a c).bind fun h=>(Ei (d,h,s.2.1)).bind fun g=>A3 (.inl (s.1,s.2.1,a,b,zB .i64 (c+1),g,e,()))) (A3 (.inr (s.1,d,e,())))) s.2.2.1 s.2.2.2.1 s.2.2.2.2.1 s.2.2.2.2.2.1 s.2.2.2.2.2.2.1
def Ry(x:Z7×WW):Option b9H:=(Yl (x.2.1,x.2.2)).bind fun p=>cond (!p) (A3 (1,x.1)) ((EY x.2.1.2.2.2.2.2.2.2.2.1).bind fun d=>(Ap (x.1,zB .u64 x.2.1.1,3)).bind fun q=>(Ap (q.2,zB .u64 x.2.1.2.1,5)).bind fun r=>(Ap (r.2,zB .u64 d,5)).bind fun i=>(show Option a2m from(show Option (a2m ⊕ (a2m ⊕ a2m))from cond (x.2.1.1==2) ((Ap (i.2,zB .u64 x.2.1.2.2.1,3)).bind fun t=>A3 (B6 (B7 (x.2.2,d,t.2,x.2.1,())))) (cond (x.2.1.1==4) ((Ap (i.2,zB .u64 (zB .i64 (x.2.1.2.2.2.2.1-1)),10)).bind fun u=>(Ah QP (x.2.2,d,x.2.1.2.2.2.2.2.2.1,0,u.2,x.2.1,())).bind fun b=>A3 (B7 (b.1,b.2.1,b.2.2.1,b.2.2.2.1,()))) (cond (x.2.1.1==3) (A3 (B7 (x.2.2,d,i.2,x.2.1,()))) (cond (x.2.1.1==5) (A3 (B6 (B6 (x.2.2,d,i.2,x.2.1,())))) (A3 (B6 (B7 (x.2.2,d,i.2,x.2.1,())))))))).bind fun o=>match o with |.inl k=>((Nk (k.2.2.1,k.2.2.2.1)).bind fun l=>A3 (k.1,k.2.1,l,k.2.2.2.1,())) |.inr j=>(match j with |.inl a=>A3 (a.1,a.2.1,a.2.2.1,a.2.2.2.1,()) |.inr h=>((Ap (h.2.2.1,zB .u64 (h.2.2.2.1.2.2.2.2.2.2.2.1.length:Int),2)).bind fun m=>(Ah QQ (h.1,h.2.1,h.2.2.2.1.2.2.2.2.2.2.2.1,(h.2.2.2.1.2.2.2.2.2.2.2.1.length:Int),0,m.2,h.2.2.2.1,())).bind fun c=>A3 (c.1,c.2.1,c.2.2.1,c.2.2.2.1,())))).bind fun f=>(Ah QR (f.1,f.2.1,f.2.2.2.1.2.2.2.2.2.2.2.2.1,(f.2.2.2.1.2.2.2.2.2.2.2.2.1.length:Int),0,f.2.2.1,f.2.2.2.1,())).bind fun g=>(Nh g.2.2.1.1).bind fun n=>cond (!n) (A3 (0,g.2.1)) ((SL (g.2.1,g.2.2.1.2.2.2.2.2.2.2.2.2.1,g.1,(g.2.2.1.2.2.2.2.2.2.2.2.1.length:Int),g.2.2.1.2.2.2.2.2.2.2.2.2.2.1)).bind fun e=>A3 (e.1,e.2)))
def b4S:sG:=⟨[.r false (.b a3U),.v Hu,.v QI],[.v QI],Ry⟩
def d6c:sF:=Qh [2,7,.sv 94 QL,95,96,.sv 75 (.list false Q4),76,77,.sv 57 (.arr 3 QI),58,.box pinned a3U,Qp 0 pinned,.vp 4 Hu] [[2042,7199,11,7169],[32598,7395,9,7171],[260622,7939,7,7171]] [[127,0,7171],[4072,0,7171,2,7171,6,7171]] []
def Nm(x:Z7):Option b9H:=some (x.2.1,x)
def dD:sG:=⟨[.r false (.b a3U)],[.v QI],Nm⟩
def JK(x:WW):Option Int:=(Ry (([],0,()),x.1,x.2)).bind fun h=>cond (h.1 != 0) (A3 0) ((Nm h.2).bind fun g=>A3 g.1)
def b1G:sG:=⟨[.v Hu,.v QI],[.v QI],JK⟩
def Lx(s:LI×Int×Bool×Tw×c0J):QO (LI×Int×Bool×Tw×c0J) hZ:=(fun(a:LI)(b:Int)(c:Bool)(d:Tw)(e f:Int)(g h:DI)=>cond (A4 (f<e)) ((Aq d f).bind fun l=>(Vd (l.1,a,l)).bind fun i=>cond (i.2 != 0) (A3 (.inl (a,b,c,d,e,zB .i64 (f+1),g,h,()))) ((JK (i.1,(a.length:Int))).bind fun j=>(show Option (LI×Int×Bool×Int×Tw×Int×Int×Bool×c0M)from cond (!c) (A3 (a,b,c,j,d,e,f,true,g,h,i.1,())) (A3 (a,b,c,j,d,e,f,A4 (j<b),g,h,i.1,()))).bind fun k=>cond k.2.2.2.2.2.2.2.1 (A3 (.inl (k.1,k.2.2.2.1,true,k.2.2.2.2.1,k.2.2.2.2.2.1,zB .i64 (k.2.2.2.2.2.2.1+1),k.2.2.2.2.2.2.2.2.1,k.2.2.2.2.2.2.2.2.2.2.1,()))) (A3 (.inl (k.1,k.2.1,k.2.2.1,k.2.2.2.2.1,k.2.2.2.2.2.1,zB .i64 (k.2.2.2.2.2.2.1+1),k.2.2.2.2.2.2.2.2.1,k.2.2.2.2.2.2.2.2.2.1,()))))) (A3 (.inr (g,h,())))) s.1 s.2.1 s.2.2.1 s.2.2.2.1 s.2.2.2.2.1 s.2.2.2.2.2.1 s.2.2.2.2.2.2.1 s.2.2.2.2.2.2.2.1
def Cv(x:LI×Int):Option WW:=(show Option (LI×a7Y)from cond (A4 ((x.1.length:Int)<1)) (A3 (x.1,x.2,true,(0,0,0,0,0,[],A9 3 0,[],[],(0,[],()),[],()),())) (cond (A4 ((x.1.length:Int) > 4096)) (A3 (x.1,x.2,true,(0,0,0,0,0,[],A9 3 0,[],[],(0,[],()),[],()),())) (cond (A4 (x.2<0)) (A3 (x.1,x.2,true,(0,0,0,0,0,[],A9 3 0,[],[],(0,[],()),[],()),())) (A3 (x.1,x.2,A4 (x.2 > 3),(0,0,0,0,0,[],A9 3 0,[],[],(0,[],()),[],()),()))))).bind fun h=>cond h.2.2.1 (A3 ((0,0,0,0,0,[],A9 3 0,[],[],(0,[],()),[],()),1)) ((DC h.1).bind fun a=>cond (!a) (A3 ((0,0,0,0,0,[],A9 3 0,[],[],(0,[],()),[],()),6)) ((Ft h.1).bind fun b=>(Ln (h.1,b)).bind fun f=>cond (f.2 != 0) (A3 ((0,0,0,0,0,[],A9 3 0,[],[],(0,[],()),[],()),f.2)) ((Ks (f.1,h.2.1)).bind fun k=>(Ah Lx (h.1,0,false,k,(k.length:Int),0,h.2.2.2.1,(0,0,0,0,0,[],A9 3 0,[],[],(0,[],()),[],()),())).bind fun g=>A3 (g.2.1,0))))
def b1H:sG:=⟨[.v QL,.v QI],[.v Hu,.v QI],Cv⟩
def d6d:sF:=Qh [.sv 0 QL,9,Qb 10,1,Qb 31,15,.sv 50 (.list false Hu),51,52,Qb 76,.box 4 Hu,.box 8 Hu,.box 13 Hu,Qp 4 4,Qp 8 8,Qp 13 13] [[2042,28103,2,27648]] [[6,0,9241],[1045711,0,65511]] []
def Ir(s:Int×(List LI)×Int×b4N):QO (Int×(List LI)×Int×b4N) (c0N ⊕ (Int×rO)):=(fun(a b:Int)(c d:Mk)=>cond (A4 (b<a)) ((Aq s.2.1 b).bind fun g=>(Cv (g,s.1)).bind fun h=>cond (h.2 != 0) (A3 (.inr (B6 (h.2,(0,0,(0,0,0,()),[],[],()),())))) (cond (AZ ((A8 d.2.2.2.2.1)+1)) (A3 (.inl (s.1,s.2.1,a,zB .i64 (b+1),c,(d.1,d.2.1,d.2.2.1,d.2.2.2.1,B3 d.2.2.2.2.1 ([h.1]:List DI),d.2.2.2.2.2),()))) A6)) (A3 (.inr (B7 (c,d,()))))) s.2.2.1 s.2.2.2.1 s.2.2.2.2.1 s.2.2.2.2.2.1
def HO(x:UF×Z9×Int×Int):Option c0H:=(show Option (Int×Int×Bool×Mk×c3M)from(Hy x.1).bind fun d=>cond (!d) (A3 (x.2.2.1,x.2.2.2,true,(0,0,(0,0,0,()),[],[],()),x.1,x.2.1,())) ((DB x.2.1).bind fun e=>cond (!e) (A3 (x.2.2.1,x.2.2.2,true,(0,0,(0,0,0,()),[],[],()),x.1,x.2.1,())) (cond (x.1.1 != x.2.1.2.2.1) (A3 (x.2.2.1,x.2.2.2,true,(0,0,(0,0,0,()),[],[],()),x.1,x.2.1,())) (cond ((x.1.2.1.length:Int) != x.2.1.2.1) (A3 (x.2.2.1,x.2.2.2,true,(0,0,(0,0,0,()),[],[],()),x.1,x.2.1,())) (cond (A4 (x.2.2.2<0)) (A3 (x.2.2.1,x.2.2.2,true,(0,0,(0,0,0,()),[],[],()),x.1,x.2.1,())) (cond (A4 (x.2.2.2 > 3)) (A3 (x.2.2.1,x.2.2.2,true,(0,0,(0,0,0,()),[],[],()),x.1,x.2.1,())) (A3 (x.2.2.1,x.2.2.2,A4 (x.2.2.1<0),(0,0,(0,0,0,()),[],[],()),x.1,x.2.1,())))))))).bind fun h=>cond h.2.2.1 (A3 ((0,0,(0,0,0,()),[],[],()),1)) ((Hx h.2.2.2.2.1).bind fun c=>cond (A4 (h.1 > (zB .i64 (4194304-c)))) (A3 ((0,0,(0,0,0,()),[],[],()),4)) ((show Option (Int×Mk×Mk×c0k)from cond (A4 (h.2.1 > 0)) ((Hz h.2.2.2.2.1).bind fun i=>A3 (h.2.1,h.2.2.2.1,(h.1,c,h.2.2.2.2.2.1,i,[],()),h.2.2.2.2.1,())) (A3 (h.2.1,h.2.2.2.1,(h.1,c,h.2.2.2.2.2.1,[],[],()),h.2.2.2.2.1,()))).bind fun f=>(Rx (f.2.2.2.1.2.1,f.2.2.1.2.2.2.1)).bind fun k=>cond (k.2 != 0) (A3 ((0,0,(0,0,0,()),[],[],()),k.2)) ((Ah Ir (f.1,k.1,(k.1.length:Int),0,f.2.1,f.2.2.1,())).bind fun b=>match b with |.inl a=>A3 (a.2.1,0) |.inr g=>A3 (g.2.1,g.1))))
def a5W:sG:=⟨[.v Vb,.v EP,.v QI,.v QI],[.v TI,.v QI],HO⟩
def d6e:sF:=Qh [9,2,3,.sv 81 (.list false QL),82,83,Qb 51,.box 8 TI,.box 10 d0H,.vp 4 Vb,.vp 5 EP,Qp 8 8,Qp 10 10] [[2042,6588,2,6528,1,2177]] [[6,0,3782],[31,0,7044]] [(3,Qg 7 34603008 [])]
def OR(x:Mk):Option Bool:=(DB x.2.2.1).bind fun h=>cond h (cond (A4 (x.2.1>=1)) (cond (A4 (x.2.1<=4096)) (cond (A4 (x.1>=0)) (cond (A4 (x.1<=(zB .i64 (4194304-x.2.1)))) ((Ox (x.2.2.2.1,x.2.2.1.2.1)).bind fun g=>A3 g) (A3 false)) (A3 false)) (A3 false)) (A3 false)) (A3 false)
def YY:sG:=⟨[.v TI],[.v .bool],OR⟩
def JL(k:Int)(v:Z9)(s:(UG×c5f)):Option ((UG×c5f) ⊕ (Ex×UG×c5f)):=(MY (s.2.2.2.1,v,(-1))).bind fun h=>cond (!h.1) (A3 (.inr (.ret,s.1,([]:(List LI)),6,h.2,()))) (A3 (.inl (s.1,s.2.1,s.2.2.1,h.2,())))
def SM(x:c5g):Option Z1:=(show Option ((List LI)×UG×Bool×c2e)from(MA x.1).bind fun k=>cond (!k) (A3 (x.1,x.2,true,([]:(List LI)),0,())) ((Ox (x.2,(x.1.length:Int))).bind fun a=>A3 (x.1,x.2,!a,([]:(List LI)),0,()))).bind fun h=>cond h.2.2.1 (A3 (([]:(List LI)),1)) ((Lm h.1).bind fun b=>cond (AZ (A8 h.2.1)) ((RT JL h.2.1 (A8 h.2.1) (h.2.1,h.2.2.2.1,h.2.2.2.2.1,b,())).bind fun f=>match f with |.inl g=>A3 (g.2.2.2.1,0) |.inr (.normal,a8)=>A3 (a8.2.2.2.1,0) |.inr (.exit e9,a8)=>(cond (e9==0) (A3 (a8.2.2.2.1,0)) A6) |.inr (.ret,a8)=>A3 (a8.2.1,a8.2.2.1)) A6)
def SN:sG:=⟨[.v (.list false QL),.v (.list false EP)],[.v (.list false QL),.v QI],SM⟩
def d1G:sF:=Qh [.sv 0 (.list false QL),.sv 1 (.list false EP),Qb 18,.box 4 (.list false QL),.box 5 QI,Qp 4 4,Qp 5 5] [] [[6,0,127]] []
def c2m:Cx:=Gs [(80,kL),(81,rP),(82,YW),(83,cW)] [(6,.list true (.list true QI))] 3 536870912
def c5w:vF:=⟨21,EP,193,250,[4,5,6],[.sv 21 (.list false EP),.box 1001004 (.list false QL),.box 1001005 QI,.box 1001006 (.list true (.list true QI)),.ptr 4 1001004 [],.ptr 5 1001005 [],.ptr 6 1001006 []]⟩
theorem c5x(x):b3r c2m d1G c5w Tryz.f138 SN.ps SN.rs x=SN.F x:=by kernel_rfl
def GZ(s:Tw×Int×c0I):QO (Tw×Int×c0I) (c3P ⊕ c3E):=(fun(a:Int)(b:List LI)(c:UF)(d:Mk)=>cond (A4 (a<s.2.1)) ((Aq s.1 a).bind fun g=>(TX (g,d.2.1)).bind fun h=>cond (h.2 != 0) (A3 (.inr (B6 (1,(0,([]:(List LI)),()),())))) (cond (AZ ((A8 b)+1)) (A3 (.inl (s.1,s.2.1,zB .i64 (a+1),B3 b ([h.1]:List LI),c,d,()))) A6)) (A3 (.inr (B7 (b,c,d,()))))) s.2.2.1 s.2.2.2.1 s.2.2.2.2.1 s.2.2.2.2.2.1
def Gk(x:Mk):Option (UF×Int):=(show Option (Bool×c3O)from(OR x).bind fun b=>cond (!b) (A3 (true,(0,([]:(List LI)),()),x,())) (A3 ((x.2.2.2.2.1.length:Int) != x.2.2.1.2.1,(0,([]:(List LI)),()),x,()))).bind fun h=>cond h.1 (A3 ((0,([]:(List LI)),()),1)) (cond (A4 (0<=(h.2.2.1.2.2.2.2.1.length:Int))&&AZ (A7 (h.2.2.1.2.2.2.2.1.length:Int))) ((Ah GZ (h.2.2.1.2.2.2.2.1,(h.2.2.1.2.2.2.2.1.length:Int),0,([]:(List LI)),h.2.1,h.2.2.1,())).bind fun a=>match a with |.inl g=>((SM (g.1,g.2.2.1.2.2.2.1)).bind fun f=>cond (f.2 != 0) (A3 ((0,([]:(List LI)),()),1)) ((Hy (g.2.2.1.2.2.1.2.2.1,f.1,())).bind fun c=>cond (!c) (A3 ((0,([]:(List LI)),()),1)) (A3 ((g.2.2.1.2.2.1.2.2.1,f.1,()),0)))) |.inr k=>A3 (k.2.1,k.1)) A6)
def YZ:sG:=⟨[.v TI],[.v Vb,.v QI],Gk⟩
def d6f:sF:=Qh [.sv 30 (.list false Hu),31,32,.own 4 4 QL,3,Qb 23,.box 2 Vb,.vp 1 TI,Qp 2 2] [[122,463,2,456,1,336]] [[6,0,480]] []
def MG(x:Mk):Option Bool:=(Gk x).bind fun h=>A3 (h.2==0)
def kS:sG:=⟨[.v TI],[.v .bool],MG⟩
def EC(s:b6n):QO b6n b6n:=cond ((B8 s.1.2.1 8) != 0) ((CR (s.1,0)).bind fun h=>A3 (.inl (h,()))) (A3 (.inr (s.1,())))
def Gx(x:Z7):Option Z7:=(Ah EC (x,())).bind fun h=>A3 h.1
def YI:sG:=⟨[.r false (.b a3U)],[],Gx⟩
def d6g:sF:=Qh [.box pinned a3U,Qp 0 pinned] [[2,3,2,1]] [] []
def Gy(x:Z7):Option c9o:=cond (AZ (A8 x.1)) (A3 (x.1,x)) A6
def YJ:sG:=⟨[.r false (.b a3U)],[.o QV],Gy⟩
def Nn(s:b3t):QO b3t b3t:=(fun(a b c:Int)(d:LI)=>cond (A4 (a>=128)) (cond (AZ ((A8 d)+1)) (A3 (.inl (zB .u64 (B9 a 128),s.2.1,b,c,B3 d [zB .u8 ((zB .u8 (B8 a 128))+128)],()))) A6) (A3 (.inr (a,s.2.1,b,c,d,())))) s.1 s.2.2.1 s.2.2.2.1 s.2.2.2.2.1
def Np(s:b1w):QO b1w (LI×Unit):=cond (A4 (s.2.2.1<s.2.1)) ((Aq s.1 s.2.2.1).bind fun g=>(Ah Nn (g,s.1,s.2.1,s.2.2.1,s.2.2.2.1,())).bind fun h=>cond (AZ ((A8 h.2.2.2.2.1)+1)) (A3 (.inl (h.2.1,h.2.2.1,zB .i64 (h.2.2.2.1+1),B3 h.2.2.2.2.1 [zB .u8 h.1],()))) A6) (A3 (.inr (s.2.2.2.1,())))
def PB(x:LI):Option LI:=(Ah Np (x,(x.length:Int),0,[],())).bind fun h=>A3 h.1
def a8r:sG:=⟨[.v (.list false QU)],[.o QV],PB⟩
def d6h:sF:=Qh [.sv 5 QU,.sv 6 (.list false QU),7,8,.own 3 3 QV] [[58,30,2,16],[14948,31,4,31]] [] []
def SO(x:Int):Option Int:=cond (A4 (x>=0)) (A3 (zB .u64 (2*(zB .u64 x)))) (A3 (zB .u64 ((zB .u64 (2*(zB .u64 (zB .i64 (0-(zB .i64 (x+1)))))))+1)))
def a8s:sG:=⟨[.v QI],[.v QU],SO⟩
def PU(s:c4L):QO c4L a5F:=(fun(a:Int)(b:LI)(c d e:Int)=>cond (A4 (e<8)) (cond (Au .u8 a 7==1) (A3 (.inl (bits .u8 .xor (AO .u8 a 1) 7,b,c,d,zB .i64 (e+1),()))) (A3 (.inl (AO .u8 a 1,b,c,d,zB .i64 (e+1),())))) (A3 (.inr (a,b,c,d,())))) s.1 s.2.1 s.2.2.1 s.2.2.2.1 s.2.2.2.2.1
def LR(s:a5F):Option c3H:=(fun(a b:Int)=>cond (A4 (b<a)) ((Aq s.2.1 b).bind fun g=>(Ah PU (bits .u8 .xor s.1 g,s.2.1,a,b,0,())).bind fun h=>A3 (.inl (h.1,h.2.1,h.2.2.1,zB .i64 (h.2.2.2.1+1),()))) (A3 (.inr (s.1,())))) s.2.2.1 s.2.2.2.1
def QS(x:LI):Option Int:=(Ah LR (0,x,(x.length:Int),0,())).bind fun h=>A3 h.1
def dG:sG:=⟨[.v QB],[.v QV],QS⟩
def d6i:sF:=Qh [.sv 3 QV,.sv 7 QB,8,9,16] [[58,15,2,1],[29902,31,4,15]] [] []
def HP(s:Int×UG×a3T):QO (Int×UG×a3T) Z6:=(fun(a b:Int)(c:LI)=>cond (A4 (b<a)) ((Aq s.2.1 b).bind fun h=>(SO h.2.2.1).bind fun g=>cond (AZ ((A8 c)+3)) (A3 (.inl (s.1,s.2.1,a,zB .i64 (b+1),B3 c [zB .u64 h.1,zB .u64 h.2.1,g],()))) A6) (A3 (.inr (s.1,c,())))) s.2.2.1 s.2.2.2.1 s.2.2.2.2.1
def LS(x:c0H):Option LI:=(Ah HP (x.2,x.1.2.2.2.1,(x.1.2.2.2.1.length:Int),0,([zB .u64 x.1.1,zB .u64 x.1.2.1,zB .u64 x.1.2.2.1.1,zB .u64 x.1.2.2.1.2.1,zB .u64 x.1.2.2.1.2.2.1,zB .u64 (x.1.2.2.2.1.length:Int)]:List Int),())).bind fun g=>cond (AZ ((A8 g.2.1)+1)) ((PB (B3 g.2.1 [zB .u64 g.1])).bind fun h=>cond (AZ (2+(A8 h))) ((QS (B3 [245,75] h)).bind fun f=>cond (AZ ((A8 (B3 [245,75] h))+1)) (A3 (B3 (B3 [245,75] h) [f])) A6) A6) A6
def nG:sG:=⟨[.v TI,.v QI],[.o QV],LS⟩
def d6j:sF:=Qh [1,.sv 33 (.list false EP),34,35,.own 5 5 QU] [[58,31,2,17]] [] [(5,Qg 13 599238401655057 [])]
def Ly(x:Int):Option Int:=some (En (DH x 0) 8)
def Za:sG:=⟨[.v QI],[.v QI],Ly⟩
def Cz(s:c2f):QO c2f (LI×Unit):=cond (A4 (s.2.2.1<s.2.1)) (cond (AZ ((A8 s.2.2.2.1)+1)) (A3 (.inl (zB .u64 (B9 s.1 256),s.2.1,zB .i64 (s.2.2.1+1),B3 s.2.2.2.1 [zB .u8 (B8 s.1 256)],()))) A6) (A3 (.inr (s.2.2.2.1,())))
def IS(x:Int×Int):Option LI:=(Ly x.2).bind fun g=>(Ah Cz (x.1,g,0,[],())).bind fun h=>A3 h.1
def a2C:sG:=⟨[.v QU,.v QI],[.o QV],IS⟩
def d1H:sF:=Qh [.sv 0 QU,7,8,.own 5 5 QV] [[58,15,2,8]] [] []
def Cn(x:LI):Option LI:=cond (A4 (A8 x<2147483648)) (A3 (C9 x)) A6
def PC:sG:=⟨[.r false (.o QV)],[],Cn⟩
def HA(x:Int×Int):Option LI:=(IS (x.1,x.2)).bind fun h=>(Cn h).bind fun g=>A3 g
def a8t:sG:=⟨[.v QU,.v QI],[.o QV],HA⟩
def Nq(s:c4L):QO c4L a5F:=(fun(a:Int)(b:LI)(c d e:Int)=>cond (A4 (e<8)) (cond (Au .u16 a 15==1) (A3 (.inl (bits .u16 .xor (AO .u16 a 1) 32773,b,c,d,zB .i64 (e+1),()))) (A3 (.inl (AO .u16 a 1,b,c,d,zB .i64 (e+1),())))) (A3 (.inr (a,b,c,d,())))) s.1 s.2.1 s.2.2.1 s.2.2.2.1 s.2.2.2.2.1
def Jj(s:a5F):Option c3H:=(fun(a b:Int)=>cond (A4 (b<a)) ((Aq s.2.1 b).bind fun g=>(Ah Nq (bits .u16 .xor s.1 (AO .u16 (zB .u16 g) 8),s.2.1,a,b,0,())).bind fun h=>A3 (.inl (h.1,h.2.1,h.2.2.1,zB .i64 (h.2.2.2.1+1),()))) (A3 (.inr (s.1,())))) s.2.2.1 s.2.2.2.1
def Nr(x:LI):Option Int:=(Ah Jj (0,x,(x.length:Int),0,())).bind fun h=>A3 h.1
def WY:sG:=⟨[.v QB],[.v (.int .u16)],Nr⟩
def d6k:sF:=Qh [.sv 3 (.int .u16),.sv 7 QB,8,9,18] [[58,15,2,1],[29902,31,4,15]] [] []
def Ns(s:Tw×Int×Int×Z7×rO):QO (Tw×Int×Int×Z7×rO) ((Z7×rO) ⊕ Z6):=(fun(a:Int)(b:Z7)(c:Mk)=>cond (A4 (a<s.2.1)) ((Aq s.1 a).bind fun g=>(Ry (b,g,c.2.1)).bind fun h=>cond (h.1 != 0) (A3 (.inr (B6 (h.1,[],())))) (A3 (.inl (s.1,s.2.1,zB .i64 (a+1),h.2,c,())))) (A3 (.inr (B7 (b,c,()))))) s.2.2.1 s.2.2.2.1 s.2.2.2.2.1
def EL(x:Mk):Option (LI×Int):=(MG x).bind fun d=>cond (!d) (A3 ([],1)) ((Ah Ns (x.2.2.2.2.1,(x.2.2.2.2.1.length:Int),0,([],0,()),x,())).bind fun c=>match c with |.inl a=>((Gx a.1).bind fun e=>(Gy e).bind fun g=>(LS (a.2.1,(g.1.length:Int))).bind fun f=>cond (AZ ((A8 f)+(A8 g.1))) ((Nr (B3 f g.1)).bind fun k=>(HA (zB .u64 k,2)).bind fun h=>cond (AZ ((A8 (B3 f g.1))+(A8 h))) (A3 (B3 (B3 f g.1) h,0)) A6) A6) |.inr b=>A3 (b.2.1,b.1))
def a8u:sG:=⟨[.v TI],[.o QV,.v QI],EL⟩
def d6l:sF:=Qh [.sv 14 (.list false Hu),15,16,.box 4 a3U,.vp 1 TI,Qp 4 4,3,.own 2 2 QV] [[122,63,2,56,1,192]] [] []
def Jk(x:Int×Int):Option (Int×Int):=some (zB .u64 ((zB .u64 ((zB .u64 ((Au .u64 x.1 32)*(Au .u64 x.2 32)))+(Au .u64 (zB .u64 ((zB .u64 ((Au .u64 x.1 32)*(bits .u64 .and x.2 4294967295)))+(Au .u64 (zB .u64 ((bits .u64 .and x.1 4294967295)*(bits .u64 .and x.2 4294967295))) 32))) 32)))+(Au .u64 (zB .u64 ((bits .u64 .and (zB .u64 ((zB .u64 ((Au .u64 x.1 32)*(bits .u64 .and x.2 4294967295)))+(Au .u64 (zB .u64 ((bits .u64 .and x.1 4294967295)*(bits .u64 .and x.2 4294967295))) 32))) 4294967295)+(zB .u64 ((bits .u64 .and x.1 4294967295)*(Au .u64 x.2 32))))) 32)),zB .u64 (x.1*x.2))
def dH:sG:=⟨[.v QU,.v QU],[.v QU,.v QU],Jk⟩
def Nt(x:Int×Int×Int):Option (Int×Int):=cond (A4 (x.2.2.toNat<=1)) (A3 ((((x.1.toNat+x.2.1.toNat+x.2.2.toNat)%18446744073709551616:Nat):Int),(((x.1.toNat+x.2.1.toNat+x.2.2.toNat) / 18446744073709551616:Nat):Int))) A6
def dI:sG:=⟨[.v QU,.v QU,.v QU],[.v QU,.v QU],Nt⟩
def c5y:sF:=Qh [.sv 0 QU,2] [] [[3,0,3],[7,0,3],[15,0,3]] []
def SP:sG:=YF (Gs [] [] 5 0) c5y Tryz.f251 [.v QU] [.v QI]
def dJ(x:Int):Option Int:=SP.F x
def EZ(x:Int):Option Int:=(dJ x).bind fun h=>A3 (zB .i64 (64-h))
def RV:sG:=⟨[.v QU],[.v QI],EZ⟩
def CA(s:b4J):QO b4J c3K:=(show Option (b4J ⊕ c3K)from cond (A4 (s.2.2.2.2.2.2.2.1>=4294967296)) (A3 (B7 (s.1,s.2.1,s.2.2.1,s.2.2.2.1,s.2.2.2.2.1,s.2.2.2.2.2.1,s.2.2.2.2.2.2.1,s.2.2.2.2.2.2.2.1,s.2.2.2.2.2.2.2.2.1,()))) (cond (A4 ((zB .u64 (s.2.2.2.2.2.2.2.1*s.2.2.2.1)) > (zB .u64 ((zB .u64 (4294967296*s.2.2.2.2.2.2.2.2.1))+s.2.2.2.2.2.1)))) (A3 (B7 (s.1,s.2.1,s.2.2.1,s.2.2.2.1,s.2.2.2.2.1,s.2.2.2.2.2.1,s.2.2.2.2.2.2.1,s.2.2.2.2.2.2.2.1,s.2.2.2.2.2.2.2.2.1,()))) (A3 (B6 (s.1,s.2.1,s.2.2.1,s.2.2.2.1,s.2.2.2.2.1,s.2.2.2.2.2.1,s.2.2.2.2.2.2.1,s.2.2.2.2.2.2.2.1,()))))).bind fun f=>match f with |.inl h=>(cond (A4 ((zB .u64 (h.2.2.2.2.2.2.2.2.1+h.2.2.1))>=4294967296)) (A3 (.inr (h.1,h.2.1,h.2.2.1,h.2.2.2.1,h.2.2.2.2.1,h.2.2.2.2.2.1,h.2.2.2.2.2.2.1,zB .u64 (h.2.2.2.2.2.2.2.1-1),()))) (A3 (.inl (h.1,h.2.1,h.2.2.1,h.2.2.2.1,h.2.2.2.2.1,h.2.2.2.2.2.1,h.2.2.2.2.2.2.1,zB .u64 (h.2.2.2.2.2.2.2.1-1),zB .u64 (h.2.2.2.2.2.2.2.2.1+h.2.2.1),())))) |.inr g=>A3 (.inr (g.1,g.2.1,g.2.2.1,g.2.2.2.1,g.2.2.2.2.1,g.2.2.2.2.2.1,g.2.2.2.2.2.2.1,g.2.2.2.2.2.2.2.1,()))
def CB(s:b4J):QO b4J c4M:=(show Option (b4J ⊕ c4M)from cond (A4 (s.2.2.2.2.2.2.2.2.1>=4294967296)) (A3 (B7 (s.1,s.2.1,s.2.2.1,s.2.2.2.1,s.2.2.2.2.1,s.2.2.2.2.2.1,s.2.2.2.2.2.2.1,s.2.2.2.2.2.2.2.1,s.2.2.2.2.2.2.2.2.1,()))) (cond (A4 ((zB .u64 (s.2.2.2.2.2.2.2.2.1*s.2.2.2.1)) > (zB .u64 ((zB .u64 (4294967296*s.2.2.2.2.2.2.1))+s.2.2.2.2.1)))) (A3 (B7 (s.1,s.2.1,s.2.2.1,s.2.2.2.1,s.2.2.2.2.1,s.2.2.2.2.2.1,s.2.2.2.2.2.2.1,s.2.2.2.2.2.2.2.1,s.2.2.2.2.2.2.2.2.1,()))) (A3 (B6 (s.1,s.2.1,s.2.2.2.2.1,s.2.2.2.2.2.1,s.2.2.2.2.2.2.2.1,s.2.2.2.2.2.2.2.2.1,()))))).bind fun f=>match f with |.inl h=>(cond (A4 ((zB .u64 (h.2.2.2.2.2.2.1+h.2.2.1))>=4294967296)) (A3 (.inr (h.1,h.2.1,h.2.2.2.2.1,h.2.2.2.2.2.1,h.2.2.2.2.2.2.2.1,zB .u64 (h.2.2.2.2.2.2.2.2.1-1),()))) (A3 (.inl (h.1,h.2.1,h.2.2.1,h.2.2.2.1,h.2.2.2.2.1,h.2.2.2.2.2.1,zB .u64 (h.2.2.2.2.2.2.1+h.2.2.1),h.2.2.2.2.2.2.2.1,zB .u64 (h.2.2.2.2.2.2.2.2.1-1),())))) |.inr g=>A3 (.inr (g.1,g.2.1,g.2.2.1,g.2.2.2.1,g.2.2.2.2.1,g.2.2.2.2.2.1,()))
def DY(x:Int×Int×Int):Option (Int×Int):=cond (x.2.2==0) A6 (cond (A4 (x.2.2<=x.1)) A6 (cond (x.1==0) (cond (x.2.2==0) A6 (cond (x.2.2==0) A6 (A3 (zB .u64 (B9 x.2.1 x.2.2),B8 x.2.1 x.2.2)))) ((EZ x.2.2).bind fun g=>cond (A4 (zB .u64 g<0)) A6 (cond (A4 (zB .u64 g<0)) A6 (cond (A4 (zB .u64 (64-(zB .u64 g))<0)) A6 (cond (A4 (zB .u64 g<0)) A6 (cond (Au .u64 (AO .u64 x.2.2 (zB .u64 g)) 32==0) A6 ((Ah CA (AO .u64 x.2.2 (zB .u64 g),zB .u64 g,Au .u64 (AO .u64 x.2.2 (zB .u64 g)) 32,bits .u64 .and (AO .u64 x.2.2 (zB .u64 g)) 4294967295,bits .u64 .or (AO .u64 x.1 (zB .u64 g)) (Au .u64 x.2.1 (zB .u64 (64-(zB .u64 g)))),Au .u64 (AO .u64 x.2.1 (zB .u64 g)) 32,bits .u64 .and (AO .u64 x.2.1 (zB .u64 g)) 4294967295,zB .u64 (B9 (bits .u64 .or (AO .u64 x.1 (zB .u64 g)) (Au .u64 x.2.1 (zB .u64 (64-(zB .u64 g))))) (Au .u64 (AO .u64 x.2.2 (zB .u64 g)) 32)),zB .u64 ((bits .u64 .or (AO .u64 x.1 (zB .u64 g)) (Au .u64 x.2.1 (zB .u64 (64-(zB .u64 g)))))-(zB .u64 ((zB .u64 (B9 (bits .u64 .or (AO .u64 x.1 (zB .u64 g)) (Au .u64 x.2.1 (zB .u64 (64-(zB .u64 g))))) (Au .u64 (AO .u64 x.2.2 (zB .u64 g)) 32)))*(Au .u64 (AO .u64 x.2.2 (zB .u64 g)) 32)))),())).bind fun h=>cond (h.2.2.1==0) A6 ((Ah CB (h.1,h.2.1,h.2.2.1,h.2.2.2.1,h.2.2.2.2.2.2.1,h.2.2.2.2.2.2.2.1,zB .u64 ((zB .u64 ((zB .u64 ((zB .u64 (h.2.2.2.2.1*4294967296))+h.2.2.2.2.2.1))-(zB .u64 (h.2.2.2.2.2.2.2.1*h.1))))-(zB .u64 ((zB .u64 (B9 (zB .u64 ((zB .u64 ((zB .u64 (h.2.2.2.2.1*4294967296))+h.2.2.2.2.2.1))-(zB .u64 (h.2.2.2.2.2.2.2.1*h.1)))) h.2.2.1))*h.2.2.1))),zB .u64 ((zB .u64 ((zB .u64 (h.2.2.2.2.1*4294967296))+h.2.2.2.2.2.1))-(zB .u64 (h.2.2.2.2.2.2.2.1*h.1))),zB .u64 (B9 (zB .u64 ((zB .u64 ((zB .u64 (h.2.2.2.2.1*4294967296))+h.2.2.2.2.2.1))-(zB .u64 (h.2.2.2.2.2.2.2.1*h.1)))) h.2.2.1),())).bind fun f=>cond (A4 (f.2.1<0)) A6 (A3 (zB .u64 ((zB .u64 (f.2.2.2.1*4294967296))+f.2.2.2.2.2.1),Au .u64 (zB .u64 ((zB .u64 ((zB .u64 (f.2.2.2.2.1*4294967296))+f.2.2.1))-(zB .u64 (f.2.2.2.2.2.1*f.1)))) f.2.1)))))))))))
def dK:sG:=⟨[.v QU,.v QU,.v QU],[.v QU,.v QU],DY⟩
def d1I:sF:=Qh [.sv 2 QU,.sv 8 QU,.sv 9 QU,.sv 10 QU,.sv 11 QU,.sv 13 QU,.sv 14 QU,.sv 15 QU,.sv 16 QU,.sv 17 QU,.sv 18 QU] [[131068,511,2,255],[2097148,1999,4,1731]] [[262136,0,511,2,255],[4194296,0,1999,4,1731]] [(6,Qg 8 536870912 [])]
def Nu(x:Int×Int×Int):Option Int:=cond (x.2.2==0) A6 ((DY (B8 x.1 x.2.2,x.2.1,x.2.2)).bind fun h=>A3 h.2)
def dL:sG:=⟨[.v QU,.v QU,.v QU],[.v QU],Nu⟩
def JM(x:Int×Int×Int):Option Int:=(Jk (x.1,x.2.1)).bind fun h=>(Nt (h.2,x.2.2,0)).bind fun g=>(Nu (zB .u64 (h.1+g.2),g.1,2305843009213693951)).bind fun f=>A3 f
def a8v:sG:=⟨[.v QU,.v QU,.v QU],[.v QU],JM⟩
def LU(s:a5F):Option c3H:=(fun(a b:Int)=>cond (A4 (b<a)) ((Aq s.2.1 b).bind fun h=>(JM (s.1,1000003,zB .u64 ((zB .u64 h)+1))).bind fun g=>A3 (.inl (g,s.2.1,a,zB .i64 (b+1),()))) (A3 (.inr (s.1,())))) s.2.2.1 s.2.2.2.1
def Kx(x:LI):Option Int:=(Ah LU (0,x,(x.length:Int),0,())).bind fun h=>A3 h.1
def dM:sG:=⟨[.v QB],[.v QU],Kx⟩
def d6m:sF:=Qh [.sv 3 QU,.sv 6 QB,7,8] [[58,15,2,1]] [] []
def Ky(s:Int×Int×Int×(List LI)×b1y):QO (Int×Int×Int×(List LI)×b1y) b1y:=(fun(a:Int)(b:List LI)(c d:Int)(e:LI)(f:UF)=>cond (A4 (d<c)) ((Aq b d).bind fun h=>(Aq h s.1).bind fun g=>cond (AZ ((A8 e)+1)) (A3 (.inl (s.1,s.2.1,a,b,c,zB .i64 (d+1),B3 e [g],f,()))) A6) (A3 (.inr (s.2.1,a,e,f,())))) s.2.2.1 s.2.2.2.1 s.2.2.2.2.1 s.2.2.2.2.2.1 s.2.2.2.2.2.2.1 s.2.2.2.2.2.2.2.1
def Kz(s:b1y):QO b1y (LI×Unit):=cond (A4 (s.2.1<s.1)) ((Ah Ky (s.2.1,s.1,s.2.1,s.2.2.2.1.2.1,(s.2.2.2.1.2.1.length:Int),0,s.2.2.1,s.2.2.2.1,())).bind fun h=>A3 (.inl (h.1,zB .i64 (h.2.1+1),h.2.2.1,h.2.2.2.1,()))) (A3 (.inr (s.2.2.1,())))
def OS(x:UF):Option LI:=(Hy x).bind fun g=>cond (!g) (A3 []) ((Hx x).bind fun f=>(Ah Kz (f,0,[],x,())).bind fun h=>A3 h.1)
def Tz:sG:=⟨[.v Vb],[.o QI],OS⟩
def d6n:sF:=Qh [4,11,12,.sv 16 (.list false QL),17,18,.own 3 3 QI,.vp 1 Vb] [[122,198,2,64],[31334,255,4,198]] [] []
def Ha(s:Int×Int×Int×LI×c9v):QO (Int×Int×Int×LI×c9v) b1x:=(fun(a:Int)(b:LI)(c d e f:Int)(g:LI)=>cond (A4 (f<e)) (cond (A4 (zB .i64 (8*f)<0)) A6 (cond (AZ ((A8 g)+1)) (A3 (.inl (s.1,s.2.1,a,b,c,d,e,zB .i64 (f+1),B3 g [zB .u8 (bits .i64 .and (Au .i64 a (zB .i64 (8*f))) 255)],()))) A6)) (A3 (.inr (s.1,s.2.1,b,c,d,g,())))) s.2.2.1 s.2.2.2.1 s.2.2.2.2.1 s.2.2.2.2.2.1 s.2.2.2.2.2.2.1 s.2.2.2.2.2.2.2.1 s.2.2.2.2.2.2.2.2.1
def KA(s:b1x):QO b1x a7W:=(fun(a:LI)(b c:Int)(d:LI)=>cond (A4 (c<b)) ((Aq a c).bind fun g=>(Cr (g,s.1)).bind fun f=>cond (!f) (A3 (.inr (B6 (6,[],())))) ((Ah Ha (s.1,s.2.1,g,a,b,c,s.2.1,0,d,())).bind fun h=>A3 (.inl (h.1,h.2.1,h.2.2.1,h.2.2.2.1,zB .i64 (h.2.2.2.2.1+1),h.2.2.2.2.2.1,())))) (A3 (.inr (B7 (d,()))))) s.2.2.1 s.2.2.2.1 s.2.2.2.2.1 s.2.2.2.2.2.1
def OT(x:LI×Int):Option (LI×Int):=(show Option b1v from cond (A4 (x.2<4)) (A3 (x.1,x.2,true,())) (A3 (x.1,x.2,A4 (x.2 > 24),()))).bind fun h=>cond h.2.2.1 (A3 ([],1)) ((Ah KA (h.2.1,zB .i64 (B9 (zB .i64 (h.2.1+7)) 8),h.1,(h.1.length:Int),0,[],())).bind fun k=>match k with |.inl f=>A3 (f.1,0) |.inr g=>A3 (g.2.1,g.1))
def a2D:sG:=⟨[.v QL,.v QI],[.o QV,.v QI],OT⟩
def d1J:sF:=Qh [5,.own 4 4 QV,.sv 0 QL,1,6,9,.sv 20 QL,21,22,30,31,.own 7 7 QV,Qb 16] [[250,2520,2,2048,1,3],[128206,4088,4,2520]] [[6,0,4108]] []
def QT(x:UF):Option (LI×Int):=(Hy x).bind fun g=>cond (!g) (A3 ([],1)) ((OS x).bind fun f=>(OT (f,x.1)).bind fun h=>A3 (h.1,h.2))
def a5X:sG:=⟨[.v Vb],[.o QV,.v QI],QT⟩
def d6o:sF:=Qh [] [] [] [(3,Qg 9 9144762384 [])]
def LV(s:Z9):QO Z9 (Int×Unit):=(fun(a b c:Int)=>cond (A4 (a > 0)) ((show Option Z9 from cond (B8 a 2==1) ((JM (b,c,0)).bind fun g=>A3 (a,g,c,())) (A3 (a,b,c,()))).bind fun h=>(JM (h.2.2.1,h.2.2.1,0)).bind fun f=>A3 (.inl (zB .i64 (B9 h.1 2),h.2.1,f,()))) (A3 (.inr (b,())))) s.1 s.2.1 s.2.2.1
def QW(x:Int):Option Int:=(Ah LV (DH x 0,1,1000003,())).bind fun h=>A3 h.1
def a5Y:sG:=⟨[.v QI],[.v QU],QW⟩
def d1K:sF:=Qh [0,.sv 3 QU,.sv 4 QU] [[58,7,2,2]] [[932,0,7]] []
def SQ(x:Int×Int×Int):Option (Int×Bool):=(show Option c5b from cond (A4 (x.1>=2305843009213693951)) (A3 (x.1,x.2.1,x.2.2,true,())) (cond (A4 (x.2.1>=2305843009213693951)) (A3 (x.1,x.2.1,x.2.2,true,())) (A3 (x.1,x.2.1,x.2.2,A4 (x.2.2<0),())))).bind fun h=>cond h.2.2.2.1 (A3 (0,false)) ((QW h.2.2.1).bind fun g=>(JM (h.1,g,h.2.1)).bind fun f=>A3 (f,true))
def a8w:sG:=⟨[.v QU,.v QU,.v QI],[.v QU,.v .bool],SQ⟩
def d6p:sF:=Qh [.sv 0 QU,.sv 1 QU,2,Qb 17] [] [[6,0,15]] []
def JN(x:c5c):Option (Int×Bool):=(QT x.2).bind fun h=>cond (h.2 != 0) (A3 (0,false)) ((Kx h.1).bind fun f=>(SQ (x.1,f,(h.1.length:Int))).bind fun g=>A3 (g.1,g.2))
def WZ:sG:=⟨[.v QU,.v Vb],[.v QU,.v .bool],JN⟩
def Nv(s:Int×Int×Int×RU×Int×Int×c0L):QO (Int×Int×Int×RU×Int×Int×c0L) ((Int×Int×c0L) ⊕ (Bool×(List LI)×c3C×Unit)):=(fun(a b:Int)(c:RU)(d e:Int)(f:List LI)(g:c3C)(h:TT)=>cond (A4 (e<d)) ((Aq c e).bind fun l=>(show Option (Int×Int×Int×Int×RU×Int×Int×Bool×(List LI)×c3C×Mk×b1z)from cond (!(gE EP l.2.2.1 h.1)) (A3 (a,s.2.1,b,e,c,d,e,true,f,g,l,h,())) (A3 (a,s.2.1,b,e,c,d,e,l.1 != a,f,g,l,h,()))).bind fun k=>cond k.2.2.2.2.2.2.2.1 (A3 (.inr (B6 (false,([]:(List LI)),[],())))) ((show Option (Int×Int×Int×RU×Int×Int×Bool×(List LI)×c3C×Mk×b1z)from(Aq k.2.2.2.2.2.2.2.2.2.2.2.1.2.2.2.1 k.2.2.2.1).bind fun o=>cond (o.1 != k.1) (A3 (k.1,k.2.1,k.2.2.1,k.2.2.2.2.1,k.2.2.2.2.2.1,k.2.2.2.2.2.2.1,true,k.2.2.2.2.2.2.2.2.1,k.2.2.2.2.2.2.2.2.2.1,k.2.2.2.2.2.2.2.2.2.2.1,k.2.2.2.2.2.2.2.2.2.2.2.1,())) ((Aq k.2.2.2.2.2.2.2.2.2.2.2.1.2.2.2.1 k.2.2.2.1).bind fun p=>A3 (k.1,k.2.1,k.2.2.1,k.2.2.2.2.1,k.2.2.2.2.2.1,k.2.2.2.2.2.2.1,p.2.1 != k.2.1,k.2.2.2.2.2.2.2.2.1,k.2.2.2.2.2.2.2.2.2.1,k.2.2.2.2.2.2.2.2.2.2.1,k.2.2.2.2.2.2.2.2.2.2.2.1,()))).bind fun i=>cond i.2.2.2.2.2.2.1 (A3 (.inr (B6 (false,([]:(List LI)),[],())))) ((Gk i.2.2.2.2.2.2.2.2.2.1).bind fun m=>cond (m.2 != 0) (A3 (.inr (B6 (false,([]:(List LI)),[],())))) ((EL i.2.2.2.2.2.2.2.2.2.1).bind fun n=>cond (n.2 != 0) (A3 (.inr (B6 (false,([]:(List LI)),[],())))) ((JN (i.2.2.1,m.1)).bind fun j=>cond (!j.2) (A3 (.inr (B6 (false,([]:(List LI)),[],())))) (cond (AZ ((A8 i.2.2.2.2.2.2.2.1)+1)) (cond (AZ ((A8 i.2.2.2.2.2.2.2.2.1)+1)) (A3 (.inl (zB .i64 (i.1+i.2.2.2.2.2.2.2.2.2.1.2.1),zB .i64 (i.2.1+(n.1.length:Int)),j.1,i.2.2.2.1,i.2.2.2.2.1,zB .i64 (i.2.2.2.2.2.1+1),B3 i.2.2.2.2.2.2.2.1 ([n.1]:List LI),B3 i.2.2.2.2.2.2.2.2.1 ([m.1]:List UF),i.2.2.2.2.2.2.2.2.2.2.1,()))) A6) A6)))))) (A3 (.inr (B7 (a,b,f,g,h,()))))) s.1 s.2.2.1 s.2.2.2.1 s.2.2.2.2.1 s.2.2.2.2.2.1 s.2.2.2.2.2.2.1 s.2.2.2.2.2.2.2.1 s.2.2.2.2.2.2.2.2.1
def SR(x:TT):Option ((List LI)×c3C×Bool):=(show Option (Bool×c0L)from(DB x.1).bind fun b=>cond (!b) (A3 (true,([]:(List LI)),[],x,())) (cond (A4 ((x.2.2.2.2.1.length:Int) > 4096)) (A3 (true,([]:(List LI)),[],x,())) (A3 ((x.2.2.2.1.length:Int) != (x.2.2.2.2.1.length:Int),([]:(List LI)),[],x,())))).bind fun k=>cond k.1 (A3 (([]:(List LI)),[],false)) ((Ah Nv (0,0,0,k.2.2.2.1.2.2.2.2.1,(k.2.2.2.1.2.2.2.2.1.length:Int),0,k.2.1,k.2.2.1,k.2.2.2.1,())).bind fun a=>match a with |.inl h=>((show Option (Bool×(List LI)×c3C×Unit)from cond (h.2.2.2.2.1.2.1 != h.1) (A3 (true,h.2.2.1,h.2.2.2.1,())) (A3 (h.2.2.2.2.1.2.2.1 != h.2.1,h.2.2.1,h.2.2.2.1,()))).bind fun f=>cond f.1 (A3 (([]:(List LI)),[],false)) (A3 (f.2.1,f.2.2.1,true))) |.inr g=>A3 (g.2.1,g.2.2.1,g.1))
def kT:sG:=⟨[.v a7Z],[.o QB,.o Vb,.v .bool],SR⟩
def d6q:sF:=Qh [5,6,.sv 7 QU,Qb 4,Qb 31,Qb 117,8,.sv 33 (.list false TI),34,35,Qb 50,Qb 68,.own 2 2 QB,.own 3 3 Vb,.box 9 TI,.vp 1 a7Z,Qp 9 9] [[122,45959,2,45061,1,12296]] [[6,0,45072],[62,0,12320],[15666,0,128967],[31334,0,129927]] []
def KW(s:c4L):QO c4L a5F:=(fun(a:Int)(b:LI)(c d e:Int)=>cond (A4 (e<8)) (cond (bits .u32 .and a 1==1) (A3 (.inl (bits .u32 .xor (Au .u32 a 1) 3988292384,b,c,d,zB .i64 (e+1),()))) (A3 (.inl (Au .u32 a 1,b,c,d,zB .i64 (e+1),())))) (A3 (.inr (a,b,c,d,())))) s.1 s.2.1 s.2.2.1 s.2.2.2.1 s.2.2.2.2.1
def Gz(s:a5F):Option c3H:=(fun(a b:Int)=>cond (A4 (b<a)) ((Aq s.2.1 b).bind fun g=>(Ah KW (bits .u32 .xor s.1 (zB .u32 g),s.2.1,a,b,0,())).bind fun h=>A3 (.inl (h.1,h.2.1,h.2.2.1,zB .i64 (h.2.2.2.1+1),()))) (A3 (.inr (s.1,())))) s.2.2.1 s.2.2.2.1
def KB(x:LI):Option Int:=(Ah Gz (4294967295,x,(x.length:Int),0,())).bind fun h=>A3 (bits .u32 .xor (IntKind.max .u32) h.1)
def TY:sG:=⟨[.v QB],[.v (.int .u32)],KB⟩
def d6r:sF:=Qh [.sv 3 (.int .u32),.sv 7 QB,8,9,17] [[58,15,2,1],[29902,31,4,15]] [] []
def Nw(s:RU×Int×Int×(List LI)×b4M):QO (RU×Int×Int×(List LI)×b4M) ((List LI)×b4M):=(fun(a:Int)(b:List LI)(c:LI)(d:TT)=>cond (A4 (a<s.2.1)) ((Aq s.1 a).bind fun h=>cond (A4 (0<=a)&&A4 (a<(b.length:Int))) (cond (AZ ((A8 c)+2)) (A3 (.inl (s.1,s.2.1,zB .i64 (a+1),b,B3 c ([zB .u64 ((A8 (B4 b (A7 a) []):Nat):Int),zB .u64 h.2.1]:List Int),d,()))) A6) A6) (A3 (.inr (b,c,d,())))) s.2.2.1 s.2.2.2.1 s.2.2.2.2.1 s.2.2.2.2.2.1
def Nx(s:Int×Int×LI×Z3):QO (Int×Int×LI×Z3) (LI×Unit):=(fun(a:Int)(b:LI)(c:List LI)=>cond (A4 (a<s.1)) (cond (A4 (0<=a)&&A4 (a<(c.length:Int))) (cond (AZ ((A8 b)+(A8 (B4 c (A7 a) [])))) (A3 (.inl (s.1,zB .i64 (a+1),B3 b (B4 c (A7 a) []),c,()))) A6) A6) (A3 (.inr (b,())))) s.2.1 s.2.2.1 s.2.2.2.1
def SS(x:TT):Option (LI×Int):=(SR x).bind fun k=>cond (!k.2.2) (A3 ([],1)) ((Ah Nw (x.2.2.2.2.1,(x.2.2.2.2.1.length:Int),0,k.1,([zB .u64 x.1.1,zB .u64 x.1.2.1,zB .u64 x.1.2.2.1,zB .u64 (x.2.2.2.2.1.length:Int)]:List Int),x,())).bind fun g=>(PB g.2.1).bind fun h=>cond (AZ (4+(A8 h))) ((HA (g.2.2.1.2.2.1,8)).bind fun f=>cond (AZ ((A8 (B3 [75,78,83,68] h))+(A8 f))) ((KB (B3 (B3 [75,78,83,68] h) f)).bind fun c=>(HA (zB .u64 c,4)).bind fun a=>cond (AZ ((A8 (B3 (B3 [75,78,83,68] h) f))+(A8 a))) ((Ah Nx ((g.1.length:Int),0,B3 (B3 (B3 [75,78,83,68] h) f) a,g.1,())).bind fun b=>A3 (b.1,0)) A6) A6) A6)
def a8x:sG:=⟨[.v a7Z],[.o QV,.v QI],SS⟩
def d6s:sF:=Qh [.sv 39 (.list false TI),40,41,.own 4 4 QB,.own 7 7 QU,.vp 1 a7Z,76,77,.own 10 10 QV,.own 75 4 QB] [[250,63,2,56],[4090,960,4,256]] [] [(8,Qg 13 599238400610321 [])]
def DZ(s:LI×Int×Int×Int×LI×c9O):QO (LI×Int×Int×Int×LI×c9O) ((LI×c9C) ⊕ Z6):=(fun(a b:Int)(c:LI)(d e:Int)(f:Z9)=>cond (A4 (e<d)) ((Aq c e).bind fun h=>(Cr (h,f.2.2.1)).bind fun g=>cond (!g) (A3 (.inr (B6 (6,[],())))) (A3 (.inl (s.1,s.2.1,a,b,c,d,zB .i64 (e+1),f,())))) (A3 (.inr (B7 (s.1,s.2.1,a,b,f,()))))) s.2.2.1 s.2.2.2.1 s.2.2.2.2.1 s.2.2.2.2.2.1 s.2.2.2.2.2.2.1 s.2.2.2.2.2.2.2.1
def FL(s:LI×Int×Int×Int×Int×Int×c0K):QO (LI×Int×Int×Int×Int×Int×c0K) (b1z ⊕ Z6):=(fun(a b c d e:Int)(f:TT)(g:Z9)=>cond (A4 (e<c)) (cond (A4 (0<=(zB .i64 ((En (zB .i64 (e+a)) c)*g.2.1)))&&A4 ((zB .i64 ((En (zB .i64 (e+a)) c)*g.2.1))<=(s.1.length:Int))) (cond (A4 (0<=(zB .i64 (e*g.2.1)))&&A4 ((zB .i64 (e*g.2.1))<=((A7 (zB .i64 ((En (zB .i64 (e+a)) c)*g.2.1)):Nat):Int))) ((QE (C2 (A7 (zB .i64 (e*g.2.1))) (C1 (A7 (zB .i64 ((En (zB .i64 (e+a)) c)*g.2.1))) s.1),g)).bind fun i=>cond (i.2 != 0) (A3 (.inr (B6 (i.2,[],())))) ((HO (i.1,g,e,b)).bind fun h=>cond (h.2 != 0) (A3 (.inr (B6 (h.2,[],())))) ((EL h.1).bind fun k=>cond (k.2 != 0) (A3 (.inr (B6 (k.2,[],())))) ((JN (f.2.2.1,i.1)).bind fun j=>cond (AZ ((A8 f.2.2.2.1)+1)) (cond (AZ ((A8 f.2.2.2.2.1)+1)) (A3 (.inl (s.1,a,b,c,zB .i64 (d+(k.1.length:Int)),zB .i64 (e+a),(f.1,f.2.1,j.1,B3 f.2.2.2.1 ([(e,d,())]:List (Int×Int×Unit)),B3 f.2.2.2.2.1 ([h.1]:List Mk),f.2.2.2.2.2),g,()))) A6) A6)))) A6) A6) (A3 (.inr (B7 (f,()))))) s.2.1 s.2.2.1 s.2.2.2.1 s.2.2.2.2.1 s.2.2.2.2.2.1 s.2.2.2.2.2.2.1 s.2.2.2.2.2.2.2.1
def Hb(x:c5i):Option (LI×Int):=(show Option (LI×c5j)from(DB x.1).bind fun i=>cond (!i) (A3 (x.2.1,x.2.2.1,x.2.2.2,true,x.1,())) (cond (A4 (x.2.2.1<1)) (A3 (x.2.1,x.2.2.1,x.2.2.2,true,x.1,())) (cond (A4 (x.2.2.1 > 4096)) (A3 (x.2.1,x.2.2.1,x.2.2.2,true,x.1,())) (cond (A4 (x.2.2.2<0)) (A3 (x.2.1,x.2.2.1,x.2.2.2,true,x.1,())) (A3 (x.2.1,x.2.2.1,x.2.2.2,A4 (x.2.2.2 > 3),x.1,())))))).bind fun h=>cond h.2.2.2.1 (A3 ([],1)) (cond (h.2.2.2.2.1.2.1==0) A6 (cond ((B8 (h.1.length:Int) h.2.2.2.2.1.2.1) != 0) (A3 ([],3)) (cond (h.2.2.2.2.1.2.1==0) A6 ((show Option (LI×Int×c5j)from cond (A4 ((zB .i64 (B9 (h.1.length:Int) h.2.2.2.2.1.2.1)) > 4194304)) (A3 (h.1,h.2.1,h.2.2.1,zB .i64 (B9 (h.1.length:Int) h.2.2.2.2.1.2.1),true,h.2.2.2.2.1,())) (cond (h.2.1==0) A6 (A3 (h.1,h.2.1,h.2.2.1,zB .i64 (B9 (h.1.length:Int) h.2.2.2.2.1.2.1),A4 ((zB .i64 (B9 (zB .i64 ((zB .i64 ((zB .i64 (B9 (h.1.length:Int) h.2.2.2.2.1.2.1))+h.2.1))-1)) h.2.1)) > 4096),h.2.2.2.2.1,())))).bind fun g=>cond g.2.2.2.2.1 (A3 ([],4)) ((Ah DZ (g.1,g.2.1,g.2.2.1,g.2.2.2.1,g.1,(g.1.length:Int),0,g.2.2.2.2.2.1,())).bind fun e=>match e with |.inl f=>((Ah FL (f.1,f.2.1,f.2.2.1,f.2.2.2.1,0,0,(f.2.2.2.2.1,f.2.2.2.1,0,[],[],()),f.2.2.2.2.1,())).bind fun c=>match c with |.inl b=>((SS b.1).bind fun a=>A3 (a.1,a.2)) |.inr k=>A3 (k.2.1,k.1)) |.inr d=>A3 (d.2.1,d.1))))))
def Xa:sG:=⟨[.v EP,.v QL,.v QI,.v QI],[.o QV,.v QI],Hb⟩
def H5:sF:=Qh [.sv 1 QL,2,3,10,.sv 62 QL,63,64,14,15,.box 13 d4q,9,.own 8 8 QV,Qb 39,Qb 61,.vp 4 EP,Qp 13 13] [[506,16511,2,16399,1,3072],[4090,50063,4,33280,1,3072]] [[6,0,20487],[62,0,24591]] [(20,Qg 18 739022684452988911616 [[0,17]])]
def a8y(x:LI):Option SE:=cond (AZ (A8 x)) (A3 (x,0,0,())) A6
def Xb:sG:=⟨[.v QB],[.b Rw],a8y⟩
def c5z:sF:=Qh [.sv 5 QU,.sv 2 QU,3,4,6,.sv 7 QV,.sv 8 QB,9,10,Qb 28] [[58,449,2,0,1,14]] [[7474,0,1009]] []
def Xc:sG:=YF (Gs [] [] 253 0) c5z Tryz.f127 [.v QB] [.v QU,.v QI,.v QI]
def d4r:sF:=Qh [.sv 5 QU,6,7,.box pinned Rw,Qp 0 pinned] [] [[15,0,31]] [(3,Qg 17 36893490492759806259 [])]
def Ml:sG:=YF (Gs [(127,Xc)] [] 243 0) d4r Tryz.f68 [.r false (.b Rw),.v QU] [.v QU]
def ZV(x:SE):Option a5F:=some (x.2.2.1,x)
def Mm:sG:=⟨[.r false (.b Rw)],[.v QI],ZV⟩
def YK(x:SE):Option a5F:=some (zB .i64 ((x.1.length:Int)-x.2.1),x)
def GA:sG:=⟨[.r false (.b Rw)],[.v QI],YK⟩
def d6t:sF:=Qh [] [] [] [(1,Qg 11 2341079093555 [])]
def c5A:sF:=Qh [] [] [] [(7,Qg 17 39343465255738216755 [])]
def Qs:sG:=YF (Gs [(70,GA)] [] 51 0) c5A Tryz.f128 [.r false (.b Rw),.v QI] [.o QV]
def d4s:sF:=Qh [.sv 5 QU,12,13,.own 11 1011 QV,.box pinned Rw] [[58,31,2,17]] [] []
def RW:sG:=YF (Gs [(128,Qs),(129,Za)] [] 179 0) d4s Tryz.f71 [.r false (.b Rw),.v QI] [.v QU]
def dN(x:SE):Option a5F:=some (x.2.1,x)
def Ny:sG:=⟨[.r false (.b Rw)],[.v QI],dN⟩
def d4t:sF:=Qh [.sv 0 QB,.sv 38 QU,.sv 39 QU,93,94,3,.box 2 c5o,.box 4 d4U,.box 1021 Rw,Qp 2 2,Qp 4 4,Qp 5 1021,.ref 92 4 [.snd,.snd,.fst]] [[4090,4039,2,4033],[1048570,5848,4,1728,1,608]] [] [(12,Qg 9 9161441655 [[4,41],[4,42],[44,1021,1044]]),(13,Qg 9 9161441655 [[4,49],[4,50],[52,1021,1052]])]
def PV:sG:=YF (Gs [(14,YV),(51,TY),(67,Xb),(68,Ml),(69,Mm),(70,GA),(71,RW),(72,Ny)] [(4,.pair EP d0C)] 745 0) d4t Tryz.f27 [.v QB] [.v c5o,.v QI]
def kU:sG:=YF (Gs [] [] 13 0) QH Tryz.f185 [.v QU] [.v QI]
def c5B:sF:=Qh [.sv 0 QB,.sv 54 QU,.sv 55 QU,Qb 25,.box 2 d5v,.box 1029 Rw,Qp 2 2,Qp 6 1029] [[8186,247,2,241]] [[14,0,89]] [(25,Qg 9 8589934592 [])]
def VM:sG:=YF (Gs [(67,Xb),(68,Ml),(69,Mm),(70,GA),(72,Ny),(99,dG),(136,YY),(185,kU)] [(2,.pair QI d0G),(15,.pair QI a3V),(26,.pair QI a3V),(83,.pair QI a3V),(88,.pair QI a3V),(101,.pair QI a3V),(105,.pair QI a3V)] 4089 0) c5B Tryz.f130 [.v QB] [.v (.pair QI (.pair QI (.pair EP (.pair (.list false EP) d0F)))),.v QI,.v QI,.v QI]
def b1I(x:LI):Option SE:=cond (AZ (A8 x)) (A3 (x,0,0,())) A6
def rZ:sG:=⟨[.v QB],[.b Rw],b1I⟩
def dO(x:SE):Option a5F:=some (x.2.2.1,x)
def CS:sG:=⟨[.r false (.b Rw)],[.v QI],dO⟩
def ZW(x:SE):Option a5F:=some (zB .i64 ((zB .i64 (8*(x.1.length:Int)))-x.2.1),x)
def Mn:sG:=⟨[.r false (.b Rw)],[.v QI],ZW⟩
def d1L:sF:=Qh [] [] [] [(1,Qg 12 37457265430835 [])]
def HQ:sG:=YF (Gs [] [] 19 0) QH Tryz.f190 [.r false (.b Rw),.v QI] [.v QV]
def c5C:sF:=Qh [.sv 5 QU,27,28,1,Qb 16,.box pinned Rw,Qp 0 pinned] [[506,103,2,33]] [[14,0,120]] []
def CT:sG:=YF (Gs [(133,Mn),(190,HQ)] [] 51 0) c5C Tryz.f241 [.r false (.b Rw),.v QI] [.v QU]
def c5D:sF:=Qh [1,.sv 5 QU,Qb 17,.box pinned Rw] [] [[14,0,15]] []
def DK:sG:=YF (Gs [(241,CT)] [] 51 0) c5D Tryz.f188 [.r false (.b Rw),.v QI] [.v QI]
def c5E:sF:=⟨[(250,[6,20,21,.box pinned Rw,.box 1000001 b7x,Qp 0 pinned,Qp 1 1000001],[Qe 0 [6,.box 1000001 b7x,.box pinned Rw,Qp 1 1000001]])],[],[(6,[.p,.p,.p,.r [26,1000001],.r [27,1000001],.p,.v,.w [30,1030,pinned],.q,.a [31,32,1000001],.x,.x,.x])]⟩
def Xd:sG:=YF (Gs [(91,Nd),(188,DK),(241,CT)] [] 115 0) c5E Tryz.f242 [.r false (.b Rw),.r false (.b b7x)] [.v .bool]
def c5F:sF:=⟨[(8106,[3,.sv 4 .bool,.sv 50 QU,.sv 51 QU,.box pinned Rw,.box 2 b7x,Qp 0 pinned,Qp 2 2],[Qe 7 [3,.sv 4 .bool,.box 2 b7x,.box pinned Rw,Qp 2 2]]),(129550,[3,38,.box pinned Rw,.box 2 b7x,Qp 0 pinned,Qp 2 2],[Qe 5 [3,.box pinned Rw,.box 2 b7x,Qp 0 pinned,Qp 2 2]])],[(63,[Qn [3,.sv 4 .bool,.box 2 b7x,.box pinned Rw,Qp 2 2]]),(2024,[Qn [3,.box pinned Rw,.box 2 b7x,Qp 0 pinned,Qp 2 2],Qe 0 [3,.sv 4 .bool,.box 2 b7x,.box pinned Rw,Qp 2 2],Qe 4 [3,.sv 4 .bool,.box pinned Rw,.box 2 b7x,Qp 0 pinned,Qp 2 2]])],[]⟩
def Zb:sG:=YF (Gs [(188,DK),(241,CT),(242,Xd)] [(2,.pair QI d0D)] 178258169 0) c5F Tryz.f186 [.r false (.b Rw)] [.v (.pair QI d0E),.v QI,.v .bool]
def c5G:sF:=Qh [1,5,6,4,.box pinned Rw,Qp 0 pinned] [[62,55,1,24]] [] [(4,Qg 6 2101555 [])]
def Qt:sG:=YF (Gs [(190,HQ)] [] 115 0) c5G Tryz.f309 [.r false (.b Rw),.v QI] [.v QI]
def Zc:sG:=YF (Gs [] [] 77 0) QH Tryz.f310 [.v QU] [.v QI]
def c5H:sF:=Qh [.sv 8 QU,Qb 44,.box pinned Rw] [] [[254,0,7]] []
def sA:sG:=YF (Gs [(135,CS),(241,CT),(309,Qt),(310,Zc)] [] 499 0) c5H Tryz.f303 [.r false (.b Rw),.v QI] [.v QI,.v QI]
def c5I:sF:=Qh [1,27,28,.own 8 8 QI,7,.own 6 6 QI,2,Qb 21,.box pinned Rw,Qp 0 pinned] [[250,783,2,264,1,304]] [[6,0,961]] []
def sC:sG:=YF (Gs [(135,CS),(215,TW),(303,sA)] [] 1991 0) c5I Tryz.f292 [.r false (.b Rw),.v QI,.v QI] [.o QI,.v QI]
def c5J:sF:=Qh [7,10,37,38,.own 11 11 QI,.box pinned Rw,Qp 0 pinned] [[2042,127,2,115]] [] []
def kV:sG:=YF (Gs [(91,Nd),(135,CS),(188,DK),(241,CT),(292,sC)] [] 4083 0) c5J Tryz.f243 [.r false (.b Rw),.v QI] [.v QI,.o QI,.v QI]
def c5K:sF:=⟨[(4090,[43,44,.own 12 12 QI,.own 42 10 QI,.box pinned Rw,.box 6 iA,.box 11 c9F,Qp 0 pinned,Qp 6 6,Qp 11 11],[Qe 0 [.own 12 12 QI,.box 6 iA,.box 11 c9F,.box pinned Rw,Qp 6 6,Qp 11 11],Qr [8,.own 7 7 QI,.box 6 iA,.box pinned Rw,Qp 6 6]])],[],[]⟩
def kW:sG:=YF (Gs [(135,CS),(155,YX),(214,kR),(241,CT),(243,kV)] [(11,.pair QI Q2),(41,.pair QI Q2)] 251783 0) c5K Tryz.f189 [.r false (.b Rw),.v QI,.v QI] [.v iA,.o QI,.v QI]
def c5L:sF:=Qh [1,8,Qb 9,47,48,.box pinned Rw,.box 4 Hu,.box 7 (.pair QI (.pair QI (.pair QI (.pair QI (.pair QI (.pair QL (.pair (.arr 3 QI) (.pair (.list false Q4) (.pair (.list true QI) d0B))))))))),Qp 0 pinned,Qp 4 4,Qp 7 7] [[1018,2047,2,2023]] [] [(14,Qg 9 9161933687 [[7,50],[7,51],[54,1054,pinned]])]
def a3Y:sG:=YF (Gs [(90,a3X),(91,Nd),(95,dA),(135,CS),(149,a3W),(186,Zb),(187,cY),(188,DK),(189,kW)] [(7,.pair QI d0E)] 8035 0) c5L Tryz.f132 [.r false (.b Rw),.v QI] [.v Hu,.v QI]
def c5M:sF:=Qh [2,3,.box pinned Rw,Qp 0 pinned] [[58,15,2,13,1,4]] [] []
def Qu:sG:=YF (Gs [(190,HQ)] [] 13 0) c5M Tryz.f134 [.r false (.b Rw)] []
def d4u:sF:=Qh [9,59,60,3,4,.box 2 TI,.box 5 d0H,.box 1056 Rw,Qp 2 2,Qp 5 5,Qp 10 1056] [[2042,2023,2,2017,1,312]] [] [(7,Qg 18 590295810358705651712 [])]
def dP:sG:=YF (Gs [(41,kS),(47,WY),(130,VM),(131,rZ),(132,a3Y),(133,Mn),(134,Qu),(135,CS)] [(5,.pair QI c5p)] 6105 0) d4u Tryz.f73 [.v QB] [.v TI,.v QI,.v QI]
def d4v:sF:=Qh [Qb 72,.box 10 TI,.box 11 Vb,.box 14 TI,Qp 10 10,Qp 11 11,Qp 14 14] [] [[126,0,127]] [(7,Qg 26 2693757530541845613986417025536 []),(12,Qg 5 141425 [[17,86],[0,10]])]
def Oz:sG:=YF (Gs [(73,dP),(74,YZ)] [] 110623 64) d4v Tryz.f28 [.v QB,.v c5o,.v QI,.v QI,.v QI] [.v TI,.v Vb,.v QI]
def H8:sF:=Qh [.sv 0 QB,7,.sv 28 QL,29,30,3,.box 2 a7Z,.box 4 c5o,.box 6 d4q,Qp 2 2,Qp 4 4,Qp 6 6] [[506,4063,2,4035,1,608]] [] []
def Vg:sG:=YF (Gs [(19,WZ),(27,PV),(28,Oz)] [(6,.pair EP c9G),(20,.pair EP b4O),(24,.pair EP b4O),(48,.pair EP b4O),(90,.pair EP b4O),(96,.pair EP b4O)] 5033 0) H8 Tryz.f8 [.v QB] [.v a7Z,.v QI]
def dQ(x:LI):Option b4L:=Vg.F x
def H9:sF:=Qh [19,20,.own 7 7 QI,.own 18 5 Vb] [[250,15,2,4]] [] []
def PW:sG:=YF (Gs [(29,kT),(30,Tz)] [] 253 2) H9 Tryz.f9 [.v a7Z] [.o QI,.v QI]
def VN(x:TT):Option (LI×Int):=PW.F x
def d4w:sF:=Qh [.sv 35 (.list false QL),36,37,Qb 29,.box 4 Vb,.box 6 (.pair QI Q8),.vp 2 Vb,.vp 3 Q4,Qp 4 4,Qp 6 6] [[250,951,2,816]] [[14,0,472]] [(3,Qg 17 39199333501684949538 []),(9,Qg 13 600402068242449 [])]
def kX:sG:=YF (Gs [(36,kK),(37,kJ),(75,BZ)] [(6,.pair QI Q8),(12,.pair QI Q6),(30,.pair QI Q6),(33,.pair QI Q6)] 291 12) d4w Tryz.f31 [.v Vb,.v Q4] [.v Vb,.v QI]
def d4x:sF:=Qh [.sv 0 QB,9,10,5,.own 4 4 QI,Qb 44,12,13,.sv 48 QL,49,50,.own 8 8 QI,.box 6 c5o,.vp 3 Q4,Qp 6 6] [[1018,32519,2,2048,1,24]] [[30,0,28705],[260711,0,32707,1,24]] [(12,Qg 10 137438953472 [])]
def Vh:sG:=YF (Gs [(27,PV),(28,Oz),(30,Tz),(31,kX)] [] 327603 8) d4x Tryz.f10 [.v QB,.v Q4] [.o QI,.v QI]
def dR(x:SE):Option (LI×Int):=Vh.F x
def d4y:sF:=Qh [1,.sv 9 (.list false TI),10,11,4,5] [[26,15,2,0,1,48]] [] []
def Vi:sG:=YF (Gs [] [] 115 4) d4y Tryz.f11 [.v a7Z,.v QI] [.v QI,.v QI]
def dS(x:b4L):Option (Int×Int):=Vi.F x
def Hc(s:c9o):QO c9o Z0:=(fun(a:Int)=>cond (A4 (a<(s.1.length:Int))) ((Aq s.1 a).bind fun h=>(Aq s.2.1 a).bind fun g=>cond (h != g) (A3 (.inr (B6 (false,())))) (A3 (.inl (s.1,s.2.1,zB .i64 (a+1),())))) (A3 (.inr (B7 ())))) s.2.2.1
def DD(x:Z2):Option Bool:=cond ((x.1.length:Int) != (x.2.length:Int)) (A3 false) ((Ah Hc (x.1,x.2,0,())).bind fun g=>match g with |.inl f=>A3 true |.inr h=>A3 h.1)
def Zd:sG:=⟨[.v QL,.v QL],[.v .bool],DD⟩
def d6u:sF:=Qh [.sv 0 QL,.sv 1 QL,5,Qb 4] [[58,7,2,0,1,8]] [] [(6,Qg 9 8589934592 [])]
def dU(f0:(c5i)->Option ((List Int)×Int))(f1:(List Int)->Option b4L)(f2:(TT)->Option ((List Int)×Int))(f3:(SE)->Option ((List Int)×Int))(f4:(b4L)->Option (Int×Int))(f5:(Z2)->Option Bool)(f6:(List Int)->Option Int)(x:Unit):Option Bool:=
 (f0 (((8000:Int),((1:Int),((8:Int),()))),(([(1:Int),(2:Int),(3:Int)]:List Int),((2:Int),(0:Int))))).bind fun g=>
 (f1 g.1).bind fun h=>
 (f2 h.1).bind fun f=>
 (f3 (g.1,((1:Int),((3:Int),())))).bind fun k=>
 (f4 (h.1,(2:Int))).bind fun a=>
 bif g.2==(0:Int)then(
 bif h.2==(0:Int)then(
 bif f.2==(0:Int)then(
 bif k.2==(0:Int)then(
 bif a.2==(0:Int)then(
 bif ((A8 h.1.2.2.2.2.1:Nat):Int)==(2:Int)then(
 (f5 (f.1,([(1:Int),(2:Int),(3:Int)]:List Int))).bind fun b=>
 bif b then(
 (f5 (k.1,([(2:Int),(3:Int)]:List Int))).bind fun c=>
 bif c then(
 bif a.1==(1:Int)then(
 (f6 ([(1:Int),(2:Int),(3:Int)]:List Int)).bind fun d=>
 A3 (h.1.2.2.1==d))
 else A3 false)
 else A3 false)
 else A3 false)
 else A3 false)
 else A3 false)
 else A3 false)
 else A3 false)
 else A3 false)
 else A3 false
def Xe(x:Unit):Option Bool:=dU Hb dQ VN dR dS DD Kx x
def Xf:sG:=⟨[],[.v .bool],Xe⟩
def H4:sF:=Qh [] [] [] [(7,Qg 46 3268924739223052538889474185827252282423376527191319074 [])]
theorem a2E(h:(c5i)->Option ((List Int)×Int))(g:((List Int))->Option b4L)(f:(TT)->Option ((List Int)×Int))(k:(SE)->Option ((List Int)×Int))(a:(b4L)->Option (Int×Int))(b:(Z2)->Option Bool)(c:((List Int))->Option Int)(x:Unit):a2d (Gs [(5,c3R Xa h),(8,c3R Vg g),(9,c3R PW f),(10,c3R Vh k),(11,c3R Vi a),(12,c3R Zd b),(13,c3R dM c)] [] 4077 0) H4 Tryz.f4 Xf.ps Xf.rs x=dU h g f k a b c x:=by kernel_rfl
def HB(x:Z9):Option Bool:=cond (A4 (x.1>=1)) (cond (A4 (x.1<=1048576)) (cond (A4 (x.2.1>=1)) (cond (A4 (x.2.1<=8)) (cond (A4 (x.2.2.1>=4)) (A3 (A4 (x.2.2.1<=24))) (A3 false)) (A3 false)) (A3 false)) (A3 false)) (A3 false)
def a8z:sG:=⟨[.v EP],[.v .bool],HB⟩
def sD(x:Int):Option Int:=(show Option (Int×Bool×Unit)from cond (A4 (x<1)) (A3 (x,true,())) (A3 (x,A4 (x > 31),()))).bind fun h=>cond h.2.1 (A3 0) (cond (A4 (zB .u64 (zB .i64 (h.1-1))<0)) A6 (A3 (AO .i64 (-1) (zB .u64 (zB .i64 (h.1-1))))))
def b7E:sG:=⟨[.v QI],[.v QI],sD⟩
def d6v:sF:=Qh [0,Qb 8] [] [[6,0,3]] []
def iG(x:Int):Option Int:=(show Option (Int×Bool×Unit)from cond (A4 (x<1)) (A3 (x,true,())) (A3 (x,A4 (x > 31),()))).bind fun h=>cond h.2.1 (A3 0) (cond (A4 (zB .u64 (zB .i64 (h.1-1))<0)) A6 (A3 (zB .i64 ((AO .i64 1 (zB .u64 (zB .i64 (h.1-1))))-1))))
def b4T:sG:=⟨[.v QI],[.v QI],iG⟩
def d6w:sF:=Qh [0,Qb 8] [] [[6,0,3]] []
def Hd(x:Int×Int):Option Bool:=cond (A4 (x.2>=1)) (cond (A4 (x.2<=31)) ((sD x.2).bind fun h=>cond (A4 (x.1>=h)) ((iG x.2).bind fun g=>A3 (A4 (x.1<=g))) (A3 false)) (A3 false)) (A3 false)
def b4U:sG:=⟨[.v QI,.v QI],[.v .bool],Hd⟩
def HR(s:LI×c0w):QO (LI×c0w) ((UF×c0k) ⊕ c3E):=(fun(a:LI)(b:Int)(c d:UF)(e:Z9)=>cond (A4 (b<(a.length:Int))) ((Aq a b).bind fun g=>(Hd (g,e.2.2.1)).bind fun f=>cond (!f) (A3 (.inr (B6 (6,(0,([]:(List LI)),()),())))) (cond (e.2.1==0) A6 (cond (e.2.1==0) A6 (cond (A4 (0<=(B8 b e.2.1))&&A4 (B8 b e.2.1<(d.2.1.length:Int))) ((Aq a b).bind fun h=>cond (AZ ((A8 (B4 d.2.1 (A7 (B8 b e.2.1)) []))+1)) (cond (A4 (0<=(B8 b e.2.1))&&A4 (B8 b e.2.1<((A8 (C0 d.2.1 (A7 (B8 b e.2.1)) (B3 (B4 d.2.1 (A7 (B8 b e.2.1)) []) [h])):Nat):Int))) (cond ((A7 (B8 b e.2.1)==A7 (B8 b e.2.1))&&true) (cond ((A7 (B8 b e.2.1)==A7 (B8 b e.2.1))&&true) (A3 (.inl (a,zB .i64 (b+1),c,(d.1,C0 d.2.1 (A7 (B8 b e.2.1)) (B3 (B4 d.2.1 (A7 (B8 b e.2.1)) []) [h]),d.2.2),e,()))) A6) A6) A6) A6) A6)))) (A3 (.inr (B7 (c,d,()))))) s.1 s.2.1 s.2.2.1 s.2.2.2.1 s.2.2.2.2.1
def LW(x:a7b):Option (UF×Int):=(HB x.2).bind fun k=>cond (!k) (A3 ((0,([]:(List LI)),()),1)) (cond ((x.1.length:Int)==0) (A3 ((0,([]:(List LI)),()),7)) (cond (x.2.2.1==0) A6 (cond ((B8 (x.1.length:Int) x.2.2.1) != 0) (A3 ((0,([]:(List LI)),()),3)) (cond (x.2.2.1==0) A6 (cond (A4 ((zB .i64 (B9 (x.1.length:Int) x.2.2.1)) > 4096)) (A3 ((0,([]:(List LI)),()),4)) (cond (A4 (0<=x.2.2.1)&&(A4 (x.2.2.1<=x.2.2.1)&&AZ (A7 x.2.2.1))) ((Ah HR (x.1,0,(0,([]:(List LI)),()),(x.2.2.2.1,A9 (A7 x.2.2.1) [],()),x.2,())).bind fun f=>match f with |.inl g=>A3 (g.2.1,0) |.inr h=>A3 (h.2.1,h.1)) A6))))))
def nH:sG:=⟨[.v QL,.v EP],[.v Vb,.v QI],LW⟩
def d6x:sF:=Qh [.sv 0 QL,7,5,.box 4 Vb,.box 6 d4j,.vp 3 EP,Qp 4 4,Qp 6 6] [[122,251,3,216,1,76]] [] [(9,Qg 8 554762240 []),(13,Qg 8 570425344 []),(15,Qg 22 41863778875424479714301252 [[6,73,74]])]
def JO(s:c2e):QO c2e Z0:=cond (A4 (s.2.1<(s.1.length:Int))) ((Aq s.1 s.2.1).bind fun h=>(Aq s.1 0).bind fun g=>cond ((h.length:Int) != (g.length:Int)) (A3 (.inr (B6 (false,())))) (A3 (.inl (s.1,zB .i64 (s.2.1+1),())))) (A3 (.inr (B7 ())))
def PD(x:List LI):Option Bool:=(show Option ((List LI)×Bool×Unit)from cond (A4 ((x.length:Int)<1)) (A3 (x,true,())) (A3 (x,A4 ((x.length:Int) > 8),()))).bind fun h=>cond h.2.1 (A3 false) ((Ah JO (h.1,0,())).bind fun f=>match f with |.inl k=>A3 true |.inr g=>A3 g.1)
def a8A:sG:=⟨[.v (.list false QL)],[.v .bool],PD⟩
def d1M:sF:=Qh [.sv 0 (.list false QL),3,Qb 2,Qb 11] [[58,3,2,0,1,4]] [[6,0,9]] [(6,Qg 10 137438953472 [])]
def Ea(s:c3G):QO c3G (c3E ⊕ (Bool×Unit)):=(fun(a b:Int)(c:UF)=>(Aq c.2.1 a).bind fun h=>cond (A4 (b<(h.length:Int))) ((Aq c.2.1 a).bind fun g=>(Aq g b).bind fun f=>(Hd (f,c.1)).bind fun k=>cond (!k) (A3 (.inr (B6 (false,())))) (A3 (.inl (a,zB .i64 (b+1),c,())))) (A3 (.inr (B7 (a,c,()))))) s.1 s.2.1 s.2.2.1
def FM(s:c3E):QO c3E Z0:=cond (A4 (s.1<(s.2.1.2.1.length:Int))) ((Ah Ea (s.1,0,s.2.1,())).bind fun f=>match f with |.inl h=>A3 (.inl (zB .i64 (h.1+1),h.2.1,())) |.inr g=>A3 (.inr (B6 (g.1,())))) (A3 (.inr (B7 ())))
def Fa(x:UF):Option Bool:=(show Option c9w from cond (A4 (x.1<4)) (A3 (true,x,())) (cond (A4 (x.1 > 24)) (A3 (true,x,())) ((PD x.2.1).bind fun c=>cond (!c) (A3 (true,x,())) ((Aq x.2.1 0).bind fun a=>cond (A4 ((a.length:Int)<1)) (A3 (true,x,())) ((Aq x.2.1 0).bind fun b=>A3 (A4 ((b.length:Int) > 4096),x,())))))).bind fun f=>cond f.1 (A3 false) ((Ah FM (0,f.2.1,())).bind fun g=>match g with |.inl k=>A3 true |.inr h=>A3 h.1)
def sE:sG:=⟨[.v Vb],[.v .bool],Fa⟩
def d6y:sF:=Qh [3,4,Qb 2,Qb 34,.vp 1 Vb] [[58,17,2,0,1,4],[3730,19,4,17,1,4]] [[6,0,24]] [(9,Qg 12 37383395344384 [])]
def DL(x:UF):Option Int:=cond ((x.2.1.length:Int)==0) (A3 0) ((Aq x.2.1 0).bind fun h=>A3 (h.length:Int))
def a0a:sG:=⟨[.v Vb],[.v QI],DL⟩
def Eb(x:Int):Option Bool:=cond (A4 (x>=(-1073741824))) (A3 (A4 (x<1073741824))) (A3 false)
def b4V:sG:=⟨[.v QI],[.v .bool],Eb⟩
def It(s:Z7):QO Z7 Z0:=cond (A4 (s.2.1<(s.1.length:Int))) ((Aq s.1 s.2.1).bind fun h=>(Eb h).bind fun g=>cond (!g) (A3 (.inr (B6 (false,())))) (A3 (.inl (s.1,zB .i64 (s.2.1+1),())))) (A3 (.inr (B7 ())))
def AM(x:LI):Option Bool:=(Ah It (x,0,())).bind fun g=>match g with |.inl f=>A3 true |.inr h=>A3 h.1
def a5Z:sG:=⟨[.v QL],[.v .bool],AM⟩
def d1N:sF:=Qh [.sv 0 QL,3,Qb 2] [[26,3,2,0,1,4]] [] []
def He(s:c9B):QO c9B Z0:=(fun(a:UG)(b c:Int)=>cond (A4 (c<(a.length:Int))) ((Aq a c).bind fun h=>(show Option (UG×c4I)from cond (A4 (h.1<0)) (A3 (a,b,c,true,())) (cond (A4 (h.1>=b)) (A3 (a,b,c,true,())) (cond (A4 (h.2.1<0)) (A3 (a,b,c,true,())) (cond (A4 (h.2.1>=b)) (A3 (a,b,c,true,())) (cond (h.1==h.2.1) (A3 (a,b,c,true,())) (cond (A4 (h.2.2.1<(-1024))) (A3 (a,b,c,true,())) (A3 (a,b,c,A4 (h.2.2.1 > 1024),())))))))).bind fun g=>cond g.2.2.2.1 (A3 (.inr (B6 (false,())))) (A3 (.inl (g.1,g.2.1,zB .i64 (g.2.2.1+1),())))) (A3 (.inr (B7 ())))) s.1 s.2.1 s.2.2.1
def Lz(x:UG×Int):Option Bool:=(show Option (UG×Int×Bool×Unit)from cond (A4 (x.2<1)) (A3 (x.1,x.2,true,())) (cond (A4 (x.2 > 8)) (A3 (x.1,x.2,true,())) (A3 (x.1,x.2,A4 ((x.1.length:Int) > 16),())))).bind fun h=>cond h.2.2.1 (A3 false) ((Ah He (h.1,h.2.1,0,())).bind fun f=>match f with |.inl k=>A3 true |.inr g=>A3 g.1)
def a2F:sG:=⟨[.v (.list false EP),.v QI],[.v .bool],Lz⟩
def d1O:sF:=Qh [.sv 0 (.list false EP),1,5,Qb 4,Qb 17,Qb 64] [[58,7,2,0,1,8]] [[6,0,19],[1865,0,39]] []
def LA(s:c2e):QO c2e Z0:=cond (A4 (s.2.1<(s.1.length:Int))) ((Aq s.1 s.2.1).bind fun h=>(AM h).bind fun g=>cond (!g) (A3 (.inr (B6 (false,())))) (A3 (.inl (s.1,zB .i64 (s.2.1+1),())))) (A3 (.inr (B7 ())))
def OA(x:c5g):Option Bool:=(show Option ((List LI)×Bool×Unit)from(PD x.1).bind fun a=>cond (!a) (A3 (x.1,true,())) ((Aq x.1 0).bind fun k=>cond (A4 ((k.length:Int) > 4096)) (A3 (x.1,true,())) ((Lz (x.2,(x.1.length:Int))).bind fun b=>A3 (x.1,!b,())))).bind fun h=>cond h.2.1 (A3 false) ((Ah LA (h.1,0,())).bind fun f=>match f with |.inl c=>A3 true |.inr g=>A3 g.1)
def b1J:sG:=⟨[.v (.list false QL),.v (.list false EP)],[.v .bool],OA⟩
def d1P:sF:=Qh [.sv 0 (.list false QL),5,Qb 4,Qb 22] [[58,3,2,0,1,4]] [[6,0,9]] []
def LX(s:c5f):QO c5f Z3:=cond (A4 (s.2.1<(s.1.length:Int))) ((Aq s.1 s.2.1).bind fun h=>cond (AZ (0+(A8 h))) (cond (AZ ((A8 s.2.2.1)+(A8 (C0 ([[]]:List LI) 0 (B3 [] h))))) (A3 (.inl (s.1,zB .i64 (s.2.1+1),B3 s.2.2.1 (C0 ([[]]:List LI) 0 (B3 [] h)),()))) A6) A6) (A3 (.inr (s.2.2.1,())))
def Nz(x:List LI):Option (List LI):=(Ah LX (x,0,([]:(List LI)),())).bind fun h=>A3 h.1
def a6a:sG:=⟨[.v (.list false QL)],[.o (.list true QI)],Nz⟩
def d1Q:sF:=Qh [.sv 0 (.list false QL),4,.own 3 3 (.list true QI)] [[58,7,2,4]] [] []
def KC(s:Int×Int×(List LI)×c0j):QO (Int×Int×(List LI)×c0j) (Z3 ⊕ (Bool×Z3)):=(fun(a b:Int)(c:List LI)(d:Z9)=>cond (A4 (0<(c.length:Int))) (cond (A4 (b<((A8 (B4 c 0 []):Nat):Int))) (cond (A4 (0<=d.2.1)&&A4 (d.2.1<(c.length:Int))) (cond (A4 (0<=d.2.1)&&A4 (d.2.1<(c.length:Int))) (cond (A4 (0<=b)&&A4 (b<((A8 (B4 c (A7 d.2.1) []):Nat):Int))) (cond (A4 (0<=d.1)&&A4 (d.1<(c.length:Int))) (cond (A4 (0<=b)&&A4 (b<((A8 (B4 c (A7 d.1) []):Nat):Int))) (cond (A4 (0<=b)&&A4 (b<((A8 (B4 c (A7 d.2.1) []):Nat):Int))) (cond (A4 (0<=d.2.1)&&A4 (d.2.1<((A8 (C0 c (A7 d.2.1) (C0 (B4 c (A7 d.2.1) []) (A7 b) (zB .i64 ((B4 (B4 c (A7 d.2.1) []) (A7 b) 0)+(zB .i64 (a*(Au .i64 (zB .i64 (d.2.2.1*(B4 (B4 c (A7 d.1) []) (A7 b) 0))) 8))))))):Nat):Int))) (cond (A4 (0<=b)&&A4 (b<((A8 (B4 (C0 c (A7 d.2.1) (C0 (B4 c (A7 d.2.1) []) (A7 b) (zB .i64 ((B4 (B4 c (A7 d.2.1) []) (A7 b) 0)+(zB .i64 (a*(Au .i64 (zB .i64 (d.2.2.1*(B4 (B4 c (A7 d.1) []) (A7 b) 0))) 8))))))) (A7 d.2.1) []):Nat):Int))) ((Eb (B4 (B4 (C0 c (A7 d.2.1) (C0 (B4 c (A7 d.2.1) []) (A7 b) (zB .i64 ((B4 (B4 c (A7 d.2.1) []) (A7 b) 0)+(zB .i64 (a*(Au .i64 (zB .i64 (d.2.2.1*(B4 (B4 c (A7 d.1) []) (A7 b) 0))) 8))))))) (A7 d.2.1) []) (A7 b) 0)).bind fun h=>cond (!h) (A3 (.inr (B6 (false,C0 c (A7 d.2.1) (C0 (B4 c (A7 d.2.1) []) (A7 b) (zB .i64 ((B4 (B4 c (A7 d.2.1) []) (A7 b) 0)+(zB .i64 (a*(Au .i64 (zB .i64 (d.2.2.1*(B4 (B4 c (A7 d.1) []) (A7 b) 0))) 8)))))),())))) (A3 (.inl (a,zB .i64 (b+1),C0 c (A7 d.2.1) (C0 (B4 c (A7 d.2.1) []) (A7 b) (zB .i64 ((B4 (B4 c (A7 d.2.1) []) (A7 b) 0)+(zB .i64 (a*(Au .i64 (zB .i64 (d.2.2.1*(B4 (B4 c (A7 d.1) []) (A7 b) 0))) 8)))))),d,())))) A6) A6) A6) A6) A6) A6) A6) A6) (A3 (.inr (B7 (c,()))))) A6) s.1 s.2.1 s.2.2.1 s.2.2.2.1
def TZ(x:(List LI)×Z9×Int):Option (Bool×(List LI)):=(Ah KC (x.2.2,0,x.1,x.2.1,())).bind fun f=>match f with |.inl g=>A3 (true,g.1) |.inr h=>A3 (h.1,h.2.1)
def b4W:sG:=⟨[.r false (.o (.list true QI)),.v EP,.v QI],[.v .bool],TZ⟩
def d1R:sF:=Qh [2,7,Qb 6,.own 0 pinned (.list true QI),.vp 4 EP] [[26,27,2,8,1,12]] [] [(4,Qg 31 2824609575243420935412588814411042817 [])]
def Iu(s:c0s):QO c0s (Z3 ⊕ c2e):=cond (A4 (s.2.1<(s.1.length:Int))) ((Aq s.1 s.2.1).bind fun g=>(TZ (s.2.2.1,g,1)).bind fun h=>cond (!h.1) (A3 (.inr (B6 (([]:(List LI)),6,())))) (A3 (.inl (s.1,zB .i64 (s.2.1+1),h.2,())))) (A3 (.inr (B7 (s.2.2.1,()))))
def KD(x:c5g):Option Z1:=(OA (x.1,x.2)).bind fun k=>cond (!k) (A3 (([]:(List LI)),1)) ((Nz x.1).bind fun a=>(Ah Iu (x.2,0,a,())).bind fun f=>match f with |.inl g=>A3 (g.1,0) |.inr h=>A3 (h.1,h.2.1))
def a6b:sG:=⟨[.v (.list false QL),.v (.list false EP)],[.v (.list false QL),.v QI],KD⟩
def d6z:sF:=Qh [.sv 1 (.list false EP),7,.own 6 6 (.list true QI),.sv 4 (.list false QL),5] [[122,7,2,4,1,24]] [] []
def Rz(x:Int):Option Int:=some (DH x (zB .i64 (0-x)))
def b4X:sG:=⟨[.v QI],[.v QI],Rz⟩
def GB(s:c9s):QO c9s c3D:=(fun(a:List LI)(b c:Int)=>(Aq a b).bind fun h=>cond (A4 (c<(h.length:Int))) ((Aq a b).bind fun g=>(Aq g c).bind fun f=>(Aq a b).bind fun k=>(Aq k (zB .i64 (c-1))).bind fun d=>(Aq a b).bind fun e=>(Aq e (zB .i64 (c-2))).bind fun i=>(Rz (zB .i64 ((zB .i64 (f-(zB .i64 (2*d))))+i))).bind fun j=>A3 (.inl (a,zB .i64 (s.2.1+j),b,zB .i64 (c+1),()))) (A3 (.inr (a,s.2.1,b,())))) s.1 s.2.2.1 s.2.2.2.1
def GC(s:c3D):QO c3D (Int×Unit):=cond (A4 (s.2.2.1<(s.1.length:Int))) ((Ah GB (s.1,s.2.1,s.2.2.1,2,())).bind fun h=>A3 (.inl (h.1,h.2.1,zB .i64 (h.2.2.1+1),()))) (A3 (.inr (s.2.1,())))
def Hf(x:List LI):Option Int:=(OA (x,[])).bind fun g=>cond (!g) (A3 0) ((Ah GC (x,0,0,())).bind fun h=>A3 h.1)
def iH:sG:=⟨[.v (.list false QL)],[.v QI],Hf⟩
def d1S:sF:=Qh [.sv 0 (.list false QL),3,4,5] [[122,7,2,2],[7826,15,4,7]] [] [(10,Qg 30 176538093190184139370036875193483264 [])]
def LY(x:Int):Option UG:=cond (x==1) (A3 ([(0,1,(-256),())]:List Z9)) (cond (x==2) (A3 ([(1,0,(-256),())]:List Z9)) (cond (x==3) (A3 ([(1,0,(-256),()),(0,1,128,())]:List Z9)) (cond (x==4) (A3 ([(1,0,(-106),()),(0,1,181,()),(1,0,(-106),())]:List Z9)) (A3 []))))
def nI:sG:=⟨[.v QI],[.o EP],LY⟩
def Jl(s:Int×(List LI)×Int×Int×a5G):QO (Int×(List LI)×Int×Int×a5G) (Int×a5G):=(fun(a:List LI)(b c d:Int)(e:UG)(f:UF)=>cond (A4 (d<5)) ((LY d).bind fun g=>(KD (a,g)).bind fun k=>(Hf k.1).bind fun h=>cond (A4 (h<c)) (A3 (.inl (s.1,a,d,h,zB .i64 (d+1),e,f,()))) (A3 (.inl (s.1,a,b,c,zB .i64 (d+1),e,f,())))) (A3 (.inr (s.1,b,e,f,())))) s.2.1 s.2.2.1 s.2.2.2.1 s.2.2.2.2.1 s.2.2.2.2.2.1 s.2.2.2.2.2.2.1
def FN(s:c0z):QO c0z a5G:=(fun(a b:Int)(c d:UG)(e:UF)=>cond (A4 (b<(d.length:Int))) (cond (A4 (0<=b)&&A4 (b<(d.length:Int))) (cond (A4 (0<=b)&&A4 (b<(d.length:Int))) (cond (A4 (0<=b)&&A4 (b<(d.length:Int))) (cond (AZ ((A8 c)+1)) (A3 (.inl (a,zB .i64 (b+1),B3 c ([(zB .i64 (((B4 d (A7 b) (0,0,0,())).1)+a),zB .i64 ((((B4 d (A7 b) (0,0,0,())).2).1)+a),(((B4 d (A7 b) (0,0,0,())).2).2).1,())]:List Z9),d,e,()))) A6) A6) A6) A6) (A3 (.inr (a,c,e,())))) s.1 s.2.1 s.2.2.1 s.2.2.2.1 s.2.2.2.2.1
def Jm(s:a5G):QO a5G (UG×Unit):=(fun(a:Int)(b:UF)=>cond (A4 (zB .i64 (a+1)<(b.2.1.length:Int))) (cond (A4 (0<=(zB .i64 (a+2)))&&A4 ((zB .i64 (a+2))<=(b.2.1.length:Int))) (cond (A4 (0<=a)&&A4 (a<=((A7 (zB .i64 (a+2)):Nat):Int))) ((Hf (C2 (A7 a) (C1 (A7 (zB .i64 (a+2))) b.2.1))).bind fun f=>(Ah Jl (a,C2 (A7 a) (C1 (A7 (zB .i64 (a+2))) b.2.1),0,f,1,s.2.1,b,())).bind fun h=>(LY h.2.1).bind fun k=>(Ah FN (h.1,0,h.2.2.1,k,h.2.2.2.1,())).bind fun g=>A3 (.inl (zB .i64 (g.1+2),g.2.1,g.2.2.1,()))) A6) A6) (A3 (.inr (s.2.1,())))) s.1 s.2.2.1
def NA(x:UF):Option UG:=(Fa x).bind fun g=>cond (!g) (A3 []) ((Ah Jm (0,[],x,())).bind fun h=>A3 h.1)
def a0b:sG:=⟨[.v Vb],[.o EP],NA⟩
def d6A:sF:=Qh [4,.sv 5 (.list false QL),6,7,8,13,.own 3 3 EP,.own 12 12 EP,.vp 1 Vb] [[122,321,2,64],[62618,351,4,325],[125246,481,6,321]] [] [(20,Qg 24 10541913723570902042336628753 [])]
def NB(s:SE):Option c2g:=cond (A4 (s.2.2.1<(s.1.length:Int))) ((Aq s.1 s.2.2.1).bind fun h=>A3 (.inl (s.1,bits .i64 .or s.2.1 h,zB .i64 (s.2.2.1+1),()))) (A3 (.inr (s.2.1,())))
def Hg(s:Int×Int×Unit):QO (Int×Int×Unit) (Int×Unit):=(fun(a:Int)=>cond (s.1 != 0) (cond (A4 (a<30)) (cond (A4 (zB .u64 a<0)) A6 (cond (bits .i64 .and (Au .i64 s.1 (zB .u64 a)) 1==0) (A3 (.inl (s.1,zB .i64 (a+1),()))) (A3 (.inr (a,()))))) (A3 (.inr (a,())))) (A3 (.inr (a,())))) s.2.1
def JP(x:LI):Option Int:=(Ah NB (x,0,0,())).bind fun h=>(Ah Hg (h.1,0,())).bind fun g=>A3 g.1
def a8B:sG:=⟨[.v QL],[.v QI],JP⟩
def d1T:sF:=Qh [.sv 0 QL,3,4,5] [[58,7,2,2],[124,10,4,8]] [] []
def c5N:sF:=Qh [.sv 0 QL,3,Qb 2] [[26,3,2,0,1,4]] [] []
def a3Z:sG:=YF (Gs [] [] 13 0) c5N Tryz.f160 [.v QL] [.v .bool]
def b4Y(x:LI):Option Bool:=a3Z.F x
def QX(s:b1w):QO b1w (LI×Unit):=(fun(a b:Int)(c:LI)=>cond (A4 (b<(s.1.length:Int))) ((Aq s.1 b).bind fun h=>cond (A4 (zB .u64 a<0)) A6 (cond (AZ ((A8 c)+1)) (A3 (.inl (s.1,a,zB .i64 (b+1),B3 c [Au .i64 h (zB .u64 a)],()))) A6)) (A3 (.inr (c,())))) s.2.1 s.2.2.1 s.2.2.2.1
def Ua(x:LI×Int):Option (LI×Int):=(show Option b1v from cond (A4 (x.2<0)) (A3 (x.1,x.2,true,())) (A3 (x.1,x.2,A4 (x.2 > 30),()))).bind fun h=>cond h.2.2.1 (A3 ([],1)) ((show Option b1v from(AM h.1).bind fun k=>cond (!k) (A3 (h.1,h.2.1,true,())) ((JP h.1).bind fun a=>cond (A4 (a<h.2.1)) ((b4Y h.1).bind fun b=>A3 (h.1,h.2.1,!b,())) (A3 (h.1,h.2.1,false,())))).bind fun g=>cond g.2.2.1 (A3 ([],6)) ((Ah QX (g.1,g.2.1,0,[],())).bind fun f=>A3 (f.1,0)))
def b4Z:sG:=⟨[.v QL,.v QI],[.o QI,.v QI],Ua⟩
def d1U:sF:=Qh [.sv 0 QL,1,7,.own 6 6 QI,Qb 13,Qb 27] [[250,15,2,8]] [[6,0,19],[14,0,35]] []
def Fb(s:b7t):QO b7t b1w:=(fun(a:LI)(b c:Int)(d:LI)=>cond (A4 (c<(a.length:Int))) ((Aq a c).bind fun h=>(Aq a (zB .i64 (c-1))).bind fun g=>cond (AZ ((A8 d)+1)) (A3 (.inl (s.1,s.2.1,a,b,zB .i64 (c+1),B3 d [zB .i64 (h-g)],()))) A6) (A3 (.inr (s.1,s.2.1,b,d,())))) s.2.2.1 s.2.2.2.1 s.2.2.2.2.1 s.2.2.2.2.2.1
def HS(s:LI×b9H):QO (LI×b9H) c9l:=cond (A4 (s.2.2.2.1<s.2.1)) ((Ah Fb (s.1,s.2.1,s.2.2.1,s.2.2.2.1,1,[],())).bind fun h=>A3 (.inl (h.1,h.2.1,h.2.2.2.1,zB .i64 (h.2.2.1+1),()))) (A3 (.inr (s.1,s.2.2.1,())))
def Df(x:LI×Int):Option (LI×Int):=(show Option b1v from cond (A4 (x.2<0)) (A3 (x.1,x.2,true,())) (cond (A4 (x.2 > 4)) (A3 (x.1,x.2,true,())) (A3 (x.1,x.2,A4 ((x.1.length:Int)<x.2),())))).bind fun h=>cond h.2.2.1 (A3 ([],1)) (cond (AZ (0+(A8 h.1))) ((Ah HS (h.1,h.2.1,B3 [] h.1,0,())).bind fun g=>(show Option c4Z from(AM g.1).bind fun k=>cond (!k) (A3 (g.2.1,true,())) ((AM g.2.1).bind fun a=>A3 (g.2.1,!a,()))).bind fun f=>cond f.2.1 (A3 ([],6)) (A3 (f.1,0))) A6)
def nJ:sG:=⟨[.v QL,.v QI],[.v QL,.v QI],Df⟩
def d1V:sF:=Qh [.sv 0 QL,1,.sv 6 QL,7,9,.own 8 8 QI,Qb 21,Qb 57] [[122,15,2,5],[31306,63,4,43]] [[6,0,67],[62,0,132]] [(11,Qg 14 9587814409768977 [])]
def JQ(s:SE):Option c2g:=cond (A4 (s.2.2.1<(s.1.length:Int))) ((Aq s.1 s.2.2.1).bind fun h=>(Rz h).bind fun g=>A3 (.inl (s.1,zB .i64 (s.2.1+g),zB .i64 (s.2.2.1+1),()))) (A3 (.inr (s.2.1,())))
def SU(x:LI×Int):Option Int:=(Ah JQ (x.1,0,DH x.2 0,())).bind fun h=>A3 h.1
def kY:sG:=⟨[.v QL,.v QI],[.v QI],SU⟩
def d1W:sF:=Qh [.sv 0 QL,5,6] [[58,7,2,2]] [] []
def Jn(x:LI×Int):Option Int:=(Df (x.1,x.2)).bind fun h=>cond (h.2 != 0) (A3 0) ((SU (h.1,zB .i64 (4-x.2))).bind fun g=>A3 g)
def dV:sG:=⟨[.v QL,.v QI],[.v QI],Jn⟩
def Dq(s:a7b):QO a7b (Int×Unit):=(fun(a:LI)(b c d:Int)=>cond (A4 (d<5)) ((Df (a,d)).bind fun f=>(Jn (a,d)).bind fun g=>(show Option (LI×c9r)from cond (f.2==0) (cond (A4 (b<0)) (A3 (a,b,c,d,g,true,())) (A3 (a,b,c,d,g,A4 (g<c),()))) (A3 (a,b,c,d,g,false,()))).bind fun h=>cond h.2.2.2.2.2.1 (A3 (.inl (h.1,h.2.2.2.1,h.2.2.2.2.1,zB .i64 (h.2.2.2.1+1),()))) (A3 (.inl (h.1,h.2.1,h.2.2.1,zB .i64 (h.2.2.2.1+1),())))) (A3 (.inr (b,())))) s.1 s.2.1 s.2.2.1 s.2.2.2.1
def Iv(x:LI):Option Int:=(Ah Dq (x,(-1),0,0,())).bind fun h=>A3 (DH h.1 0)
def nK:sG:=⟨[.v QL],[.v QI],Iv⟩
def d1X:sF:=Qh [.sv 0 QL,3,4,5,8,Qb 32] [[58,15,2,2]] [[3731,0,63]] []
def OB(x:Int):Option Int:=some (En (DH x (-1048576)) 1048575)
def b1K:sG:=⟨[.v QI],[.v QI],OB⟩
def Fw(s:c9m):QO c9m c9k:=(fun(a:Int)(b:LI)=>cond (A4 (a<(b.length:Int))) (cond s.1 (cond (A4 (0<=a)&&A4 (a<(b.length:Int))) ((OB (B4 b (A7 a) 0)).bind fun h=>cond (A4 (0<=a)&&A4 (a<(b.length:Int))) (A3 (.inl (h==(B4 b (A7 a) 0),zB .i64 (a+1),b,()))) A6) A6) (A3 (.inl (false,zB .i64 (a+1),b,())))) (A3 (.inr (s.1,b,())))) s.2.1 s.2.2.1
def Iw(s:Z6):QO Z6 (LI×Unit):=(fun(a:Int)(b:LI)=>cond (A4 (a<(b.length:Int))) (cond (A4 (0<=a)&&A4 (a<(b.length:Int))) (cond (A4 (0<=a)&&A4 (a<(b.length:Int))) (A3 (.inl (zB .i64 (a+1),C0 b (A7 a) (Au .i64 (B4 b (A7 a) 0) 1),()))) A6) A6) (A3 (.inr (b,())))) s.1 s.2.1
def Ix(s:LI×Unit):QO (LI×Unit) (LI×Unit):=(Ah Fw (true,0,s.1,())).bind fun h=>cond h.1 (A3 (.inr (h.2.1,()))) ((Ah Iw (0,h.2.1,())).bind fun g=>A3 (.inl (g.1,())))
def KE(x:LI):Option LI:=cond (AZ (0+(A8 x))) ((Ah Ix (B3 [] x,())).bind fun h=>A3 h.1) A6
def a6c:sG:=⟨[.v QL],[.o QI],KE⟩
def d1Y:sF:=Qh [Qb 4,5,6,.own 3 3 QI,.own 2 3 QI] [[14,8,1,16],[906,11,4,9],[1822,12,6,8]] [] [(6,Qg 14 9606502080905506 [])]
def ZX(x:Int×Int):Option Int:=cond (x.2==0) A6 ((show Option (Int×Unit)from cond (x.2==0) A6 (cond (A4 (B8 x.1 x.2<0)) (A3 (zB .i64 ((zB .i64 (B9 x.1 x.2))-1),())) (A3 (zB .i64 (B9 x.1 x.2),())))).bind fun h=>A3 h.1)
def b1L:sG:=⟨[.v QI,.v QI],[.v QI],ZX⟩
def d1Z:sF:=Qh [5] [] [[7,0,1]] []
def KX(s:c4N):QO c4N (Int×Int×Unit):=cond (A4 (s.2.2.2.2.1<(s.1.length:Int))) ((Aq s.1 s.2.2.2.2.1).bind fun h=>(Aq s.2.1 (zB .i64 (s.2.2.2.2.1-1))).bind fun g=>(Aq s.1 s.2.2.2.2.1).bind fun f=>(Aq s.1 s.2.2.2.2.1).bind fun k=>(Aq s.2.1 (zB .i64 (s.2.2.2.2.1-1))).bind fun a=>(Aq s.2.1 (zB .i64 (s.2.2.2.2.1-1))).bind fun b=>A3 (.inl (s.1,s.2.1,zB .i64 (s.2.2.1+(zB .i64 (h*g))),zB .i64 ((zB .i64 (s.2.2.2.1+(zB .i64 (f*k))))+(zB .i64 (a*b))),zB .i64 (s.2.2.2.2.1+1),()))) (A3 (.inr (s.2.2.1,s.2.2.2.1,())))
def Qv(s:Int×Int×Unit):QO (Int×Int×Unit) (Int×Int×Unit):=cond (A4 (s.2.1>=1099511627776)) (A3 (.inl (Au .i64 s.1 1,Au .i64 s.2.1 1,()))) (A3 (.inr (s.1,s.2.1,())))
end Go.Ab
namespace Go.Ab
open IntKind renaming wrap->zB
open Go.Proofs
set_option maxRecDepth 100000
set_option linter.unusedVariables false
def Hh(x:b7q):Option Int:=(Ah KX (x.1,x.2.1,0,0,x.2.2,())).bind fun g=>(Ah Qv (g.1,g.2.1,())).bind fun h=>cond (h.2.1==0) (A3 0) ((ZX (zB .i64 (h.1*32768),h.2.1)).bind fun f=>A3 (En (DH f (-16383)) 16383))
def iI:sG:=⟨[.v QL,.v QL,.v QI],[.v QI],Hh⟩
def d2a:sF:=Qh [.sv 0 QL,.sv 1 QL,7,8,9] [[58,31,2,12],[60,12,4,12]] [] [(5,Qg 13 598134325510144 []),(6,Qg 24 10522490333925732336642555904 [])]
def Ch(s:Int×LI×b7s):QO (Int×LI×b7s) b7s:=(fun(a b c:Int)(d e f:LI)=>cond (A4 (c<(d.length:Int))) (cond (A4 (0<=c)&&A4 (c<(d.length:Int))) ((Aq s.2.1 (zB .i64 (c-1))).bind fun h=>(OB (zB .i64 ((B4 d (A7 c) 0)-(Au .i64 (zB .i64 (b*h)) 14)))).bind fun g=>cond (A4 (0<=c)&&A4 (c<(d.length:Int))) ((OB (zB .i64 (h-(Au .i64 (zB .i64 (b*(B4 d (A7 c) 0))) 14)))).bind fun k=>cond (A4 (0<=c)&&A4 (c<(f.length:Int))) (A3 (.inl (s.1,s.2.1,a,b,zB .i64 (c+1),C0 d (A7 c) g,e,C0 f (A7 c) k,()))) A6) A6) A6) (A3 (.inr (s.1,a,b,d,e,f,())))) s.2.2.1 s.2.2.2.1 s.2.2.2.2.1 s.2.2.2.2.2.1 s.2.2.2.2.2.2.1 s.2.2.2.2.2.2.2.1
def ED(s:Int×LI×b4I):QO (Int×LI×b4I) (LI×Unit):=(fun(a:LI)(b:Int)(c d:LI)=>cond (A4 (b<=s.1)) ((Hh (c,a,b)).bind fun g=>cond (AZ (0+(A8 a))) ((Ah Ch (s.1,a,b,g,b,c,d,B3 [] a,())).bind fun h=>cond (AZ ((A8 h.2.2.2.2.1)+1)) (A3 (.inl (h.1,h.2.2.2.2.2.1,zB .i64 (h.2.1+1),h.2.2.2.1,B3 h.2.2.2.2.1 [h.2.2.1],()))) A6) A6) (A3 (.inr (d,())))) s.2.1 s.2.2.1 s.2.2.2.1 s.2.2.2.2.1
def GD(x:LI×Int):Option (LI×Int):=(show Option b1v from cond (A4 (x.2<1)) (A3 (x.1,x.2,true,())) (cond (A4 (x.2 > 32)) (A3 (x.1,x.2,true,())) (A3 (x.1,x.2,A4 ((x.1.length:Int) > 4096),())))).bind fun h=>cond h.2.2.1 (A3 ([],1)) ((AM h.1).bind fun f=>cond (!f) (A3 ([],6)) ((KE h.1).bind fun k=>(KE h.1).bind fun a=>(Ah ED (h.2.1,a,1,k,[],())).bind fun g=>A3 (g.1,0)))
def YL:sG:=⟨[.v QL,.v QI],[.o QI,.v QI],GD⟩
def d2b:sF:=Qh [.sv 0 QL,1,.sv 7 QL,9,10,12,.own 6 6 QI,.own 8 8 QI,.own 11 11 QI,Qb 25] [[506,206,2,128],[259226,510,4,474]] [[6,0,515]] [(15,Qg 11 2203586728193 [])]
def Ca(s:Z7):QO Z7 a7W:=(fun(a:LI)(b:Int)=>cond (A4 (b<(a.length:Int))) ((show Option b1v from(Aq a b).bind fun g=>cond (A4 (g<=(-16384))) (A3 (a,b,true,())) ((Aq a b).bind fun f=>A3 (a,b,A4 (f>=16384),()))).bind fun h=>cond h.2.2.1 (A3 (.inr (B6 (1,[],())))) (A3 (.inl (h.1,zB .i64 (h.2.1+1),())))) (A3 (.inr (B7 (a,()))))) s.1 s.2.1
def DM(s:c3I):QO c3I b6o:=(fun(a b:Int)(c d:LI)=>cond (A4 (b<a)) (cond (A4 (0<=b)&&A4 (b<(d.length:Int))) ((Aq s.1 a).bind fun h=>cond (A4 (0<=(zB .i64 ((zB .i64 (a-1))-b)))&&A4 (zB .i64 ((zB .i64 (a-1))-b)<(d.length:Int))) (cond (A4 (0<=b)&&A4 (b<(c.length:Int))) (A3 (.inl (s.1,a,zB .i64 (b+1),C0 c (A7 b) (zB .i64 ((B4 d (A7 b) 0)-(Au .i64 (zB .i64 (h*(B4 d (A7 (zB .i64 ((zB .i64 (a-1))-b))) 0))) 14))),d,()))) A6) A6) A6) (A3 (.inr (s.1,a,c,())))) s.2.1 s.2.2.1 s.2.2.2.1 s.2.2.2.2.1
def FO(s:b6o):QO b6o (LI×Unit):=(fun(a:LI)=>cond (A4 (s.2.1<(s.1.length:Int))) (cond (AZ (0+(A8 a))) ((Ah DM (s.1,s.2.1,0,a,B3 [] a,())).bind fun h=>(Aq h.1 h.2.1).bind fun g=>cond (AZ ((A8 h.2.2.1)+1)) (A3 (.inl (h.1,zB .i64 (h.2.1+1),B3 h.2.2.1 [g],()))) A6) A6) (A3 (.inr (a,())))) s.2.2.1
def FQ(x:LI):Option (LI×Int):=(show Option c4Z from cond (A4 ((x.length:Int)<1)) (A3 (x,true,())) (A3 (x,A4 ((x.length:Int) > 32),()))).bind fun f=>cond f.2.1 (A3 ([],1)) ((Ah Ca (f.1,0,())).bind fun a=>match a with |.inl k=>((Ah FO (k.1,0,[],())).bind fun h=>A3 (h.1,0)) |.inr g=>A3 (g.2.1,g.1))
def dW:sG:=⟨[.v QL],[.o QI,.v QI],FQ⟩
def d2c:sF:=Qh [.sv 0 QL,4,6,8,.own 5 5 QI,.own 7 7 QI,3,.own 2 2 QI,Qb 16,Qb 34] [[58,3,2,1,1,192],[250,21,4,16],[64074,61,6,21]] [[6,0,257],[932,0,515]] [(16,Qg 22 41103497466564069769150721 [])]
def Cb(s:SE):QO SE (Z7 ⊕ a3T):=(fun(a:LI)(b c:Int)=>cond (A4 (c<(a.length:Int))) ((show Option b7r from(Aq a c).bind fun g=>cond (A4 (g<(-35184372088832))) (A3 (a,b,c,true,())) ((Aq a c).bind fun f=>A3 (a,b,c,A4 (f > 35184372088832),()))).bind fun h=>cond h.2.2.2.1 (A3 (.inr (B6 (0,1,[],())))) (A3 (.inl (h.1,h.2.1,zB .i64 (h.2.2.1+1),())))) (A3 (.inr (B7 (a,b,()))))) s.1 s.2.1 s.2.2.1
def CC(s:LI×Int×Int×Int×c9m):QO (LI×Int×Int×Int×c9m) c9z:=(fun(a:LI)(b c d:Int)(e:Bool)(f:Int)(g:LI)=>cond (A4 (f<(a.length:Int))) ((Aq a f).bind fun h=>cond (A4 (zB .u64 c<0)) A6 (cond (AZ ((A8 g)+1)) (cond e ((Hd (Au .i64 (zB .i64 (h+d)) (zB .u64 c),b)).bind fun k=>A3 (.inl (a,b,c,d,k,zB .i64 (f+1),B3 g [Au .i64 (zB .i64 (h+d)) (zB .u64 c)],()))) (A3 (.inl (a,b,c,d,false,zB .i64 (f+1),B3 g [Au .i64 (zB .i64 (h+d)) (zB .u64 c)],())))) A6)) (A3 (.inr (a,b,c,e,g,())))) s.1 s.2.1 s.2.2.1 s.2.2.2.1 s.2.2.2.2.1 s.2.2.2.2.2.1 s.2.2.2.2.2.2.1
def DN(s:SE):QO SE (Unit ⊕ a3T):=(fun(a:Int)=>cond (A4 (a<=14)) ((show Option a7b from cond (A4 (a > 0)) (cond (A4 (zB .u64 (zB .i64 (a-1))<0)) A6 (A3 (s.1,s.2.1,a,AO .i64 1 (zB .u64 (zB .i64 (a-1))),()))) (A3 (s.1,s.2.1,a,0,()))).bind fun g=>(Ah CC (g.1,g.2.1,g.2.2.1,g.2.2.2.1,true,0,[],())).bind fun h=>cond h.2.2.2.1 (A3 (.inr (B6 (zB .i64 (14-h.2.2.1),0,h.2.2.2.2.1,())))) (A3 (.inl (h.1,h.2.1,zB .i64 (h.2.2.1+1),())))) (A3 (.inr (B7 ())))) s.2.2.1
def Jo(x:LI×Int):Option Z4:=(show Option b1v from cond (A4 ((x.1.length:Int)<1)) (A3 (x.1,x.2,true,())) (cond (A4 ((x.1.length:Int) > 32)) (A3 (x.1,x.2,true,())) (cond (A4 (x.2<2)) (A3 (x.1,x.2,true,())) (A3 (x.1,x.2,A4 (x.2 > 16),()))))).bind fun k=>cond k.2.2.1 (A3 ([],0,1)) ((Ah Cb (k.1,k.2.1,0,())).bind fun c=>match c with |.inl a=>((Ah DN (a.1,a.2.1,0,())).bind fun f=>match f with |.inl b=>A3 ([],0,6) |.inr h=>A3 (h.2.2.1,h.1,h.2.1)) |.inr g=>A3 (g.2.2.1,g.1,g.2.1))
def dX:sG:=⟨[.v QL,.v QI],[.o QI,.v QI,.v QI],Jo⟩
def d2d:sF:=Qh [.sv 0 QL,1,7,8,9,Qb 11,12,.own 10 10 QI,5,6,.own 4 4 QI,.own 4 10 QI,Qb 29,Qb 47] [[58,7,2,3,1,1792],[122,11,4,0,1,2816],[250490,251,6,171]] [[6,0,4099],[932,0,8199],[3913,0,27]] []
def KF(x:Z4):Option Z4:=(GD (x.1,x.2.1)).bind fun h=>cond (h.2 != 0) (A3 ([],0,h.2)) ((FQ h.1).bind fun g=>cond (g.2 != 0) (A3 ([],0,g.2)) ((Jo (g.1,x.2.2)).bind fun f=>A3 (f.1,f.2.1,f.2.2)))
def iJ:sG:=⟨[.v QL,.v QI,.v QI],[.o QI,.v QI,.v QI],KF⟩
def NC(x:Z4):Option (DI×Bool):=(KF (x.1,x.2.1,x.2.2)).bind fun h=>A3 ((3,0,0,h.2.1,0,h.1,A9 3 0,[],[],(0,[],()),[],()),h.2.2==0)
def a6d:sG:=⟨[.v QL,.v QI,.v QI],[.v Hu,.v .bool],NC⟩
def Bx(x:Tw×Z4):Option (Tw×Tw):=(NC (x.2.1,x.2.2.1,x.2.2.2)).bind fun h=>cond h.2 (cond (AZ ((A8 x.1)+1)) (A3 (B3 x.1 ([h.1]:List DI),[])) A6) (A3 (x.1,[]))
def b1M:sG:=⟨[.r true (.o Hu),.v QL,.v QI,.v QI],[.o Hu],Bx⟩
def dY(s:LI×c4M):QO (LI×c4M) (LI×c9p):=(fun(a:LI)(b c d e f:Int)=>cond (A4 (f<(a.length:Int))) ((Aq a f).bind fun h=>(Aq a (zB .i64 (f-d))).bind fun g=>(Rz (zB .i64 (h-g))).bind fun k=>A3 (.inl (a,s.2.1,b,c,d,zB .i64 (e+k),zB .i64 (f+1),()))) (A3 (.inr (a,s.2.1,b,c,d,e,())))) s.1 s.2.2.1 s.2.2.2.1 s.2.2.2.2.1 s.2.2.2.2.2.1 s.2.2.2.2.2.2.1
def dZ(s:LI×c9K):QO (LI×c9K) (Int×Unit):=cond (A4 (s.2.2.2.2.1<=s.2.1)) ((Ah dY (s.1,s.2.1,s.2.2.1,s.2.2.2.1,s.2.2.2.2.1,0,s.2.1,())).bind fun h=>(show Option (LI×Int×c9r)from cond (h.2.2.1==0) (A3 (h.1,h.2.1,h.2.2.1,h.2.2.2.1,h.2.2.2.2.1,h.2.2.2.2.2.1,true,())) (A3 (h.1,h.2.1,h.2.2.1,h.2.2.2.1,h.2.2.2.2.1,h.2.2.2.2.2.1,A4 (h.2.2.2.2.2.1<h.2.2.2.1),()))).bind fun g=>cond g.2.2.2.2.2.2.1 (A3 (.inl (g.1,g.2.1,g.2.2.2.2.1,g.2.2.2.2.2.1,zB .i64 (g.2.2.2.2.1+1),()))) (A3 (.inl (g.1,g.2.1,g.2.2.1,g.2.2.2.1,zB .i64 (g.2.2.2.2.1+1),())))) (A3 (.inr (s.2.2.1,())))
def ND(x:Z4):Option (Int×Int):=(show Option b7r from cond (A4 (x.2.1<2)) (A3 (x.1,x.2.1,x.2.2,true,())) (cond (A4 (x.2.2<x.2.1)) (A3 (x.1,x.2.1,x.2.2,true,())) (cond (A4 (x.2.2 > 1024)) (A3 (x.1,x.2.1,x.2.2,true,())) (A3 (x.1,x.2.1,x.2.2,A4 ((x.1.length:Int) > 4096),()))))).bind fun h=>cond h.2.2.2.1 (A3 (0,1)) (cond (A4 ((h.1.length:Int)<=h.2.2.1)) (A3 (0,7)) ((AM h.1).bind fun f=>cond (!f) (A3 (0,6)) ((Ah dZ (h.1,h.2.2.1,0,0,h.2.1,())).bind fun g=>A3 (g.1,0))))
def a0c:sG:=⟨[.v QL,.v QI,.v QI],[.v QI,.v QI],ND⟩
def d2e:sF:=Qh [.sv 0 QL,1,2,8,9,10,11,12,Qb 13,Qb 72] [[122,61,3,8],[31306,253,5,125]] [[12,0,263],[7827,0,637]] [(15,Qg 15 153122387330596864 [])]
def Hi(s:a3T):QO a3T ((Int×Unit) ⊕ (Bool×Unit)):=(fun(a:Int)(b:LI)=>cond (A4 (a<3)) ((show Option d4g from(Aq b a).bind fun g=>cond (A4 (g<(-64))) (A3 (s.1,a,true,b,())) ((Aq b a).bind fun f=>A3 (s.1,a,A4 (f > 64),b,()))).bind fun h=>cond h.2.2.1 (A3 (.inr (B6 (false,())))) (A3 (.inl (h.1,zB .i64 (h.2.1+1),h.2.2.2.1,())))) (A3 (.inr (B7 (s.1,()))))) s.2.1 s.2.2.1
def IT(x:Int×LI):Option Bool:=(Ah Hi (x.1,0,x.2,())).bind fun f=>match f with |.inl h=>(cond (A4 (h.1>=2)) (A3 (A4 (h.1<=1024))) (A3 false)) |.inr g=>A3 g.1
def a2G:sG:=⟨[.v QI,.v (.arr 3 QI)],[.v .bool],IT⟩
def d2f:sF:=Qh [0,5,Qb 4,Qb 19,.vp 3 (.arr 3 QI)] [[26,19,2,1,1,4]] [[420,0,27]] []
def Fc(s:c9y):QO c9y (Int×Unit):=(fun(a:LI)(b c d:Int)(e:LI)=>cond (A4 (d<3)) (cond (A4 ((zB .i64 ((zB .i64 ((zB .i64 ((a.length:Int)-b))-1))+d))>=0)) ((Aq e d).bind fun h=>(Aq a (zB .i64 ((zB .i64 ((zB .i64 ((a.length:Int)-b))-1))+d))).bind fun g=>A3 (.inl (a,b,zB .i64 (c+(zB .i64 (h*g))),zB .i64 (d+1),e,()))) (A3 (.inl (a,b,c,zB .i64 (d+1),e,())))) (A3 (.inr (c,())))) s.1 s.2.1 s.2.2.1 s.2.2.2.1 s.2.2.2.2.1
def Iy(x:c5a):Option Int:=(Ah Fc (x.1,x.2.1,0,0,x.2.2,())).bind fun h=>A3 (Au .i64 h.1 6)
def nL:sG:=⟨[.v QL,.v QI,.v (.arr 3 QI)],[.v QI],Iy⟩
def d2g:sF:=Qh [.sv 0 QL,1,7,8,.vp 5 (.arr 3 QI)] [[58,31,2,4]] [] [(7,Qg 11 2336462209024 [])]
def Jp(s:c3I):QO c3I (LI×Unit):=(fun(a:LI)(b:Int)(c d:LI)=>cond (A4 (b<(a.length:Int))) ((Aq a b).bind fun h=>cond (A4 (0<=b)&&A4 (b<=(a.length:Int))) ((Iy (C1 (A7 b) a,s.2.1,d)).bind fun g=>cond (AZ ((A8 c)+1)) (A3 (.inl (a,s.2.1,zB .i64 (b+1),B3 c [zB .i64 (h-g)],d,()))) A6) A6) (A3 (.inr (c,())))) s.1 s.2.2.1 s.2.2.2.1 s.2.2.2.2.1
def JR(x:c5a):Option (LI×Int):=(IT (x.2.1,x.2.2)).bind fun g=>cond (!g) (A3 ([],1)) ((AM x.1).bind fun f=>cond (!f) (A3 ([],6)) ((Ah Jp (x.1,x.2.1,0,[],x.2.2,())).bind fun h=>(AM h.1).bind fun k=>cond (!k) (A3 ([],6)) (A3 (h.1,0))))
def Xg:sG:=⟨[.v QL,.v QI,.v (.arr 3 QI)],[.o QI,.v QI],JR⟩
def d2h:sF:=Qh [.sv 0 QL,1,9,.own 8 8 QI,.vp 5 (.arr 3 QI)] [[250,31,2,8]] [] [(9,Qg 15 153403862307307521 [])]
def VO:sG:=YF (Gs [] [] 1 0) QH Tryz.f273 [] [.o (.arr 3 QI)]
def c5O:sF:=Qh [.sv 0 QL,1,7,8,9,Qb 18,12,Qb 49,.own 6 6 (.arr 3 QI),.box 4 (.arr 3 QI),Qp 4 4] [[250,1823,2,1796]] [[6,0,1571],[16019,0,2015]] []
def Xh:sG:=YF (Gs [(224,Xg),(271,kY),(273,VO)] [] 8163 0) c5O Tryz.f223 [.v QL,.v QI] [.v (.arr 3 QI),.v QI]
def a0d(x:LI×Int):Option (LI×Int):=Xh.F x
def OC(x:LI):Option (DI×Bool):=(ND (x,16,256)).bind fun g=>cond (g.2 != 0) (A3 ((0,0,0,0,0,[],A9 3 0,[],[],(0,[],()),[],()),false)) ((a0d (x,g.1)).bind fun f=>cond (f.2 != 0) (A3 ((0,0,0,0,0,[],A9 3 0,[],[],(0,[],()),[],()),false)) ((JR (x,g.1,f.1)).bind fun k=>cond (k.2 != 0) (A3 ((0,0,0,0,0,[],A9 3 0,[],[],(0,[],()),[],()),false)) ((NC (k.1,4,12)).bind fun h=>A3 ((4,h.1.2.1,h.1.2.2.1,h.1.2.2.2.1,g.1,h.1.2.2.2.2.2.1,f.1,h.1.2.2.2.2.2.2.2),h.2))))
def b1N:sG:=⟨[.v QL],[.v Hu,.v .bool],OC⟩
def d2i:sF:=Qh [] [] [] [(11,Qg 8 578912624 [[6,45],[0,10],[0,10]])]
def Hj(s:c0D):QO c0D (LI×b4K):=cond (A4 (s.2.1<5)) (cond (AZ ((A8 s.2.2.1)+1)) (A3 (.inl (s.1,zB .i64 (s.2.1+1),B3 s.2.2.1 ([(2,0,s.2.1,0,0,[],A9 3 0,[],[],(0,[],()),[],())]:List DI),()))) A6) (A3 (.inr (s.1,s.2.2.1,())))
def SW(x:LI×Int):Option Tw:=(Iv x.1).bind fun c=>(show Option c0D from cond (A4 (x.2>=1)) ((Bx (([(0,0,0,0,0,[],A9 3 0,[],[],(0,[],()),[],()),(1,0,0,0,0,[],A9 3 0,[],[],(0,[],()),[],()),(2,0,c,0,0,[],A9 3 0,[],[],(0,[],()),[],())]:List DI),x.1,4,12)).bind fun e=>(Bx (e.1,x.1,8,12)).bind fun i=>A3 (x.1,x.2,i.1,())) (A3 (x.1,x.2,([(0,0,0,0,0,[],A9 3 0,[],[],(0,[],()),[],()),(1,0,0,0,0,[],A9 3 0,[],[],(0,[],()),[],()),(2,0,c,0,0,[],A9 3 0,[],[],(0,[],()),[],())]:List DI),()))).bind fun h=>(show Option c0D from cond (A4 (h.2.1>=2)) (cond (AZ ((A8 h.2.2.1)+2)) ((OC h.1).bind fun d=>cond d.2 (cond (AZ ((A8 (B3 h.2.2.1 ([(5,0,0,0,0,[],A9 3 0,([(16,4,())]:List (Int×Int×Unit)),[],(0,[],()),[],()),(5,0,0,0,0,[],A9 3 0,([(32,3,()),(16,5,())]:List (Int×Int×Unit)),[],(0,[],()),[],())]:List DI)))+1)) (A3 (h.1,h.2.1,B3 (B3 h.2.2.1 ([(5,0,0,0,0,[],A9 3 0,([(16,4,())]:List (Int×Int×Unit)),[],(0,[],()),[],()),(5,0,0,0,0,[],A9 3 0,([(32,3,()),(16,5,())]:List (Int×Int×Unit)),[],(0,[],()),[],())]:List DI)) ([d.1]:List DI),())) A6) (A3 (h.1,h.2.1,B3 h.2.2.1 ([(5,0,0,0,0,[],A9 3 0,([(16,4,())]:List (Int×Int×Unit)),[],(0,[],()),[],()),(5,0,0,0,0,[],A9 3 0,([(32,3,()),(16,5,())]:List (Int×Int×Unit)),[],(0,[],()),[],())]:List DI),()))) A6) (A3 (h.1,h.2.1,h.2.2.1,()))).bind fun f=>(show Option b4K from cond (A4 (f.2.1>=3)) ((Ah Hj (f.1,0,f.2.2.1,())).bind fun g=>(Bx (g.2.1,g.1,1,12)).bind fun j=>(Bx (j.1,g.1,2,12)).bind fun l=>(Bx (l.1,g.1,12,14)).bind fun k=>(Bx (k.1,g.1,16,14)).bind fun a=>A3 (a.1,())) (A3 (f.2.2.1,()))).bind fun b=>A3 b.1
def a8C:sG:=⟨[.v QL,.v QI],[.o Hu],SW⟩
def d2j:sF:=Qh [.sv 0 QL,8,1,.own 5 5 Hu] [[2002,11,2,9]] [[7,0,13],[15,0,13],[31,0,8]] []
def Fd(s:SE):QO SE (Z7 ⊕ (Bool×Unit)):=(fun(a:LI)(b c:Int)=>cond (A4 (c<(a.length:Int))) ((show Option b7r from(Aq a c).bind fun g=>cond (A4 (g<(-32768))) (A3 (a,b,c,true,())) ((Aq a c).bind fun f=>A3 (a,b,c,A4 (f>=32768),()))).bind fun h=>cond h.2.2.2.1 (A3 (.inr (B6 (false,())))) (A3 (.inl (h.1,h.2.1,zB .i64 (h.2.2.1+1),())))) (A3 (.inr (B7 (a,b,()))))) s.1 s.2.1 s.2.2.1
def Ej(x:LI×Int):Option Bool:=(Ah Fd (x.1,x.2,0,())).bind fun f=>match f with |.inl h=>(cond (A4 ((h.1.length:Int)>=1)) (cond (A4 ((h.1.length:Int)<=32)) (cond (A4 (h.2.1>=0)) (A3 (A4 (h.2.1<=15))) (A3 false)) (A3 false)) (A3 false)) |.inr g=>A3 g.1
def nM:sG:=⟨[.v QL,.v QI],[.v .bool],Ej⟩
def d2k:sF:=Qh [.sv 0 QL,1,5,Qb 4,Qb 23] [[26,7,2,3,1,8]] [[420,0,23]] []
def JS(x:Int×Int×Unit):Option Bool:=cond (A4 (x.1>=1)) (cond (A4 (x.1<=32)) (cond (A4 (x.2.1>=0)) (A3 (A4 (x.2.1<=8))) (A3 false)) (A3 false)) (A3 false)
def a0e:sG:=⟨[.v Q4],[.v .bool],JS⟩
def FR(s:c9q):QO c9q ((Z8×Unit) ⊕ (Bool×Unit)):=cond (A4 (s.2.1<(s.1.length:Int))) ((Aq s.1 s.2.1).bind fun h=>(JS h).bind fun g=>cond (!g) (A3 (.inr (B6 (false,())))) (A3 (.inl (s.1,zB .i64 (s.2.1+1),())))) (A3 (.inr (B7 (s.1,()))))
def Hk(x:Z8):Option Bool:=(Ah FR (x,0,())).bind fun f=>match f with |.inl h=>A3 (A4 ((h.1.length:Int)<=3)) |.inr g=>A3 g.1
def a0f:sG:=⟨[.v (.list false Q4)],[.v .bool],Hk⟩
def d2l:sF:=Qh [.sv 0 (.list false Q4),3,Qb 2] [[26,3,2,1,1,4]] [] []
def PE(x:WW):Option Int:=cond (x.1.1==0) (A3 1) (cond (x.1.1==1) (A3 x.2) (cond (x.1.1==2) ((show Option c0A from cond (A4 (x.1.2.2.1>=0)) (cond (A4 (x.1.2.2.1<=4)) (A3 (A4 (x.1.2.2.1<=x.2),x.1,())) (A3 (false,x.1,()))) (A3 (false,x.1,()))).bind fun g=>cond g.1 (A3 g.2.1.2.2.1) (A3 (-1))) ((show Option c0C from cond (x.1.1==3) (A3 (x.2,x.1.1,x.1.1==3,x.1,())) (A3 (x.2,x.1.1,x.1.1==4,x.1,()))).bind fun h=>cond h.2.2.1 ((show Option c0A from(Ej (h.2.2.2.1.2.2.2.2.2.1,h.2.2.2.1.2.2.2.1)).bind fun k=>cond k (cond (A4 ((h.2.2.2.1.2.2.2.2.2.1.length:Int)<=h.1)) (cond (h.2.2.2.1.1==3) (A3 (true,h.2.2.2.1,())) ((IT (h.2.2.2.1.2.2.2.2.1,h.2.2.2.1.2.2.2.2.2.2.1)).bind fun a=>A3 (a,h.2.2.2.1,()))) (A3 (false,h.2.2.2.1,()))) (A3 (false,h.2.2.2.1,()))).bind fun f=>cond f.1 (A3 (f.2.1.2.2.2.2.2.1.length:Int)) (A3 (-1))) (cond (h.2.1==5) ((show Option (Bool×Unit)from cond (A4 ((h.2.2.2.1.2.2.2.2.2.2.2.1.length:Int) > 0)) ((Hk h.2.2.2.1.2.2.2.2.2.2.2.1).bind fun b=>A3 (b,())) (A3 (false,()))).bind fun c=>cond c.1 (A3 0) (A3 (-1))) (A3 (-1))))))
def a8D:sG:=⟨[.v Hu,.v QI],[.v QI],PE⟩
def d2m:sF:=Qh [Qb 27,1,6,Qb 30,Qb 56,.vp 2 Hu,Qb 70] [] [[1726,0,33],[1727,0,46],[6910,0,48],[27646,0,64]] []
def Hl(s:Z7):QO Z7 Z0:=cond (A4 (s.2.1<(s.1.length:Int))) ((Aq s.1 s.2.1).bind fun h=>(Aq s.1 0).bind fun g=>cond (h != g) (A3 (.inr (B6 (false,())))) (A3 (.inl (s.1,zB .i64 (s.2.1+1),())))) (A3 (.inr (B7 ())))
def SX(x:LI):Option Bool:=(Ah Hl (x,1,())).bind fun g=>match g with |.inl f=>A3 true |.inr h=>A3 h.1
def a8E:sG:=⟨[.v QL],[.v .bool],SX⟩
def d2n:sF:=Qh [.sv 0 QL,3,Qb 2] [[26,3,2,0,1,4]] [] [(4,Qg 8 536870912 [])]
def DO(s:c4N):QO c4N ((Int×Int×Unit) ⊕ (Int×Unit)):=(fun(a b:LI)(c d e:Int)=>cond (A4 (e<(b.length:Int))) (cond (A4 (e<(a.length:Int))) ((Aq a (zB .i64 ((zB .i64 ((a.length:Int)-1))-e))).bind fun h=>(Eb h).bind fun f=>cond (!f) (A3 (.inr (B6 (0,())))) ((Aq b e).bind fun g=>A3 (.inl (a,b,c,zB .i64 (d+(zB .i64 (g*h))),zB .i64 (e+1),())))) (A3 (.inr (B7 (c,d,()))))) (A3 (.inr (B7 (c,d,()))))) s.1 s.2.1 s.2.2.1 s.2.2.2.1 s.2.2.2.2.1
def FT(x:b7q):Option Int:=(Ej (x.2.1,x.2.2)).bind fun k=>cond (!k) (A3 0) ((Ah DO (x.1,x.2.1,x.2.2,0,0,())).bind fun f=>match f with |.inl h=>(cond (A4 (zB .u64 h.1<0)) A6 (A3 (Au .i64 h.2.1 (zB .u64 h.1)))) |.inr g=>A3 g.1)
def eA:sG:=⟨[.v QL,.v QL,.v QI],[.v QI],FT⟩
def d2o:sF:=Qh [.sv 0 QL,.sv 1 QL,2,7,8,6] [[122,31,2,12,1,32]] [] []
def GF(s:c4P):QO c4P (LI×Unit):=(fun(a:LI)(b c:Int)(d:LI)=>cond (A4 (c<(a.length:Int))) ((Aq a c).bind fun h=>cond (A4 (0<=c)&&A4 (c<=(a.length:Int))) ((FT (C1 (A7 c) a,s.2.1,b)).bind fun g=>cond (AZ ((A8 d)+1)) (A3 (.inl (a,s.2.1,b,zB .i64 (c+1),B3 d [zB .i64 (h-g)],()))) A6) A6) (A3 (.inr (d,())))) s.1 s.2.2.1 s.2.2.2.1 s.2.2.2.2.1
def KG(x:b7q):Option (LI×Int):=(show Option c3F from(Ej (x.2.1,x.2.2)).bind fun f=>cond (!f) (A3 (x.1,x.2.1,x.2.2,true,())) (A3 (x.1,x.2.1,x.2.2,A4 ((x.1.length:Int)<(x.2.1.length:Int)),()))).bind fun h=>cond h.2.2.2.1 (A3 ([],1)) ((AM h.1).bind fun k=>cond (!k) (A3 ([],6)) ((Ah GF (h.1,h.2.1,h.2.2.1,(h.2.1.length:Int),[],())).bind fun g=>(AM g.1).bind fun a=>cond (!a) (A3 ([],6)) (A3 (g.1,0))))
def iK:sG:=⟨[.v QL,.v QL,.v QI],[.o QI,.v QI],KG⟩
def d2p:sF:=Qh [.sv 0 QL,.sv 1 QL,2,9,.own 8 8 QI,Qb 20] [[250,31,2,16]] [[6,0,39]] [(9,Qg 15 153403862307307521 [])]
def Iz(x:Int×Int×Unit):Option c9u:=(JS x).bind fun h=>cond (!h) A6 (cond (A4 (0<=x.1)&&(A4 (x.1<=x.1)&&AZ (A7 x.1))) (cond (A4 (0<=x.1)&&(A4 (x.1<=x.1)&&AZ (A7 x.1))) (A3 ((x.2.1,A9 (A7 x.1) 0,A9 (A7 x.1) 0,()),0)) A6) A6)
def nN:sG:=⟨[.v Q4],[.b b3u,.v QI],Iz⟩
def d2q:sF:=Qh [] [] [] [(3,Qg 12 37529692733440 [])]
def RX(x:Int):Option Int:=some (En (DH x (-1073741824)) 1073741823)
def b1O:sG:=⟨[.v QI],[.v QI],RX⟩
def Fl(s:c0p):QO c0p c9A:=(fun(a:Int)(b:b4I)=>cond (A4 (a<(b.2.1.length:Int))) (cond (A4 (0<=a)&&A4 (a<(b.2.1.length:Int))) (cond (A4 (0<=a)&&A4 (a<(b.2.2.1.length:Int))) (A3 (.inl (zB .i64 (s.1+(zB .i64 ((B4 b.2.1 (A7 a) 0)*(B4 b.2.2.1 (A7 a) 0)))),zB .i64 (a+1),b,()))) A6) A6) (A3 (.inr (s.1,b,())))) s.2.1 s.2.2.1
def Dr(x:b4I):Option c9N:=(Ah Fl (0,0,x,())).bind fun h=>(RX (Au .i64 h.1 16)).bind fun g=>A3 (g,h.2.1)
def ZY:sG:=⟨[.r false (.b b3u)],[.v QI],Dr⟩
def d2r:sF:=Qh [3,4,.box pinned b3u,Qp 0 pinned] [[58,15,2,5]] [] [(5,Qg 18 627265878610816340784 [])]
def RY(x:Int):Option Int:=cond (A4 (x > 0)) (A3 1) (cond (A4 (x<0)) (A3 (-1)) (A3 0))
def b1P:sG:=⟨[.v QI],[.v QI],RY⟩
def DP(s:Int×Int×Int×LI×c0m):QO (Int×Int×Int×LI×c0m) (Int×LI×c0m):=(fun(a:Int)(b c:LI)(d:b4I)=>cond (A4 (a<(d.2.1.length:Int))) (cond (A4 (0<=a)&&A4 (a<(d.2.1.length:Int))) (cond (A4 (0<=a)&&A4 (a<(d.2.2.1.length:Int))) ((RY (B4 d.2.2.1 (A7 a) 0)).bind fun h=>cond (A4 (zB .u64 d.1<0)) A6 (cond (AZ ((A8 b)+1)) (A3 (.inl (s.1,s.2.1,zB .i64 (a+1),B3 b [En (DH (zB .i64 ((B4 d.2.1 (A7 a) 0)+(AO .i64 (zB .i64 (s.2.1*h)) (zB .u64 d.1)))) (-1048576)) 1048576],c,d,()))) A6)) A6) A6) (A3 (.inr (s.1,b,c,d,())))) s.2.2.1 s.2.2.2.1 s.2.2.2.2.1 s.2.2.2.2.2.1
def FU(x:c9u):Option b4I:=(RX x.2).bind fun g=>(Dr x.1).bind fun f=>(RY (zB .i64 (g-f.1))).bind fun k=>(Ah DP (g,k,0,[],[],f.2,())).bind fun h=>cond (AZ ((A8 h.2.2.1)+1)) (cond (A4 (0<=(zB .i64 ((h.2.2.2.1.2.2.1.length:Int)-1)))&&A4 ((zB .i64 ((h.2.2.2.1.2.2.1.length:Int)-1))<=(h.2.2.2.1.2.2.1.length:Int))) (cond (AZ ((A8 (B3 h.2.2.1 [h.1]))+(A8 (C1 (A7 (zB .i64 ((h.2.2.2.1.2.2.1.length:Int)-1))) (C2 0 h.2.2.2.1.2.2.1))))) (A3 (h.2.2.2.1.1,h.2.1,B3 (B3 h.2.2.1 [h.1]) (C1 (A7 (zB .i64 ((h.2.2.2.1.2.2.1.length:Int)-1))) (C2 0 h.2.2.2.1.2.2.1)),h.2.2.2.1.2.2.2)) A6) A6) A6
def eB:sG:=⟨[.r false (.b b3u),.v QI],[],FU⟩
def d2s:sF:=Qh [1,4,7,.own 5 5 QI,.own 6 6 QI,.box pinned b3u,Qp 0 pinned] [[122,127,2,121]] [] [(6,Qg 30 176862611764635146946176749876089649 []),(7,Qg 17 39705835702662168833 [[6,55,56],[59,pinned],[60,pinned],[63,pinned],[64,pinned],[65,pinned],[67,pinned]])]
def HT(s:c0v):QO c0v c4O:=(fun(a:Int)(b:LI)=>cond (A4 (a<(b.length:Int))) (cond (A4 (0<=a)&&A4 (a<(b.length:Int))) ((Dr s.2.2.2.2.1).bind fun h=>cond (A4 (0<=a)&&A4 (a<(b.length:Int))) ((FU (h.2,B4 b (A7 a) 0)).bind fun g=>A3 (.inl (s.1,s.2.1,zB .i64 (a+1),C0 b (A7 a) (zB .i64 ((B4 b (A7 a) 0)-h.1)),g,()))) A6) A6) (A3 (.inr (s.1,s.2.1,b,())))) s.2.2.1 s.2.2.2.1
def Fe(s:c4O):QO c4O a7W:=cond (A4 (s.2.1<(s.1.length:Int))) ((Aq s.1 s.2.1).bind fun g=>(Iz g).bind fun f=>(Ah HT (s.1,s.2.1,0,s.2.2.1,f.1,())).bind fun h=>(AM h.2.2.1).bind fun k=>cond (!k) (A3 (.inr (B6 (6,[],())))) (A3 (.inl (h.1,zB .i64 (h.2.1+1),h.2.2.1,())))) (A3 (.inr (B7 (s.2.2.1,()))))
def LZ(x:c9n):Option (LI×Int):=(Hk x.2).bind fun k=>cond (!k) (A3 ([],1)) ((AM x.1).bind fun a=>cond (!a) (A3 ([],6)) (cond (AZ (0+(A8 x.1))) ((Ah Fe (x.2,0,B3 [] x.1,())).bind fun f=>match f with |.inl g=>A3 (g.1,0) |.inr h=>A3 (h.2.1,h.1)) A6))
def nO:sG:=⟨[.v QL,.v (.list false Q4)],[.o QI,.v QI],LZ⟩
def d2t:sF:=Qh [.sv 1 (.list false Q4),7,10,.own 6 6 QI,.box 1032 b3u,Qp 8 1032,5,.own 4 4 QI] [[250,11,2,8,1,192],[64074,63,4,11]] [] []
def RZ(x:DI×LI):Option b7q:=cond (x.1.1==2) ((Df (x.2,x.1.2.2.1)).bind fun a=>cond (A4 (0<=x.1.2.2.1)&&A4 (x.1.2.2.1<=(x.2.length:Int))) (A3 (C1 (A7 x.1.2.2.1) x.2,a.1,a.2)) A6) ((show Option (LI×a7Y)from cond (x.1.1==3) (A3 (x.2,x.1.1,x.1.1==3,x.1,())) (A3 (x.2,x.1.1,x.1.1==4,x.1,()))).bind fun h=>cond h.2.2.1 ((show Option (c5l ⊕ c9o)from cond (h.2.2.2.1.1==4) ((JR (h.1,h.2.2.2.1.2.2.2.2.1,h.2.2.2.1.2.2.2.2.2.2.1)).bind fun k=>cond (k.2 != 0) (A3 (B6 ([],[],k.2,()))) (A3 (B7 (k.1,h.2.2.2.1,())))) (A3 (B7 (h.1,h.2.2.2.1,())))).bind fun d=>match d with |.inl g=>((KG (g.1,g.2.1.2.2.2.2.2.1,g.2.1.2.2.2.1)).bind fun b=>cond (A4 (0<=(g.2.1.2.2.2.2.2.1.length:Int))&&A4 ((g.2.1.2.2.2.2.2.1.length:Int)<=(g.1.length:Int))) (A3 (C1 (A7 (g.2.1.2.2.2.2.2.1.length:Int)) g.1,b.1,b.2)) A6) |.inr f=>A3 (f.1,f.2.1,f.2.2.1)) (cond (h.2.1==5) ((LZ (h.1,h.2.2.2.1.2.2.2.2.2.2.2.1)).bind fun c=>A3 ([],c.1,c.2)) (A3 (h.1,[],0))))
def b1Q:sG:=⟨[.v Hu,.v QL],[.v QL,.v QL,.v QI],RZ⟩
def d2u:sF:=Qh [.sv 1 QL,16,Qb 32,.vp 2 Hu,.sv 4 QL,.sv 5 QL,6] [] [[107,0,15],[430,0,9,1,112]] []
def Gl(x:Int):Option Bool:=cond (A4 (x>=2)) (A3 (A4 (x<=5))) (A3 false)
def a2H:sG:=⟨[.v QI],[.v .bool],Gl⟩
def Xi(x:Int×Int):Option Bool:=cond (A4 (x.1>=1)) (cond (A4 (x.1<=4096)) (cond (A4 (x.2>=0)) (A3 (A4 (x.2<=x.1))) (A3 false)) (A3 false)) (A3 false)
def b7F:sG:=⟨[.v QI,.v QI],[.v .bool],Xi⟩
def HU(s:c9v):QO c9v Z6:=(fun(a b c:Int)(d:LI)=>cond (A4 (zB .u64 a<0)) A6 (cond (A4 (c<AO .i64 1 (zB .u64 a))) (cond (A4 (zB .u64 a<0)) A6 (cond (AZ ((A8 d)+1)) (A3 (.inl (a,s.2.1,b,zB .i64 (c+1),B3 d [Au .i64 s.2.1 (zB .u64 a)],()))) A6)) (A3 (.inr (b,d,()))))) s.1 s.2.2.1 s.2.2.2.1 s.2.2.2.2.1
def Ek(x:Int×Int×Int):Option LI:=(show Option c5b from(Xi (x.2.1,x.2.2)).bind fun f=>cond (!f) (A3 (x.1,x.2.1,x.2.2,true,())) (cond (A4 (x.1<0)) (A3 (x.1,x.2.1,x.2.2,true,())) (cond (A4 (x.1 > 8)) (A3 (x.1,x.2.1,x.2.2,true,())) (cond (A4 (zB .u64 x.1<0)) A6 (cond (AO .i64 1 (zB .u64 x.1)==0) A6 (cond ((B8 x.2.1 (AO .i64 1 (zB .u64 x.1))) != 0) (A3 (x.1,x.2.1,x.2.2,true,())) (cond (A4 (zB .u64 x.1<0)) A6 (A3 (x.1,x.2.1,x.2.2,A4 (Au .i64 x.2.1 (zB .u64 x.1)<x.2.2),()))))))))).bind fun g=>cond g.2.2.2.1 (A3 []) ((Ah HU (g.1,g.2.1,g.2.2.1,0,[],())).bind fun h=>cond (A4 (0<(h.2.1.length:Int))) (cond (A4 (0<(h.2.1.length:Int))) (A3 (C0 h.2.1 0 (zB .i64 ((B4 h.2.1 0 0)-h.1)))) A6) A6)
def nP:sG:=⟨[.v QI,.v QI,.v QI],[.o QI],Ek⟩
def d2v:sF:=Qh [0,1,2,8,.own 7 7 QI,Qb 36] [[122,31,2,20]] [[6,0,39]] []
def DQ(x:Int):Option Bool:=cond (A4 (x>=0)) (A3 (A4 (x<=25))) (A3 false)
def a0g:sG:=⟨[.v QI],[.v .bool],DQ⟩
def Ub(x:Int):Option Int:=(show Option (Int×Unit)from cond (A4 (x<0)) (A3 (bits .u64 .xor (IntKind.max .u64) (AO .u64 (zB .u64 x) 1),())) (A3 (AO .u64 (zB .u64 x) 1,()))).bind fun h=>A3 h.1
def b7G:sG:=⟨[.v QI],[.v QU],Ub⟩
def d2w:sF:=Qh [.sv 3 QU] [] [[7,0,1]] []
def Uc(x:Int):Option Int:=(Eb x).bind fun h=>cond (!h) (A3 0) ((Ub x).bind fun g=>A3 g)
def b5a:sG:=⟨[.v QI],[.v QU],Uc⟩
def IU(x:Int×Int):Option Int:=(show Option c4I from(DQ x.1).bind fun f=>cond (!f) (A3 (x.1,x.2,true,())) ((Eb x.2).bind fun k=>A3 (x.1,x.2,!k,()))).bind fun h=>cond h.2.2.1 (A3 0) ((Uc h.2.1).bind fun g=>cond (A4 (zB .u64 h.1<0)) A6 (cond (A4 (zB .i64 (Au .u64 g (zB .u64 h.1))<32)) (A3 (zB .i64 ((zB .i64 ((zB .i64 (Au .u64 g (zB .u64 h.1)))+1))+h.1))) (A3 65)))
def a2I:sG:=⟨[.v QI,.v QI],[.v QI],IU⟩
def d2x:sF:=Qh [0,1,Qb 13] [] [[6,0,7]] []
def El(s:a5F):Option c3H:=(fun(a:LI)(b c:Int)=>cond (A4 (c<(a.length:Int))) ((Aq a c).bind fun h=>(IU (s.1,h)).bind fun g=>A3 (.inl (s.1,a,zB .i64 (b+g),zB .i64 (c+1),()))) (A3 (.inr (b,())))) s.2.1 s.2.2.1 s.2.2.2.1
def EE(x:Int×LI):Option Int:=(Ah El (x.1,x.2,0,0,())).bind fun h=>A3 h.1
def a6e:sG:=⟨[.v QI,.v QL],[.v QI],EE⟩
def d2y:sF:=Qh [0,.sv 1 QL,5,6] [[58,15,2,4]] [] []
def KH(s:SE):Option c2g:=(fun(a:LI)(b c:Int)=>cond (A4 (c<=25)) ((EE (c,a)).bind fun h=>(EE (b,a)).bind fun g=>cond (A4 (h<g)) (A3 (.inl (a,c,zB .i64 (c+1),()))) (A3 (.inl (a,b,zB .i64 (c+1),())))) (A3 (.inr (b,())))) s.1 s.2.1 s.2.2.1
def OU(x:LI):Option Int:=(Ah KH (x,0,1,())).bind fun h=>A3 h.1
def a2J:sG:=⟨[.v QL],[.v QI],OU⟩
def d2z:sF:=Qh [.sv 0 QL,3,4] [[58,7,2,2]] [] []
def LB(s:SE):QO SE SE:=(fun(a:LI)(b c:Int)=>cond (A4 (b<32)) ((Aq a c).bind fun h=>cond (h != 0) ((Aq a c).bind fun g=>(Hd (g,b)).bind fun f=>cond (!f) (A3 (.inl (a,zB .i64 (b+1),c,()))) (A3 (.inr (a,b,c,())))) (A3 (.inr (a,b,c,())))) (A3 (.inr (a,b,c,())))) s.1 s.2.1 s.2.2.1
def OV(s:SE):Option c2g:=cond (A4 (s.2.2.1<(s.1.length:Int))) ((Ah LB (s.1,s.2.1,s.2.2.1,())).bind fun h=>A3 (.inl (h.1,h.2.1,zB .i64 (h.2.2.1+1),()))) (A3 (.inr (s.2.1,())))
def Mo(x:LI):Option Int:=(Ah OV (x,0,0,())).bind fun h=>A3 h.1
def b1R:sG:=⟨[.v QL],[.v QI],Mo⟩
def d2A:sF:=Qh [.sv 0 QL,3,4] [[58,7,2,2],[1864,7,4,7]] [] []
def DE(x:Int×LI):Option Int:=cond (x.1==31) ((Mo x.2).bind fun h=>A3 (zB .i64 (5+(zB .i64 ((x.2.length:Int)*h))))) ((EE (x.1,x.2)).bind fun g=>A3 g)
def a2K:sG:=⟨[.v QI,.v QL],[.v QI],DE⟩
def Vj(x:LI):Option Int:=(OU x).bind fun h=>(DE (31,x)).bind fun g=>(EE (h,x)).bind fun f=>cond (A4 (g<f)) (A3 31) (A3 h)
def b1S:sG:=⟨[.v QL],[.v QI],Vj⟩
def EM(s:Int×c0i):QO (Int×c0i) Z0:=cond (A4 (s.1<(s.2.1.2.1.length:Int))) ((show Option (Int×c4K)from(Aq s.2.1.2.1 s.1).bind fun g=>(DQ g).bind fun k=>cond (!k) ((Aq s.2.1.2.1 s.1).bind fun f=>A3 (s.1,f != 31,s.2.1,())) (A3 (s.1,false,s.2.1,()))).bind fun h=>cond h.2.1 (A3 (.inr (B6 (false,())))) (A3 (.inl (zB .i64 (h.1+1),h.2.2.1,())))) (A3 (.inr (B7 ())))
def IV(x:Z6×Int×Int):Option Bool:=(Ek (x.1.1,x.2.1,x.2.2)).bind fun h=>(show Option c4K from cond ((h.length:Int)==0) (A3 (true,x.1,())) (A3 ((h.length:Int) != (x.1.2.1.length:Int),x.1,()))).bind fun g=>cond g.1 (A3 false) ((Ah EM (0,g.2.1,())).bind fun k=>match k with |.inl a=>A3 true |.inr f=>A3 f.1)
def a2L:sG:=⟨[.v iA,.v QI,.v QI],[.v .bool],IV⟩
def d2B:sF:=Qh [8,Qb 6,Qb 24,Qb 46,.vp 3 iA] [[122,17,2,0,1,2]] [[14,0,20],[1956,0,25]] []
def CU(s:c0u):QO c0u (Int×Unit):=(fun(a b:Int)(c:LI)(d:Z6)=>cond (A4 (b<(c.length:Int))) ((Aq d.2.1 b).bind fun h=>cond (A4 (0<=b)&&A4 (b<(c.length:Int))) (cond (A4 (0<=(zB .i64 (a+(B4 c (A7 b) 0))))&&A4 ((zB .i64 (a+(B4 c (A7 b) 0)))<=(s.1.length:Int))) (cond (A4 (0<=a)&&A4 (a<=((A7 (zB .i64 (a+(B4 c (A7 b) 0))):Nat):Int))) ((DE (h,C2 (A7 a) (C1 (A7 (zB .i64 (a+(B4 c (A7 b) 0)))) s.1))).bind fun g=>cond (A4 (0<=b)&&A4 (b<(c.length:Int))) (A3 (.inl (s.1,zB .i64 ((zB .i64 (s.2.1+5))+g),zB .i64 (a+(B4 c (A7 b) 0)),zB .i64 (b+1),c,d,()))) A6) A6) A6) A6) (A3 (.inr (s.2.1,())))) s.2.2.1 s.2.2.2.1 s.2.2.2.2.1 s.2.2.2.2.2.1
def CV(x:c9x):Option Int:=(show Option (Int×Int×LI×c4K)from(IV (x.1,x.2.1,x.2.2.1)).bind fun f=>cond (!f) (A3 (x.2.1,x.2.2.1,x.2.2.2,true,x.1,())) (cond ((x.2.2.2.length:Int) != (zB .i64 (x.2.1-x.2.2.1))) (A3 (x.2.1,x.2.2.1,x.2.2.2,true,x.1,())) ((AM x.2.2.2).bind fun k=>A3 (x.2.1,x.2.2.1,x.2.2.2,!k,x.1,())))).bind fun h=>cond h.2.2.2.1 (A3 0) ((Ek (h.2.2.2.2.1.1,h.1,h.2.1)).bind fun a=>(Ah CU (h.2.2.1,4,0,0,a,h.2.2.2.2.1,())).bind fun g=>A3 g.1)
def a0h:sG:=⟨[.v iA,.v QI,.v QI,.v QL],[.v QI],CV⟩
def d2C:sF:=Qh [1,2,.sv 3 QL,9,10,12,.own 11 11 QI,Qb 30,.vp 4 iA] [[250,380,2,8]] [[6,0,391]] [(8,Qg 19 10035033562272111788032 [])]
def FV(s:Int×Int×Int×LI×Int×Int×c0y):QO (Int×Int×Int×LI×Int×Int×c0y) (Int×Int×Int×LI×Int×Int×b7v):=(fun(a:Int)(b:LI)(c d e f:Int)(g:LI)(h i j:Z6)=>cond (A4 (f<(g.length:Int))) (cond (A4 (0<=f)&&A4 (f<(g.length:Int))) (cond (A4 (0<=(zB .i64 (e+(B4 g (A7 f) 0))))&&A4 ((zB .i64 (e+(B4 g (A7 f) 0)))<=(b.length:Int))) (cond (A4 (0<=e)&&A4 (e<=((A7 (zB .i64 (e+(B4 g (A7 f) 0))):Nat):Int))) ((Vj (C2 (A7 e) (C1 (A7 (zB .i64 (e+(B4 g (A7 f) 0)))) b))).bind fun k=>cond (AZ ((A8 j.2.1)+1)) (cond (A4 (0<=f)&&A4 (f<(g.length:Int))) (A3 (.inl (s.1,s.2.1,a,b,c,d,zB .i64 (e+(B4 g (A7 f) 0)),zB .i64 (f+1),g,h,i,(j.1,B3 j.2.1 [k],j.2.2),()))) A6) A6) A6) A6) A6) (A3 (.inr (s.1,s.2.1,a,b,c,d,h,i,j,())))) s.2.2.1 s.2.2.2.1 s.2.2.2.2.1 s.2.2.2.2.2.1 s.2.2.2.2.2.2.1 s.2.2.2.2.2.2.2.1 s.2.2.2.2.2.2.2.2.1 s.2.2.2.2.2.2.2.2.2.1 s.2.2.2.2.2.2.2.2.2.2.1 s.2.2.2.2.2.2.2.2.2.2.2.1
def Ec(s:c0x):QO c0x c0q:=(fun(a b:Int)(c d:Z6)=>cond (A4 (b<=(En (DH a 0) 8))) ((Ek (b,s.1,s.2.1)).bind fun k=>(Ah FV (s.1,s.2.1,a,s.2.2.2.1,s.2.2.2.2.1,b,0,0,k,c,d,(b,[],()),())).bind fun h=>(CV (h.2.2.2.2.2.2.2.2.1,h.1,h.2.1,h.2.2.2.1)).bind fun f=>(show Option (Int×Int×Int×LI×Int×Int×Int×Bool×b7v)from cond (A4 (f > 0)) (cond (h.2.2.2.2.1==0) (A3 (h.1,h.2.1,h.2.2.1,h.2.2.2.1,h.2.2.2.2.1,h.2.2.2.2.2.1,f,true,h.2.2.2.2.2.2.1,h.2.2.2.2.2.2.2.1,h.2.2.2.2.2.2.2.2.1,())) (A3 (h.1,h.2.1,h.2.2.1,h.2.2.2.1,h.2.2.2.2.1,h.2.2.2.2.2.1,f,A4 (f<h.2.2.2.2.1),h.2.2.2.2.2.2.1,h.2.2.2.2.2.2.2.1,h.2.2.2.2.2.2.2.2.1,()))) (A3 (h.1,h.2.1,h.2.2.1,h.2.2.2.1,h.2.2.2.2.1,h.2.2.2.2.2.1,f,false,h.2.2.2.2.2.2.1,h.2.2.2.2.2.2.2.1,h.2.2.2.2.2.2.2.2.1,()))).bind fun g=>cond g.2.2.2.2.2.2.2.1 (A3 (.inl (g.1,g.2.1,g.2.2.1,g.2.2.2.1,g.2.2.2.2.2.2.1,zB .i64 (g.2.2.2.2.2.1+1),g.2.2.2.2.2.2.2.2.1,g.2.2.2.2.2.2.2.2.2.2.1,()))) (A3 (.inl (g.1,g.2.1,g.2.2.1,g.2.2.2.1,g.2.2.2.2.1,zB .i64 (g.2.2.2.2.2.1+1),g.2.2.2.2.2.2.2.2.1,g.2.2.2.2.2.2.2.2.2.1,())))) (A3 (.inr (c,d,())))) s.2.2.1 s.2.2.2.2.2.1 s.2.2.2.2.2.2.1 s.2.2.2.2.2.2.2.1
def NE(x:Int×Z5):Option (Z6×Int):=(show Option (Int×Int×Int×LI×c4K)from(Xi (x.1,x.2.1)).bind fun f=>cond (!f) (A3 (x.1,x.2.1,x.2.2.1,x.2.2.2,true,(0,[],()),())) (cond ((x.2.2.2.length:Int) != (zB .i64 (x.1-x.2.1))) (A3 (x.1,x.2.1,x.2.2.1,x.2.2.2,true,(0,[],()),())) ((AM x.2.2.2).bind fun k=>A3 (x.1,x.2.1,x.2.2.1,x.2.2.2,!k,(0,[],()),())))).bind fun h=>cond h.2.2.2.2.1 (A3 ((0,[],()),1)) ((Ah Ec (h.1,h.2.1,h.2.2.1,h.2.2.2.1,0,0,h.2.2.2.2.2.1,(0,[],()),())).bind fun g=>A3 (g.2.1,0))
def a0i:sG:=⟨[.v QI,.v QI,.v QI,.v QL],[.v iA,.v QI],NE⟩
def d2D:sF:=Qh [0,1,2,.sv 3 QL,11,12,14,16,.own 13 13 QI,Qb 34,17,Qb 91,.box 8 iA,.box 10 iA,.box 15 c9F,.box 15 iA,Qp 8 8,Qp 10 10,Qp 15 15] [[250,208959,2,208896],[128154,487935,4,487487]] [[6,0,70159],[64079,0,506943]] [(13,Qg 16 2459246876085452817 [])]
def OW(x:Int×LI×DI):Option WW:=(show Option (Int×LI×c5m)from cond (x.1==2) (A3 (x.1,x.2.1,(x.2.1.length:Int),(0,0,0,0,0,[],A9 3 0,[],[],(0,[],()),[],()),(x.1,0,x.2.2.2.2.1,0,0,[],A9 3 0,[],[],(0,[],()),[],()),())) (cond (x.1==3) (A3 (x.1,x.2.1,(x.2.1.length:Int),(0,0,0,0,0,[],A9 3 0,[],[],(0,[],()),[],()),(x.1,0,0,x.2.2.2.2.2.1,0,x.2.2.2.2.2.2.2.1,A9 3 0,[],[],(0,[],()),[],()),())) (cond (x.1==4) (A3 (x.1,x.2.1,(x.2.1.length:Int),(0,0,0,0,0,[],A9 3 0,[],[],(0,[],()),[],()),(x.1,0,0,x.2.2.2.2.2.1,x.2.2.2.2.2.2.1,x.2.2.2.2.2.2.2.1,x.2.2.2.2.2.2.2.2.1,[],[],(0,[],()),[],()),())) (cond (x.1==5) (A3 (x.1,x.2.1,(x.2.1.length:Int),(0,0,0,0,0,[],A9 3 0,[],[],(0,[],()),[],()),(x.1,0,0,0,0,[],A9 3 0,x.2.2.2.2.2.2.2.2.2.1,[],(0,[],()),[],()),())) (A3 (x.1,x.2.1,(x.2.1.length:Int),(0,0,0,0,0,[],A9 3 0,[],[],(0,[],()),[],()),(x.1,0,0,0,0,[],A9 3 0,[],[],(0,[],()),[],()),())))))).bind fun g=>(show Option (Int×LI×Int×Bool×hZ)from cond (A4 (g.2.2.1<1)) (A3 (g.1,g.2.1,g.2.2.1,true,g.2.2.2.1,g.2.2.2.2.1,())) (cond (A4 (g.2.2.1 > 4096)) (A3 (g.1,g.2.1,g.2.2.1,true,g.2.2.2.1,g.2.2.2.2.1,())) ((PE (g.2.2.2.2.1,g.2.2.1)).bind fun c=>A3 (g.1,g.2.1,g.2.2.1,A4 (c<0),g.2.2.2.1,g.2.2.2.2.1,())))).bind fun h=>cond h.2.2.2.1 (A3 ((0,0,0,0,0,[],A9 3 0,[],[],(0,[],()),[],()),1)) ((AM h.2.1).bind fun d=>cond (!d) (A3 ((0,0,0,0,0,[],A9 3 0,[],[],(0,[],()),[],()),6)) (cond (h.1==0) ((SX h.2.1).bind fun e=>cond (!e) (A3 ((0,0,0,0,0,[],A9 3 0,[],[],(0,[],()),[],()),7)) (cond (A4 (1<=(h.2.1.length:Int))) (A3 ((h.2.2.2.2.2.1.1,h.2.2.2.2.2.1.2.1,h.2.2.2.2.2.1.2.2.1,h.2.2.2.2.2.1.2.2.2.1,h.2.2.2.2.2.1.2.2.2.2.1,h.2.2.2.2.2.1.2.2.2.2.2.1,h.2.2.2.2.2.1.2.2.2.2.2.2.1,h.2.2.2.2.2.1.2.2.2.2.2.2.2.1,C1 1 h.2.1,h.2.2.2.2.2.1.2.2.2.2.2.2.2.2.2),0)) A6)) ((JP h.2.1).bind fun k=>(Ua (h.2.1,k)).bind fun i=>(RZ ((h.2.2.2.2.2.1.1,k,h.2.2.2.2.2.1.2.2),i.1)).bind fun f=>cond (f.2.2 != 0) (A3 ((0,0,0,0,0,[],A9 3 0,[],[],(0,[],()),[],()),6)) ((show Option hZ from(Gl h.1).bind fun j=>cond j ((NE (h.2.2.1,(f.1.length:Int),6,f.2.1)).bind fun a=>A3 (h.2.2.2.2.1,(h.2.2.2.2.2.1.1,k,h.2.2.2.2.2.1.2.2.1,h.2.2.2.2.2.1.2.2.2.1,h.2.2.2.2.2.1.2.2.2.2.1,h.2.2.2.2.2.1.2.2.2.2.2.1,h.2.2.2.2.2.1.2.2.2.2.2.2.1,h.2.2.2.2.2.1.2.2.2.2.2.2.2.1,f.1,a.1,f.2.1,h.2.2.2.2.2.1.2.2.2.2.2.2.2.2.2.2.2),())) (A3 (h.2.2.2.2.1,(h.2.2.2.2.2.1.1,k,h.2.2.2.2.2.1.2.2.1,h.2.2.2.2.2.1.2.2.2.1,h.2.2.2.2.2.1.2.2.2.2.1,h.2.2.2.2.2.1.2.2.2.2.2.1,h.2.2.2.2.2.1.2.2.2.2.2.2.1,h.2.2.2.2.2.1.2.2.2.2.2.2.2.1,f.1,h.2.2.2.2.2.1.2.2.2.2.2.2.2.2.2.1,f.2.1,h.2.2.2.2.2.1.2.2.2.2.2.2.2.2.2.2.2),()))).bind fun b=>A3 (b.2.1,0)))))
def a2M:sG:=⟨[.v QI,.v QL,.v Hu],[.v Hu,.v QI],OW⟩
def d2E:sF:=Qh [0,.sv 1 QL,8,Qb 63,.box 6 Hu,.box 9 Hu,Qp 6 6,Qp 9 9] [] [[15,0,247],[62,0,255],[8191,0,240]] [(7,Qg 8 578879488 [[0,9]]),(9,Qg 16 2486410860335988736 [[0,9],[0,9],[0,9]])]
def Et(s:Z8×c9q):QO (Z8×c9q) Z0:=(fun(a:Int)=>cond (A4 (a<(s.1.length:Int))) ((Aq s.1 a).bind fun h=>(Aq s.2.1 a).bind fun g=>cond (!(gE Q4 h g)) (A3 (.inr (B6 (false,())))) (A3 (.inl (s.1,s.2.1,zB .i64 (a+1),())))) (A3 (.inr (B7 ())))) s.2.2.1
def KI(x:Z8×Z8):Option Bool:=cond ((x.1.length:Int) != (x.2.length:Int)) (A3 false) ((Ah Et (x.1,x.2,0,())).bind fun g=>match g with |.inl f=>A3 true |.inr h=>A3 h.1)
def iL:sG:=⟨[.v (.list false Q4),.v (.list false Q4)],[.v .bool],KI⟩
def d2F:sF:=Qh [.sv 0 (.list false Q4),.sv 1 (.list false Q4),5,Qb 4] [[58,7,2,0,1,8]] [] [(6,Qg 9 8589934592 [])]
def Sa(x:Z6×Z6):Option Bool:=cond (x.1.1==x.2.1) ((DD (x.1.2.1,x.2.2.1)).bind fun h=>A3 h) (A3 false)
def a0j:sG:=⟨[.v iA,.v iA],[.v .bool],Sa⟩
def LC(x:DI×DI):Option Bool:=cond (x.1.1==x.2.1) (cond (x.1.2.1==x.2.2.1) (cond (x.1.2.2.1==x.2.2.2.1) (cond (x.1.2.2.2.1==x.2.2.2.2.1) (cond (x.1.2.2.2.2.1==x.2.2.2.2.2.1) ((DD (x.1.2.2.2.2.2.1,x.2.2.2.2.2.2.1)).bind fun h=>cond h (cond (gE (.arr 3 (.int .i64)) x.1.2.2.2.2.2.2.1 x.2.2.2.2.2.2.2.1) ((KI (x.1.2.2.2.2.2.2.2.1,x.2.2.2.2.2.2.2.2.1)).bind fun g=>cond g ((DD (x.1.2.2.2.2.2.2.2.2.1,x.2.2.2.2.2.2.2.2.2.1)).bind fun f=>cond f ((Sa (x.1.2.2.2.2.2.2.2.2.2.1,x.2.2.2.2.2.2.2.2.2.2.1)).bind fun k=>cond k ((DD (x.1.2.2.2.2.2.2.2.2.2.2.1,x.2.2.2.2.2.2.2.2.2.2.2.1)).bind fun a=>A3 a) (A3 false)) (A3 false)) (A3 false)) (A3 false)) (A3 false)) (A3 false)) (A3 false)) (A3 false)) (A3 false)) (A3 false)
def a2N:sG:=⟨[.v Hu,.v Hu],[.v .bool],LC⟩
def SY(x:DI):Option DI:=cond (x.1==0) (A3 (x.1,0,0,0,0,[],A9 3 0,[],x.2.2.2.2.2.2.2.2.1,(0,[],()),[],())) (cond (x.1==1) (A3 (x.1,x.2.1,0,0,0,[],A9 3 0,[],x.2.2.2.2.2.2.2.2.1,(0,[],()),[],())) ((show Option hZ from cond (x.1==2) (A3 ((0,0,0,0,0,[],A9 3 0,[],[],(0,[],()),[],()),(x.1,x.2.1,x.2.2.1,0,0,[],A9 3 0,[],x.2.2.2.2.2.2.2.2.1,x.2.2.2.2.2.2.2.2.2.1,x.2.2.2.2.2.2.2.2.2.2.1,()),())) (cond (x.1==3) (A3 ((0,0,0,0,0,[],A9 3 0,[],[],(0,[],()),[],()),(x.1,x.2.1,0,x.2.2.2.1,0,x.2.2.2.2.2.1,A9 3 0,[],x.2.2.2.2.2.2.2.2.1,x.2.2.2.2.2.2.2.2.2.1,x.2.2.2.2.2.2.2.2.2.2.1,()),())) (cond (x.1==4) (A3 ((0,0,0,0,0,[],A9 3 0,[],[],(0,[],()),[],()),(x.1,x.2.1,0,x.2.2.2.1,x.2.2.2.2.1,x.2.2.2.2.2.1,x.2.2.2.2.2.2.1,[],x.2.2.2.2.2.2.2.2.1,x.2.2.2.2.2.2.2.2.2.1,x.2.2.2.2.2.2.2.2.2.2.1,()),())) (cond (x.1==5) (A3 ((0,0,0,0,0,[],A9 3 0,[],[],(0,[],()),[],()),(x.1,x.2.1,0,0,0,[],A9 3 0,x.2.2.2.2.2.2.2.1,[],x.2.2.2.2.2.2.2.2.2.1,x.2.2.2.2.2.2.2.2.2.2.1,()),())) (A3 ((0,0,0,0,0,[],A9 3 0,[],[],(0,[],()),[],()),(x.1,x.2.1,0,0,0,[],A9 3 0,[],x.2.2.2.2.2.2.2.2.1,x.2.2.2.2.2.2.2.2.2.1,x.2.2.2.2.2.2.2.2.2.2.1,()),())))))).bind fun h=>A3 h.2.1))
def a8F:sG:=⟨[.v Hu],[.v Hu],SY⟩
def d2G:sF:=Qh [.box 2 Hu,.box 3 Hu,Qp 2 2,Qp 3 3] [] [[127,0,15]] [(7,Qg 8 578879488 [[0,3]]),(12,Qg 8 578879488 [[0,3]]),(14,Qg 16 2486410860335988736 [[0,3],[0,3],[0,3]])]
def Vk(x:Int):Option LI:=cond (A4 (0<=x)&&A4 (x<5)) (A3 (B4 ([[],[1],[2,(-1)],[3,(-3),1],[4,(-6),4,(-1)]]:List LI) (A7 x) [])) A6
def a6f:sG:=⟨[.v QI],[.v QL],Vk⟩
def Ff(s:LI×Int×c9y):QO (LI×Int×c9y) b7t:=(fun(a:Int)(b:LI)(c d e:Int)(f:LI)=>cond (A4 (e<a)) ((Aq b e).bind fun h=>cond (A4 (0<=(zB .i64 ((zB .i64 ((f.length:Int)-1))-e)))&&A4 (zB .i64 ((zB .i64 ((f.length:Int)-1))-e)<(f.length:Int))) (A3 (.inl (s.1,a,b,c,zB .i64 (d+(zB .i64 (h*(B4 f (A7 (zB .i64 ((zB .i64 ((f.length:Int)-1))-e))) 0)))),zB .i64 (e+1),f,()))) A6) (A3 (.inr (s.1,a,b,c,d,f,())))) s.2.1 s.2.2.1 s.2.2.2.1 s.2.2.2.2.1 s.2.2.2.2.2.1 s.2.2.2.2.2.2.1
def HV(s:LI×Int×b6o):QO (LI×Int×b6o) a7W:=(fun(a:Int)(b:LI)=>cond (A4 (a<(s.1.length:Int))) ((Aq s.1 a).bind fun g=>(Ah Ff (s.1,s.2.1,s.2.2.1,a,g,0,b,())).bind fun h=>(Eb h.2.2.2.2.1).bind fun f=>cond (!f) (A3 (.inr (B6 (6,[],())))) (cond (AZ ((A8 h.2.2.2.2.2.1)+1)) (A3 (.inl (h.1,h.2.1,h.2.2.1,zB .i64 (h.2.2.2.1+1),B3 h.2.2.2.2.2.1 [h.2.2.2.2.1],()))) A6)) (A3 (.inr (B7 (b,()))))) s.2.2.2.1 s.2.2.2.2.1
def Ma(x:b7q):Option (LI×Int):=(show Option c3F from cond (A4 (x.2.2<0)) (A3 (x.1,x.2.1,x.2.2,true,())) (cond (A4 (x.2.2 > 4)) (A3 (x.1,x.2.1,x.2.2,true,())) (A3 (x.1,x.2.1,x.2.2,(x.1.length:Int) != x.2.2,())))).bind fun h=>cond h.2.2.2.1 (A3 ([],1)) ((show Option c3F from(AM h.1).bind fun b=>cond (!b) (A3 (h.1,h.2.1,h.2.2.1,true,())) ((AM h.2.1).bind fun c=>A3 (h.1,h.2.1,h.2.2.1,!c,()))).bind fun g=>cond g.2.2.2.1 (A3 ([],6)) (cond (AZ (0+(A8 g.1))) ((Vk g.2.2.1).bind fun d=>(Ah HV (g.2.1,g.2.2.1,d,0,B3 [] g.1,())).bind fun a=>match a with |.inl k=>A3 (k.1,0) |.inr f=>A3 (f.2.1,f.1)) A6))
def nQ:sG:=⟨[.v QL,.v QL,.v QI],[.o QI,.v QI],Ma⟩
def d2H:sF:=Qh [7,.own 6 6 QI,.sv 0 QL,.sv 1 QL,2,.sv 9 QL,10,11,12,.own 8 8 QI,Qb 24,Qb 32] [[250,632,2,512,1,3],[64074,1016,4,760]] [[6,0,1052],[14,0,2076]] [(13,Qg 16 2450257264738566144 [])]
def GG(s:c4P):QO c4P a7W:=(fun(a b:Int)(c:LI)=>cond (A4 (b<(s.1.length:Int))) ((Aq s.1 b).bind fun h=>(FT (c,s.2.1,a)).bind fun g=>(Eb (zB .i64 (h+g))).bind fun f=>cond (!f) (A3 (.inr (B6 (6,[],())))) (cond (AZ ((A8 c)+1)) (A3 (.inl (s.1,s.2.1,a,zB .i64 (b+1),B3 c [zB .i64 (h+g)],()))) A6)) (A3 (.inr (B7 (c,()))))) s.2.2.1 s.2.2.2.1 s.2.2.2.2.1
def Hm(x:LI×b7q):Option (LI×Int):=(show Option c0n from(Ej (x.2.2.1,x.2.2.2)).bind fun b=>cond (!b) (A3 (x.1,x.2.1,x.2.2.1,x.2.2.2,true,())) (A3 (x.1,x.2.1,x.2.2.1,x.2.2.2,(x.1.length:Int) != (x.2.2.1.length:Int),()))).bind fun h=>cond h.2.2.2.2.1 (A3 ([],1)) ((show Option c0n from(AM h.1).bind fun c=>cond (!c) (A3 (h.1,h.2.1,h.2.2.1,h.2.2.2.1,true,())) ((AM h.2.1).bind fun d=>A3 (h.1,h.2.1,h.2.2.1,h.2.2.2.1,!d,()))).bind fun g=>cond g.2.2.2.2.1 (A3 ([],6)) (cond (AZ (0+(A8 g.1))) ((Ah GG (g.2.1,g.2.2.1,g.2.2.2.1,0,B3 [] g.1,())).bind fun a=>match a with |.inl k=>A3 (k.1,0) |.inr f=>A3 (f.2.1,f.1)) A6))
def iM:sG:=⟨[.v QL,.v QL,.v QL,.v QI],[.o QI,.v QI],Hm⟩
def d2I:sF:=Qh [9,.own 8 8 QI,.sv 0 QL,.sv 1 QL,.sv 2 QL,3,11,.own 10 10 QI,Qb 23,Qb 31] [[250,248,2,128,1,3]] [[6,0,316],[14,0,572]] [(9,Qg 10 146297389056 [])]
def Jq(s:c3I):QO c3I a7W:=(fun(a:Int)(b c:LI)=>cond (A4 (a<(s.1.length:Int))) ((Aq s.1 a).bind fun h=>(Iy (b,s.2.1,c)).bind fun g=>(Eb (zB .i64 (h+g))).bind fun f=>cond (!f) (A3 (.inr (B6 (6,[],())))) (cond (AZ ((A8 b)+1)) (A3 (.inl (s.1,s.2.1,zB .i64 (a+1),B3 b [zB .i64 (h+g)],c,()))) A6)) (A3 (.inr (B7 (b,()))))) s.2.2.1 s.2.2.2.1 s.2.2.2.2.1
def NF(x:c5a):Option (LI×Int):=(IT (x.2.1,x.2.2)).bind fun k=>cond (!k) (A3 ([],1)) ((AM x.1).bind fun a=>cond (!a) (A3 ([],6)) ((Ah Jq (x.1,x.2.1,0,[],x.2.2,())).bind fun f=>match f with |.inl g=>A3 (g.1,0) |.inr h=>A3 (h.2.1,h.1)))
def a0k:sG:=⟨[.v QL,.v QI,.v (.arr 3 QI)],[.o QI,.v QI],NF⟩
def d2J:sF:=Qh [.sv 0 QL,1,9,.own 8 8 QI,.vp 5 (.arr 3 QI),7,.own 6 6 QI] [[250,31,2,8,1,96]] [] [(9,Qg 10 146297389056 [])]
def Fg(s:c0v):QO c0v (c4O ⊕ Z6):=(fun(a:Int)(b:LI)=>cond (A4 (a<(b.length:Int))) (cond (A4 (0<=a)&&A4 (a<(b.length:Int))) ((Dr s.2.2.2.2.1).bind fun h=>(Eb (zB .i64 ((B4 b (A7 a) 0)+h.1))).bind fun g=>cond (!g) (A3 (.inr (B6 (6,[],())))) (cond (A4 (0<=a)&&A4 (a<(b.length:Int))) ((FU (h.2,zB .i64 ((B4 b (A7 a) 0)+h.1))).bind fun f=>A3 (.inl (s.1,s.2.1,zB .i64 (a+1),C0 b (A7 a) (zB .i64 ((B4 b (A7 a) 0)+h.1)),f,()))) A6)) A6) (A3 (.inr (B7 (s.1,s.2.1,b,()))))) s.2.2.1 s.2.2.2.1
def HW(s:c4O):QO c4O a7W:=cond (A4 (s.2.1>=0)) ((Aq s.1 s.2.1).bind fun k=>(Iz k).bind fun a=>(Ah Fg (s.1,s.2.1,0,s.2.2.1,a.1,())).bind fun f=>match f with |.inl g=>A3 (.inl (g.1,zB .i64 (g.2.1-1),g.2.2.1,())) |.inr h=>A3 (.inr (B6 (h.1,h.2.1,())))) (A3 (.inr (B7 (s.2.2.1,()))))
def Mb(x:c9n):Option (LI×Int):=(Hk x.2).bind fun k=>cond (!k) (A3 ([],1)) ((AM x.1).bind fun a=>cond (!a) (A3 ([],6)) (cond (AZ (0+(A8 x.1))) ((Ah HW (x.2,zB .i64 ((x.2.length:Int)-1),B3 [] x.1,())).bind fun f=>match f with |.inl g=>A3 (g.1,0) |.inr h=>A3 (h.2.1,h.1)) A6))
def nR:sG:=⟨[.v QL,.v (.list false Q4)],[.o QI,.v QI],Mb⟩
def d2K:sF:=Qh [.sv 1 (.list false Q4),7,10,.own 6 6 QI,.box 1033 b3u,Qp 8 1033,5,.own 4 4 QI] [[250,11,2,8,1,192],[32038,63,4,11,1,192]] [] [(13,Qg 8 578909959 [[6,42],[6,44],[6,45],[47,1033,1047]])]
def Vl(x:DI):Option (LI×Int):=cond (x.1==2) ((Ma (x.2.2.2.2.2.2.2.2.1,x.2.2.2.2.2.2.2.2.2.2.1,x.2.2.1)).bind fun g=>A3 (g.1,g.2)) (cond (x.1==3) ((Hm (x.2.2.2.2.2.2.2.2.1,x.2.2.2.2.2.2.2.2.2.2.1,x.2.2.2.2.2.1,x.2.2.2.1)).bind fun f=>A3 (f.1,f.2)) (cond (x.1==4) ((Hm (x.2.2.2.2.2.2.2.2.1,x.2.2.2.2.2.2.2.2.2.2.1,x.2.2.2.2.2.1,x.2.2.2.1)).bind fun h=>cond (h.2 != 0) (A3 ([],h.2)) ((NF (h.1,x.2.2.2.2.1,x.2.2.2.2.2.2.1)).bind fun k=>A3 (k.1,k.2))) (cond (x.1==5) ((Mb (x.2.2.2.2.2.2.2.2.2.2.1,x.2.2.2.2.2.2.2.1)).bind fun a=>A3 (a.1,a.2)) (A3 (x.2.2.2.2.2.2.2.2.1,0)))))
def b1T:sG:=⟨[.v Hu],[.v QL,.v QI],Vl⟩
def Vm(s:b1w):QO b1w a7W:=(fun(a:LI)(b c:Int)(d:LI)=>cond (A4 (c<(a.length:Int))) ((show Option c9z from(Aq a c).bind fun g=>(Eb g).bind fun e=>cond (!e) (A3 (a,b,c,true,d,())) ((Aq a c).bind fun f=>cond (A4 (zB .u64 b<0)) A6 ((Eb (AO .i64 f (zB .u64 b))).bind fun i=>A3 (a,b,c,!i,d,())))).bind fun h=>cond h.2.2.2.1 (A3 (.inr (B6 (6,[],())))) ((Aq h.1 h.2.2.1).bind fun k=>cond (A4 (zB .u64 h.2.1<0)) A6 (cond (AZ ((A8 h.2.2.2.2.1)+1)) (A3 (.inl (h.1,h.2.1,zB .i64 (h.2.2.1+1),B3 h.2.2.2.2.1 [AO .i64 k (zB .u64 h.2.1)],()))) A6))) (A3 (.inr (B7 (d,()))))) s.1 s.2.1 s.2.2.1 s.2.2.2.1
def pE(x:LI×Int):Option (LI×Int):=(show Option b1v from cond (A4 (x.2<0)) (A3 (x.1,x.2,true,())) (A3 (x.1,x.2,A4 (x.2 > 30),()))).bind fun g=>cond g.2.2.1 (A3 ([],1)) ((Ah Vm (g.1,g.2.1,0,[],())).bind fun k=>match k with |.inl f=>A3 (f.1,0) |.inr h=>A3 (h.2.1,h.1))
def c0Y:sG:=⟨[.v QL,.v QI],[.o QI,.v QI],pE⟩
def d2L:sF:=Qh [.sv 0 QL,1,7,5,.own 4 4 QI,Qb 13,Qb 36,.own 6 6 QI] [[122,135,2,128,1,24]] [[6,0,35],[3912,0,199]] []
def IA(s:c0E):QO c0E (LI×Unit):=(fun(a:Int)(b:LI)(c:DI)=>cond (A4 (a<s.1)) ((Aq c.2.2.2.2.2.2.2.2.1 0).bind fun h=>cond (A4 (0<=a)&&A4 (a<(b.length:Int))) (A3 (.inl (s.1,zB .i64 (a+1),C0 b (A7 a) h,c,()))) A6) (A3 (.inr (b,())))) s.2.1 s.2.2.1 s.2.2.2.1
def NG(x:WW):Option (LI×Bool):=(show Option a7Y from cond (A4 (x.2<1)) (A3 (x.2,true,x.1,())) (cond (A4 (x.2 > 4096)) (A3 (x.2,true,x.1,())) (cond (A4 (x.1.1<0)) (A3 (x.2,true,x.1,())) (cond (A4 (x.1.1 > 5)) (A3 (x.2,true,x.1,())) ((SY x.1).bind fun d=>(LC (x.1,d)).bind fun e=>cond (!e) (A3 (x.2,true,x.1,())) (cond (A4 (x.1.2.1<0)) (A3 (x.2,true,x.1,())) (A3 (x.2,A4 (x.1.2.1 > 30),x.1,())))))))).bind fun g=>cond g.2.1 (A3 ([],false)) ((PE (g.2.2.1,g.1)).bind fun k=>(show Option c0C from cond (A4 (k<0)) (A3 (g.1,k,true,g.2.2.1,())) (cond ((g.2.2.1.2.2.2.2.2.2.2.2.1.length:Int) != k) (A3 (g.1,k,true,g.2.2.1,())) ((AM g.2.2.1.2.2.2.2.2.2.2.2.1).bind fun i=>cond (!i) (A3 (g.1,k,true,g.2.2.1,())) ((AM g.2.2.1.2.2.2.2.2.2.2.2.2.2.1).bind fun j=>A3 (g.1,k,!j,g.2.2.1,()))))).bind fun f=>cond f.2.2.1 (A3 ([],false)) ((show Option a7Y from(Gl f.2.2.2.1.1).bind fun l=>cond l (cond ((f.2.2.2.1.2.2.2.2.2.2.2.2.2.2.1.length:Int) != (zB .i64 (f.1-f.2.1))) (A3 (f.1,true,f.2.2.2.1,())) ((IV (f.2.2.2.1.2.2.2.2.2.2.2.2.2.1,f.1,f.2.1)).bind fun m=>A3 (f.1,!m,f.2.2.2.1,()))) (A3 (f.1,false,f.2.2.2.1,()))).bind fun h=>cond h.2.1 (A3 ([],false)) (cond (h.2.2.1.1==0) (cond (A4 (0<=h.1)&&(A4 (h.1<=h.1)&&AZ (A7 h.1))) ((Ah IA (h.1,0,A9 (A7 h.1) 0,h.2.2.1,())).bind fun c=>A3 (c.1,true)) A6) ((Vl h.2.2.1).bind fun a=>cond (a.2 != 0) (A3 ([],false)) ((pE (a.1,h.2.2.1.2.1)).bind fun b=>A3 (b.1,b.2==0))))))
def a6g:sG:=⟨[.v Hu,.v QI],[.o QI,.v .bool],NG⟩
def d2M:sF:=Qh [1,8,.own 7 7 QI,Qb 45,6,Qb 69,Qb 89,.vp 2 Hu] [[8106,135,2,4]] [[6,0,137],[30,0,177],[62,0,193]] [(1,Qg 33 725935716098001894237776267927795933730 [])]
def QY(x:WW):Option Bool:=(NG (x.1,x.2)).bind fun h=>A3 h.2
def a6h:sG:=⟨[.v Hu,.v QI],[.v .bool],QY⟩
def HX(s:c4J):QO c4J b6m:=(fun(a:Int)(b:LI×Unit)=>cond (A4 (a>=0)) (cond (A4 (zB .u64 a<0)) A6 (cond (AZ ((A8 b.1)+1)) (A3 (.inl (s.1,zB .i64 (a-1),(B3 b.1 [zB .u8 (bits .u64 .and (Au .u64 s.1 (zB .u64 a)) 1)],b.2),()))) A6)) (A3 (.inr (b,())))) s.2.1 s.2.2.1
def Ar(x:(LI×Unit)×Int×Int):Option Z6:=(show Option (Int×Int×Bool×b6m)from cond (A4 (x.2.2<0)) (A3 (x.2.1,x.2.2,true,x.1,())) (cond (A4 (x.2.2 > 64)) (A3 (x.2.1,x.2.2,true,x.1,())) (cond (A4 (x.2.2<64)) (cond (A4 (zB .u64 x.2.2<0)) A6 (A3 (x.2.1,x.2.2,(Au .u64 x.2.1 (zB .u64 x.2.2)) != 0,x.1,()))) (A3 (x.2.1,x.2.2,false,x.1,()))))).bind fun h=>cond h.2.2.1 (A3 (1,h.2.2.2.1)) ((Ah HX (h.1,zB .i64 (h.2.1-1),h.2.2.2.1,())).bind fun g=>A3 (0,g.1))
def nS:sG:=⟨[.r false (.b Q1),.v QU,.v QI],[.v QI],Ar⟩
def d2N:sF:=Qh [.sv 1 QU,7,2,Qb 24,.box pinned Q1,Qp 0 pinned] [[58,51,2,16]] [[6,0,61]] []
def Jr(s:LI×c4J):QO (LI×c4J) b6m:=cond (A4 (s.2.2.1<(s.1.length:Int))) ((Aq s.1 s.2.2.1).bind fun h=>cond (A4 (zB .u64 s.2.1<0)) A6 ((Ar (s.2.2.2.1,bits .u64 .and (zB .u64 h) (zB .u64 ((AO .u64 1 (zB .u64 s.2.1))-1)),s.2.1)).bind fun g=>A3 (.inl (s.1,s.2.1,zB .i64 (s.2.2.1+1),g.2,())))) (A3 (.inr (s.2.2.2.1,())))
def DR(x:(LI×Unit)×LI×Int):Option (LI×Unit):=(Ah Jr (x.2.1,x.2.2,0,x.1,())).bind fun h=>A3 h.1
def a0l:sG:=⟨[.r false (.b Q1),.v QL,.v QI],[],DR⟩
def d2O:sF:=Qh [.sv 1 QL,2,6,.box pinned Q1,Qp 0 pinned] [[6,31,2,8]] [] []
def IB(x:(LI×Unit)×DI):Option (LI×Unit):=(Ar (x.1,zB .u64 (zB .i64 ((x.2.2.2.2.2.2.1.length:Int)-1)),5)).bind fun g=>(Ar (g.2,zB .u64 x.2.2.2.2.1,4)).bind fun f=>(Mo x.2.2.2.2.2.2.1).bind fun h=>(Ar (f.2,zB .u64 h,5)).bind fun k=>(DR (k.2,x.2.2.2.2.2.2.1,h)).bind fun a=>A3 a
def nT:sG:=⟨[.r false (.b Q1),.v Hu],[],IB⟩
def FX(s:c4J):QO c4J b6m:=cond (A4 (s.2.1<s.1)) (cond (AZ ((A8 s.2.2.1.1)+1)) (A3 (.inl (s.1,zB .i64 (s.2.1+1),(B3 s.2.2.1.1 [0],s.2.2.1.2),()))) A6) (A3 (.inr (s.2.2.1,())))
def Ed(x:(LI×Unit)×Int):Option Z6:=(show Option (Int×Bool×b6m)from cond (A4 (x.2<0)) (A3 (x.2,true,x.1,())) (A3 (x.2,A4 (x.2 > 4096),x.1,()))).bind fun h=>cond h.2.1 (A3 (1,h.2.2.1)) ((Ah FX (h.1,0,h.2.2.1,())).bind fun g=>cond (AZ ((A8 g.1.1)+1)) (A3 (0,B3 g.1.1 [1],g.1.2)) A6)
def eD:sG:=⟨[.r false (.b Q1),.v QI],[.v QI],Ed⟩
def d2P:sF:=Qh [1,5,Qb 11,.box pinned Q1,Qp 0 pinned] [[58,27,2,24]] [[6,0,29]] []
def IC(s:Int×LI×c9L):QO (Int×LI×c9L) b6m:=(fun(a:Int)(b:LI)(c:Int)(d:LI×Unit)=>cond (A4 (c<(b.length:Int))) ((Aq b c).bind fun g=>(Uc g).bind fun h=>cond (A4 (zB .u64 a<0)) A6 (cond (A4 (zB .i64 (Au .u64 h (zB .u64 a))<32)) ((Ed (d,zB .i64 (Au .u64 h (zB .u64 a)))).bind fun f=>cond (A4 (zB .u64 a<0)) A6 ((Ar (f.2,bits .u64 .and h (zB .u64 ((AO .u64 1 (zB .u64 a))-1)),a)).bind fun k=>A3 (.inl (a,b,zB .i64 (c+1),k.2,())))) ((Ed (d,32)).bind fun e=>(Ar (e.2,h,32)).bind fun i=>A3 (.inl (a,b,zB .i64 (c+1),i.2,()))))) (A3 (.inr (d,())))) s.1 s.2.1 s.2.2.1 s.2.2.2.1
def QZ(x:(LI×Unit)×Int×LI):Option Z6:=(show Option (Int×LI×Bool×b6m)from(DQ x.2.1).bind fun f=>cond (!f) (A3 (x.2.1,x.2.2,true,x.1,())) ((AM x.2.2).bind fun k=>A3 (x.2.1,x.2.2,!k,x.1,()))).bind fun h=>cond h.2.2.1 (A3 (1,h.2.2.2.1)) ((Ah IC (h.1,h.2.1,0,h.2.2.2.1,())).bind fun g=>A3 (0,g.1))
def a6i:sG:=⟨[.r false (.b Q1),.v QI,.v QL],[.v QI],QZ⟩
def d2Q:sF:=Qh [1,.sv 2 QL,7,Qb 17,.box pinned Q1,Qp 0 pinned] [[58,55,2,16]] [[6,0,59]] []
def EN(s:LI×Int×Int×LI×(LI×Unit)×c0i):QO (LI×Int×Int×LI×(LI×Unit)×c0i) b6m:=(fun(a:LI)(b c:Int)(d:LI)(e:LI×Unit)(f:Z6)=>cond (A4 (c<(d.length:Int))) (cond (A4 (0<=c)&&A4 (c<(d.length:Int))) (cond (A4 (0<=(zB .i64 (b+(B4 d (A7 c) 0))))&&A4 ((zB .i64 (b+(B4 d (A7 c) 0)))<=(a.length:Int))) (cond (A4 (0<=b)&&A4 (b<=((A7 (zB .i64 (b+(B4 d (A7 c) 0))):Nat):Int))) ((Aq f.2.1 c).bind fun l=>(Ar (e,zB .u64 l,5)).bind fun i=>(show Option (LI×Int×Int×LI×(LI×Unit)×c0i)from(Aq f.2.1 c).bind fun m=>cond (m==31) ((Mo (C2 (A7 b) (C1 (A7 (zB .i64 (b+(B4 d (A7 c) 0)))) a))).bind fun j=>(Ar (i.2,zB .u64 j,5)).bind fun n=>(DR (n.2,C2 (A7 b) (C1 (A7 (zB .i64 (b+(B4 d (A7 c) 0)))) a),j)).bind fun o=>A3 (a,b,c,d,o,f,())) ((Aq f.2.1 c).bind fun g=>(QZ (i.2,g,C2 (A7 b) (C1 (A7 (zB .i64 (b+(B4 d (A7 c) 0)))) a))).bind fun k=>A3 (a,b,c,d,k.2,f,()))).bind fun h=>cond (A4 (0<=h.2.2.1)&&A4 (h.2.2.1<(h.2.2.2.1.length:Int))) (A3 (.inl (h.1,zB .i64 (h.2.1+(B4 h.2.2.2.1 (A7 h.2.2.1) 0)),zB .i64 (h.2.2.1+1),h.2.2.2.1,h.2.2.2.2.1,h.2.2.2.2.2.1,()))) A6) A6) A6) A6) (A3 (.inr (e,())))) s.1 s.2.1 s.2.2.1 s.2.2.2.1 s.2.2.2.2.1 s.2.2.2.2.2.1
def OX(x:(LI×Unit)×c9x):Option Z6:=(CV (x.2.1,x.2.2.1,x.2.2.2.1,x.2.2.2.2)).bind fun g=>cond (g==0) (A3 (1,x.1)) ((Ar (x.1,zB .u64 x.2.1.1,4)).bind fun f=>(Ek (x.2.1.1,x.2.2.1,x.2.2.2.1)).bind fun k=>(Ah EN (x.2.2.2.2,0,0,k,f.2,x.2.1,())).bind fun h=>A3 (0,h.1))
def a2O:sG:=⟨[.r false (.b Q1),.v iA,.v QI,.v QI,.v QL],[.v QI],OX⟩
def d2R:sF:=Qh [.sv 4 QL,12,13,.own 11 11 QI,.box pinned Q1,Qp 0 pinned,.vp 6 iA] [[250,127,2,16]] [[16019,0,127]] []
def Mc(s:Int×c0G):QO (Int×c0G) c0G:=(fun(a:Int)(b:LI×Unit)(c:DI)=>cond (A4 (a<(c.2.2.2.2.2.2.2.1.length:Int))) ((Aq c.2.2.2.2.2.2.2.1 a).bind fun h=>(Ar (b,zB .u64 (zB .i64 (h.1-1)),5)).bind fun f=>(Aq c.2.2.2.2.2.2.2.1 a).bind fun g=>(Ar (f.2,zB .u64 g.2.1,4)).bind fun k=>A3 (.inl (s.1,s.2.1,zB .i64 (a+1),k.2,c,()))) (A3 (.inr (s.1,s.2.1,b,c,())))) s.2.2.1 s.2.2.2.1 s.2.2.2.2.1
def KJ(x:(LI×Unit)×WW):Option Z6:=(QY (x.2.1,x.2.2)).bind fun i=>cond (!i) (A3 (1,x.1)) ((Mo x.2.1.2.2.2.2.2.2.2.2.1).bind fun f=>(Ar (x.1,zB .u64 x.2.1.1,3)).bind fun j=>(Ar (j.2,zB .u64 x.2.1.2.1,5)).bind fun l=>(Ar (l.2,zB .u64 f,5)).bind fun a=>(show Option c0G from cond (x.2.1.1==2) ((Ar (a.2,zB .u64 x.2.1.2.2.1,3)).bind fun m=>A3 (x.2.2,f,m.2,x.2.1,())) (cond (x.2.1.1==3) ((IB (a.2,x.2.1)).bind fun n=>A3 (x.2.2,f,n,x.2.1,())) (cond (x.2.1.1==4) ((Ar (a.2,zB .u64 (zB .i64 (x.2.1.2.2.2.2.1-1)),10)).bind fun o=>(DR (o.2,C1 3 x.2.1.2.2.2.2.2.2.1,8)).bind fun p=>(IB (p,x.2.1)).bind fun b=>A3 (x.2.2,f,b,x.2.1,())) (cond (x.2.1.1==5) ((Ar (a.2,zB .u64 (x.2.1.2.2.2.2.2.2.2.1.length:Int),2)).bind fun c=>(Ah Mc (x.2.2,f,0,c.2,x.2.1,())).bind fun g=>A3 (g.1,g.2.1,g.2.2.1,g.2.2.2.1,())) (A3 (x.2.2,f,a.2,x.2.1,())))))).bind fun h=>(DR (h.2.2.1,h.2.2.2.1.2.2.2.2.2.2.2.2.1,h.2.1)).bind fun k=>(Gl h.2.2.2.1.1).bind fun d=>cond d ((OX (k,h.2.2.2.1.2.2.2.2.2.2.2.2.2.1,h.1,(h.2.2.2.1.2.2.2.2.2.2.2.2.1.length:Int),h.2.2.2.1.2.2.2.2.2.2.2.2.2.2.1)).bind fun e=>A3 (0,e.2)) (A3 (0,k)))
def a6j:sG:=⟨[.r false (.b Q1),.v Hu,.v QI],[.v QI],KJ⟩
def d2S:sF:=Qh [2,7,8,.box pinned Q1,Qp 0 pinned,.vp 4 Hu] [[2086902,63,3,59]] [[127,0,59]] []
def PX(x:LI×Unit):Option Z6:=some ((x.1.length:Int),x)
def nU:sG:=⟨[.r false (.b Q1)],[.v QI],PX⟩
def OY(x:WW):Option Int:=(KJ (([],()),x.1,x.2)).bind fun h=>(PX h.2).bind fun g=>A3 g.1
def a2P:sG:=⟨[.v Hu,.v QI],[.v QI],OY⟩
def Hn(s:LI×Int×Int×Tw×hZ):QO (LI×Int×Int×Tw×hZ) hZ:=(fun(a:LI)(b c:Int)(d:Tw)(e f:DI)=>cond (A4 (c<(d.length:Int))) (cond (A4 (0<=c)&&A4 (c<(d.length:Int))) (cond (A4 (0<=c)&&A4 (c<(d.length:Int))) ((OW ((B4 d (A7 c) (0,0,0,0,0,[],A9 3 0,[],[],(0,[],()),[],())).1,a,B4 d (A7 c) (0,0,0,0,0,[],A9 3 0,[],[],(0,[],()),[],()))).bind fun g=>cond (g.2 != 0) (A3 (.inl (a,b,zB .i64 (c+1),d,e,f,()))) ((OY (g.1,(a.length:Int))).bind fun k=>(show Option (LI×Int×Int×Int×Bool×Tw×c0M)from cond (b==0) (A3 (a,b,c,k,true,d,e,f,g.1,())) (A3 (a,b,c,k,A4 (k<b),d,e,f,g.1,()))).bind fun h=>cond h.2.2.2.2.1 (A3 (.inl (h.1,h.2.2.2.1,zB .i64 (h.2.2.1+1),h.2.2.2.2.2.1,h.2.2.2.2.2.2.1,h.2.2.2.2.2.2.2.2.1,()))) (A3 (.inl (h.1,h.2.1,zB .i64 (h.2.2.1+1),h.2.2.2.2.2.1,h.2.2.2.2.2.2.1,h.2.2.2.2.2.2.2.1,()))))) A6) A6) (A3 (.inr (e,f,())))) s.1 s.2.1 s.2.2.1 s.2.2.2.1 s.2.2.2.2.1 s.2.2.2.2.2.1
def DF(x:LI×Int):Option WW:=(show Option (LI×a7Y)from cond (A4 ((x.1.length:Int)<1)) (A3 (x.1,x.2,true,(0,0,0,0,0,[],A9 3 0,[],[],(0,[],()),[],()),())) (cond (A4 ((x.1.length:Int) > 4096)) (A3 (x.1,x.2,true,(0,0,0,0,0,[],A9 3 0,[],[],(0,[],()),[],()),())) (cond (A4 (x.2<0)) (A3 (x.1,x.2,true,(0,0,0,0,0,[],A9 3 0,[],[],(0,[],()),[],()),())) (A3 (x.1,x.2,A4 (x.2 > 3),(0,0,0,0,0,[],A9 3 0,[],[],(0,[],()),[],()),()))))).bind fun h=>cond h.2.2.1 (A3 ((0,0,0,0,0,[],A9 3 0,[],[],(0,[],()),[],()),1)) ((AM h.1).bind fun f=>cond (!f) (A3 ((0,0,0,0,0,[],A9 3 0,[],[],(0,[],()),[],()),6)) ((JP h.1).bind fun k=>(Ua (h.1,k)).bind fun a=>(SW (a.1,h.2.1)).bind fun b=>(Ah Hn (h.1,0,0,b,h.2.2.2.1,(0,0,0,0,0,[],A9 3 0,[],[],(0,[],()),[],()),())).bind fun g=>A3 (g.2.1,0)))
def a2Q:sG:=⟨[.v QL,.v QI],[.v Hu,.v QI],DF⟩
def d6B:sF:=Qh [.sv 0 QL,10,11,1,Qb 30,14,Qb 78,.own 8 8 Hu,.box 4 Hu,.box 9 Hu,.box 12 Hu,Qp 4 4,Qp 9 9,Qp 12 12] [[2042,7047,2,6912]] [[6,0,2329],[261415,0,16359]] [(12,Qg 17 46188917851343098113 [[0,12]])]
def Fh(s:Int×(List LI)×b4N):QO (Int×(List LI)×b4N) c0N:=(fun(a:List LI)(b:Int)(c d:Mk)=>cond (A4 (b<(a.length:Int))) ((Aq a b).bind fun g=>(DF (g,s.1)).bind fun h=>cond (AZ ((A8 d.2.2.2.2.1)+1)) (A3 (.inl (s.1,a,zB .i64 (b+1),c,(d.1,d.2.1,d.2.2.1,d.2.2.2.1,B3 d.2.2.2.2.1 ([h.1]:List DI),d.2.2.2.2.2),()))) A6) (A3 (.inr (c,d,())))) s.2.1 s.2.2.1 s.2.2.2.1 s.2.2.2.2.1
def Fx(x:UF×Z9×Int×Int):Option c0H:=(show Option (Int×Int×Bool×Mk×c3M)from(Fa x.1).bind fun a=>cond (!a) (A3 (x.2.2.1,x.2.2.2,true,(0,0,(0,0,0,()),[],[],()),x.1,x.2.1,())) ((HB x.2.1).bind fun b=>cond (!b) (A3 (x.2.2.1,x.2.2.2,true,(0,0,(0,0,0,()),[],[],()),x.1,x.2.1,())) (cond (x.1.1 != x.2.1.2.2.1) (A3 (x.2.2.1,x.2.2.2,true,(0,0,(0,0,0,()),[],[],()),x.1,x.2.1,())) (cond ((x.1.2.1.length:Int) != x.2.1.2.1) (A3 (x.2.2.1,x.2.2.2,true,(0,0,(0,0,0,()),[],[],()),x.1,x.2.1,())) (cond (A4 (x.2.2.2<0)) (A3 (x.2.2.1,x.2.2.2,true,(0,0,(0,0,0,()),[],[],()),x.1,x.2.1,())) (cond (A4 (x.2.2.2 > 3)) (A3 (x.2.2.1,x.2.2.2,true,(0,0,(0,0,0,()),[],[],()),x.1,x.2.1,())) (A3 (x.2.2.1,x.2.2.2,A4 (x.2.2.1<0),(0,0,(0,0,0,()),[],[],()),x.1,x.2.1,())))))))).bind fun h=>cond h.2.2.1 (A3 ((0,0,(0,0,0,()),[],[],()),1)) ((DL h.2.2.2.2.1).bind fun c=>cond (A4 (h.1 > (zB .i64 (4194304-c)))) (A3 ((0,0,(0,0,0,()),[],[],()),4)) ((DL h.2.2.2.2.1).bind fun k=>(show Option (Int×Mk×Mk×c0k)from cond (A4 (h.2.1 > 0)) ((NA h.2.2.2.2.1).bind fun d=>A3 (h.2.1,h.2.2.2.1,(h.1,k,h.2.2.2.2.2.1,d,[],()),h.2.2.2.2.1,())) (A3 (h.2.1,h.2.2.2.1,(h.1,k,h.2.2.2.2.2.1,[],[],()),h.2.2.2.2.1,()))).bind fun g=>(KD (g.2.2.2.1.2.1,g.2.2.1.2.2.2.1)).bind fun e=>(Ah Fh (g.1,e.1,0,g.2.1,g.2.2.1,())).bind fun f=>A3 (f.2.1,0)))
def nV:sG:=⟨[.v Vb,.v EP,.v QI,.v QI],[.v TI,.v QI],Fx⟩
def d6C:sF:=Qh [2,3,.sv 11 (.list false QL),13,Qb 50,.box 8 TI,.box 10 d0H,.vp 4 Vb,.vp 5 EP,Qp 8 8,Qp 10 10] [[1018,1646,2,1632]] [[6,0,947],[31,0,1762]] [(5,Qg 7 34603008 [])]
def Ym(x:RU):Option Int:=cond ((x.length:Int)==0) (A3 0) ((Aq x (zB .i64 ((x.length:Int)-1))).bind fun h=>A3 (zB .i64 (h.1+h.2.1)))
def b5b:sG:=⟨[.v (.list false TI)],[.v QI],Ym⟩
def JT(s:a3T):QO a3T (LI×Unit):=cond (A4 (s.2.1>=0)) (cond (A4 (zB .u64 (zB .i64 (8*s.2.1))<0)) A6 (cond (AZ ((A8 s.2.2.1)+1)) (A3 (.inl (s.1,zB .i64 (s.2.1-1),B3 s.2.2.1 [zB .u8 (Au .u64 s.1 (zB .u64 (zB .i64 (8*s.2.1))))],()))) A6)) (A3 (.inr (s.2.2.1,())))
def LD(x:Int×Int):Option LI:=(Ah JT (x.1,zB .i64 ((DH (En x.2 8) 0)-1),[],())).bind fun h=>A3 h.1
def b7H:sG:=⟨[.v QU,.v QI],[.o QV],LD⟩
def d6D:sF:=Qh [.sv 0 QU,6,.own 5 5 QV] [[58,7,2,4]] [] []
def OZ(x:Mk):Option Bool:=(HB x.2.2.1).bind fun h=>cond h (cond (A4 (x.2.1>=1)) (cond (A4 (x.2.1<=4096)) (cond (A4 (x.1>=0)) (cond (A4 (x.1<=(zB .i64 (4194304-x.2.1)))) ((Lz (x.2.2.2.1,x.2.2.1.2.1)).bind fun g=>A3 g) (A3 false)) (A3 false)) (A3 false)) (A3 false)) (A3 false)
def a2R:sG:=⟨[.v TI],[.v .bool],OZ⟩
def Js(s:c0s):QO c0s (Z3 ⊕ c2e):=cond (A4 (s.2.1>=0)) ((Aq s.1 s.2.1).bind fun g=>(TZ (s.2.2.1,g,(-1))).bind fun h=>cond (!h.1) (A3 (.inr (B6 (([]:(List LI)),6,())))) (A3 (.inl (s.1,zB .i64 (s.2.1-1),h.2,())))) (A3 (.inr (B7 (s.2.2.1,()))))
def NH(x:c5g):Option Z1:=(OA (x.1,x.2)).bind fun k=>cond (!k) (A3 (([]:(List LI)),1)) ((Nz x.1).bind fun a=>(Ah Js (x.2,zB .i64 ((x.2.length:Int)-1),a,())).bind fun f=>match f with |.inl g=>A3 (g.1,0) |.inr h=>A3 (h.1,h.2.1))
def a0m:sG:=⟨[.v (.list false QL),.v (.list false EP)],[.v (.list false QL),.v QI],NH⟩
def d2T:sF:=Qh [.sv 1 (.list false EP),7,.own 6 6 (.list true QI),.sv 4 (.list false QL),5] [[122,7,2,4,1,24]] [] []
def Eu(s:c0I):QO c0I (c3P ⊕ c9w):=(fun(a:List LI)(b:UF)(c:Mk)=>cond (A4 (s.1<(c.2.2.2.2.1.length:Int))) ((Aq c.2.2.2.2.1 s.1).bind fun g=>(NG (g,c.2.1)).bind fun h=>cond (!h.2) (A3 (.inr (B6 (false,(0,([]:(List LI)),()),())))) (cond (AZ ((A8 a)+1)) (A3 (.inl (zB .i64 (s.1+1),B3 a ([h.1]:List LI),b,c,()))) A6)) (A3 (.inr (B7 (a,b,c,()))))) s.2.1 s.2.2.1 s.2.2.2.1
def Ds(x:Mk):Option (UF×Bool):=(show Option (Bool×c3O)from(OZ x).bind fun c=>cond (!c) (A3 (true,(0,([]:(List LI)),()),x,())) (A3 ((x.2.2.2.2.1.length:Int) != x.2.2.1.2.1,(0,([]:(List LI)),()),x,()))).bind fun k=>cond k.1 (A3 ((0,([]:(List LI)),()),false)) ((Ah Eu (0,([]:(List LI)),k.2.1,k.2.2.1,())).bind fun b=>match b with |.inl h=>((NH (h.1,h.2.2.1.2.2.2.1)).bind fun f=>(show Option (Bool×UF×c0k)from cond (f.2 != 0) (A3 (true,h.2.1,(h.2.2.1.2.2.1.2.2.1,f.1,()),())) ((Fa (h.2.2.1.2.2.1.2.2.1,f.1,())).bind fun d=>A3 (!d,h.2.1,(h.2.2.1.2.2.1.2.2.1,f.1,()),()))).bind fun g=>cond g.1 (A3 ((0,([]:(List LI)),()),false)) (A3 (g.2.2.1,true))) |.inr a=>A3 (a.2.1,a.1))
def iN:sG:=⟨[.v TI],[.v Vb,.v .bool],Ds⟩
def d2U:sF:=Qh [5,.own 4 4 QL,Qb 3,Qb 22,Qb 67,.box 2 Vb,.vp 1 TI,.box 10 Vb,Qp 2 2,Qp 10 10] [[122,355,2,354,1,292]] [[6,0,360],[254,0,944]] [(7,Qg 13 581719497375744 [])]
def NI(x:Mk):Option Bool:=(Ds x).bind fun h=>A3 h.2
def a0n:sG:=⟨[.v TI],[.v .bool],NI⟩
def FY(s:Int×LI×b6m):QO (Int×LI×b6m) (LI×b6m):=(fun(a:Int)(b:LI)(c:LI×Unit)=>cond (A4 (a<(c.1.length:Int))) (cond (A4 (0<=(zB .i64 (B9 a 8)))&&A4 (zB .i64 (B9 a 8)<(b.length:Int))) (cond (A4 (0<=a)&&A4 (a<(c.1.length:Int))) (cond (A4 (zB .u64 (zB .i64 (7-(B8 a 8)))<0)) A6 (cond (A4 (0<=(zB .i64 (B9 a 8)))&&A4 (zB .i64 (B9 a 8)<(b.length:Int))) (A3 (.inl (zB .i64 (a+1),C0 b (A7 (zB .i64 (B9 a 8))) (bits .u8 .or (B4 b (A7 (zB .i64 (B9 a 8))) 0) (AO .u8 (B4 c.1 (A7 a) 0) (zB .u64 (zB .i64 (7-(B8 a 8)))))),c,()))) A6)) A6) A6) (A3 (.inr (b,c,())))) s.1 s.2.1 s.2.2.1
def Jt(x:LI×Unit):Option c9l:=cond (A4 (0<=(zB .i64 (B9 (zB .i64 ((x.1.length:Int)+7)) 8)))&&(A4 ((zB .i64 (B9 (zB .i64 ((x.1.length:Int)+7)) 8))<=(zB .i64 (B9 (zB .i64 ((x.1.length:Int)+7)) 8)))&&AZ (A7 (zB .i64 (B9 (zB .i64 ((x.1.length:Int)+7)) 8))))) ((Ah FY (0,A9 (A7 (zB .i64 (B9 (zB .i64 ((x.1.length:Int)+7)) 8))) 0,x,())).bind fun h=>A3 (h.1,h.2.1)) A6
def eE:sG:=⟨[.r false (.b Q1)],[.o QV],Jt⟩
def d2V:sF:=Qh [4,.own 3 3 QV,.box pinned Q1,Qp 0 pinned] [[58,15,2,6]] [] [(5,Qg 23 657655645946938375731679233 [])]
def KK(s:b1w):QO b1w b1w:=(fun(a:Int)(b:LI)=>cond (A4 (a>=128)) (cond (AZ ((A8 b)+1)) (A3 (.inl (s.1,s.2.1,Au .u64 a 7,B3 b [zB .u8 (bits .u64 .or (bits .u64 .and a 127) 128)],()))) A6) (A3 (.inr (s.1,s.2.1,a,b,())))) s.2.2.1 s.2.2.2.1
def KL(s:b6o):QO b6o (LI×Unit):=cond (A4 (s.2.1<(s.1.length:Int))) ((Aq s.1 s.2.1).bind fun g=>(Ah KK (s.1,s.2.1,g,s.2.2.1,())).bind fun h=>cond (AZ ((A8 h.2.2.2.1)+1)) (A3 (.inl (h.1,zB .i64 (h.2.1+1),B3 h.2.2.2.1 [zB .u8 h.2.2.1],()))) A6) (A3 (.inr (s.2.2.1,())))
def Cs(x:LI):Option LI:=(Ah KL (x,0,[],())).bind fun h=>A3 h.1
def a2S:sG:=⟨[.v (.list false QU)],[.o QV],Cs⟩
def d6E:sF:=Qh [.sv 0 (.list false QU),4,.sv 5 QU,.own 3 3 QV] [[58,11,2,8],[7460,15,4,15]] [] []
def Pa(s:Int×Int×LI×rO):QO (Int×Int×LI×rO) Z6:=(fun(a:Int)(b:LI)(c:Mk)=>cond (A4 (a<(c.2.2.2.1.length:Int))) ((Aq c.2.2.2.1 a).bind fun h=>(Ub h.2.2.1).bind fun f=>(Cs [zB .u64 h.1,zB .u64 h.2.1,f]).bind fun g=>cond (AZ ((A8 b)+(A8 g))) (A3 (.inl (s.1,zB .i64 (a+1),B3 b g,c,()))) A6) (A3 (.inr (s.1,b,())))) s.2.1 s.2.2.1 s.2.2.2.1
def Vn(x:c0H):Option LI:=(Cs ([zB .u64 x.1.1,zB .u64 x.1.2.1,zB .u64 x.1.2.2.1.1,zB .u64 x.1.2.2.1.2.1,zB .u64 x.1.2.2.1.2.2.1,zB .u64 (x.1.2.2.2.1.length:Int)]:List Int)).bind fun f=>(Ah Pa (x.2,0,f,x.1,())).bind fun h=>(Cs [zB .u64 h.1]).bind fun g=>cond (AZ ((A8 h.2.1)+(A8 g))) (cond (AZ (2+(A8 (B3 h.2.1 g)))) (A3 (B3 [245,75] (B3 h.2.1 g))) A6) A6
def b1U:sG:=⟨[.v TI,.v QI],[.o QV],Vn⟩
def d2W:sF:=Qh [1,6,.own 5 5 QV,.vp 2 TI] [[58,15,2,5]] [] [(6,Qg 14 9588845470351633 [])]
def TA(s:a7b):QO a7b SE:=(fun(a b c:Int)=>cond (A4 (c<8)) (cond (A4 (a>=128)) (A3 (.inl (s.1,bits .u8 .xor (AO .u8 a 1) 7,b,zB .i64 (c+1),()))) (A3 (.inl (s.1,AO .u8 a 1,b,zB .i64 (c+1),())))) (A3 (.inr (s.1,a,b,())))) s.2.1 s.2.2.1 s.2.2.2.1
def Pb(s:SE):Option c2g:=cond (A4 (s.2.2.1<(s.1.length:Int))) ((Aq s.1 s.2.2.1).bind fun g=>(Ah TA (s.1,bits .u8 .xor s.2.1 g,s.2.2.1,0,())).bind fun h=>A3 (.inl (h.1,h.2.1,zB .i64 (h.2.2.1+1),()))) (A3 (.inr (s.2.1,())))
def Vo(x:LI):Option Int:=(Ah Pb (x,0,0,())).bind fun h=>A3 h.1
def b1V:sG:=⟨[.v QB],[.v QV],Vo⟩
def d2X:sF:=Qh [.sv 0 QB,.sv 3 QV,4,5] [[58,7,2,2],[7462,15,4,7]] [] []
def PY(s:a7b):QO a7b SE:=(fun(a b c:Int)=>cond (A4 (c<8)) (cond (A4 (a>=32768)) (A3 (.inl (s.1,bits .u16 .xor (AO .u16 a 1) 32773,b,zB .i64 (c+1),()))) (A3 (.inl (s.1,AO .u16 a 1,b,zB .i64 (c+1),())))) (A3 (.inr (s.1,a,b,())))) s.2.1 s.2.2.1 s.2.2.2.1
def Me(s:SE):Option c2g:=cond (A4 (s.2.2.1<(s.1.length:Int))) ((Aq s.1 s.2.2.1).bind fun g=>(Ah PY (s.1,bits .u16 .xor s.2.1 (AO .u16 (zB .u16 g) 8),s.2.2.1,0,())).bind fun h=>A3 (.inl (h.1,h.2.1,zB .i64 (h.2.2.1+1),()))) (A3 (.inr (s.2.1,())))
def Ra(x:LI):Option Int:=(Ah Me (x,0,0,())).bind fun h=>A3 h.1
def a6k:sG:=⟨[.v QB],[.v (.int .u16)],Ra⟩
def d2Y:sF:=Qh [.sv 0 QB,.sv 3 (.int .u16),4,5] [[58,7,2,2],[7462,15,4,7]] [] []
def Ju(s:Int×(LI×Unit)×rO):QO (Int×(LI×Unit)×rO) ((LI×Unit)×rO):=(fun(a:Mk)=>cond (A4 (s.1<(a.2.2.2.2.1.length:Int))) ((Aq a.2.2.2.2.1 s.1).bind fun h=>(KJ (s.2.1,h,a.2.1)).bind fun g=>A3 (.inl (zB .i64 (s.1+1),g.2,a,()))) (A3 (.inr (s.2.1,a,())))) s.2.2.1
def DS(x:Mk):Option (LI×Int):=(NI x).bind fun b=>cond (!b) (A3 ([],1)) ((Ah Ju (0,([],()),x,())).bind fun k=>(Jt k.1).bind fun g=>(Vn (k.2.1,(g.1.length:Int))).bind fun h=>(Vo h).bind fun f=>cond (AZ ((A8 h)+1)) (cond (AZ ((A8 (B3 h [f]))+(A8 g.1))) ((Ra (B3 (B3 h [f]) g.1)).bind fun c=>(LD (zB .u64 c,2)).bind fun a=>cond (AZ ((A8 (B3 (B3 h [f]) g.1))+(A8 a))) (A3 (B3 (B3 (B3 h [f]) g.1) a,0)) A6) A6) A6)
def a0o:sG:=⟨[.v TI],[.o QV,.v QI],DS⟩
def d6F:sF:=Qh [5,.box 12 Q1,.vp 1 TI,Qp 4 12] [[122,15,2,14]] [] [(7,Qg 9 8589934593 [])]
def NJ(s:b1y):QO b1y c0o:=(fun(a:Int)(b:LI)(c:UF)=>cond (A4 (a<(c.2.1.length:Int))) ((Aq c.2.1 a).bind fun h=>(Aq h s.1).bind fun g=>cond (AZ ((A8 b)+1)) (A3 (.inl (s.1,zB .i64 (a+1),B3 b [g],c,()))) A6) (A3 (.inr (s.1,b,c,())))) s.2.1 s.2.2.1 s.2.2.2.1
def NK(s:c0o):QO c0o (LI×Unit):=(DL s.2.2.1).bind fun g=>cond (A4 (s.1<g)) ((Ah NJ (s.1,0,s.2.1,s.2.2.1,())).bind fun h=>A3 (.inl (zB .i64 (h.1+1),h.2.1,h.2.2.1,()))) (A3 (.inr (s.2.1,())))
def SZ(x:UF):Option LI:=(Fa x).bind fun g=>cond (!g) (A3 []) ((Ah NK (0,[],x,())).bind fun h=>A3 h.1)
def a8G:sG:=⟨[.v Vb],[.o QI],SZ⟩
def d2Z:sF:=Qh [4,5,.own 3 3 QI,.vp 1 Vb] [[122,13,2,4],[7826,15,4,13]] [] []
def NL(s:RU×Z6):QO (RU×Z6) ((LI×Unit) ⊕ c9k):=cond (A4 (s.2.1<(s.1.length:Int))) ((Aq s.1 s.2.1).bind fun f=>(Ds f).bind fun h=>cond (!h.2) (A3 (.inr (B6 (false,[],())))) ((SZ h.1).bind fun g=>cond (AZ ((A8 s.2.2.1)+(A8 g))) (A3 (.inl (s.1,zB .i64 (s.2.1+1),B3 s.2.2.1 g,()))) A6)) (A3 (.inr (B7 (s.2.2.1,()))))
def Ta(x:RU):Option (LI×Bool):=(Ah NL (x,0,[],())).bind fun f=>match f with |.inl g=>A3 (g.1,true) |.inr h=>A3 (h.2.1,h.1)
def a8H:sG:=⟨[.v (.list false TI)],[.o QI,.v .bool],Ta⟩
def d6G:sF:=Qh [.sv 0 (.list false TI),5,.own 4 4 QI,Qb 3,.own 2 2 QI] [[58,7,2,4,1,24]] [] []
def Vp(x:Int):Option Bool:=cond (A4 (x>=4)) (A3 (A4 (x<=24))) (A3 false)
def b1W:sG:=⟨[.v QI],[.v .bool],Vp⟩
def Pd(s:c2f):QO c2f (LI×Unit):=(fun(a:Int)(b:LI)=>cond (A4 (a<s.2.1)) (cond (A4 (a<8)) (cond (A4 (zB .u64 (zB .i64 (8*a))<0)) A6 (cond (AZ ((A8 b)+1)) (A3 (.inl (s.1,s.2.1,zB .i64 (a+1),B3 b [zB .u8 (Au .u64 s.1 (zB .u64 (zB .i64 (8*a))))],()))) A6)) (A3 (.inr (b,())))) (A3 (.inr (b,())))) s.2.2.1 s.2.2.2.1
def Sb(x:Int×Int):Option LI:=(Ah Pd (x.1,x.2,0,[],())).bind fun h=>A3 h.1
def b1X:sG:=⟨[.v QU,.v QI],[.o QV],Sb⟩
def d3a:sF:=Qh [.sv 0 QU,1,6,.own 5 5 QV] [[58,15,2,8]] [] []
def Rb(s:b1w):QO b1w a7W:=(fun(a:LI)(b c:Int)(d:LI)=>cond (A4 (c<(a.length:Int))) ((Aq a c).bind fun g=>(Hd (g,b)).bind fun k=>cond (!k) (A3 (.inr (B6 (6,[],())))) ((Aq a c).bind fun f=>(Sb (zB .u64 f,zB .i64 (B9 (zB .i64 (b+7)) 8))).bind fun h=>cond (AZ ((A8 d)+(A8 h))) (A3 (.inl (a,b,zB .i64 (c+1),B3 d h,()))) A6)) (A3 (.inr (B7 (d,()))))) s.1 s.2.1 s.2.2.1 s.2.2.2.1
def Yn(x:LI×Int):Option (LI×Int):=(Vp x.2).bind fun k=>cond (!k) (A3 ([],1)) ((Ah Rb (x.1,x.2,0,[],())).bind fun f=>match f with |.inl g=>A3 (g.1,0) |.inr h=>A3 (h.2.1,h.1))
def b5c:sG:=⟨[.v QL,.v QI],[.o QV,.v QI],Yn⟩
def d3b:sF:=Qh [.sv 0 QL,1,7,.own 6 6 QV,5,.own 4 4 QV] [[122,15,2,8,1,48]] [] []
def Ud(x:Int×Int):Option Int:=some (B8 (zB .u64 (x.1+x.2)) 2305843009213693951)
def b5d:sG:=⟨[.v QU,.v QU],[.v QU],Ud⟩
def Yo(x:Int):Option Int:=(Ud (B8 (zB .u64 ((bits .u64 .and x 1099511627775)*1000003)) 2305843009213693951,B8 (zB .u64 ((bits .u64 .and (AO .u64 (zB .u64 ((Au .u64 x 40)*1000003)) 40) 2305843009213693951)+(Au .u64 (zB .u64 ((Au .u64 x 40)*1000003)) 21))) 2305843009213693951)).bind fun h=>A3 h
def b5e:sG:=⟨[.v QU],[.v QU],Yo⟩
def Pe(s:SE):Option c2g:=cond (A4 (s.2.2.1<(s.1.length:Int))) ((Yo s.2.1).bind fun g=>(Aq s.1 s.2.2.1).bind fun h=>(Ud (g,zB .u64 ((zB .u64 h)+1))).bind fun f=>A3 (.inl (s.1,f,zB .i64 (s.2.2.1+1),()))) (A3 (.inr (s.2.1,())))
def Vq(x:LI):Option Int:=(Ah Pe (x,0,0,())).bind fun h=>A3 h.1
def b1Y:sG:=⟨[.v QB],[.v QU],Vq⟩
def d3c:sF:=Qh [.sv 0 QB,.sv 3 QU,4] [[58,7,2,2]] [] [(5,Qg 10 146028888064 [])]
def Pf(x:LI×Int):Option Int:=(Yn (x.1,x.2)).bind fun h=>(Vq h.1).bind fun g=>A3 g
def a2T:sG:=⟨[.v QL,.v QI],[.v QU],Pf⟩
def NM(s:RU×Int×Int×Int×c0P):QO (RU×Int×Int×Int×c0P) ((RU×c0P) ⊕ (Bool×b1z)):=(fun(a:RU)(b c d:Int)(e f:TT)(g:Z9)=>cond (A4 (d<(a.length:Int))) ((Aq a d).bind fun i=>(DS i).bind fun k=>(show Option (RU×Int×Int×Int×Bool×LI×c0P)from cond (k.2 != 0) (A3 (a,b,c,d,true,k.1,e,f,g,())) ((Aq a d).bind fun j=>cond (!(gE EP j.2.2.1 g)) (A3 (a,b,c,d,true,k.1,e,f,g,())) ((Aq a d).bind fun l=>A3 (a,b,c,d,l.1 != b,k.1,e,f,g,())))).bind fun h=>cond h.2.2.2.2.1 (A3 (.inr (B6 (false,((0,0,0,()),0,0,[],[],()),())))) (cond (AZ ((A8 h.2.2.2.2.2.2.2.1.2.2.2.1)+1)) ((Aq h.1 h.2.2.2.1).bind fun m=>A3 (.inl (h.1,zB .i64 (h.2.1+m.2.1),zB .i64 (h.2.2.1+(h.2.2.2.2.2.1.length:Int)),zB .i64 (h.2.2.2.1+1),h.2.2.2.2.2.2.1,(h.2.2.2.2.2.2.2.1.1,h.2.2.2.2.2.2.2.1.2.1,h.2.2.2.2.2.2.2.1.2.2.1,B3 h.2.2.2.2.2.2.2.1.2.2.2.1 ([(h.2.1,h.2.2.1,())]:List (Int×Int×Unit)),h.2.2.2.2.2.2.2.1.2.2.2.2),h.2.2.2.2.2.2.2.2.1,()))) A6)) (A3 (.inr (B7 (a,e,f,g,()))))) s.1 s.2.1 s.2.2.1 s.2.2.2.1 s.2.2.2.2.1 s.2.2.2.2.2.1 s.2.2.2.2.2.2.1
def PF(x:Z9×RU):Option (TT×Bool):=(show Option (RU×Bool×c0K)from(HB x.1).bind fun c=>cond (!c) (A3 (x.2,true,((0,0,0,()),0,0,[],[],()),x.1,())) (A3 (x.2,A4 ((x.2.length:Int) > 4096),((0,0,0,()),0,0,[],[],()),x.1,()))).bind fun g=>cond g.2.1 (A3 (((0,0,0,()),0,0,[],[],()),false)) ((Ym g.1).bind fun d=>(Ah NM (g.1,0,0,0,g.2.2.1,(g.2.2.2.1,d,0,[],g.1,()),g.2.2.2.1,())).bind fun k=>match k with |.inl h=>((Ta h.1).bind fun a=>(Pf (a.1,h.2.2.2.1.2.2.1)).bind fun b=>A3 ((h.2.2.1.1,h.2.2.1.2.1,b,h.2.2.1.2.2.2),true)) |.inr f=>A3 (f.2.1,f.1))
def a8I:sG:=⟨[.v EP,.v (.list false TI)],[.v a7Z,.v .bool],PF⟩
def d6H:sF:=Qh [.sv 1 (.list false TI),7,8,9,Qb 5,Qb 21,Qb 61,.own 10 10 QV,.box 4 a7Z,.box 6 d5G,.vp 2 EP,Qp 4 4,Qp 6 6] [[250,7951,2,7937,1,2320]] [[6,0,3361],[16018,0,8143]] [(3,Qg 7 34603008 []),(9,Qg 20 160560460455088771564066 [])]
def HY(s:UG×UG×Int×Unit):QO (UG×UG×Int×Unit) Z0:=(fun(a:Int)=>cond (A4 (a<(s.1.length:Int))) ((Aq s.1 a).bind fun h=>(Aq s.2.1 a).bind fun g=>cond (!(gE EP h g)) (A3 (.inr (B6 (false,())))) (A3 (.inl (s.1,s.2.1,zB .i64 (a+1),())))) (A3 (.inr (B7 ())))) s.2.2.1
def Mg(x:UG×UG):Option Bool:=cond ((x.1.length:Int) != (x.2.length:Int)) (A3 false) ((Ah HY (x.1,x.2,0,())).bind fun g=>match g with |.inl f=>A3 true |.inr h=>A3 h.1)
def nW:sG:=⟨[.v (.list false EP),.v (.list false EP)],[.v .bool],Mg⟩
def d3d:sF:=Qh [.sv 0 (.list false EP),.sv 1 (.list false EP),5,Qb 4] [[58,7,2,0,1,8]] [] [(6,Qg 9 8589934592 [])]
def HZ(s:b4N):QO b4N Z0:=cond (A4 (s.1<(s.2.1.2.2.2.2.1.length:Int))) ((Aq s.2.1.2.2.2.2.1 s.1).bind fun h=>(Aq s.2.2.1.2.2.2.2.1 s.1).bind fun g=>(LC (h,g)).bind fun f=>cond (!f) (A3 (.inr (B6 (false,())))) (A3 (.inl (zB .i64 (s.1+1),s.2.1,s.2.2.1,())))) (A3 (.inr (B7 ())))
def ID(x:Mk×Mk):Option Bool:=(show Option (Bool×c0N)from cond (x.1.1 != x.2.1) (A3 (true,x.1,x.2,())) (cond (x.1.2.1 != x.2.2.1) (A3 (true,x.1,x.2,())) (cond (!(gE EP x.1.2.2.1 x.2.2.2.1)) (A3 (true,x.1,x.2,())) ((Mg (x.1.2.2.2.1,x.2.2.2.2.1)).bind fun k=>cond (!k) (A3 (true,x.1,x.2,())) (A3 ((x.1.2.2.2.2.1.length:Int) != (x.2.2.2.2.2.1.length:Int),x.1,x.2,())))))).bind fun h=>cond h.1 (A3 false) ((Ah HZ (0,h.2.1,h.2.2.1,())).bind fun f=>match f with |.inl a=>A3 true |.inr g=>A3 g.1)
def nX:sG:=⟨[.v TI,.v TI],[.v .bool],ID⟩
def d3e:sF:=Qh [5,Qb 4,Qb 41,.vp 2 TI,.vp 3 TI] [[58,25,2,0,1,2]] [[6,0,28]] [(6,Qg 12 37383395344384 [])]
def Ia(s:c0O):QO c0O (c3Q ⊕ (Bool×Unit)):=cond (A4 (s.1<(s.2.1.2.2.2.1.length:Int))) ((Aq s.2.1.2.2.2.1 s.1).bind fun h=>(Aq s.2.2.1.2.2.2.1 s.1).bind fun g=>cond (!(gE Q4 h g)) (A3 (.inr (B6 (false,())))) (A3 (.inl (zB .i64 (s.1+1),s.2.1,s.2.2.1,())))) (A3 (.inr (B7 (s.2.1,s.2.2.1,()))))
def Ib(s:c0O):QO c0O Z0:=cond (A4 (s.1<(s.2.1.2.2.2.2.1.length:Int))) ((Aq s.2.1.2.2.2.2.1 s.1).bind fun h=>(Aq s.2.2.1.2.2.2.2.1 s.1).bind fun g=>(ID (h,g)).bind fun f=>cond (!f) (A3 (.inr (B6 (false,())))) (A3 (.inl (zB .i64 (s.1+1),s.2.1,s.2.2.1,())))) (A3 (.inr (B7 ())))
def Qa(x:TT×TT):Option Bool:=(show Option (Bool×c3Q)from cond (!(gE EP x.1.1 x.2.1)) (A3 (true,x.1,x.2,())) (cond (x.1.2.1 != x.2.2.1) (A3 (true,x.1,x.2,())) (cond (x.1.2.2.1 != x.2.2.2.1) (A3 (true,x.1,x.2,())) (cond ((x.1.2.2.2.1.length:Int) != (x.2.2.2.2.1.length:Int)) (A3 (true,x.1,x.2,())) (A3 ((x.1.2.2.2.2.1.length:Int) != (x.2.2.2.2.2.1.length:Int),x.1,x.2,())))))).bind fun f=>cond f.1 (A3 false) ((Ah Ia (0,f.2.1,f.2.2.1,())).bind fun c=>match c with |.inl k=>((Ah Ib (0,k.1,k.2.1,())).bind fun g=>match g with |.inl a=>A3 true |.inr h=>A3 h.1) |.inr b=>A3 b.1)
def nY:sG:=⟨[.v a7Z,.v a7Z],[.v .bool],Qa⟩
def d3f:sF:=Qh [5,6,Qb 4,Qb 43,.vp 2 a7Z,.vp 3 a7Z] [[58,49,2,48,1,4],[122,50,4,0,1,4]] [[6,0,56]] [(6,Qg 11 2199023255552 []),(11,Qg 12 37383395344384 [])]
def NN(x:TT):Option Bool:=(PF (x.1,x.2.2.2.2.1)).bind fun h=>cond h.2 ((Qa (x,h.1)).bind fun g=>A3 g) (A3 false)
def a0p:sG:=⟨[.v a7Z],[.v .bool],NN⟩
def NO(s:a7b):QO a7b SE:=(fun(a b c:Int)=>cond (A4 (c<8)) (cond (bits .u32 .and a 1==1) (A3 (.inl (s.1,bits .u32 .xor (Au .u32 a 1) 3988292384,b,zB .i64 (c+1),()))) (A3 (.inl (s.1,Au .u32 a 1,b,zB .i64 (c+1),())))) (A3 (.inr (s.1,a,b,())))) s.2.1 s.2.2.1 s.2.2.2.1
def Jv(s:SE):Option c2g:=cond (A4 (s.2.2.1<(s.1.length:Int))) ((Aq s.1 s.2.2.1).bind fun g=>(Ah NO (s.1,bits .u32 .xor s.2.1 (zB .u32 g),s.2.2.1,0,())).bind fun h=>A3 (.inl (h.1,h.2.1,zB .i64 (h.2.2.1+1),()))) (A3 (.inr (s.2.1,())))
def NP(x:LI):Option Int:=(Ah Jv (x,4294967295,0,())).bind fun h=>A3 (bits .u32 .xor (IntKind.max .u32) h.1)
def a0q:sG:=⟨[.v QB],[.v (.int .u32)],NP⟩
def d6I:sF:=Qh [.sv 0 QB,.sv 3 (.int .u32),4,5] [[58,7,2,2],[7462,15,4,7]] [] []
def Jw(s:Int×LI×b4M):QO (Int×LI×b4M) (LI×b4M):=(fun(a:Int)(b c:LI)(d:TT)=>cond (A4 (a<(d.2.2.2.2.1.length:Int))) ((Aq d.2.2.2.2.1 a).bind fun f=>(DS f).bind fun h=>(Aq d.2.2.2.2.1 a).bind fun k=>(Cs ([zB .u64 (h.1.length:Int),zB .u64 k.2.1]:List Int)).bind fun g=>cond (AZ ((A8 b)+(A8 g))) (cond (AZ ((A8 c)+(A8 h.1))) (A3 (.inl (zB .i64 (a+1),B3 b g,B3 c h.1,d,()))) A6) A6) (A3 (.inr (b,c,d,())))) s.1 s.2.1 s.2.2.1 s.2.2.2.1
def NQ(x:TT):Option (LI×Int):=(NN x).bind fun a=>cond (!a) (A3 ([],1)) ((Cs ([zB .u64 x.1.1,zB .u64 x.1.2.1,zB .u64 x.1.2.2.1,zB .u64 (x.2.2.2.2.1.length:Int)]:List Int)).bind fun k=>cond (AZ (4+(A8 k))) ((Ah Jw (0,B3 [75,78,83,68] k,[],x,())).bind fun h=>(LD (h.2.2.1.2.2.1,8)).bind fun f=>cond (AZ ((A8 h.1)+(A8 f))) ((NP (B3 h.1 f)).bind fun b=>(LD (zB .u64 b,4)).bind fun g=>cond (AZ ((A8 (B3 h.1 f))+(A8 g))) (cond (AZ ((A8 (B3 (B3 h.1 f) g))+(A8 h.2.1))) (A3 (B3 (B3 (B3 h.1 f) g) h.2.1,0)) A6) A6) A6) A6)
def a0r:sG:=⟨[.v a7Z],[.o QV,.v QI],NQ⟩
def d6J:sF:=Qh [6,.own 4 4 QV,.own 5 5 QV,.vp 1 a7Z] [[250,15,2,14]] [] []
def CD(s:LI×Int×c9C):QO (LI×Int×c9C) ((LI×c9C) ⊕ Z6):=(fun(a:LI)(b c d:Int)(e:Z9)=>cond (A4 (d<(a.length:Int))) ((Aq a d).bind fun h=>(Hd (h,e.2.2.1)).bind fun g=>cond (!g) (A3 (.inr (B6 (6,[],())))) (A3 (.inl (a,s.2.1,b,c,zB .i64 (d+1),e,())))) (A3 (.inr (B7 (a,s.2.1,b,c,e,()))))) s.1 s.2.2.1 s.2.2.2.1 s.2.2.2.2.1 s.2.2.2.2.2.1
def FZ(s:LI×Int×Int×Int×Int×RU×c0j):QO (LI×Int×Int×Int×Int×RU×c0j) (RU×c0j):=(fun(a b c d:Int)(e:RU)(f:Z9)=>cond (A4 (d<c)) (cond (A4 (0<=(zB .i64 ((En (zB .i64 (d+a)) c)*f.2.1)))&&A4 ((zB .i64 ((En (zB .i64 (d+a)) c)*f.2.1))<=(s.1.length:Int))) (cond (A4 (0<=(zB .i64 (d*f.2.1)))&&A4 ((zB .i64 (d*f.2.1))<=((A7 (zB .i64 ((En (zB .i64 (d+a)) c)*f.2.1)):Nat):Int))) ((LW (C2 (A7 (zB .i64 (d*f.2.1))) (C1 (A7 (zB .i64 ((En (zB .i64 (d+a)) c)*f.2.1))) s.1),f)).bind fun g=>(Fx (g.1,f,d,b)).bind fun h=>cond (AZ ((A8 e)+1)) (A3 (.inl (s.1,a,b,c,zB .i64 (d+a),B3 e ([h.1]:List Mk),f,()))) A6) A6) A6) (A3 (.inr (e,f,())))) s.2.1 s.2.2.1 s.2.2.2.1 s.2.2.2.2.1 s.2.2.2.2.2.1 s.2.2.2.2.2.2.1
def Jy(x:c5i):Option (LI×Int):=(show Option (LI×c5j)from(HB x.1).bind fun e=>cond (!e) (A3 (x.2.1,x.2.2.1,x.2.2.2,true,x.1,())) (cond (A4 (x.2.2.1<1)) (A3 (x.2.1,x.2.2.1,x.2.2.2,true,x.1,())) (cond (A4 (x.2.2.1 > 4096)) (A3 (x.2.1,x.2.2.1,x.2.2.2,true,x.1,())) (cond (A4 (x.2.2.2<0)) (A3 (x.2.1,x.2.2.1,x.2.2.2,true,x.1,())) (A3 (x.2.1,x.2.2.1,x.2.2.2,A4 (x.2.2.2 > 3),x.1,())))))).bind fun h=>cond h.2.2.2.1 (A3 ([],1)) (cond (h.2.2.2.2.1.2.1==0) A6 (cond ((B8 (h.1.length:Int) h.2.2.2.2.1.2.1) != 0) (A3 ([],3)) (cond (h.2.2.2.2.1.2.1==0) A6 ((show Option (LI×Int×c5j)from cond (A4 ((zB .i64 (B9 (h.1.length:Int) h.2.2.2.2.1.2.1)) > 4194304)) (A3 (h.1,h.2.1,h.2.2.1,zB .i64 (B9 (h.1.length:Int) h.2.2.2.2.1.2.1),true,h.2.2.2.2.1,())) (cond (h.2.1==0) A6 (A3 (h.1,h.2.1,h.2.2.1,zB .i64 (B9 (h.1.length:Int) h.2.2.2.2.1.2.1),A4 ((zB .i64 (B9 (zB .i64 ((zB .i64 ((zB .i64 (B9 (h.1.length:Int) h.2.2.2.2.1.2.1))+h.2.1))-1)) h.2.1)) > 4096),h.2.2.2.2.1,())))).bind fun g=>cond g.2.2.2.2.1 (A3 ([],4)) ((Ah CD (g.1,g.2.1,g.2.2.1,g.2.2.2.1,0,g.2.2.2.2.2.1,())).bind fun d=>match d with |.inl f=>((Ah FZ (f.1,f.2.1,f.2.2.1,f.2.2.2.1,0,[],f.2.2.2.2.1,())).bind fun k=>(PF (k.2.1,k.1)).bind fun b=>(NQ b.1).bind fun a=>A3 (a.1,a.2)) |.inr c=>A3 (c.2.1,c.1))))))
def eF:sG:=⟨[.v EP,.v QL,.v QI,.v QI],[.o QV,.v QI],Jy⟩
def H6:sF:=Qh [.sv 1 QL,2,3,10,11,13,.own 12 12 TI,9,.own 8 8 QV,Qb 38,Qb 60,.vp 4 EP] [[506,2079,2,2063,1,384],[2042,2159,4,2112]] [[6,0,2567],[62,0,3087]] [(11,Qg 8 570425344 []),(17,Qg 22 48432590648311081311666176 [[0,14]])]
def Yp(x:Z2):Option Bool:=some ((b9K x.1)==(b9K x.2))
def b5f:sG:=⟨[.v QB,.v QB],[.v .bool],Yp⟩
end Go.Ab
namespace Go.Ab
open IntKind renaming wrap->zB
open Go.Proofs
set_option maxRecDepth 100000
set_option linter.unusedVariables false
def Mp(x:c5i):Option Bool:=(Xe ()).bind fun f=>cond (!f) (A3 false) (cond (A4 ((x.2.1.length:Int) > 60)) (A3 true) ((Hb (x.1,x.2.1,x.2.2.1,x.2.2.2)).bind fun h=>(Jy (x.1,x.2.1,x.2.2.1,x.2.2.2)).bind fun g=>(Yp (h.1,g.1)).bind fun k=>cond k (A3 (h.2==g.2)) (A3 false)))
def Mq:sG:=⟨[.v EP,.v QL,.v QI,.v QI],[.v .bool],Mp⟩
end Go.Ab
