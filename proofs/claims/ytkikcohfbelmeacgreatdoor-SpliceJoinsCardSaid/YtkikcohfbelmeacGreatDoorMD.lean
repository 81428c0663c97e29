/- Part of the proof: Rv. Conditions: as each statement tells. -/
import Derived.Shelf.RegionOpenPlain
import Derived.WalkKit
import Derived.Lib.Walk
import Derived.Sort.WalkB12
import Derived.Lib.SlicesMore
import Derived.Test.YtkikcohfbelmeacGreatDoorProg
import Derived.KernelRfl
import Derived.Laws.Externs
import Derived.RangeFuncBound
import Derived.RangeFuncCalls
import Derived.RangeFuncBox
import Derived.OwnWalkIn
import Derived.TacticsInMore
import Derived.LoopNIn
import Derived.LoopIn
import Derived.MapKept
import Derived.Carry
import Derived.Test.YtkikcohfbelmeacGreatDoorMC
noncomputable section
set_option linter.unusedSimpArgs false
set_option linter.unusedVariables false
open Array renaming replicate_succ->C4,replicate_zero->C5,getElem?_modify->D4,getElem?_eq_some_iff->E2,toList_push->E7,getD->F0,ext->F1
open Decidable renaming decide->A4
open Int renaming toNat->A7,tdiv->B9,tmod->C0
open List renaming length->A8,append->A9,getD->B3,replicate->B4,take->B8,set->C1,drop->C2,mem_singleton->C3,append_toArray->C6,cons_append->C7,size_toArray->C8,push_toArray->C9,reverse->D1,length_nil->D2,nil_append->D3,take_succ_eq_append_getElem->D8,length_map->E1,take_of_length_le->E4,mem_of_getElem?->E5,getElem_map->E9
open Nat renaming le_refl->D0,reduceAdd->D5,reduceSub->D6,lt_of_lt_of_le->D7,le_trans->E6,mul_one->E8
open Option renaming some->kd,none->ke,some->A3,none->A6,getD_some->D9,bind_eq_some_iff->E3
open Sum renaming inr->B6,inl->B7
open Bool renaming true->ka,false->kc
namespace Go.Ab
open Go.Proofs Go.RowKit Go.Lib Go.Sort
set_option maxHeartbeats 1600000 in
set_option maxRecDepth 1000000 in
theorem b4D (blk off cap:Nat) (d:Array Int) (w:World) (hH:Holds (Value.int .u8) w blk off d) (hsz:d.size<=9223372036854775807):
  Calls Tryz.prog 127 #[.slice (kd ⟨blk,off,ke⟩) d.size cap] w λe w'=>e=.returned (.tuple #[])/\∃n,w'=putRow (Value.int .u8) (Sort.ahead w n) blk off d.reverse:=by
 have hU:Tryz.prog.follows .mixedOrders=ka:=by kernel_rfl
 go_enter Tryz.func127,Tryz.ntmps127
 go_wp2
 go_loopg [2,3] d.size (λk s2 s3 wr=>∃(i jn:Nat)(jz:Int)(dk:Array Int)(n:Nat),s2=.int .i64 i/\s3=.int .i64 jz/\((i:Int)<jz->jz=jn/\jn<d.size)/\(¬ (i:Int)<jz->¬ i<jn)/\jn-i<=k/\
  dk.size=d.size/\wr=putRow (Value.int .u8) (Sort.ahead w n) blk off dk/\reverseLoop i jn dk=reverseLoop 0 (d.size-1) d)
 case atStart=>exact⟨0,d.size-1,(d.size:Int)-1,d,0,rfl,rfl,λh=>⟨by omega,by omega⟩,λh=>by omega,by omega,rfl,(putRow_self (Value.int .u8) w blk off d hH).symm,rfl⟩
 case round=>
  obtain⟨i,jn,jz,dk,n,rfl,rfl,h1,h2,hk,hds,hwr,heq⟩:=hrel
  by_cases hlt:(i:Int)<jz
  ·obtain⟨rfl,hjn⟩:=h1 hlt
   have hij:i<jn:=by omega
   have hHk:Holds (Value.int .u8) wr blk off dk:=by rw[hwr];exact holds_putRow (Value.int .u8) _ blk off d dk (holds_ahead (Value.int .u8) w n blk off d hH) hds
   have⟨ci,fi⟩:=hHk i (by omega)
   have⟨cj,fj⟩:=hHk jn (by omega)
   have A:Aside (wr=putRow (Value.int .u8) (Sort.ahead w n) blk off dk):=hwr
   clear hwr hHk hH h1 h2
   go_wp2_with fail
   go_region_o
   go_wp2
   go_roundg (jn-1-(i+1))
   case measure=>omega
   case rel=>
    rw[reverseLoop,if_pos hij]at heq
    exact⟨i+1,jn-1,(jn:Int)-1,swp dk i jn,n+1,by simp,rfl,λh=>⟨by omega,by omega⟩,λh=>by omega,D0 _,by rw[size_swp];exact hds,
     swap_world (Value.int .u8) (by omega) (by omega) A.out (by first|rfl|simp[getElem!_pos,show jn<dk.size by omega]) (by first|rfl|simp[getElem!_pos,show i<dk.size by omega]),heq⟩
  ·have hnot:=h2 hlt
   go_wp2
   go_end0
   refine⟨rfl,n,?_⟩
   rw[reverseLoop,if_neg hnot]at heq
   rw[<-Lib.reverseLoop_reverse,<-heq]
set_option maxHeartbeats 1000000 in
theorem b1W (a:Option Addr) (cap:Nat) (w:World):
  Calls Tryz.prog 127 #[.slice a 0 cap] w λe w'=>e=.returned (.tuple #[])/\w'=w:=by
 go_enter Tryz.func127,Tryz.ntmps127
 go_wp2
 go_loopg [2,3] 0 (λ_ s2 s3 wr=>s2=.int .i64 0/\s3=.int .i64 (-1)/\wr=w)
 case atStart=>exact⟨rfl,rfl,rfl⟩
 case round=>
  obtain⟨rfl,rfl,rfl⟩:=hrel
  go_wp2
  go_end0
  exact⟨rfl,rfl⟩
end Go.Ab
namespace Go.Ab
open Go.Proofs Go.RowKit Go.Lib Go.Sort
theorem a9d{w:World}{b o:Nat}{l:List Int}{cs:List Value}(a:cs=l.map (Value.int .u8))(g:∀(j:Nat)(u:Value),cs[j]?=kd u->w.cell? ⟨b,o+j,ke⟩=kd u) {k:Nat}(d:Cv w b k)(r:o+l.length<=k):Holds (Value.int .u8) w b o l.toArray:=by(intro j i;have f:j<l.length:=by simpa using i);refine⟨?_,?_⟩;rw[g j (.int .u8 l[j]) (by rw[a,List.getElem?_map,lG f];rfl)];simp[getElem!_pos,f];have⟨c,e,lo,q,h,m,p⟩:=d;simp only[World.frozen?,h];simp only[Bool.and_eq_false_iff,decide_eq_false_iff_not];omega
theorem a5O{w:World}{b o:Nat}{d:Array Int}{n c k:Nat}(h:Cv w c k):Cv (putRow (Value.int .u8) (Sort.ahead w n) b o d) c k:=by have⟨g,e,lo,i,h,f,a⟩:=h;by_cases hb:b=c;subst hb;refine⟨putCells (Value.int .u8) o d g,e,lo,i,?_,by simpa[putCells]using f,a⟩;show(w.heap.modify b _)[b]?=_;simp[D4,h,onCells];refine⟨g,e,lo,i,?_,f,a⟩;show(w.heap.modify b _)[c]?=_;simp[D4,h,hb]
theorem a5P{w:World}{b o:Nat}{d:Array Int}{n c:Nat}(h:c≠b):(putRow (Value.int .u8) (Sort.ahead w n) b o d).heap[c]?=w.heap[c]?:=by show(w.heap.modify b _)[c]?=_;simp[D4,Ne.symm h]
theorem b4E(G:Xn):HH Tryz.prog G 127 ⟨[.r kc (.o (.int .u8))],[],λx=>bif A4 (A8 (x:List Int)<2147483648)then kd (D1 (x:List Int))else ke⟩:=by
 intro w B M g (x:List Int) (y:List Int) hG hy hB hhp hov hargs hrel hpins;have k2:A8 x<2147483648/\(D1 x)=y:=by rcases Ah hy with⟨h,E⟩|⟨h,E⟩;exact⟨of_decide_eq_true h,Option.some.inj E⟩;cases E
 obtain⟨k3,rfl⟩:=k2;have h6:(Ux [PA.r kc (.o (.int .u8))] x).rt (pinned+0)=kd ⟨kc,.list ka (.int .u8),x⟩:=rfl;have⟨s,g7,g9⟩:=hpins 0 (by simp[Ba]) rfl;have hg:=hrel.pins 0 s g7 (by rw[h6];simp);have g6:=hrel.roots _ _ h6;have⟨O',R,hd,hR,P⟩:=g6.rd;obtain⟨g0,-⟩|⟨-,⟨v,hv⟩,-,hO⟩:=P;cases g0;rw[hv]at hg hd;subst hg;have Q:g.getD 0 undef=v:=g9;have m:g=#[v]:=by have H:g.size=1:=hargs;apply F1;simpa using H;intro i E h3;(have:i=0:=by simp at h3;exact h3);subst this;rw[<-Q];simp[F0,H]
 have h5:Ag w M.ov=cells w:=by rw[hov];rfl
 rw[h5]at hd;have N:∀(A:World)(y:List Int) R',A.heap.size=w.heap.size->AM (cells A) (.list ka (.int .u8)) ((Src.one v).rd (cells A))=kd (y,O',R')->(∀b k,Cv w b k->Cv A b k)->(∀b,b<B.size->¬ B.F b->A.heap[b]?=w.heap[b]?)->EK A=EK w->wV B A (Fg (RA.all [PA.r kc (.o (.int .u8))] []) y) ([]++(Ba [PA.r kc (.o (.int .u8))] 0).map (GV [PA.r kc (.o (.int .u8))] g)) [(.one v,O')]:=by(intro A y R' k7 K Y X g3;have d:∀c∈O'.map (·.1),B.F c\/B.size<=c:=λc P=>hrel.mine c ⟨pinned+0,by rw[hO];exact P⟩;refine⟨rfl,rfl,λk it u L H E h3=>?_,?_,?_,?_,?_,by omega,λb hb hF=>?_,by rw[g3];exact hrel.still⟩);(cases k with|succ k=>simp at h3|zero=>(have e1:it=⟨.o (.int .u8),y⟩:=(Option.some.inj H).symm;have e2:u=v:=by have:u=g.getD 0 undef:=(Option.some.inj E).symm;rw[this,Q]);have e3:L=(.one v,O'):=(Option.some.inj h3).symm;subst e1 e2 e3;refine⟨rfl,⟨O',R',K,?_,.inr ⟨rfl,⟨_,rfl⟩,⟨_,rfl⟩,rfl⟩⟩⟩;rw[fW (e:=.int .u8) rfl K];simp);intro L O;rw[C3]at O;subst O;rw[<-hO];exact hrel.nodup _;intro k k' L L' H E k6;(have:k=0:=by have:=(lS.1 H).1;simpa using this);(have:k'=0:=by have:=(lS.1 E).1;simpa using this);omega;intro L O p hp;rw[C3]at O;subst O;exact Y _ _ (hrel.live (pinned+0) p (by rw[hO];exact hp));intro L O c P;rw[C3]at O;subst O;exact d c P;rw[X b hb hF,hhp]
 have h7:∀a c,v=.slice a 0 c->x=[]->Calls Tryz.prog 127 g w λe A=>∃vr Ls,e=.returned (fV vr)/\vr.length=0/\wV B A (Fg (RA.all [PA.r kc (.o (.int .u8))] []) (D1 x)) (vr++(Ba [PA.r kc (.o (.int .u8))] 0).map (GV [PA.r kc (.o (.int .u8))] g)) Ls:=by(intro a c l hx;have P:=b1W a c w;rw[<-l,<-m]at P;refine P.mono λe A h=>?_);obtain⟨rfl,rfl⟩:=h;subst hx;exact⟨[],_,rfl,rfl,N A [] R rfl hd (λ_ _ h=>h) (λ_ _ _=>rfl) rfl⟩
 rcases a3n (e:=.int .u8) rfl hd with⟨l,hx,-,-⟩|⟨b,n,c,cs,l,hb,g5,D,C,g1,U,k4,h4⟩;exact h7 _ _ l hx;replace D:n=x.length:=D;by_cases hn:n=0;subst hn;exact h7 _ _ l (List.length_eq_zero_iff.1 (show x.length=0 from D.symm));have T:c≠0:=by omega
 replace hb:=hb.resolve_left T;rw[if_neg T]at C;simp only[Ty.cells,E8]at C g1;have X:Cv w b.block (b.off+c):=hrel.live (pinned+0) (b.block,b.off+c) (by rw[hO,C];simp);have g2:cs=x.map (Value.int .u8):=by have:=Tr x n 0 (by omega) h4;simpa using this
 have hH:Holds (Value.int .u8) w b.block b.off x.toArray:=a9d g2 U X (by omega);have hw:=b4D b.block b.off c x.toArray w hH (by simp;omega);have h9:(⟨b.block,b.off,ke⟩:Addr)=b:=by cases b;simp at hb;subst hb;rfl
 rw[h9,show(x.toArray).size=n by simp[D],<-l,<-m]at hw;refine hw.mono λe A h=>?_
 obtain⟨rfl,q,rfl⟩:=h;have h8:=holds_putRow (Value.int .u8) (Sort.ahead w q) b.block b.off _ x.toArray.reverse (holds_ahead (Value.int .u8) w q b.block b.off _ hH) (by simp);have d:B.F b.block\/B.size<=b.block:=hrel.mine _ ⟨pinned+0,by rw[hO,C];simp⟩;have Z:∀(j:Nat)(z:Int),(D1 x)[j]?=kd z->AM (cells (putRow (Value.int .u8) (Sort.ahead w q) b.block b.off x.toArray.reverse)) (.int .u8) ((Src.at b.block (b.off+j*(Ty.int .u8).cells)).rd (cells (putRow (Value.int .u8) (Sort.ahead w q) b.block b.off x.toArray.reverse)))=kd (z,[],[]):=by(intro j z hz;have g4:j<x.reverse.length:=(lS.1 hz).1;have hj:j<x.toArray.reverse.size:=by simpa using g4);(have H:=(h8 j hj).1;have E:x.toArray.reverse[j]! = z:=by rw[getElem!_pos _ j hj];have:(D1 x)[j]'(by simpa using hj)=z:=(lS.1 hz).2;rw[<-this];simp);(rw[E]at H;have k0:(Src.at b.block (b.off+j*(Ty.int .u8).cells)).rd (cells (putRow (Value.int .u8) (Sort.ahead w q) b.block b.off x.toArray.reverse)) 0=kd (.int .u8 z):=by show World.cell? _ ⟨b.block,b.off+j*1+0,ke⟩=_;rw[E8];exact H);simp only[AM,k0,if_true];rfl
 have⟨R',V,k5⟩:=mS (f:=λi=>AM (cells (putRow (Value.int .u8) (Sort.ahead w q) b.block b.off x.toArray.reverse)) (.int .u8) ((Src.at b.block (b.off+i*(Ty.int .u8).cells)).rd (cells (putRow (Value.int .u8) (Sort.ahead w q) b.block b.off x.toArray.reverse)))) (S:=λ_=>False) (D1 x) 0 λj z hz=>⟨[],by rw[Nat.zero_add];exact Z j z hz,by simp⟩;have k1:(D1 x).length=n:=by rw[List.length_reverse];exact D.symm
 have I:=k1▸V;have K:=Yi (rd:=(Src.one v).rd (cells (putRow (Value.int .u8) (Sort.ahead w q) b.block b.off x.toArray.reverse))) (by rw[l];rfl) hb g5 T I;have h0:O'=[(b.block,b.off+c*(Ty.int .u8).cells)]:=by rw[C];simp[Ty.cells]
 refine⟨[],_,rfl,rfl,N _ _ R' (by simp) (by rw[h0];exact K) (λ_ _ h=>a5O h) (λa ha hF=>a5P λe=>?_) rfl⟩;subst e;rcases d with h|h;exact hF h;omega
end Go.Ab
namespace Go.Ab
open Go.Proofs Go.RowKit
theorem b7z(P:Program)(w:World)(x y c:Int)(h:c.toNat<=1):(add64Entry #[.int .u64 x,.int .u64 y,.int .u64 c]).run P w=.ok (.tuple #[.int .u64 (((x.toNat+y.toNat+c.toNat)%18446744073709551616:Nat):Int),.int .u64 (((x.toNat+y.toNat+c.toNat) / 18446744073709551616:Nat):Int)]) w:=by cases c with|ofNat k=>((have:k=0\/k=1:=by simp at h;omega);rcases this with rfl|rfl<;>rfl)|negSucc n=>rfl
theorem b0D(m:Es)(Sh:Nat->Prop)(n:Int):CK m Sh (.int .u64) n (.int .u64 n):=by refine⟨λh=>(by cases h),λ_=>rfl,[],?_,by simp⟩;rfl
theorem b4F(G:Xn):b3Y Tryz.prog G 142 ⟨[.v (.int .u64),.v (.int .u64),.v (.int .u64)],[.v (.int .u64),.v (.int .u64)],λ(x:Int×(Int×Int))=>bif A4 (x.2.2.toNat<=1)then kd ((((x.1.toNat+x.2.1.toNat+x.2.2.toNat)%18446744073709551616:Nat):Int),(((x.1.toNat+x.2.1.toNat+x.2.2.toNat) / 18446744073709551616:Nat):Int))else ke⟩:=by
 intro w B M a (x:Int×(Int×Int)) (y:Int×Int) hG o hB hhp hov hargs hrel hpins;have⟨m,o⟩:=(Ah o).elim id λh=>by cases h.2
 have m:x.2.2.toNat<=1:=of_decide_eq_true m;cases o;have p:a.size=3:=hargs;have q:=AA.int (k:=.u64) (n:=x.1) (g:=M.g) (rt:=(Ux [.v (.int .u64),.v (.int .u64),.v (.int .u64)] x).rt) (hrel.slots 0 (by decide));have f:=AA.int (k:=.u64) (n:=x.2.1) (g:=M.g) (rt:=(Ux [.v (.int .u64),.v (.int .u64),.v (.int .u64)] x).rt) (hrel.slots 1 (by decide));have d:=AA.int (k:=.u64) (n:=x.2.2) (g:=M.g) (rt:=(Ux [.v (.int .u64),.v (.int .u64),.v (.int .u64)] x).rt) (hrel.slots 2 (by decide));have u:a=#[.int .u64 x.1,.int .u64 x.2.1,.int .u64 x.2.2]:=by rw[<-q,<-f,<-d];apply F1;simpa using p;intro i l r;(have:i=0\/i=1\/i=2:=by simp at r;omega);rcases this with rfl|rfl|rfl<;>simp[F0,p]
 subst u;refine⟨_,w,?_,[.int .u64 (((x.1.toNat+x.2.1.toNat+x.2.2.toNat)%18446744073709551616:Nat):Int),.int .u64 (((x.1.toNat+x.2.1.toNat+x.2.2.toNat) / 18446744073709551616:Nat):Int)],[(.one undef,[]),(.one undef,[])],rfl,rfl,?_⟩;rw[run_callFunc_extern Tryz.func142 (by kernel_rfl) (by kernel_rfl) (by kernel_rfl) (e:=add64Entry) (by kernel_rfl),b7z _ _ _ _ _ m];rfl;refine⟨rfl,rfl,λk A v L f d l=>?_,by simp,λk C L z f d l c j=>?_,by simp,by simp,by omega,λb _ _=>(hhp b).symm,hrel.still⟩;match k with|0=>(cases f;cases d;cases l;exact⟨b0D _ _ _,rfl⟩)|1=>(cases f;cases d;cases l;exact⟨b0D _ _ _,rfl⟩)|k+2=>cases f
 match k,f with|0,f=>(cases f;cases j)|1,f=>(cases f;cases j)|k+2,f=>cases f
end Go.Ab
namespace Go.Ab
open Go.Proofs Go.RowKit
attribute [local go_sem] Oper.semAt_some
set_option maxHeartbeats 1000000 in
theorem b7A:a8Z Tryz.prog 259 290:=by refine⟨⟨_,_,Tryz.func259,rfl,by kernel_rfl⟩,λA len cap w=>(callsIn_wide (n:=3)).1 ?_⟩;refine callsIn_of_wp Tryz.func259 rfl trivial ?_;simp only[Tryz.ntmps259,C8,lC,D2,D5,D6,C4,C5,C9,C6,D3,C7];gi_wp2;go_ret;exact⟨rfl,_,rfl⟩
abbrev YA:Ty:=.pair (.int .i64) (.pair (.int .i64) .unit)
set_option maxRecDepth 100000 in
set_option maxHeartbeats 2000000 in
theorem b4G (l Bs b off len cap:Nat) (p q:Nat->Int) (J:Nat->World->Prop) (Jx:World->Prop) (W:World)
  (hJ:∀k W',J k W'->W'.cell? ⟨Bs,0,ke⟩=kd (.slice (kd ⟨b,off,ke⟩) len cap))
  (hlen:len<2147483648)
  (hcs:∀k W',k<len->J (k+1) W'->W'.cell? ⟨b,off+k*2,ke⟩=kd (.int .i64 (p k))/\W'.cell? ⟨b,off+k*2+1,ke⟩=kd (.int .i64 (q k)))
  (hY:∀n W',n<len->J (n+1) W'->YieldAt (Fr ke) 0 Tryz.prog l #[.int .i64 (n:Int),.agg #[.int .i64 (p n),.int .i64 (q n)]] W' λen W''=>(en=.returned (.bool ka)/\J n W'')\/(en=.returned (.bool kc)/\Jx W''))
  (h0:J len W):
  CallsIn (Fr ke) 0 Tryz.prog 290 #[.func (.yield l) #[] #[],.pointer (kd ⟨Bs,0,ke⟩)] W λen W'=>(∃v,en=.returned v)/\(J 0 W'\/Jx W'):=by
 refine callsIn_of_wp Tryz.func290 rfl trivial ?_
 simp only[Tryz.ntmps290,C8,lC,D2,D5,D6,C4,C5,C9,C6,D3,C7]
 have hBs:=hJ _ _ h0
 gi_wp2
 gi_loopw [3] (λi wr=>∃k:Nat,k<=len/\i=.int .i64 ((k:Int)-1)/\J k wr) (λi _=>(intOf i+1).toNat)
 case atStart=>exact⟨len,D0 _,rfl,h0⟩
 case round=>
  obtain⟨k,hk,rfl,hJs⟩:=hrel
  cases k with
  |succ n=>
   have⟨fn,tmps,assign,body,hy,hR⟩:=hY n wr (by omega) hJs
   have hcx:=hJ _ _ hJs
   have⟨hc0,hc1⟩:=hcs n wr (by omega) hJs
   gi_wp2
   refine hR.mono ?_
   rintro e W3 (⟨rfl,hJ3⟩|⟨rfl,hJx3⟩)
   ·gi_wp2
    go_roundw
    case rel=>exact⟨n,by omega,by simp,hJ3⟩
    case measure=>simp[intOf]
   ·gi_wp2
    refine bodyPost_ret (results_none rfl _ _ _) rfl ?_
    exact⟨⟨_,rfl⟩,.inr hJx3⟩
  |zero=>
   gi_wp2
   go_end0
   exact⟨⟨_,rfl⟩,.inl hJs⟩
set_option maxRecDepth 100000 in
set_option maxHeartbeats 2000000 in
theorem b1X (l Bs:Nat) (A:Option Addr) (c:Nat) (J:Nat->World->Prop) (W:World) (hBs:W.cell? ⟨Bs,0,ke⟩=kd (.slice A 0 c)) (h0:J 0 W):
  CallsIn (Fr ke) 0 Tryz.prog 290 #[.func (.yield l) #[] #[],.pointer (kd ⟨Bs,0,ke⟩)] W λen W'=>(∃v,en=.returned v)/\J 0 W':=by
 refine callsIn_of_wp Tryz.func290 rfl trivial ?_
 simp only[Tryz.ntmps290,C8,lC,D2,D5,D6,C4,C5,C9,C6,D3,C7]
 gi_wp2
 gi_loopw [3] (λi wr=>i=.int .i64 (-1)/\J 0 wr) (λ_ _=>0)
 case atStart=>exact⟨rfl,h0⟩
 case round=>
  obtain⟨rfl,hJs⟩:=hrel
  gi_wp2
  go_end0
  exact⟨⟨_,rfl⟩,hJs⟩
theorem a2d{m:Es}{Sh:Nat->Prop}{b o:Nat}{x:YA.sI}{R}(h:AM m YA ((Src.at b o).rd m)=kd (x,[],R)):m b o=kd (.int .i64 x.1)/\m b (o+1)=kd (.int .i64 x.2.1)/\CK m Sh YA x (.agg #[.int .i64 x.1,.int .i64 x.2.1]):=by have⟨p,q,u⟩:=x;simp only[YA,AM,Src.rd,Ty.cells,Nat.add_zero]at h;split at h;cases h;rename_i y i r g;split at g;rename_i n c;split at g;rename_i e;subst e;simp only[sj]at g;obtain⟨rfl,rfl,rfl⟩:=g;split at h;cases h;rename_i z j v k;split at k;cases k;rename_i A l w f;split at f;rename_i d a;split at f;rename_i e;subst e;simp only[sj]at f k h;obtain⟨rfl,rfl,rfl⟩:=f;obtain⟨rfl,rfl,rfl⟩:=k;obtain⟨⟨rfl,rfl,rfl⟩,-,-⟩:=h;exact⟨c,a,λ_=>⟨_,rfl,rfl⟩,λh=>(by cases h),[],rfl,by simp⟩;cases f;cases f;cases g;cases g
theorem XF {P:Program} {f:FuncId} (hb:Yp P f) (args:Array Value) (w:World):(callFunc f args).run P w=.ok (.enter f args) w:=by
 obtain ⟨fn,c',h1,h2,h3⟩:=hb;have h4 : ¬ fn.name = "runtime.NumGoroutine" := by simpa using h3
 simp [callFunc,program,Sem.run,h1,h2,h4,Result.andThen]
theorem b7B:a3M Tryz.prog 290 YA:=by refine⟨λj w=>XF ⟨_,_,Tryz.func290,rfl,by kernel_rfl⟩ j w,λl F X f J K W m z S q=>?_⟩;have⟨G,Sh,D⟩:=z _ _ q;obtain⟨A,n,c,rfl,rfl,U,C,o⟩:=D.header;by_cases hx0:f.length=0;rw[hx0]at q G;exact(b1X l F A c J W G q).mono λe g h=>⟨h.1,.inl h.2⟩;cases A with|none=>have:=o rfl;omega|some A=>have⟨b,i,H⟩:=A;have:=(C _ rfl).resolve_left (by omega);(simp only at this;subst this;have B:∀k g,k<f.length->J (k+1) g->∃x,f[k]?=kd x/\g.cell? ⟨b,i+k*2,ke⟩=kd (.int .i64 x.1)/\g.cell? ⟨b,i+k*2+1,ke⟩=kd (.int .i64 x.2.1):=by intro k g r d;obtain⟨-,a,E⟩:=z _ _ d;have⟨I,V,L,R,e,M,N,O,y,P,Q⟩:=E.elem rfl (lG r);simp only[Value.slice.injEq,sj]at e;obtain⟨rfl,rfl,rfl⟩:=e;obtain⟨u,v,-⟩:=a2d (Sh:=a) y;exact⟨_,lG r,u,v⟩);(refine b4G l F b i f.length c (λk=>((f[k]?).getD YA.dflt).1) (λk=>((f[k]?).getD YA.dflt).2.1) J K W (λk g d=>(z k g d).1) m (λk g r d=>?_) (λn g T d=>?_) q;have⟨x,p,u,v⟩:=B k g r d;simp only[p,D9];exact⟨u,v⟩;have p:f[n]?=kd f[n]:=lG T;simp only[p,D9];refine S n _ _ g p d λa E=>?_);have⟨I,V,L,R,e,M,N,O,y,P,Q⟩:=E.elem rfl p;exact(a2d (Sh:=a) y).2.2
set_option maxHeartbeats 1000000 in
theorem b7C:a8Z Tryz.prog 140 199:=by refine⟨⟨_,_,Tryz.func140,rfl,by kernel_rfl⟩,λA len cap w=>(callsIn_wide (n:=3)).1 ?_⟩;refine callsIn_of_wp Tryz.func140 rfl trivial ?_;simp only[Tryz.ntmps140,C8,lC,D2,D5,D6,C4,C5,C9,C6,D3,C7];gi_wp2;go_ret;exact⟨rfl,_,rfl⟩
abbrev oD:Ty:=.pair (.int .i64) (.pair (.int .i64) (.pair (.int .i64) .unit))
set_option maxRecDepth 100000 in
set_option maxHeartbeats 2000000 in
theorem b4H (l Bs b off len cap:Nat) (p q r:Nat->Int) (J:Nat->World->Prop) (Jx:World->Prop) (W:World)
  (hJ:∀k W',J k W'->W'.cell? ⟨Bs,0,ke⟩=kd (.slice (kd ⟨b,off,ke⟩) len cap))
  (hlen:len<2147483648)
  (hcs:∀k W',k<len->J (k+1) W'->W'.cell? ⟨b,off+k*3,ke⟩=kd (.int .i64 (p k))/\W'.cell? ⟨b,off+k*3+1,ke⟩=kd (.int .i64 (q k))/\W'.cell? ⟨b,off+k*3+2,ke⟩=kd (.int .i64 (r k)))
  (hY:∀n W',n<len->J (n+1) W'->YieldAt (Fr ke) 0 Tryz.prog l #[.int .i64 (n:Int),.agg #[.int .i64 (p n),.int .i64 (q n),.int .i64 (r n)]] W' λen W''=>(en=.returned (.bool ka)/\J n W'')\/(en=.returned (.bool kc)/\Jx W''))
  (h0:J len W):
  CallsIn (Fr ke) 0 Tryz.prog 199 #[.func (.yield l) #[] #[],.pointer (kd ⟨Bs,0,ke⟩)] W λen W'=>(∃v,en=.returned v)/\(J 0 W'\/Jx W'):=by
 refine callsIn_of_wp Tryz.func199 rfl trivial ?_
 simp only[Tryz.ntmps199,C8,lC,D2,D5,D6,C4,C5,C9,C6,D3,C7]
 have hBs:=hJ _ _ h0
 gi_wp2
 gi_loopw [3] (λi wr=>∃k:Nat,k<=len/\i=.int .i64 ((k:Int)-1)/\J k wr) (λi _=>(intOf i+1).toNat)
 case atStart=>exact⟨len,D0 _,rfl,h0⟩
 case round=>
  obtain⟨k,hk,rfl,hJs⟩:=hrel
  cases k with
  |succ n=>
   have⟨fn,tmps,assign,body,hy,hR⟩:=hY n wr (by omega) hJs
   have hcx:=hJ _ _ hJs
   have⟨hc0,hc1,hc2⟩:=hcs n wr (by omega) hJs
   gi_wp2
   refine hR.mono ?_
   rintro e W3 (⟨rfl,hJ3⟩|⟨rfl,hJx3⟩)
   ·gi_wp2
    go_roundw
    case rel=>exact⟨n,by omega,by simp,hJ3⟩
    case measure=>simp[intOf]
   ·gi_wp2
    refine bodyPost_ret (results_none rfl _ _ _) rfl ?_
    exact⟨⟨_,rfl⟩,.inr hJx3⟩
  |zero=>
   gi_wp2
   go_end0
   exact⟨⟨_,rfl⟩,.inl hJs⟩
set_option maxRecDepth 100000 in
set_option maxHeartbeats 2000000 in
theorem b1Y (l Bs:Nat) (A:Option Addr) (c:Nat) (J:Nat->World->Prop) (W:World) (hBs:W.cell? ⟨Bs,0,ke⟩=kd (.slice A 0 c)) (h0:J 0 W):
  CallsIn (Fr ke) 0 Tryz.prog 199 #[.func (.yield l) #[] #[],.pointer (kd ⟨Bs,0,ke⟩)] W λen W'=>(∃v,en=.returned v)/\J 0 W':=by
 refine callsIn_of_wp Tryz.func199 rfl trivial ?_
 simp only[Tryz.ntmps199,C8,lC,D2,D5,D6,C4,C5,C9,C6,D3,C7]
 gi_wp2
 gi_loopw [3] (λi wr=>i=.int .i64 (-1)/\J 0 wr) (λ_ _=>0)
 case atStart=>exact⟨rfl,h0⟩
 case round=>
  obtain⟨rfl,hJs⟩:=hrel
  gi_wp2
  go_end0
  exact⟨⟨_,rfl⟩,hJs⟩
theorem a3P{m:Es}{rd:Nat->Option Value}{x o r}(h:AM m (.int .i64) rd=kd (x,o,r)):rd 0=kd (.int .i64 x)/\o=[]/\r=[]:=by simp only[AM]at h;split at h;rename_i k n g;split at h;rename_i e;subst e;simp only[sj,pJ]at h;obtain⟨rfl,rfl,rfl⟩:=h;exact⟨g,rfl,rfl⟩;cases h;cases h
theorem oE{m:Es}{a b:Ty}{rd:Nat->Option Value}{x o r}(h:AM m (.pair a b) rd=kd (x,o,r)):∃o1 g o2 r2,AM m a rd=kd (x.1,o1,g)/\AM m b (λj=>rd (a.cells+j))=kd (x.2,o2,r2)/\o=o1++o2/\r=g++r2:=by simp only[AM]at h;split at h;cases h;rename_i c o1 g f;split at h;cases h;rename_i d o2 r2 k;simp only[sj,pJ]at h;obtain⟨rfl,rfl,rfl⟩:=h;exact⟨_,_,_,_,f,k,rfl,rfl⟩
theorem a5Q{m:Es}{Sh:Nat->Prop}{b o:Nat}{x:oD.sI}{R}(h:AM m oD ((Src.at b o).rd m)=kd (x,[],R)):m b o=kd (.int .i64 x.1)/\m b (o+1)=kd (.int .i64 x.2.1)/\m b (o+2)=kd (.int .i64 x.2.2.1)/\CK m Sh oD x (.agg #[.int .i64 x.1,.int .i64 x.2.1,.int .i64 x.2.2.1]):=by obtain⟨_,_,_,_,g,f,-,-⟩:=oE h;obtain⟨_,_,_,_,k,a,-,-⟩:=oE f;obtain⟨_,_,_,_,c,-,-,-⟩:=oE a;exact⟨(a3P g).1,(a3P k).1,(a3P c).1,λ_=>⟨_,rfl,rfl⟩,λh=>(by cases h),[],rfl,by simp⟩
theorem b7D:a3M Tryz.prog 199 oD:=by refine⟨λj w=>XF ⟨_,_,Tryz.func199,rfl,by kernel_rfl⟩ j w,λl G Y a J L W m B T q=>?_⟩;have⟨H,Sh,E⟩:=B _ _ q;obtain⟨A,n,c,rfl,rfl,V,D,o⟩:=E.header;by_cases hx0:a.length=0;rw[hx0]at q H;exact(b1Y l G A c J W H q).mono λe g h=>⟨h.1,.inl h.2⟩;cases A with|none=>have:=o rfl;omega|some A=>have⟨b,f,I⟩:=A;have:=(D _ rfl).resolve_left (by omega);(simp only at this;subst this;have C:∀k g,k<a.length->J (k+1) g->∃x,a[k]?=kd x/\g.cell? ⟨b,f+k*3,ke⟩=kd (.int .i64 x.1)/\g.cell? ⟨b,f+k*3+1,ke⟩=kd (.int .i64 x.2.1)/\g.cell? ⟨b,f+k*3+2,ke⟩=kd (.int .i64 x.2.2.1):=by intro k g r i;obtain⟨-,d,F⟩:=B _ _ i;have⟨K,X,M,R,e,N,O,P,z,Q,S⟩:=F.elem rfl (lG r);simp only[Value.slice.injEq,sj]at e;obtain⟨rfl,rfl,rfl⟩:=e;obtain⟨u,v,y,-⟩:=a5Q (Sh:=d) z;exact⟨_,lG r,u,v,y⟩);(refine b4H l G b f a.length c (λk=>((a[k]?).getD oD.dflt).1) (λk=>((a[k]?).getD oD.dflt).2.1) (λk=>((a[k]?).getD oD.dflt).2.2.1) J L W (λk g i=>(B k g i).1) m (λk g r i=>?_) (λn g U i=>?_) q;have⟨x,p,u,v,y⟩:=C k g r i;simp only[p,D9];exact⟨u,v,y⟩;have p:a[n]?=kd a[n]:=lG U;simp only[p,D9];refine T n _ _ g p i λd F=>?_);have⟨K,X,M,R,e,N,O,P,z,Q,S⟩:=F.elem rfl p;exact(a5Q (Sh:=d) z).2.2.2
end Go.Ab
namespace Go.Ab
open Go.MapKept
def a3Q(w:World)(b:Nat)(L:List ByteArray):Prop:=∃es clock,w.heap[b]?=kd (.map es clock)/\(∀e∈es.toList,IsKey .string e.key/\e.val=.bool ka)/\∀s,(∃e∈es.toList,e.key=.string s)↔s∈L
section
variable {P:Program} {t kt et:TypeId} {w:World} {b:Nat} {L:List ByteArray}
theorem b1Z(h:a3Q w b L)(o:P.underlying t=kd (.map kt et))(f:P.underlying kt=kd .string)(u:(zeroValue et).run P w=.ok (.bool kc) w)(s:ByteArray):∃r,(Instr.lookup t (.map (kd b)) (.string s) kc).run P w=.ok (.bool r) w/\(r=ka↔s∈L):=by(have⟨p,k,hb,l,m⟩:=h;have i:IsKey .string (.string s):=by simp[IsKey]);rcases findNow_spec i p.toList 0 (λe g=>(l e g).1)with⟨a,c⟩|⟨j,e,a,c,q⟩;refine⟨kc,?_,by simp;rw[<-m];rintro⟨e,g,d⟩;exact c e g d⟩;simp[Instr.lookup,run_underlying o,MapKept.run_getObj_map hb,run_checkKey f i,run_findKey f a,u,Result.andThen];have g:=E5 c;refine⟨ka,?_,by simp;rw[<-m];exact⟨e,g,q⟩⟩;simp[Instr.lookup,run_underlying o,MapKept.run_getObj_map hb,run_checkKey f i,run_findKey f a,(l e g).2,Result.andThen]
theorem b4I(h:a3Q w b L)(F:P.underlying t=kd (.map kt et))(v:P.underlying kt=kd .string)(s:ByteArray):∃w',(Instr.mapUpdate t (.map (kd b)) (.string s) (.bool ka)).run P w=.ok () w'/\a3Q w' b (L++[s])/\w'.heap.size=w.heap.size/\(∀c,c≠b->w'.heap[c]?=w.heap[c]?)/\EK w'=EK w:=by
 have⟨o,k,hb,u,B⟩:=h;have r:IsKey .string (.string s):=by simp[IsKey]
 rcases findNow_spec r o.toList 0 (λe f=>(u e f).1)with⟨y,z⟩|⟨j,e,y,z,A⟩;refine⟨{ w with heap:=w.heap.setIfInBounds b (.map (o.push { key:=.string s,val:=.bool ka,born:=k }) (k+1)) },by simp[Instr.mapUpdate,run_underlying F,MapKept.run_getObj_map hb,run_checkKey v r,run_findKey v y,MapKept.run_setObj_map _ hb,Result.andThen],⟨_,_,(heap_set hb).1,λe f=>?_,λD=>?_⟩,by simp,λc C=>(heap_set hb).2 c C,rfl⟩;rw[E7,mA,C3]at f;rcases f with f|rfl;exact u e f;exact⟨r,rfl⟩;rw[mA,<-B,E7];constructor;rintro⟨e,f,a⟩;rw[mA,C3]at f;rcases f with f|rfl;exact .inl ⟨e,f,a⟩;cases a;simp;rintro(⟨e,f,a⟩|f);exact⟨e,List.mem_append_left _ f,a⟩;rw[C3]at f;subst f;exact⟨_,List.mem_append_right _ (List.mem_singleton_self _),rfl⟩;have E:o[j]?=kd e:=by simpa using z
 have q:∀m,o[j]?=kd m->({ m with key:=.string s,val:=.bool ka }:MapEntry).key=m.key:=λm p=>by rw[E]at p;cases p;exact A.symm
 refine⟨{ w with heap:=w.heap.setIfInBounds b (.map (o.modify j λe=>{ e with key:=.string s,val:=.bool ka }) k) },by simp[Instr.mapUpdate,run_underlying F,MapKept.run_getObj_map hb,run_checkKey v r,run_findKey v y,E,A,run_keyThatStays r,MapKept.run_setObj_map _ hb,Result.andThen],⟨_,_,(heap_set hb).1,λm f=>⟨isKey_modify (λx H=>(u x H).1) _ _ q m f,?_⟩,λD=>?_⟩,by simp,λc C=>(heap_set hb).2 c C,rfl⟩;have⟨i,d⟩:=List.mem_iff_getElem?.1 f;rw[Array.getElem?_toList,D4]at d;cases he0:o[i]? with|none=>(rw[he0]at d;split at d<;>cases d)|some I=>rw[he0]at d;split at d;cases d;rfl;cases d;exact(u _ (Array.mem_toList_iff.2 (Array.mem_of_getElem? he0))).2
 have G:=modify_keys j (λe=>{ e with key:=.string s,val:=.bool ka }) q;have key:∀(l:List MapEntry),(∃e∈l,e.key=.string D)↔Value.string D∈l.map (·.key):=λl=>by simp
 rw[key,G,<-key,B,mA,C3];constructor;exact .inl;rintro(g|rfl);exact g;rw[<-B];exact⟨e,E5 z,A⟩
end
end Go.Ab
namespace Go.Ab
open Go.Proofs Go.RowKit Go.MapKept
def ZA(b:Nat)(w w':World):Prop:=w.heap.size<=w'.heap.size/\(∀c,c<w.heap.size->c≠b->w'.heap[c]?=w.heap[c]?)/\EK w'=EK w
theorem ZA.trans{b:Nat}{w w' g:World}(h:ZA b w w')(f:ZA b w' g):ZA b w g:=⟨E6 h.1 f.1,λc k hb=>(f.2.1 c (D7 k h.1) hb).trans (h.2.1 c k hb),f.2.2.trans h.2.2⟩
theorem ZA.refl{b:Nat}{w:World}:ZA b w w:=⟨D0 _,λ_ _ _=>rfl,rfl⟩
def OM(s:ByteArray):List Int:=s.data.toList.map λb=>(b.toNat:Int)
theorem a9e{s t:ByteArray}(h:OM s=OM t):s=t:=by have⟨⟨s⟩⟩:=s;have⟨⟨t⟩⟩:=t;(have:s=t:=by(simp only[OM]at h;have g:∀(x y:List UInt8),x.map (λb=>(b.toNat:Int))=y.map (λb=>(b.toNat:Int))->x=y:=by intro x;induction x with|nil=>(intro y e;cases y with|nil=>rfl|cons=>cases e)|cons a x f=>intro y e;cases y with|nil=>(cases e)|cons b y=>simp only[List.map_cons,List.cons.injEq]at e;rw[f y e.2,UInt8.toNat_inj.1 (show a.toNat=b.toNat by omega)]);exact g _ _ h);rw[this]
def a3R(w:World)(v:Value)(l:List ByteArray):Prop:=∃A c,v=.slice A l.length c/\∀j (h:j<l.length),∃blk off,A=kd ⟨blk,off,ke⟩/\w.cell? ⟨blk,off+j,ke⟩=kd (.string l[j])
theorem b2a{w w':World}{b:Nat}{d:Array MapEntry}{k:Nat}(i:∀c,c<w.heap.size->c≠b->w'.heap[c]?=w.heap[c]?)(hb:w.heap[b]?=kd (.map d k)){a:Addr}{v:Value}(h:w.cell? a=kd v):w'.cell? a=kd v:=by(have g:a.block<w.heap.size:=a3G h;have f:a.block≠b:=by rintro e;rw[World.cell?,e,hb]at h;cases h);simp only[World.cell?]at h|-;rw[i _ g f];exact h
def OW(w w':World):Prop:=w.heap.size<=w'.heap.size/\(∀c,c<w.heap.size->w'.heap[c]?=w.heap[c]?)/\EK w'=EK w
theorem OW.alloc(w:World)(o:Obj):OW w (w.alloc o):=⟨BZ _,λc h=>BF _ c h,rfl⟩
theorem OW.to{b:Nat}{w w':World}(h:OW w w'):ZA b w w':=⟨h.1,λc g _=>h.2.1 c g,h.2.2⟩
theorem ZA.shut{b:Nat}{w w':World}(h:ZA b w w')(hb:w.heap.size<=b):OW w w':=⟨h.1,λc g=>h.2.1 c g (by omega),h.2.2⟩
theorem a3Q.kept{w w':World}{b:Nat}{L:List ByteArray}(h:a3Q w b L)(c:OW w w'):a3Q w' b L:=by have⟨g,k,hb,f,a⟩:=h;exact⟨g,k,(c.2.1 b (E2.1 hb).1).trans hb,f,a⟩
def b6W(la:List ByteArray)(s:ByteArray):Bool:=(la.map OM).contains (OM s)
theorem b7E{g:List ByteArray}{s:ByteArray}:b6W g s=ka↔s∈g:=by unfold b6W;rw[List.contains_iff_mem,List.mem_map];exact⟨λ⟨t,h,e⟩=>a9e e▸h,λh=>⟨s,h,rfl⟩⟩
theorem b4J{L:List ByteArray}{i:Nat}(h:i<L.length):L.take i++[L[i]]=L.take (i+1):=(D8 h).symm
theorem ZA.step{b:Nat}{w w' g:World}(h:ZA b w w')(a:g.heap.size=w'.heap.size)(f:∀c,c≠b->g.heap[c]?=w'.heap[c]?)(k:EK g=EK w'):ZA b w g:=h.trans ⟨by omega,λc _ hb=>f c hb,k⟩
set_option maxHeartbeats 1600000 in
set_option maxRecDepth 1000000 in
theorem b2b {pA pB:Prop} {v1 v2:Value} {la lb:List ByteArray} (w:World) (h1:la.length<2147483648) (h2:lb.length<2147483648)
  (hA:∀W,OW w W->Calls Tryz.prog 22 #[v1] W λe W'=>∃v,e=.returned v/\a3R W' v la/\pA/\OW W W')
  (hB:∀W,OW w W->Calls Tryz.prog 22 #[v2] W λe W'=>∃v,e=.returned v/\a3R W' v lb/\pB/\OW W W'):
  Calls Tryz.prog 8 #[v1,v2] w λe W'=>e=.returned (.int .i64 ((lb.filter (b6W la)).length:Int))/\OW w W'/\pA/\pB:=by
 have hmm:=@run_makeMap Tryz.prog
 go_enter Tryz.func8,Tryz.ntmps8
 go_wp2_with (go_at_call 22;refine(hA _ (OW.alloc w _)).mono ?_;rintro e W1 ⟨v,rfl,⟨A,c,rfl,hrow⟩,hpa,hg1⟩)
 have u96:Tryz.prog.underlying 55=kd (.map 9 4):=by kernel_rfl
 have u9:Tryz.prog.underlying 9=kd .string:=by kernel_rfl
 have z4:∀W,(zeroValue 4).run Tryz.prog W=.ok (.bool kc) W:=λW=>by kernel_rfl
 have s0:a3Q W1 w.heap.size (la.take 0):=by
  refine a3Q.kept ⟨#[],0,Bv _,by simp,by simp⟩ hg1
 have hbl:w.heap.size<W1.heap.size:=by
  obtain⟨es,k,hb,-⟩:=s0
  exact(E2.1 hb).1
 go_loopg [15] la.length (λk s15 wr=>∃i:Nat,s15=.int .i64 (i:Int)/\i<=la.length/\la.length-i<=k/\a3Q wr w.heap.size (la.take i)/\ZA w.heap.size W1 wr)
 case atStart=>exact⟨0,rfl,Nat.zero_le _,by omega,s0,ZA.refl⟩
 case round=>
  obtain⟨i,rfl,hi,hk,hm,hg⟩:=hrel
  by_cases hlt:i<la.length
  ·obtain⟨blk,off,rfl,hcell⟩:=hrow i hlt
   obtain⟨es0,k0,hb0,-⟩:=id s0
   have hcell:=b2a hg.2.1 hb0 hcell
   have⟨w2,hput,hm2,hsz2,hh2,hio2⟩:=b4I (P:=Tryz.prog) hm u96 u9 la[i]
   rw[b4J hlt]at hm2
   go_wp2
   go_roundg (la.length-(i+1))
   case measure=>omega
   case rel=>exact⟨i+1,by simp,hlt,D0 _,hm2,hg.step hsz2 hh2 hio2⟩
  ·have hfull:la.take i=la:=E4 (by omega)
   rw[hfull]at hm
   have hgr:OW w wr:=((OW.alloc w (.map #[] 0)).to (b:=w.heap.size)).trans (hg1.to.trans hg) |>.shut (D0 _)
   go_wp2_with (go_at_call 22;refine(hB _ hgr).mono ?_;rintro e W2 ⟨v,rfl,⟨A2,c2,rfl,hrow2⟩,hpb,hg2⟩)
   have hm2:=hm.kept hg2
   go_loopg [25,8] lb.length (λk s25 s8 wr=>∃j:Nat,s25=.int .i64 (j:Int)/\s8=.int .i64 (((lb.take j).filter (b6W la)).length:Int)/\j<=lb.length/\lb.length-j<=k/\wr=W2)
   case atStart=>exact⟨0,rfl,rfl,Nat.zero_le _,by omega,rfl⟩
   case round=>
    obtain⟨j,rfl,rfl,hj,hk,rfl⟩:=hrel
    by_cases hlt2:j<lb.length
    ·obtain⟨blk,off,rfl,hcell⟩:=hrow2 j hlt2
     have⟨r,hlook,hr⟩:=b1Z (P:=Tryz.prog) hm2 u96 u9 (z4 _) lb[j]
     have hin:b6W la lb[j]=r:=by rw[Bool.eq_iff_iff,b7E,hr]
     have hcnt:(lb.take (j+1)).filter (b6W la)=(lb.take j).filter (b6W la)++if r=ka then[lb[j]]else[]:=by
      rw[D8 hlt2,List.filter_append]
      simp[List.filter_cons,hin]
     have hle:((lb.take j).filter (b6W la)).length<=lb.length:=E6 (List.length_filter_le _ _) (by rw[List.length_take];omega)
     cases r with
     |true=>
      rw[if_pos rfl]at hcnt
      go_wp2
      go_roundg (lb.length-(j+1))
      case measure=>omega
      case rel=>exact⟨j+1,by simp,by rw[hcnt];simp,hlt2,D0 _,rfl⟩
     |false=>
      rw[if_neg (by simp),List.append_nil]at hcnt
      go_wp2
      go_roundg (lb.length-(j+1))
      case measure=>omega
      case rel=>exact⟨j+1,by simp,by rw[hcnt],hlt2,D0 _,rfl⟩
    ·have hfull:lb.take j=lb:=E4 (by omega)
     rw[hfull]
     go_wp2
     go_ret
     exact⟨rfl,⟨E6 hgr.1 hg2.1,λc hc=>(hg2.2.1 c (D7 hc hgr.1)).trans (hgr.2.1 c hc),hg2.2.2.trans hgr.2.2⟩,hpa,hpb⟩
end Go.Ab
namespace Go.Ab
open IntKind renaming wrap->zN
open Go.Proofs
set_option maxRecDepth 100000
set_option linter.unusedVariables false
@[reducible] def QO(a b:Type):Type:=Option (a ⊕ b)
abbrev QI:Ty:=.int .i64
abbrev QL:Ty:=.list kc QI
abbrev QU:Ty:=.int .u64
abbrev QV:Ty:=.int .u8
abbrev QB:Ty:=.list kc QV
abbrev LI:Type:=List Int
instance (n:Nat):OfNat xD n:=⟨.sv n QI⟩
@[reducible] def Qp(i n:Nat):xD:=.ptr i n []
@[reducible] def Qn(l:Ar):Ex×Ar:=(.normal,l)
@[reducible] def Qe(n:Nat)(l:Ar):Ex×Ar:=(.exit n,l)
@[reducible] def Qr(l:Ar):Ex×Ar:=(.ret,l)
def QH:rY:=⟨[],[],[]⟩
def Qm:Ar->Nat->Ar|[],_=>[]|e::r,m=>bif m%2==1 then e::Qm r (m/2)else Qm r (m/2)
def Qx:Nat->Ex|0=>.normal|1=>.ret|n+2=>.exit n
def Qo(l:Ar):List Nat->Vc|x::m::r=>(Qx x,Qm l m)::Qo l r|_=>[]
@[reducible] def Qb(n:Nat):xD:=.sv n .bool
def Qd(n:Nat)(a:List Nat):Md:=match n with|0=>.v|1=>.q|2=>.x|3=>.p|4=>.s|5=>.u|6=>.t|8=>.w a|9=>.a a|10=>.b a|11=>.c a|12=>.e|_=>.r a
def Qg:Nat->Nat->List (List Nat)->List Md|0,_,_=>[]|k+1,n,l=>Qd (n%16) (l.headD [])::Qg k (n/16) (bif n%16/7==0 then l else l.drop 1)
def Qh(l:Ar)(a c:List (List Nat))(d:List (Nat×List Md)):rY:=⟨a.map λx=>(x.headD 0,Qm l ((x.drop 1).headD 0),Qo l (x.drop 2)),c.map λx=>(x.headD 0,Qo l (x.drop 1)),d⟩
abbrev Z0:Type:=(Unit ⊕ (Bool×Unit))
abbrev Z1:Type:=(LI×LI)
abbrev Z2:Type:=((List LI)×Unit)
abbrev Z3:Type:=(Int×(Int×LI))
abbrev Z4:Type:=(Int×(LI×Unit))
abbrev Z5:Type:=(List (Int×(Int×Unit)))
abbrev Z6:Type:=(LI×(Int×Unit))
abbrev Z7:Type:=(Z1)
abbrev Z8:Type:=(Int×(Int×(Int×Unit)))
abbrev Z9:Type:=(Bool×(LI×Unit))
abbrev b3D:Type:=((LI×Unit)×Unit)
abbrev c1R:Type:=(Int×(Int×(Bool×Unit)))
abbrev c1S:Type:=(LI×(LI×Int))
abbrev jI:Type:=(Int×Z2)
abbrev d1s:Type:=(LI×(LI×Unit))
abbrev c1T:Type:=((List LI)×(Int×Unit))
abbrev b6X:Type:=(Int×Z4)
abbrev Ia:Type:=(LI×(Int×(Int×Unit)))
abbrev Zh:Type:=(List Z8)
abbrev b9p:Type:=(Int×Z6)
abbrev c2k:Type:=(LI×(Int×(Bool×Unit)))
abbrev d2b:Type:=(Int×Z8)
abbrev b7F:Type:=(Z4×Unit)
abbrev b3E:Type:=(Z6×Unit)
abbrev c7l:Type:=(Int×b3D)
abbrev c6K:Type:=(Int×c1R)
abbrev c6L:Type:=(Z8×Unit)
abbrev c0L:Type:=(List jI)
abbrev c2l:Type:=(Int×jI)
abbrev b4K:Type:=(Int×d1s)
abbrev b7G:Type:=(LI×Z4)
abbrev c6M:Type:=(jI×Unit)
abbrev c1U:Type:=(Int×b6X)
abbrev UX:Type:=(Int×Ia)
abbrev b9q:Type:=(LI×Z8)
abbrev a3S:Type:=(Ia×Int)
abbrev d2c:Type:=(Int×d2b)
abbrev c0M:Type:=(LI×c1R)
abbrev b0E:Type:=(Ia×Unit)
abbrev c7m:Type:=(Int×b3E)
abbrev c6N:Type:=(Z5×(Int×Unit))
abbrev c1V:Type:=(Int×c7l)
abbrev c2m:Type:=(Bool×b7F)
abbrev b3F:Type:=(LI×b6X)
abbrev c2n:Type:=(LI×Ia)
abbrev c7n:Type:=(Int×b4K)
abbrev c6O:Type:=(b4K×Int)
abbrev c6P:Type:=(c0L×Unit)
abbrev c2o:Type:=(Int×c6M)
abbrev c6Q:Type:=(Int×c1U)
abbrev b4L:Type:=((LI×Unit) ⊕ Z4)
abbrev c1W:Type:=(Int×b9q)
abbrev d2d:Type:=(Z4×(LI×Unit))
abbrev c2p:Type:=(LI×c2k)
abbrev b7H:Type:=(Int×UX)
abbrev d1t:Type:=(b4K×Unit)
abbrev c1X:Type:=(Ia×(Int×Int))
abbrev d2e:Type:=(LI×b7F)
abbrev c6R:Type:=(Bool×c6M)
abbrev c7o:Type:=(Int×d2c)
abbrev b4M:Type:=(Int×b0E)
abbrev c2q:Type:=(Int×c7m)
abbrev c2r:Type:=(Ia ⊕ (Int×Unit))
abbrev d2f:Type:=(Bool×b0E)
abbrev c2s:Type:=((List LI)×jI)
abbrev d2g:Type:=(LI×c6M)
abbrev b2c:Type:=(Int×b3F)
abbrev c7p:Type:=(LI×b9q)
abbrev c1Y:Type:=(LI×UX)
abbrev c6S:Type:=(Z4×Z3)
abbrev c6T:Type:=(LI×c1U)
abbrev c0N:Type:=(Int×c2o)
abbrev c2t:Type:=(LI×b0E)
abbrev c6U:Type:=(Int×d1t)
abbrev d2h:Type:=(Int×d2e)
abbrev d2i:Type:=(Int×c7o)
abbrev c1Z:Type:=(UX ⊕ (Int×Unit))
abbrev c2a:Type:=(Int×b4M)
abbrev c6V:Type:=(Zh×(Int×(Int×Unit)))
abbrev c6W:Type:=(Int×d2f)
abbrev b9r:Type:=(Ia ⊕ Z0)
abbrev c6X:Type:=(LI×c7n)
abbrev c6Y:Type:=(Int×d2g)
abbrev d2j:Type:=(LI×d2d)
abbrev c6Z:Type:=(LI×c2p)
abbrev c7a:Type:=(LI×d1t)
abbrev c7b:Type:=(Int×c2t)
abbrev c7c:Type:=(Int×c6U)
abbrev c7q:Type:=(LI×c2q)
abbrev d2k:Type:=(Int×d2h)
abbrev c7r:Type:=(Int×d2i)
abbrev b7I:Type:=(Int×c2a)
abbrev d2l:Type:=(Z4×b7F)
abbrev d2m:Type:=(Z6×b7F)
abbrev c7d:Type:=((LI×Unit)×b0E)
abbrev c2u:Type:=(Int×c6W)
abbrev c0O:Type:=(Int×c6Y)
abbrev c7e:Type:=(Int×c7a)
abbrev c7f:Type:=(Int×c7b)
abbrev c2v:Type:=(Int×c7c)
abbrev b7J:Type:=(Int×c7q)
abbrev c7s:Type:=(Int×d2k)
abbrev b2d:Type:=(Int×c7r)
abbrev b7K:Type:=(Z4×b0E)
abbrev oF:Type:=(Int×c7f)
abbrev c7t:Type:=(LI×d2m)
abbrev b7L:Type:=(LI×c7s)
abbrev Ra:Type:=(Z8×c7p)
abbrev c7u:Type:=(Int×c7t)
abbrev c7v:Type:=(Z5×d2j)
abbrev c7w:Type:=(Int×c7u)
abbrev b2e:Type:=(Ra×Unit)
abbrev c7x:Type:=(Ia×d2l)
abbrev c7y:Type:=(LI×c7v)
abbrev b4N:Type:=(LI×c7w)
abbrev c7z:Type:=(LI×c7x)
abbrev c7A:Type:=(LI×c7y)
abbrev c7B:Type:=(Int×c7A)
abbrev c7C:Type:=(LI×c7z)
abbrev c7D:Type:=(Ia×b2e)
abbrev c7E:Type:=(Int×c7B)
abbrev b7M:Type:=(Int×c7C)
abbrev c7F:Type:=(Int×c7E)
abbrev c7G:Type:=(Int×c7F)
abbrev Jf:Type:=(Int×c7G)
abbrev a9f:Type:=(List Jf)
abbrev jJ:Type:=(Jf×Int)
abbrev a9g:Type:=(Jf×Unit)
abbrev c7H:Type:=(a9f×Unit)
abbrev b7N:Type:=(Bool×a9g)
abbrev c7I:Type:=(LI×a9g)
abbrev b4O:Type:=(Int×b7N)
abbrev b7O:Type:=(Ra×b2e)
abbrev c7J:Type:=(Int×c7I)
abbrev c7K:Type:=((LI×Unit)×a9g)
abbrev b7P:Type:=(Int×b4O)
abbrev b7Q:Type:=(Int×c7J)
abbrev b7R:Type:=(Ia×Jf)
abbrev c7L:Type:=(Z6×a9g)
abbrev c7M:Type:=(Int×c7K)
abbrev c0P:Type:=(Ia×a9g)
abbrev b2f:Type:=(Jf×b0E)
abbrev b7S:Type:=(Int×c7L)
abbrev b7T:Type:=(Int×c7M)
abbrev c7N:Type:=(Zh×c7H)
abbrev c0Q:Type:=(Int×c0P)
abbrev a0E:Type:=(Int×b7S)
abbrev b2g:Type:=(Int×c0Q)
abbrev b7U:Type:=(Ra×c7D)
abbrev c7O:Type:=(Z8×c7N)
abbrev c7P:Type:=(Int×c7O)
abbrev FU:Type:=(Int×c7P)
abbrev GJ:Type:=(List FU)
abbrev Xo:Type:=(FU×Unit)
abbrev a3T:Type:=(List GJ)
abbrev b7V:Type:=(GJ×Unit)
abbrev b7W:Type:=(Int×Xo)
abbrev b7X:Type:=(jI×Xo)
abbrev c7Q:Type:=(Z5×b7V)
abbrev b7Y:Type:=(FU×b0E)
abbrev c7R:Type:=(Int×c7Q)
abbrev c7S:Type:=(Int×c7R)
abbrev c0R:Type:=((List LI)×b7X)
abbrev b2h:Type:=(Jf×a9g)
abbrev b7Z:Type:=(Int×c0R)
abbrev KF:Type:=(Z8×c7S)
abbrev b8a:Type:=(KF×Int)
abbrev jK:Type:=(KF×Unit)
abbrev b8b:Type:=(Int×jK)
abbrev b8c:Type:=(Ia×b2h)
abbrev b2i:Type:=(LI×jK)
abbrev c7T:Type:=(Int×b8c)
abbrev b8d:Type:=(Int×c7T)
abbrev c2w:Type:=(KF×c6L)
abbrev b4P:Type:=(Int×b8d)
abbrev c7U:Type:=(c0L×jK)
abbrev b8e:Type:=((List LI)×c7U)
abbrev b8f:Type:=(FU×Xo)
abbrev c7V:Type:=(FU×b7Y)
abbrev c0S:Type:=(Int×c7V)
abbrev b8g:Type:=(Int×c0S)
abbrev b4Q:Type:=(KF×jK)
abbrev b2j:Type:=(Int×b4Q)
abbrev b2k:Type:=(Bool×b4Q)
abbrev b8h:Type:=(KF×c2w)
abbrev Q0:Ty:=(.pair QI .unit)
abbrev Q1:Ty:=(.pair (.nl QI) .unit)
abbrev Q2:Ty:=(.pair (.list ka QV) .unit)
abbrev Q3:Ty:=(.pair (.list ka QI) .unit)
abbrev Q4:Ty:=(.pair QL .unit)
abbrev Q5:Ty:=(.pair QI Q0)
abbrev Q6:Ty:=(.pair QU Q0)
abbrev Q7:Ty:=(.pair (.nl QL) .unit)
abbrev Q8:Ty:=(.pair (.list ka (.list ka QI)) .unit)
abbrev Q9:Ty:=(.pair (.list ka QL) .unit)
abbrev d1u:Ty:=(.pair (.list kc QL) .unit)
abbrev a2e:Ty:=(.pair (.list ka QV) Q0)
abbrev c2x:Ty:=(.pair QI Q3)
abbrev cZ:Ty:=(.pair QI Q4)
abbrev FV:Ty:=(.pair QI Q5)
abbrev d1v:Ty:=(.pair QI Q6)
abbrev d1w:Ty:=(.pair QU Q5)
abbrev c2y:Ty:=(.pair (.list ka QI) Q3)
abbrev Xp:Ty:=(.pair QI d1u)
abbrev FX:Ty:=(.pair QB Q5)
abbrev b2l:Ty:=(.pair QI c2y)
abbrev d2n:Ty:=(.pair (.list ka QI) d1v)
abbrev d2o:Ty:=(.pair (.list ka QI) d1w)
abbrev d2p:Ty:=(.pair QL d1v)
abbrev d2q:Ty:=(.pair QL d1w)
abbrev d2r:Ty:=(.pair cZ Q1)
abbrev c7W:Ty:=(.pair cZ Q4)
abbrev d2s:Ty:=(.pair (.nl QI) d2r)
abbrev d1x:Ty:=(.pair (.list ka QI) d2n)
abbrev d1y:Ty:=(.pair (.list ka QI) d2o)
abbrev d1z:Ty:=(.pair QL d2p)
abbrev d1A:Ty:=(.pair QL d2q)
abbrev c7X:Ty:=(.pair (.nl QI) c7W)
abbrev d1B:Ty:=(.pair QL c7W)
abbrev d2t:Ty:=(.pair (.nl Q5) d2s)
abbrev d2u:Ty:=(.pair (.list ka Q5) c7X)
abbrev d2v:Ty:=(.pair FV d1x)
abbrev d2w:Ty:=(.pair FV d1y)
abbrev c7g:Ty:=(.pair FV d1z)
abbrev c7h:Ty:=(.pair FV d1A)
abbrev d2x:Ty:=(.pair (.list ka Q5) d1B)
abbrev d2y:Ty:=(.pair (.list kc Q5) d1B)
abbrev d2z:Ty:=(.pair (.arr 3 QI) d2t)
abbrev d2A:Ty:=(.pair (.arr 3 QI) d2u)
abbrev d2B:Ty:=(.pair (.arr 3 QI) d2x)
abbrev d2C:Ty:=(.pair (.arr 3 QI) d2y)
abbrev d2D:Ty:=(.pair (.nl QI) d2z)
abbrev d2E:Ty:=(.pair QI d2D)
abbrev d2F:Ty:=(.pair (.list ka QI) d2A)
abbrev d2G:Ty:=(.pair QL d2B)
abbrev d2H:Ty:=(.pair QL d2C)
abbrev d2I:Ty:=(.pair QI d2E)
abbrev d2J:Ty:=(.pair QI d2F)
abbrev d2K:Ty:=(.pair QI d2G)
abbrev d2L:Ty:=(.pair QI d2H)
abbrev d2M:Ty:=(.pair QI d2I)
abbrev d2N:Ty:=(.pair QI d2J)
abbrev d2O:Ty:=(.pair QI d2K)
abbrev d2P:Ty:=(.pair QI d2L)
abbrev c0T:Ty:=(.pair QI d2M)
abbrev d2Q:Ty:=(.pair QI d2N)
abbrev d2R:Ty:=(.pair QI d2O)
abbrev d2S:Ty:=(.pair QI d2P)
abbrev d1C:Ty:=(.pair QI d2Q)
abbrev d1D:Ty:=(.pair QI d2R)
abbrev d1E:Ty:=(.pair QI d2S)
abbrev b4R:Ty:=(.pair QI d1C)
abbrev c2b:Ty:=(.pair QI d1D)
abbrev Ib:Ty:=(.pair QI d1E)
abbrev c7Y:Ty:=(.pair (.nl Ib) .unit)
abbrev d2T:Ty:=(.pair (.list ka Ib) .unit)
abbrev d2U:Ty:=(.pair (.list kc Ib) .unit)
abbrev d2V:Ty:=(.pair (.nl FV) c7Y)
abbrev d2W:Ty:=(.pair (.list ka FV) c7Y)
abbrev d2X:Ty:=(.pair (.list kc FV) c7Y)
abbrev d2Y:Ty:=(.pair (.list kc FV) d2T)
abbrev d2Z:Ty:=(.pair (.list kc FV) d2U)
abbrev d3a:Ty:=(.pair FV d2V)
abbrev d3b:Ty:=(.pair FV d2W)
abbrev d3c:Ty:=(.pair FV d2X)
abbrev d3d:Ty:=(.pair FV d2Y)
abbrev d3e:Ty:=(.pair FV d2Z)
abbrev a0r:Ty:=(.pair QI d3a)
abbrev c7Z:Ty:=(.pair QI d3b)
abbrev d1F:Ty:=(.pair QI d3c)
abbrev c2z:Ty:=(.pair QI d3d)
abbrev d1G:Ty:=(.pair QI d3e)
abbrev d1H:Ty:=(.pair QI c7Z)
abbrev c8a:Ty:=(.pair QI d1F)
abbrev c8b:Ty:=(.pair QI c2z)
abbrev Ky:Ty:=(.pair QI d1G)
abbrev d3f:Ty:=(.pair (.nl Ky) .unit)
abbrev d3g:Ty:=(.pair (.list ka Ky) .unit)
abbrev c8c:Ty:=(.pair (.list kc Ky) .unit)
abbrev d3h:Ty:=(.pair (.nl Q5) d3f)
abbrev d3i:Ty:=(.pair (.list ka Q5) d3g)
abbrev d3j:Ty:=(.pair (.list ka Q5) c8c)
abbrev d3k:Ty:=(.pair (.list kc Q5) c8c)
abbrev d3l:Ty:=(.pair QU d3h)
abbrev d3m:Ty:=(.pair QU d3i)
abbrev c8d:Ty:=(.pair QU d3j)
abbrev c8e:Ty:=(.pair QU d3k)
abbrev a0F:Ty:=(.pair QI d3l)
abbrev b4S:Ty:=(.pair QI d3m)
abbrev c2A:Ty:=(.pair QI c8d)
abbrev c2B:Ty:=(.pair QI c8e)
abbrev c0U:Ty:=(.pair FV b4S)
abbrev c8f:Ty:=(.pair FV c2A)
abbrev Mb:Ty:=(.pair FV c2B)
def b0F:List (Nat×Ty):=[(2,.int .i64),(3,.int .i64),(4,.bool),(5,.int .u8),(9,.str),(22,.list kc QV),(24,.int .i64),(30,.pair QI Q5),(32,.list kc QI),(35,.pair QI Q0),(36,.int .u64),(37,.list kc Q5),(38,.list kc Ky),(40,.pair FV c2B),(48,.list kc FV),(49,.list kc Ib),(51,.pair QI d1G),(56,.list kc .str),(61,.list kc QL),(63,.pair QI d1u),(72,.pair QI Q0),(75,.pair FV d1z),(80,.list kc QB),(81,.list kc Xp),(89,.list kc (.list kc Ky)),(92,.pair FV d1A),(103,.int .u32),(113,.arr 3 QI),(114,.list kc Q5),(116,.pair QI Q4),(118,.pair QI d1E),(123,.pair QB Q0),(128,.int .u16),(130,.list kc QU),(147,.pair QB Q5),(150,.pair QB .unit),(156,.int .u64),(161,.pair QI Q5),(177,.pair QI Q0),(184,.pair QB Q5),(201,.pair QB Q5),(228,.pair QB Q5),(250,.arr 64 QV),(281,.list kc (.arr 3 QI)),(288,.pair QI (.pair QL Q4)),(296,.pair QI (.pair QL Q4))]
def T0:Nat->Option Ty:=λt=>find b0F t
def b4T:List Nat:=[30,72,113,161,177]
def c8g:Nat->Bool:=λt=>b4T.contains t
def a9h:List Nat:=[]
def c8h:Nat->Bool:=λt=>a9h.contains t
def gM:(List Int):=[0,1,56,2,57,49,28,3,61,58,42,50,38,29,17,4,62,47,59,36,45,43,51,22,53,39,33,30,24,18,12,5,63,55,48,27,60,41,37,16,46,35,44,21,52,32,23,11,54,26,40,15,34,20,31,10,25,14,19,9,13,8,7,6]
def G0:Nat->Option ((t:Ty)×t.sI):=λg=>find ([(0,⟨.arr 64 QV,gM⟩)]:List (Nat×((t:Ty)×t.sI))) g
@[reducible] def FM(a:List (Nat×rZ))(b:List (Nat×Ty))(c d:Nat):Cx:=⟨c8h,c8g,T0,λf=>find a f,λn=>find b n,c.testBit,d.testBit,G0⟩
@[reducible] def US(cx:Cx)(H:rY)(fn:Func)(ps:List PA)(rs:List RA):rZ:=⟨ps,rs,λx=>a0u cx H fn ps rs x⟩
@[reducible] def c0V(s:rZ)(f:(Eh (s.ps.map PA.ty)).sI->Option (Eh ((RA.all s.ps s.rs).map RA.ty)).sI):rZ:=⟨s.ps,s.rs,f⟩
def TE(x:Int):Option Int:=(show Option (Int×Bool×Unit)from cond (A4 (x<1)) (A3 (x,ka,())) (A3 (x,A4 (x > 31),()))).bind λh=>cond h.2.1 (A3 0) (cond (A4 (zN .i64 (h.1-1)<0)) A6 (A3 (AO .i64 (-1) (zN .i64 (h.1-1)))))
def a3U:rZ:=⟨[.v QI],[.v QI],TE⟩
def d3n:rY:=Qh [0,Qb 8] [] [[6,0,3]] []
def Sb(x:Int):Option Int:=(show Option (Int×Bool×Unit)from cond (A4 (x<1)) (A3 (x,ka,())) (A3 (x,A4 (x > 31),()))).bind λh=>cond h.2.1 (A3 0) (cond (A4 (zN .i64 (h.1-1)<0)) A6 (A3 (zN .i64 ((AO .i64 1 (zN .i64 (h.1-1)))-1))))
def a0G:rZ:=⟨[.v QI],[.v QI],Sb⟩
def d3o:rY:=Qh [0,Qb 8] [] [[6,0,3]] []
def GK(x:Int×Int):Option Bool:=cond (A4 (x.2>=1)) (cond (A4 (x.2<=31)) ((TE x.2).bind λh=>cond (A4 (h<=x.1)) ((Sb x.2).bind λg=>A3 (A4 (x.1<=g))) (A3 kc)) (A3 kc)) (A3 kc)
def NH:rZ:=⟨[.v QI,.v QI],[.v .bool],GK⟩
def KG(x:Int):Option Bool:=cond (A4 (4<=x)) (A3 (A4 (x<=24))) (A3 kc)
def a0H:rZ:=⟨[.v QI],[.v .bool],KG⟩
def Jg(x:jI):Option Int:=cond ((x.2.1.length:Int)==0) (A3 0) ((Ax x.2.1 0).bind λh=>A3 (h.length:Int))
def VH:rZ:=⟨[.v Xp],[.v QI],Jg⟩
def Hi(s:(List LI)×Int×Int×LI×c0N):QO ((List LI)×Int×Int×LI×c0N) (((List LI)×c0N) ⊕ (Bool×Unit)):=(λ(a:Int)(b:LI)(c d:Int)(e:jI)=>cond (A4 (d<c)) ((Ax b d).bind λh=>(GK (h,e.1)).bind λg=>cond (!g) (A3 (.inr (B6 (kc,())))) (A3 (.inl (s.1,s.2.1,a,b,c,zN .i64 (d+1),e,())))) (A3 (.inr (B7 (s.1,s.2.1,a,e,()))))) s.2.2.1 s.2.2.2.1 s.2.2.2.2.1 s.2.2.2.2.2.1 s.2.2.2.2.2.2.1
def Hj(s:(List LI)×c0N):QO ((List LI)×c0N) Z0:=cond (A4 (s.2.2.1<s.2.1)) ((Ax s.1 s.2.2.1).bind λk=>(Jg s.2.2.2.1).bind λa=>cond ((k.length:Int) != a) (A3 (.inr (B6 (kc,())))) ((Al Hi (s.1,s.2.1,s.2.2.1,k,(k.length:Int),0,s.2.2.2.1,())).bind λf=>match f with |.inl h=>A3 (.inl (h.1,h.2.1,zN .i64 (h.2.2.1+1),h.2.2.2.1,())) |.inr g=>A3 (.inr (B6 (g.1,()))))) (A3 (.inr (B7 ())))
def LN(x:jI):Option Bool:=(show Option c6R from(KG x.1).bind λb=>cond (!b) (A3 (ka,x,())) (cond (A4 ((x.2.1.length:Int)<1)) (A3 (ka,x,())) (A3 (A4 ((x.2.1.length:Int) > 8),x,())))).bind λh=>cond h.1 (A3 kc) ((show Option c6R from(Jg h.2.1).bind λc=>cond (A4 (c<1)) (A3 (ka,h.2.1,())) ((Jg h.2.1).bind λd=>A3 (A4 (d > 4096),h.2.1,()))).bind λg=>cond g.1 (A3 kc) ((Al Hj (g.2.1.2.1,(g.2.1.2.1.length:Int),0,g.2.1,())).bind λk=>match k with |.inl a=>A3 true |.inr f=>A3 f.1))
def Rj:rZ:=⟨[.v Xp],[.v .bool],LN⟩
def d3p:rY:=Qh [.sv 32 (.list kc QL),33,34,.sv 43 QL,44,45,Qb 2,Qb 22,Qb 30,.vp 1 Xp] [[122,519,2,0,1,64],[62670,575,4,519,1,64]] [[6,0,640],[14,0,768]] []
def JO(s:Int×Int×Int×(List LI)×c0O):QO (Int×Int×Int×(List LI)×c0O) c0O:=(λ(a:Int)(b:List LI)(c d:Int)(e:LI)(f:jI)=>cond (A4 (d<c)) ((Ax b d).bind λh=>(Ax h s.1).bind λg=>cond (BM ((A8 e)+1)) (A3 (.inl (s.1,s.2.1,a,b,c,zN .i64 (d+1),A9 e [g],f,()))) A6) (A3 (.inr (s.2.1,a,e,f,())))) s.2.2.1 s.2.2.2.1 s.2.2.2.2.1 s.2.2.2.2.2.1 s.2.2.2.2.2.2.1 s.2.2.2.2.2.2.2.1
def JP(s:c0O):QO c0O (LI×Unit):=cond (A4 (s.2.1<s.1)) ((Al JO (s.2.1,s.1,s.2.1,s.2.2.2.1.2.1,(s.2.2.2.1.2.1.length:Int),0,s.2.2.1,s.2.2.2.1,())).bind λh=>A3 (.inl (h.1,zN .i64 (h.2.1+1),h.2.2.1,h.2.2.2.1,()))) (A3 (.inr (s.2.2.1,())))
def KH(x:jI):Option LI:=(LN x).bind λg=>cond (!g) (A3 []) ((Jg x).bind λf=>(Al JP (f,0,[],x,())).bind λh=>A3 h.1)
def a0I:rZ:=⟨[.v Xp],[.o QI],KH⟩
def d3q:rY:=Qh [4,11,12,.sv 16 (.list kc QL),17,18,.own 3 3 QI,.vp 1 Xp] [[122,198,2,64],[31334,255,4,198]] [] []
def Hk(s:Int×Int×Int×LI×c6Q):QO (Int×Int×Int×LI×c6Q) (Int×b2c):=(λ(a:Int)(b:LI)(c d e f:Int)(g:LI)=>cond (A4 (f<e)) (cond (A4 (zN .i64 (8*f)<0)) A6 (cond (BM ((A8 g)+1)) (A3 (.inl (s.1,s.2.1,a,b,c,d,e,zN .i64 (f+1),A9 g [zN .u8 (bits .i64 .and (AR .i64 a (zN .i64 (8*f))) 255)],()))) A6)) (A3 (.inr (s.1,s.2.1,b,c,d,g,())))) s.2.2.1 s.2.2.2.1 s.2.2.2.2.1 s.2.2.2.2.2.1 s.2.2.2.2.2.2.1 s.2.2.2.2.2.2.2.1 s.2.2.2.2.2.2.2.2.1
def JQ(s:Int×b2c):QO (Int×b2c) b4L:=(λ(a:LI)(b c:Int)(d:LI)=>cond (A4 (c<b)) ((Ax a c).bind λg=>(GK (g,s.1)).bind λf=>cond (!f) (A3 (.inr (B6 (6,[],())))) ((Al Hk (s.1,s.2.1,g,a,b,c,s.2.1,0,d,())).bind λh=>A3 (.inl (h.1,h.2.1,h.2.2.1,h.2.2.2.1,zN .i64 (h.2.2.2.2.1+1),h.2.2.2.2.2.1,())))) (A3 (.inr (B7 (d,()))))) s.2.2.1 s.2.2.2.1 s.2.2.2.2.1 s.2.2.2.2.2.1
def NI(x:LI×Int):Option (LI×Int):=(show Option c2k from cond (A4 (x.2<4)) (A3 (x.1,x.2,ka,())) (A3 (x.1,x.2,A4 (x.2 > 24),()))).bind λh=>cond h.2.2.1 (A3 ([],1)) ((Al JQ (h.2.1,zN .i64 (B9 (zN .i64 (h.2.1+7)) 8),h.1,(h.1.length:Int),0,[],())).bind λk=>match k with |.inl f=>A3 (f.1,0) |.inr g=>A3 (g.2.1,g.1))
def a0J:rZ:=⟨[.v QL,.v QI],[.o QV,.v QI],NI⟩
def d3r:rY:=Qh [5,.own 4 4 QV,.sv 0 QL,1,6,9,.sv 20 QL,21,22,30,31,.own 7 7 QV,Qb 16] [[250,2520,2,2048,1,3],[128206,4088,4,2520]] [[6,0,4108]] []
def Mp(x:jI):Option (LI×Int):=(LN x).bind λg=>cond (!g) (A3 ([],1)) ((KH x).bind λf=>(NI (f,x.1)).bind λh=>A3 (h.1,h.2))
def a3V:rZ:=⟨[.v Xp],[.o QV,.v QI],Mp⟩
def d3s:rY:=Qh [] [] [] [(3,Qg 9 9144762384 [])]
def IJ(x:Int×Int):Option (Int×Int):=kd (zN .u64 ((zN .u64 ((zN .u64 ((AR .u64 x.1 32)*(AR .u64 x.2 32)))+(AR .u64 (zN .u64 ((zN .u64 ((AR .u64 x.1 32)*(bits .u64 .and x.2 4294967295)))+(AR .u64 (zN .u64 ((bits .u64 .and x.1 4294967295)*(bits .u64 .and x.2 4294967295))) 32))) 32)))+(AR .u64 (zN .u64 ((bits .u64 .and (zN .u64 ((zN .u64 ((AR .u64 x.1 32)*(bits .u64 .and x.2 4294967295)))+(AR .u64 (zN .u64 ((bits .u64 .and x.1 4294967295)*(bits .u64 .and x.2 4294967295))) 32))) 4294967295)+(zN .u64 ((bits .u64 .and x.1 4294967295)*(AR .u64 x.2 32))))) 32)),zN .u64 (x.1*x.2))
def ZB:rZ:=⟨[.v QU,.v QU],[.v QU,.v QU],IJ⟩
def Mq(x:Int×Int×Int):Option (Int×Int):=cond (A4 (x.2.2.toNat<=1)) (A3 ((((x.1.toNat+x.2.1.toNat+x.2.2.toNat)%18446744073709551616:Nat):Int),(((x.1.toNat+x.2.1.toNat+x.2.2.toNat) / 18446744073709551616:Nat):Int))) A6
def ZC:rZ:=⟨[.v QU,.v QU,.v QU],[.v QU,.v QU],Mq⟩
def c2C:rY:=Qh [.sv 0 QU,2] [] [[3,0,3],[7,0,3],[15,0,3]] []
def Rk:rZ:=US (FM [] [] 5 0) c2C Tryz.f292 [.v QU] [.v QI]
def ZD(x:Int):Option Int:=Rk.F x
def Fv(x:Int):Option Int:=(ZD x).bind λh=>A3 (zN .i64 (64-h))
def Qa:rZ:=⟨[.v QU],[.v QI],Fv⟩
def Dj(s:b2d):QO b2d c7r:=(show Option (b2d ⊕ c7r)from cond (A4 (s.2.2.2.2.2.2.2.1>=4294967296)) (A3 (B7 (s.1,s.2.1,s.2.2.1,s.2.2.2.1,s.2.2.2.2.1,s.2.2.2.2.2.1,s.2.2.2.2.2.2.1,s.2.2.2.2.2.2.2.1,s.2.2.2.2.2.2.2.2.1,()))) (cond (A4 ((zN .u64 (s.2.2.2.2.2.2.2.1*s.2.2.2.1)) > (zN .u64 ((zN .u64 (4294967296*s.2.2.2.2.2.2.2.2.1))+s.2.2.2.2.2.1)))) (A3 (B7 (s.1,s.2.1,s.2.2.1,s.2.2.2.1,s.2.2.2.2.1,s.2.2.2.2.2.1,s.2.2.2.2.2.2.1,s.2.2.2.2.2.2.2.1,s.2.2.2.2.2.2.2.2.1,()))) (A3 (B6 (s.1,s.2.1,s.2.2.1,s.2.2.2.1,s.2.2.2.2.1,s.2.2.2.2.2.1,s.2.2.2.2.2.2.1,s.2.2.2.2.2.2.2.1,()))))).bind λf=>match f with |.inl h=>(cond (A4 ((zN .u64 (h.2.2.2.2.2.2.2.2.1+h.2.2.1))>=4294967296)) (A3 (.inr (h.1,h.2.1,h.2.2.1,h.2.2.2.1,h.2.2.2.2.1,h.2.2.2.2.2.1,h.2.2.2.2.2.2.1,zN .u64 (h.2.2.2.2.2.2.2.1-1),()))) (A3 (.inl (h.1,h.2.1,h.2.2.1,h.2.2.2.1,h.2.2.2.2.1,h.2.2.2.2.2.1,h.2.2.2.2.2.2.1,zN .u64 (h.2.2.2.2.2.2.2.1-1),zN .u64 (h.2.2.2.2.2.2.2.2.1+h.2.2.1),())))) |.inr g=>A3 (.inr (g.1,g.2.1,g.2.2.1,g.2.2.2.1,g.2.2.2.2.1,g.2.2.2.2.2.1,g.2.2.2.2.2.2.1,g.2.2.2.2.2.2.2.1,()))
def Dk(s:b2d):QO b2d c7o:=(show Option (b2d ⊕ c7o)from cond (A4 (s.2.2.2.2.2.2.2.2.1>=4294967296)) (A3 (B7 (s.1,s.2.1,s.2.2.1,s.2.2.2.1,s.2.2.2.2.1,s.2.2.2.2.2.1,s.2.2.2.2.2.2.1,s.2.2.2.2.2.2.2.1,s.2.2.2.2.2.2.2.2.1,()))) (cond (A4 ((zN .u64 (s.2.2.2.2.2.2.2.2.1*s.2.2.2.1)) > (zN .u64 ((zN .u64 (4294967296*s.2.2.2.2.2.2.1))+s.2.2.2.2.1)))) (A3 (B7 (s.1,s.2.1,s.2.2.1,s.2.2.2.1,s.2.2.2.2.1,s.2.2.2.2.2.1,s.2.2.2.2.2.2.1,s.2.2.2.2.2.2.2.1,s.2.2.2.2.2.2.2.2.1,()))) (A3 (B6 (s.1,s.2.1,s.2.2.2.2.1,s.2.2.2.2.2.1,s.2.2.2.2.2.2.2.1,s.2.2.2.2.2.2.2.2.1,()))))).bind λf=>match f with |.inl h=>(cond (A4 ((zN .u64 (h.2.2.2.2.2.2.1+h.2.2.1))>=4294967296)) (A3 (.inr (h.1,h.2.1,h.2.2.2.2.1,h.2.2.2.2.2.1,h.2.2.2.2.2.2.2.1,zN .u64 (h.2.2.2.2.2.2.2.2.1-1),()))) (A3 (.inl (h.1,h.2.1,h.2.2.1,h.2.2.2.1,h.2.2.2.2.1,h.2.2.2.2.2.1,zN .u64 (h.2.2.2.2.2.2.1+h.2.2.1),h.2.2.2.2.2.2.2.1,zN .u64 (h.2.2.2.2.2.2.2.2.1-1),())))) |.inr g=>A3 (.inr (g.1,g.2.1,g.2.2.1,g.2.2.2.1,g.2.2.2.2.1,g.2.2.2.2.2.1,()))
def Ew(x:Int×Int×Int):Option (Int×Int):=cond (x.2.2==0) A6 (cond (A4 (x.2.2<=x.1)) A6 (cond (x.1==0) (cond (x.2.2==0) A6 (cond (x.2.2==0) A6 (A3 (zN .u64 (B9 x.2.1 x.2.2),C0 x.2.1 x.2.2)))) ((Fv x.2.2).bind λg=>cond (A4 (zN .u64 g<0)) A6 (cond (A4 (zN .u64 g<0)) A6 (cond (A4 (zN .u64 (64-(zN .u64 g))<0)) A6 (cond (A4 (zN .u64 g<0)) A6 (cond (AR .u64 (AO .u64 x.2.2 (zN .u64 g)) 32==0) A6 ((Al Dj (AO .u64 x.2.2 (zN .u64 g),zN .u64 g,AR .u64 (AO .u64 x.2.2 (zN .u64 g)) 32,bits .u64 .and (AO .u64 x.2.2 (zN .u64 g)) 4294967295,bits .u64 .or (AO .u64 x.1 (zN .u64 g)) (AR .u64 x.2.1 (zN .u64 (64-(zN .u64 g)))),AR .u64 (AO .u64 x.2.1 (zN .u64 g)) 32,bits .u64 .and (AO .u64 x.2.1 (zN .u64 g)) 4294967295,zN .u64 (B9 (bits .u64 .or (AO .u64 x.1 (zN .u64 g)) (AR .u64 x.2.1 (zN .u64 (64-(zN .u64 g))))) (AR .u64 (AO .u64 x.2.2 (zN .u64 g)) 32)),zN .u64 ((bits .u64 .or (AO .u64 x.1 (zN .u64 g)) (AR .u64 x.2.1 (zN .u64 (64-(zN .u64 g)))))-(zN .u64 ((zN .u64 (B9 (bits .u64 .or (AO .u64 x.1 (zN .u64 g)) (AR .u64 x.2.1 (zN .u64 (64-(zN .u64 g))))) (AR .u64 (AO .u64 x.2.2 (zN .u64 g)) 32)))*(AR .u64 (AO .u64 x.2.2 (zN .u64 g)) 32)))),())).bind λh=>cond (h.2.2.1==0) A6 ((Al Dk (h.1,h.2.1,h.2.2.1,h.2.2.2.1,h.2.2.2.2.2.2.1,h.2.2.2.2.2.2.2.1,zN .u64 ((zN .u64 ((zN .u64 ((zN .u64 (h.2.2.2.2.1*4294967296))+h.2.2.2.2.2.1))-(zN .u64 (h.2.2.2.2.2.2.2.1*h.1))))-(zN .u64 ((zN .u64 (B9 (zN .u64 ((zN .u64 ((zN .u64 (h.2.2.2.2.1*4294967296))+h.2.2.2.2.2.1))-(zN .u64 (h.2.2.2.2.2.2.2.1*h.1)))) h.2.2.1))*h.2.2.1))),zN .u64 ((zN .u64 ((zN .u64 (h.2.2.2.2.1*4294967296))+h.2.2.2.2.2.1))-(zN .u64 (h.2.2.2.2.2.2.2.1*h.1))),zN .u64 (B9 (zN .u64 ((zN .u64 ((zN .u64 (h.2.2.2.2.1*4294967296))+h.2.2.2.2.2.1))-(zN .u64 (h.2.2.2.2.2.2.2.1*h.1)))) h.2.2.1),())).bind λf=>cond (A4 (f.2.1<0)) A6 (A3 (zN .u64 ((zN .u64 (f.2.2.2.1*4294967296))+f.2.2.2.2.2.1),AR .u64 (zN .u64 ((zN .u64 ((zN .u64 (f.2.2.2.2.1*4294967296))+f.2.2.1))-(zN .u64 (f.2.2.2.2.2.1*f.1)))) f.2.1)))))))))))
def ZE:rZ:=⟨[.v QU,.v QU,.v QU],[.v QU,.v QU],Ew⟩
def c8i:rY:=Qh [.sv 2 QU,.sv 8 QU,.sv 9 QU,.sv 10 QU,.sv 11 QU,.sv 13 QU,.sv 14 QU,.sv 15 QU,.sv 16 QU,.sv 17 QU,.sv 18 QU] [[131068,511,2,255],[2097148,1999,4,1731]] [[262136,0,511,2,255],[4194296,0,1999,4,1731]] [(6,Qg 8 536870912 [])]
def Mr(x:Int×Int×Int):Option Int:=cond (x.2.2==0) A6 ((Ew (C0 x.1 x.2.2,x.2.1,x.2.2)).bind λh=>A3 h.2)
def ZF:rZ:=⟨[.v QU,.v QU,.v QU],[.v QU],Mr⟩
def Jh(x:Int×Int×Int):Option Int:=(IJ (x.1,x.2.1)).bind λh=>(Mq (h.2,x.2.2,0)).bind λg=>(Mr (zN .u64 (h.1+g.2),g.1,2305843009213693951)).bind λf=>A3 f
def a5R:rZ:=⟨[.v QU,.v QU,.v QU],[.v QU],Jh⟩
def Lf(s:Z8):QO Z8 (Int×Unit):=(λ(a b c:Int)=>cond (A4 (a > 0)) ((show Option Z8 from cond (C0 a 2==1) ((Jh (b,c,0)).bind λg=>A3 (a,g,c,())) (A3 (a,b,c,()))).bind λh=>(Jh (h.2.2.1,h.2.2.1,0)).bind λf=>A3 (.inl (zN .i64 (B9 h.1 2),h.2.1,f,()))) (A3 (.inr (b,())))) s.1 s.2.1 s.2.2.1
def Pf(x:Int):Option Int:=(Al Lf (Fk x 0,1,1000003,())).bind λh=>A3 h.1
def a3W:rZ:=⟨[.v QI],[.v QU],Pf⟩
def d3t:rY:=Qh [0,.sv 3 QU,.sv 4 QU] [[58,7,2,2]] [[932,0,7]] []
def Oj(x:Int×Int×Int):Option (Int×Bool):=(show Option c6K from cond (A4 (x.1>=2305843009213693951)) (A3 (x.1,x.2.1,x.2.2,ka,())) (cond (A4 (x.2.1>=2305843009213693951)) (A3 (x.1,x.2.1,x.2.2,ka,())) (A3 (x.1,x.2.1,x.2.2,A4 (x.2.2<0),())))).bind λh=>cond h.2.2.2.1 (A3 (0,kc)) ((Pf h.2.2.1).bind λg=>(Jh (h.1,g,h.2.1)).bind λf=>A3 (f,ka))
def a5S:rZ:=⟨[.v QU,.v QU,.v QI],[.v QU,.v .bool],Oj⟩
def d3u:rY:=Qh [.sv 0 QU,.sv 1 QU,2,Qb 17] [] [[6,0,15]] []
def Lg(s:UX):Option c1Z:=(λ(a b:Int)=>cond (A4 (b<a)) ((Ax s.2.1 b).bind λh=>(Jh (s.1,1000003,zN .u64 ((zN .u64 h)+1))).bind λg=>A3 (.inl (g,s.2.1,a,zN .i64 (b+1),()))) (A3 (.inr (s.1,())))) s.2.2.1 s.2.2.2.1
def Ms(x:LI):Option Int:=(Al Lg (0,x,(x.length:Int),0,())).bind λh=>A3 h.1
def a3X:rZ:=⟨[.v QB],[.v QU],Ms⟩
def d3v:rY:=Qh [.sv 3 QU,.sv 6 QB,7,8] [[58,15,2,1]] [] []
def Ji(x:c2l):Option (Int×Bool):=(Mp x.2).bind λh=>cond (h.2 != 0) (A3 (0,kc)) ((Ms h.1).bind λf=>(Oj (x.1,f,(h.1.length:Int))).bind λg=>A3 (g.1,g.2))
def VI:rZ:=⟨[.v QU,.v Xp],[.v QU,.v .bool],Ji⟩
def GL(x:Z8):Option Bool:=cond (A4 (1<=x.1)) (cond (A4 (x.1<=1048576)) (cond (A4 (1<=x.2.1)) (cond (A4 (x.2.1<=8)) ((KG x.2.2.1).bind λh=>A3 h) (A3 kc)) (A3 kc)) (A3 kc)) (A3 kc)
def NJ:rZ:=⟨[.v FV],[.v .bool],GL⟩
def Kq(s:c1W):QO c1W UX:=(λ(a:Int)(b:LI)(c d e:Int)=>cond (A4 (e<8)) (cond (bits .u32 .and a 1==1) (A3 (.inl (bits .u32 .xor (AR .u32 a 1) 3988292384,b,c,d,zN .i64 (e+1),()))) (A3 (.inl (AR .u32 a 1,b,c,d,zN .i64 (e+1),())))) (A3 (.inr (a,b,c,d,())))) s.1 s.2.1 s.2.2.1 s.2.2.2.1 s.2.2.2.2.1
def GX(s:UX):Option c1Z:=(λ(a b:Int)=>cond (A4 (b<a)) ((Ax s.2.1 b).bind λg=>(Al Kq (bits .u32 .xor s.1 (zN .u32 g),s.2.1,a,b,0,())).bind λh=>A3 (.inl (h.1,h.2.1,h.2.2.1,zN .i64 (h.2.2.2.1+1),()))) (A3 (.inr (s.1,())))) s.2.2.1 s.2.2.2.1
def Hl(x:LI):Option Int:=(Al GX (4294967295,x,(x.length:Int),0,())).bind λh=>A3 (bits .u32 .xor (IntKind.max .u32) h.1)
def eC:rZ:=⟨[.v QB],[.v (.int .u32)],Hl⟩
def d3w:rY:=Qh [.sv 3 (.int .u32),.sv 7 QB,8,9,17] [[58,15,2,1],[29902,31,4,15]] [] []
def Gq(x:LI):Option Ia:=cond (BM (A8 x)) (A3 (x,0,0,())) A6
def a5T:rZ:=⟨[.v QB],[.b FX],Gq⟩
def Ca(s:UX):QO UX (Unit ⊕ Z8):=(λ(a:Int)(b:LI)(c d:Int)=>cond (A4 (d<c)) ((Ax b d).bind λg=>(show Option (Int×Int×Int×c0M)from cond (d==9) (cond (A4 (g > 1)) (A3 (a,d,g,b,c,d,ka,())) (cond (A4 (d > 0)) (A3 (a,d,g,b,c,d,g==0,())) (A3 (a,d,g,b,c,d,kc,())))) (cond (A4 (d > 0)) (A3 (a,d,g,b,c,d,g==0,())) (A3 (a,d,g,b,c,d,kc,())))).bind λh=>cond h.2.2.2.2.2.2.1 (A3 (.inr (B6 (0,0,2,())))) (cond (A4 (zN .i64 (7*h.2.1)<0)) A6 (cond (A4 (h.2.2.1<128)) (A3 (.inr (B6 (bits .u64 .or h.1 (AO .u64 (zN .u64 (C0 h.2.2.1 128)) (zN .i64 (7*h.2.1))),zN .i64 (h.2.1+1),0,())))) (A3 (.inl (bits .u64 .or h.1 (AO .u64 (zN .u64 (C0 h.2.2.1 128)) (zN .i64 (7*h.2.1))),h.2.2.2.1,h.2.2.2.2.1,zN .i64 (h.2.2.2.2.2.1+1),())))))) (A3 (.inr (B7 ())))) s.1 s.2.1 s.2.2.1 s.2.2.2.1
def Jj(x:LI):Option (Int×Int×Int):=(Al Ca (0,x,(x.length:Int),0,())).bind λg=>match g with |.inl f=>A3 (0,0,3) |.inr h=>A3 (h.1,h.2.1,h.2.2.1)
def oG:rZ:=⟨[.v QB],[.v QU,.v QI,.v QI],Jj⟩
def c8j:rY:=Qh [.sv 5 QU,.sv 2 QU,3,4,6,.sv 7 QV,.sv 8 QB,9,10,Qb 28] [[58,449,2,0,1,14]] [[7474,0,1009]] []
def AF(x:a3S):Option UX:=cond (x.1.2.2.1 != 0) (A3 (0,x.1)) (cond (A4 (0<=x.1.2.1)&&A4 (x.1.2.1<=(x.1.1.length:Int))) ((Jj (C2 (A7 x.1.2.1) (B8 (A8 x.1.1) x.1.1))).bind λh=>(show Option b7I from cond (h.2.2==0) (cond (A4 (h.1 > x.2)) (A3 (h.1,h.2.1,4,x.1,())) (A3 (h.1,h.2.1,h.2.2,x.1,()))) (A3 (h.1,h.2.1,h.2.2,x.1,()))).bind λg=>cond (g.2.2.1 != 0) (A3 (0,g.2.2.2.1.1,g.2.2.2.1.2.1,g.2.2.1,g.2.2.2.1.2.2.2)) (A3 (g.1,g.2.2.2.1.1,zN .i64 (g.2.2.2.1.2.1+g.2.1),g.2.2.2.1.2.2))) A6)
def YB:rZ:=⟨[.r kc (.b FX),.v QU],[.v QU],AF⟩
def d3x:rY:=Qh [.sv 5 QU,6,7,.box pinned FX,Qp 0 pinned] [] [[15,0,31]] [(3,Qg 17 36893490492759806259 [])]
def DS(x:Ia):Option UX:=kd (x.2.2.1,x)
def YC:rZ:=⟨[.r kc (.b FX)],[.v QI],DS⟩
def Co(x:Ia):Option UX:=kd (zN .i64 ((x.1.length:Int)-x.2.1),x)
def Xq:rZ:=⟨[.r kc (.b FX)],[.v QI],Co⟩
def d3y:rY:=Qh [] [] [] [(1,Qg 11 2341079093555 [])]
def GY(x:a3S):Option c2n:=cond (x.1.2.2.1 != 0) (A3 ([],x.1)) ((Co x.1).bind λh=>cond (A4 ((Fk x.2 0) > h.1)) (A3 ([],h.2.1,h.2.2.1,3,h.2.2.2.2)) (cond (A4 (0<=(zN .i64 (h.2.2.1+(Fk x.2 0))))&&A4 ((zN .i64 (h.2.2.1+(Fk x.2 0)))<=(h.2.1.length:Int))) (cond (A4 (0<=h.2.2.1)&&A4 (h.2.2.1<=((A7 (zN .i64 (h.2.2.1+(Fk x.2 0))):Nat):Int))) (cond (BM (A8 (C2 (A7 h.2.2.1) (B8 (A7 (zN .i64 (h.2.2.1+(Fk x.2 0)))) h.2.1)))) (A3 (C2 (A7 h.2.2.1) (B8 (A7 (zN .i64 (h.2.2.1+(Fk x.2 0)))) h.2.1),h.2.1,zN .i64 (h.2.2.1+(Fk x.2 0)),h.2.2.2)) A6) A6) A6))
def Xr:rZ:=⟨[.r kc (.b FX),.v QI],[.o QV],GY⟩
def c8k:rY:=Qh [] [] [] [(7,Qg 17 39343465255738216755 [])]
def GM(x:Int):Option Int:=kd (OH (Fk x 0) 8)
def a0K:rZ:=⟨[.v QI],[.v QI],GM⟩
def FI(s:oF):QO oF b4M:=(λ(a:Int)(b:LI)(c:Ia)=>cond (A4 (a<s.2.1)) (cond (A4 (0<=a)&&A4 (a<(b.length:Int))) (A3 (.inl (zN .u64 ((zN .u64 (s.1*256))+(zN .u64 (B3 b (A7 a) 0))),s.2.1,zN .i64 (a+1),b,c,()))) A6) (A3 (.inr (s.1,c,())))) s.2.2.1 s.2.2.2.1 s.2.2.2.2.1
def Fw(x:a3S):Option UX:=(GM x.2).bind λf=>(GY (x.1,f)).bind λh=>(Al FI (0,(h.1.length:Int),0,h.1,h.2,())).bind λg=>A3 (g.1,g.2.1)
def YD:rZ:=⟨[.r kc (.b FX),.v QI],[.v QU],Fw⟩
def d3z:rY:=Qh [.sv 5 QU,12,13,.own 11 1011 QV,.box pinned FX] [[58,31,2,17]] [] []
def Ey(x:Ia):Option UX:=kd (x.2.1,x)
def ZG:rZ:=⟨[.r kc (.b FX)],[.v QI],Ey⟩
def HJ(s:LI×Int×Int×Ra×Ra×b0E):QO (LI×Int×Int×Ra×Ra×b0E) (LI×Ra×Ra×b0E):=(λ(a:Int)(b c:Ra)(d:Ia)=>cond (A4 (a<s.2.1)) ((AF (d,1048704)).bind λh=>cond (BM ((A8 c.2.1)+1)) ((AF (h.2,4096)).bind λg=>cond (BM ((A8 c.2.2.1)+1)) (A3 (.inl (s.1,s.2.1,zN .u64 (a+1),b,(c.1,A9 c.2.1 [zN .i64 h.1],A9 c.2.2.1 [zN .i64 g.1],c.2.2.2),g.2,()))) A6) A6) (A3 (.inr (s.1,b,c,d,())))) s.2.2.1 s.2.2.2.1 s.2.2.2.2.1 s.2.2.2.2.2.1
def Fx(s:Int×Int×b7O):QO (Int×Int×b7O) (b7O ⊕ (Int×b2e)):=(λ(a:Int)(b c:Ra)=>cond (A4 (a<s.1)) (cond (A4 (0<=a)&&A4 (a<(c.2.2.1.length:Int))) (cond (B3 c.2.2.1 (A7 a) 0==0) (A3 (.inr (B6 (2,((0,0,0,()),[],[],0,0,0,()),())))) (A3 (.inl (s.1,zN .i64 (a+1),b,(c.1,c.2.1,c.2.2.1,zN .i64 (c.2.2.2.1+(B3 c.2.2.1 (A7 a) 0)),c.2.2.2.2),())))) A6) (A3 (.inr (B7 (b,c,()))))) s.2.1 s.2.2.1 s.2.2.2.1
def Lh(x:LI):Option (Ra×Int):=cond (A4 ((x.length:Int)<4)) (A3 (((0,0,0,()),[],[],0,0,0,()),3)) (cond (A4 (4<=(x.length:Int))) (cond ((a4V (B8 4 x)) != [75,78,83,68]) (A3 (((0,0,0,()),[],[],0,0,0,()),2)) (cond (A4 (4<=(x.length:Int))) ((Gq (C2 4 (B8 (A8 x) x))).bind λq=>(AF (q,1048576)).bind λl=>(AF (l.2,8)).bind λm=>(AF (m.2,24)).bind λo=>(AF (o.2,4096)).bind λp=>(Al HJ (x,p.1,0,((0,0,0,()),[],[],0,0,0,()),((zN .i64 l.1,zN .i64 m.1,zN .i64 o.1,()),[],[],0,0,0,()),p.2,())).bind λh=>(DS h.2.2.2.1).bind λj=>cond (j.1 != 0) (A3 (((0,0,0,()),[],[],0,0,0,()),j.1)) ((Co j.2).bind λa=>cond (A4 (a.1<12)) (A3 (((0,0,0,()),[],[],0,0,0,()),3)) ((Fw (a.2,8)).bind λb=>(Ey b.2).bind λg=>cond (A4 (0<=(zN .i64 (4+g.1)))&&A4 ((zN .i64 (4+g.1))<=(h.1.length:Int))) ((Hl (B8 (A7 (zN .i64 (4+g.1))) h.1)).bind λd=>(Fw (g.2,4)).bind λe=>cond ((zN .u64 d) != e.1) (A3 (((0,0,0,()),[],[],0,0,0,()),5)) ((GL h.2.2.1.1).bind λi=>cond (!i) (A3 (((0,0,0,()),[],[],0,0,0,()),2)) ((Al Fx ((h.2.2.1.2.2.1.length:Int),0,h.2.1,(h.2.2.1.1,h.2.2.1.2.1,h.2.2.1.2.2.1,h.2.2.1.2.2.2.1,b.1,zN .i64 ((zN .i64 (4+g.1))+4),h.2.2.1.2.2.2.2.2.2),())).bind λc=>match c with |.inl f=>(cond (A4 (f.2.1.2.2.2.1 > 4194304)) (A3 (((0,0,0,()),[],[],0,0,0,()),2)) (A3 (f.2.1,0))) |.inr k=>A3 (k.2.1,k.1)))) A6))) A6)) A6)
def jL:rZ:=⟨[.v QB],[.v c7g,.v QI],Lh⟩
def d3A:rY:=Qh [.sv 0 QB,.sv 38 QU,.sv 39 QU,93,94,3,.box 2 c7g,.box 4 d2v,.box 1021 FX,Qp 2 2,Qp 4 4,Qp 5 1021,.ref 92 4 [.snd,.snd,.fst]] [[4090,4039,2,4033],[1048570,5848,4,1728,1,608]] [] [(12,Qg 9 9161441655 [[4,41],[4,42],[44,1021,1044]]),(13,Qg 9 9161441655 [[4,49],[4,50],[52,1021,1052]])]
def KI(s:Int×c6V):QO (Int×c6V) Z0:=(λ(a:Int)(b:Zh)(c d:Int)=>cond (A4 (d<c)) ((Ax b d).bind λh=>(show Option (Int×Zh×Int×Int×Bool×c6L)from cond (A4 (h.1<0)) (A3 (a,b,c,d,ka,h,())) (cond (A4 (h.1>=a)) (A3 (a,b,c,d,ka,h,())) (cond (A4 (h.2.1<0)) (A3 (a,b,c,d,ka,h,())) (cond (A4 (h.2.1>=a)) (A3 (a,b,c,d,ka,h,())) (A3 (a,b,c,d,h.1==h.2.1,h,())))))).bind λg=>cond g.2.2.2.2.1 (A3 (.inr (B6 (kc,())))) ((show Option (Int×Zh×c1R)from cond (A4 (g.2.2.2.2.2.1.2.2.1<(-1024))) (A3 (g.1,g.2.1,g.2.2.1,g.2.2.2.1,ka,())) (A3 (g.1,g.2.1,g.2.2.1,g.2.2.2.1,A4 (g.2.2.2.2.2.1.2.2.1 > 1024),()))).bind λf=>cond f.2.2.2.2.1 (A3 (.inr (B6 (kc,())))) (A3 (.inl (f.1,f.2.1,f.2.2.1,zN .i64 (f.2.2.2.1+1),()))))) (A3 (.inr (B7 ())))) s.1 s.2.1 s.2.2.1 s.2.2.2.1
def Qc(x:Zh×Int):Option Bool:=(show Option (Zh×Int×Bool×Unit)from cond (A4 (x.2<1)) (A3 (x.1,x.2,ka,())) (cond (A4 (x.2 > 8)) (A3 (x.1,x.2,ka,())) (A3 (x.1,x.2,A4 ((x.1.length:Int) > 16),())))).bind λh=>cond h.2.2.1 (A3 kc) ((Al KI (h.2.1,h.1,(h.1.length:Int),0,())).bind λf=>match f with |.inl k=>A3 true |.inr g=>A3 g.1)
def YE:rZ:=⟨[.v (.list kc FV),.v QI],[.v .bool],Qc⟩
def c8l:rY:=Qh [Qb 4,.sv 0 (.list kc FV),1,.sv 18 (.list kc FV),19,20,Qb 17,Qb 50,.box 6 FV,Qp 6 6,Qb 58] [[58,60,2,0,1,1]] [[6,0,70],[7474,0,956],[7475,0,1084]] []
def KJ(x:FU):Option Bool:=(GL x.2.2.1).bind λh=>cond h (cond (A4 (x.2.1>=1)) (cond (A4 (x.2.1<=4096)) (cond (A4 (x.1>=0)) (cond (A4 (x.1<=(zN .i64 (4194304-x.2.1)))) ((Qc (x.2.2.2.1,x.2.2.1.2.1)).bind λg=>A3 g) (A3 kc)) (A3 kc)) (A3 kc)) (A3 kc)) (A3 kc)
def a0L:rZ:=⟨[.v Ky],[.v .bool],KJ⟩
def DT(s:Ia):Option b9r:=(λ(a b:Int)=>cond (A4 (b<a)) ((Ax s.1 b).bind λg=>(show Option c0M from cond (A4 (g<(-1073741824))) (A3 (s.1,a,b,ka,())) (A3 (s.1,a,b,A4 (g>=1073741824),()))).bind λh=>cond h.2.2.2.1 (A3 (.inr (B6 (kc,())))) (A3 (.inl (h.1,h.2.1,zN .i64 (h.2.2.1+1),())))) (A3 (.inr (B7 ())))) s.2.1 s.2.2.1
def GN(x:LI):Option Bool:=(Al DT (x,(x.length:Int),0,())).bind λg=>match g with |.inl f=>A3 true |.inr h=>A3 h.1
def Sc:rZ:=⟨[.v QL],[.v .bool],GN⟩
def c8m:rY:=Qh [.sv 5 QL,6,7,Qb 2,Qb 16] [[26,7,2,0,1,8]] [[1689,0,23]] []
def JR(x:Int):Option Bool:=cond (x != 0) (A3 (x != 1)) (A3 kc)
def a3Y:rZ:=⟨[.v QI],[.v .bool],JR⟩
def Ic(s:Ia):Option b9r:=(λ(a b:Int)=>cond (A4 (b<a)) ((Ax s.1 b).bind λg=>(show Option c0M from cond (A4 (g<(-32768))) (A3 (s.1,a,b,ka,())) (A3 (s.1,a,b,A4 (g>=32768),()))).bind λh=>cond h.2.2.2.1 (A3 (.inr (B6 (kc,())))) (A3 (.inl (h.1,h.2.1,zN .i64 (h.2.2.1+1),())))) (A3 (.inr (B7 ())))) s.2.1 s.2.2.1
def JS(x:LI×Int):Option Bool:=(show Option (LI×Bool×Unit)from cond (A4 ((x.1.length:Int)<1)) (A3 (x.1,ka,())) (cond (A4 ((x.1.length:Int) > 32)) (A3 (x.1,ka,())) (cond (A4 (x.2<0)) (A3 (x.1,ka,())) (A3 (x.1,A4 (x.2 > 15),()))))).bind λh=>cond h.2.1 (A3 kc) ((Al Ic (h.1,(h.1.length:Int),0,())).bind λf=>match f with |.inl k=>A3 true |.inr g=>A3 g.1)
def ZH:rZ:=⟨[.v QL,.v QI],[.v .bool],JS⟩
def c8n:rY:=Qh [.sv 23 QL,24,25,Qb 4,.sv 0 QL,Qb 22,Qb 34] [[58,7,2,0,1,8]] [[6,0,48],[3737,0,71]] []
def KK(s:Z6):QO Z6 Z0:=cond (A4 (s.2.1<3)) ((Ax s.1 s.2.1).bind λg=>(show Option c2k from cond (A4 (g<(-64))) (A3 (s.1,s.2.1,ka,())) (A3 (s.1,s.2.1,A4 (g > 64),()))).bind λh=>cond h.2.2.1 (A3 (.inr (B6 (kc,())))) (A3 (.inl (h.1,zN .i64 (h.2.1+1),())))) (A3 (.inr (B7 ())))
def Qf(x:Int×LI):Option Bool:=(show Option Z9 from cond (A4 (x.1<2)) (A3 (ka,x.2,())) (A3 (A4 (x.1 > 1024),x.2,()))).bind λh=>cond h.1 (A3 kc) ((Al KK (h.2.1,0,())).bind λf=>match f with |.inl k=>A3 true |.inr g=>A3 g.1)
def oH:rZ:=⟨[.v QI,.v (.arr 3 QI)],[.v .bool],Qf⟩
def c8o:rY:=Qh [.sv 13 (.arr 3 QI),14,Qb 4,Qb 12,.vp 3 (.arr 3 QI),Qb 22] [[58,3,2,0,1,4]] [[6,0,24],[3737,0,35]] []
def KL(x:Int×Int×Unit):Option Bool:=cond (A4 (x.1>=1)) (cond (A4 (x.1<=32)) (cond (A4 (x.2.1>=0)) (A3 (A4 (x.2.1<=8))) (A3 kc)) (A3 kc)) (A3 kc)
def a0M:rZ:=⟨[.v Q5],[.v .bool],KL⟩
def Jk(s:Z5×Int×Int×Unit):QO (Z5×Int×Int×Unit) Z0:=cond (A4 (s.2.2.1<s.2.1)) ((Ax s.1 s.2.2.1).bind λh=>(KL h).bind λg=>cond (!g) (A3 (.inr (B6 (kc,())))) (A3 (.inl (s.1,s.2.1,zN .i64 (s.2.2.1+1),())))) (A3 (.inr (B7 ())))
def Ol(x:Z5):Option Bool:=cond (A4 ((x.length:Int) > 3)) (A3 kc) ((Al Jk (x,(x.length:Int),0,())).bind λg=>match g with |.inl f=>A3 true |.inr h=>A3 h.1)
def VJ:rZ:=⟨[.v (.list kc Q5)],[.v .bool],Ol⟩
def c8p:rY:=Qh [.sv 8 (.list kc Q5),9,10,Qb 2] [[58,7,2,0,1,8]] [] []
def PG(x:Int×jJ):Option Bool:=(show Option b7P from cond (x.1==0) (A3 (x.2.2,x.1,x.1==0,x.2.1,())) (A3 (x.2.2,x.1,x.1==1,x.2.1,()))).bind λh=>cond h.2.2.1 (A3 ka) (cond (h.2.1==2) (cond (A4 (h.2.2.2.1.2.2.1>=0)) (cond (A4 (h.2.2.2.1.2.2.1<=4)) (A3 (A4 (h.2.2.2.1.2.2.1<=h.1))) (A3 kc)) (A3 kc)) (cond (h.2.1==3) ((JS (h.2.2.2.1.2.2.2.2.2.1,h.2.2.2.1.2.2.2.1)).bind λg=>cond g (A3 (A4 ((h.2.2.2.1.2.2.2.2.2.1.length:Int)<=h.1))) (A3 kc)) (cond (h.2.1==4) ((JS (h.2.2.2.1.2.2.2.2.2.1,h.2.2.2.1.2.2.2.1)).bind λf=>cond f (cond (A4 ((h.2.2.2.1.2.2.2.2.2.1.length:Int)<=h.1)) ((Qf (h.2.2.2.1.2.2.2.2.1,h.2.2.2.1.2.2.2.2.2.2.1)).bind λk=>A3 k) (A3 kc)) (A3 kc)) (cond (h.2.1==5) (cond (A4 ((h.2.2.2.1.2.2.2.2.2.2.2.1.length:Int) > 0)) ((Ol h.2.2.2.1.2.2.2.2.2.2.2.1).bind λa=>A3 a) (A3 kc)) (A3 kc)))))
def a2f:rZ:=⟨[.v QI,.v Ib,.v QI],[.v .bool],PG⟩
def c8q:rY:=Qh [2,7,Qb 8,.vp 4 Ib] [] [[26,0,15]] []
def JT(x:jJ):Option Int:=cond (x.1.1==0) (A3 1) (cond (x.1.1==1) (A3 x.2) (cond (x.1.1==2) (A3 x.1.2.2.1) ((show Option b7N from cond (x.1.1==3) (A3 (x.1.1==3,x.1,())) (A3 (x.1.1==4,x.1,()))).bind λh=>cond h.1 (A3 (h.2.1.2.2.2.2.2.1.length:Int)) (A3 0))))
def ZI:rZ:=⟨[.v Ib,.v QI],[.v QI],JT⟩
def c8r:rY:=Qh [Qb 16,.vp 2 Ib] [] [[1727,0,3]] []
def CO(x:LI):Option LI:=Yy x
def Bk:rZ:=⟨[.v QL],[.o QI],CO⟩
def b9s:Cx:=FM [] [] 5 0
theorem c2D(x):a0u b9s QH Tryz.f128 Bk.ps Bk.rs x=Bk.F x:=Eq.trans (show _=oC x by kernel_rfl) (Yz x)
def Fy(x:LI):Option LI:=Yy x
def Cy:rZ:=⟨[.v QL],[.v QL],Fy⟩
def b4U:Cx:=FM [] [] 5 0
theorem c0W(x):a0u b4U QH Tryz.f128 Cy.ps Cy.rs x=Cy.F x:=Eq.trans (show _=oC x by kernel_rfl) (Yz x)
def BG(x:Z5):Option Z5:=Yy x
def BH:rZ:=⟨[.v (.list kc Q5)],[.v (.list kc Q5)],BG⟩
def b4V:Cx:=FM [] [] 5 0
theorem c0X(x):a0u b4V QH Tryz.f235 BH.ps BH.rs x=BH.F x:=Eq.trans (show _=oC x by kernel_rfl) (Yz x)
def TF(x:Int×Jf):Option Jf:=(show Option b2h from(show Option ((Jf×b2h) ⊕ (b2h ⊕ (Jf×b2h)))from cond (x.1==2) (A3 (B6 (B7 ((0,0,0,0,0,[],B4 3 0,[],[],(0,[],()),[],()),(x.1,0,x.2.2.2.1,0,0,[],B4 3 0,[],[],(0,[],()),[],()),())))) (cond (x.1==4) (A3 (B7 ((0,0,0,0,0,[],B4 3 0,[],[],(0,[],()),[],()),(x.1,0,0,0,x.2.2.2.2.2.1,[],x.2.2.2.2.2.2.2.1,[],[],(0,[],()),[],()),x.2,()))) (cond (x.1==3) (A3 (B7 ((0,0,0,0,0,[],B4 3 0,[],[],(0,[],()),[],()),(x.1,0,0,0,0,[],B4 3 0,[],[],(0,[],()),[],()),x.2,()))) (cond (x.1==5) (A3 (B6 (B6 ((0,0,0,0,0,[],B4 3 0,[],[],(0,[],()),[],()),(x.1,0,0,0,0,[],B4 3 0,[],[],(0,[],()),[],()),x.2,())))) (A3 (B6 (B7 ((0,0,0,0,0,[],B4 3 0,[],[],(0,[],()),[],()),(x.1,0,0,0,0,[],B4 3 0,[],[],(0,[],()),[],()),())))))))).bind λc=>match c with |.inl g=>((Fy g.2.2.1.2.2.2.2.2.1).bind λa=>A3 (g.1,(g.2.1.1,g.2.1.2.1,g.2.1.2.2.1,g.2.2.1.2.2.2.1,g.2.1.2.2.2.2.1,a,g.2.1.2.2.2.2.2.2),())) |.inr k=>(match k with |.inl f=>A3 (f.1,f.2.1,()) |.inr h=>((BG h.2.2.1.2.2.2.2.2.2.2.1).bind λb=>A3 (h.1,(h.2.1.1,h.2.1.2.1,h.2.1.2.2.1,h.2.1.2.2.2.1,h.2.1.2.2.2.2.1,h.2.1.2.2.2.2.2.1,h.2.1.2.2.2.2.2.2.1,b,h.2.1.2.2.2.2.2.2.2.2),())))).bind λd=>A3 d.2.1
def ZJ:rZ:=⟨[.v QI,.v Ib],[.v Ib],TF⟩
def c8s:rY:=Qh [.box 4 Ib,.box 5 Ib,.vp 3 Ib,Qp 4 4,Qp 5 5] [] [[7,0,27],[232,0,31,2,27,6,31]] [(8,Qg 8 578879488 [[0,5]]),(9,Qg 9 9262071808 [[0,5]])]
def Rl(x:Jf):Option Bool:=(TF (x.1,x)).bind λh=>cond (x.2.2.1==h.2.2.1) (cond (x.2.2.2.1==h.2.2.2.1) (cond (x.2.2.2.2.1==h.2.2.2.2.1) (cond (Xm (.arr 3 (.int .i64)) x.2.2.2.2.2.2.1 h.2.2.2.2.2.2.1) (cond ((x.2.2.2.2.2.1.length:Int)==(h.2.2.2.2.2.1.length:Int)) (A3 ((x.2.2.2.2.2.2.2.1.length:Int)==(h.2.2.2.2.2.2.2.1.length:Int))) (A3 kc)) (A3 kc)) (A3 kc)) (A3 kc)) (A3 kc)
def a5U:rZ:=⟨[.v Ib],[.v .bool],Rl⟩
def LO(x:Int×Int):Option Bool:=cond (A4 (1<=x.1)) (cond (A4 (x.1<=4096)) (cond (A4 (0<=x.2)) (A3 (A4 (x.2<=x.1))) (A3 kc)) (A3 kc)) (A3 kc)
def a5V:rZ:=⟨[.v QI,.v QI],[.v .bool],LO⟩
def JU(s:b6X):QO b6X (LI×Unit):=(λ(a:LI)=>cond (A4 (s.1<0)) A6 (cond (A4 ((a.length:Int)<AO .i64 1 s.1)) (cond (BM ((A8 a)+1)) (A3 (.inl (s.1,s.2.1,A9 a [s.2.1],()))) A6) (A3 (.inr (a,()))))) s.2.2.1
def GO(x:Int×Int×Int):Option LI:=(show Option c6K from(LO (x.2.1,x.2.2)).bind λk=>cond (!k) (A3 (x.1,x.2.1,x.2.2,ka,())) (cond (A4 (x.1<0)) (A3 (x.1,x.2.1,x.2.2,ka,())) (A3 (x.1,x.2.1,x.2.2,A4 (x.1 > 8),())))).bind λh=>cond h.2.2.2.1 (A3 []) (cond (A4 (h.1<0)) A6 ((show Option c6K from cond (A4 (h.1<0)) A6 (cond ((AO .i64 (AR .i64 h.2.1 h.1) h.1) != h.2.1) (A3 (h.1,h.2.2.1,AR .i64 h.2.1 h.1,ka,())) (A3 (h.1,h.2.2.1,AR .i64 h.2.1 h.1,A4 (AR .i64 h.2.1 h.1<h.2.2.1),())))).bind λg=>cond g.2.2.2.1 (A3 []) ((Al JU (g.1,g.2.2.1,[zN .i64 (g.2.2.1-g.2.1)],())).bind λf=>A3 f.1)))
def XG:rZ:=⟨[.v QI,.v QI,.v QI],[.o QI],GO⟩
def c8t:rY:=Qh [0,1,2,7,.own 8 8 QI,Qb 20,Qb 33] [[252,25,2,16]] [[6,0,39],[30,0,77]] []
def Hm(s:Ia):Option b9r:=(λ(a:LI)(b c:Int)=>cond (A4 (c<b)) ((Ax a c).bind λh=>(show Option c0M from cond (A4 (h<0)) (A3 (a,b,c,h != 31,())) (cond (A4 (h > 25)) (A3 (a,b,c,h != 31,())) (A3 (a,b,c,kc,())))).bind λg=>cond g.2.2.2.1 (A3 (.inr (B6 (kc,())))) (A3 (.inl (g.1,g.2.1,zN .i64 (g.2.2.1+1),())))) (A3 (.inr (B7 ())))) s.1 s.2.1 s.2.2.1
def On(x:Z4×Int×Int):Option Bool:=(GO (x.1.1,x.2.1,x.2.2)).bind λg=>(show Option c2m from cond ((g.length:Int)==0) (A3 (ka,x.1,())) (A3 ((x.1.2.1.length:Int) != (g.length:Int),x.1,()))).bind λh=>cond h.1 (A3 kc) ((Al Hm (h.2.1.2.1,(h.2.1.2.1.length:Int),0,())).bind λk=>match k with |.inl a=>A3 true |.inr f=>A3 f.1)
def a5W:rZ:=⟨[.v cZ,.v QI,.v QI],[.v .bool],On⟩
def c8u:rY:=Qh [.sv 27 QL,28,29,Qb 6,Qb 25,.vp 3 cZ,Qb 42] [[122,7,2,0,1,8]] [[14,0,48],[7833,0,71]] []
def Pg(x:jJ):Option Bool:=(show Option b4O from cond (A4 (x.2<1)) (A3 (x.2,ka,x.1,())) (cond (A4 (x.2 > 4096)) (A3 (x.2,ka,x.1,())) ((PG (x.1.1,x.1,x.2)).bind λb=>cond (!b) (A3 (x.2,ka,x.1,())) ((Rl x.1).bind λc=>A3 (x.2,!c,x.1,()))))).bind λh=>cond h.2.1 (A3 kc) ((show Option b4O from cond (A4 (h.2.2.1.2.1<0)) (A3 (h.1,ka,h.2.2.1,())) (cond (A4 (h.2.2.1.2.1 > 30)) (A3 (h.1,ka,h.2.2.1,())) (cond (h.2.2.1.1==0) (A3 (h.1,h.2.2.1.2.1 != 0,h.2.2.1,())) (A3 (h.1,kc,h.2.2.1,()))))).bind λg=>cond g.2.1 (A3 kc) ((JT (g.2.2.1,g.1)).bind λk=>(show Option b7P from cond ((g.2.2.1.2.2.2.2.2.2.2.2.1.length:Int) != k) (A3 (g.1,k,ka,g.2.2.1,())) ((GN g.2.2.1.2.2.2.2.2.2.2.2.1).bind λd=>cond (!d) (A3 (g.1,k,ka,g.2.2.1,())) ((GN g.2.2.1.2.2.2.2.2.2.2.2.2.2.1).bind λe=>A3 (g.1,k,!e,g.2.2.1,())))).bind λf=>cond f.2.2.1 (A3 kc) ((JR f.2.2.2.1.1).bind λi=>cond (!i) (cond ((f.2.2.2.1.2.2.2.2.2.2.2.2.2.2.1.length:Int)==0) (cond (f.2.2.2.1.2.2.2.2.2.2.2.2.2.1.1==0) (A3 ((f.2.2.2.1.2.2.2.2.2.2.2.2.2.1.2.1.length:Int)==0)) (A3 kc)) (A3 kc)) (cond ((f.2.2.2.1.2.2.2.2.2.2.2.2.2.2.1.length:Int)==zN .i64 (f.1-f.2.1)) ((On (f.2.2.2.1.2.2.2.2.2.2.2.2.2.1,f.1,f.2.1)).bind λa=>A3 a) (A3 kc)))))
def a3Z:rZ:=⟨[.v Ib,.v QI],[.v .bool],Pg⟩
def c8v:rY:=Qh [1,Qb 24,Qb 42,5,Qb 62,.vp 2 Ib] [] [[6,0,35],[14,0,37],[62,0,57]] []
def UC(s:Ia):Option b9r:=(λ(a b:Int)=>cond (A4 (b<a)) ((Ax s.1 b).bind λg=>(show Option c0M from cond (A4 (g<(-1073741824))) (A3 (s.1,a,b,ka,())) (A3 (s.1,a,b,A4 (g>=1073741824),()))).bind λh=>cond h.2.2.2.1 (A3 (.inr (B6 (kc,())))) (A3 (.inl (h.1,h.2.1,zN .i64 (h.2.2.1+1),())))) (A3 (.inr (B7 ())))) s.2.1 s.2.2.1
def HK(x:LI):Option Bool:=(Al UC (x,(x.length:Int),0,())).bind λg=>match g with |.inl f=>A3 true |.inr h=>A3 h.1
def ZK:rZ:=⟨[.v QL],[.v .bool],HK⟩
def c8w:rY:=Qh [.sv 5 QL,6,7,Qb 2,Qb 16] [[26,7,2,0,1,8]] [[1689,0,23]] []
def BD(x:Int×LI):Option (Int×LI):=(Ax x.2 (zN .i64 ((x.2.length:Int)-x.1))).bind λh=>A3 (h,x.2)
def jM:rZ:=⟨[.v QI,.r kc (.b QL)],[.v QI],BD⟩
def NK(x:LI×Int):Option Int:=cond (x.2==1) ((BD (1,x.1)).bind λd=>A3 d.1) (cond (x.2==2) ((BD (1,x.1)).bind λg=>(BD (2,g.2)).bind λe=>A3 (zN .i64 ((zN .i64 (2*g.1))-e.1))) (cond (x.2==3) ((BD (1,x.1)).bind λf=>(BD (2,f.2)).bind λk=>(BD (3,k.2)).bind λi=>A3 (zN .i64 ((zN .i64 ((zN .i64 (3*f.1))-(zN .i64 (3*k.1))))+i.1))) (cond (x.2==4) ((BD (1,x.1)).bind λa=>(BD (2,a.2)).bind λb=>(BD (3,b.2)).bind λc=>(BD (4,c.2)).bind λh=>A3 (zN .i64 ((zN .i64 ((zN .i64 ((zN .i64 (4*a.1))-(zN .i64 (6*b.1))))+(zN .i64 (4*c.1))))-h.1))) (A3 0))))
def a0N:rZ:=⟨[.v QL,.v QI],[.v QI],NK⟩
def Lj(s:b2c):QO b2c b4L:=(λ(a b:Int)(c:LI)=>cond (A4 (b<a)) ((Ax s.2.1 b).bind λh=>(NK (c,s.1)).bind λg=>(HK [zN .i64 (h+g)]).bind λf=>cond (!f) (A3 (.inr (B6 (6,[],())))) (cond (BM ((A8 c)+1)) (A3 (.inl (s.1,s.2.1,a,zN .i64 (b+1),A9 c [zN .i64 (h+g)],()))) A6)) (A3 (.inr (B7 (c,()))))) s.2.2.1 s.2.2.2.1 s.2.2.2.2.1
def Ph(x:c1S):Option (LI×Int):=(show Option c2p from cond (A4 (x.2.2<0)) (A3 (x.1,x.2.1,x.2.2,ka,())) (cond (A4 (x.2.2 > 4)) (A3 (x.1,x.2.1,x.2.2,ka,())) (A3 (x.1,x.2.1,x.2.2,(x.1.length:Int) != x.2.2,())))).bind λh=>cond h.2.2.2.1 (A3 ([],1)) ((show Option c2p from(HK h.1).bind λb=>cond (!b) (A3 (h.1,h.2.1,h.2.2.1,ka,())) ((HK h.2.1).bind λc=>A3 (h.1,h.2.1,h.2.2.1,!c,()))).bind λg=>cond g.2.2.2.1 (A3 ([],6)) (cond (BM (A8 g.1)) ((Al Lj (g.2.2.1,g.2.1,(g.2.1.length:Int),0,g.1,())).bind λa=>match a with |.inl k=>A3 (k.1,0) |.inr f=>A3 (f.2.1,f.1)) A6))
def a4a:rZ:=⟨[.v QL,.v QL,.v QI],[.o QI,.v QI],Ph⟩
def c8x:rY:=Qh [7,.own 6 6 QI,.sv 0 QL,.sv 1 QL,2,.sv 34 QL,35,36,.own 8 8 QI,Qb 23,Qb 31] [[250,496,2,256,1,3]] [[6,0,540],[14,0,1052]] []
def KM(x:Int):Option Bool:=cond (A4 (x>=(-1073741824))) (A3 (A4 (x<1073741824))) (A3 kc)
def XH:rZ:=⟨[.v QI],[.v .bool],KM⟩
def EU(s:Ia):Option b9r:=cond (A4 (s.2.2.1<s.2.1)) ((Ax s.1 s.2.2.1).bind λh=>(KM h).bind λg=>cond (!g) (A3 (.inr (B6 (kc,())))) (A3 (.inl (s.1,s.2.1,zN .i64 (s.2.2.1+1),())))) (A3 (.inr (B7 ())))
def Hn(x:LI):Option Bool:=(Al EU (x,(x.length:Int),0,())).bind λg=>match g with |.inl f=>A3 true |.inr h=>A3 h.1
def Ns:rZ:=⟨[.v QL],[.v .bool],Hn⟩
def c8y:rY:=Qh [.sv 5 QL,6,7,Qb 2] [[26,7,2,0,1,8]] [] []
def EV(s:LI×b7H):QO (LI×b7H) (Int×Int×Unit):=(λ(a:LI)(b c:Int)(d:LI)(e f:Int)=>cond (A4 (f<e)) ((Ax d f).bind λh=>cond (A4 (zN .i64 ((zN .i64 ((a.length:Int)-1))-f)<0)) (A3 (.inr (b,c,()))) ((Ax a (zN .i64 ((zN .i64 ((a.length:Int)-1))-f))).bind λg=>A3 (.inl (a,b,zN .i64 (c+(zN .i64 (h*g))),d,e,zN .i64 (f+1),())))) (A3 (.inr (b,c,())))) s.1 s.2.1 s.2.2.1 s.2.2.2.1 s.2.2.2.2.1 s.2.2.2.2.2.1
def JV(x:c1S):Option Int:=(Al EV (x.1,x.2.2,0,x.2.1,(x.2.1.length:Int),0,())).bind λh=>cond (A4 (h.1<0)) A6 (A3 (AR .i64 h.2.1 h.1))
def SD:rZ:=⟨[.v QL,.v QL,.v QI],[.v QI],JV⟩
def c8z:rY:=Qh [.sv 0 QL,2,7,.sv 11 QL,12,13] [[58,63,2,6]] [] []
def JW(s:LI×b2c):QO (LI×b2c) b4L:=(λ(a:LI)(b c:Int)(d:LI)=>cond (A4 (c<b)) ((Ax a c).bind λh=>(JV (d,s.1,s.2.1)).bind λg=>(KM (zN .i64 (g+h))).bind λf=>cond (!f) (A3 (.inr (B6 (6,[],())))) (cond (BM ((A8 d)+1)) (A3 (.inl (s.1,s.2.1,a,b,zN .i64 (c+1),A9 d [zN .i64 (g+h)],()))) A6)) (A3 (.inr (B7 (d,()))))) s.2.2.1 s.2.2.2.1 s.2.2.2.2.1 s.2.2.2.2.2.1
def KN(x:LI×c1S):Option (LI×Int):=(show Option c6Z from(JS (x.2.2.1,x.2.2.2)).bind λb=>cond (!b) (A3 (x.1,x.2.1,x.2.2.1,x.2.2.2,ka,())) (A3 (x.1,x.2.1,x.2.2.1,x.2.2.2,(x.1.length:Int) != (x.2.2.1.length:Int),()))).bind λh=>cond h.2.2.2.2.1 (A3 ([],1)) ((show Option c6Z from(Hn h.1).bind λc=>cond (!c) (A3 (h.1,h.2.1,h.2.2.1,h.2.2.2.1,ka,())) ((Hn h.2.1).bind λd=>A3 (h.1,h.2.1,h.2.2.1,h.2.2.2.1,!d,()))).bind λg=>cond g.2.2.2.2.1 (A3 ([],6)) (cond (A4 (0<=(zN .i64 ((g.1.length:Int)+(g.2.1.length:Int))))&&BM (A7 (zN .i64 ((g.1.length:Int)+(g.2.1.length:Int))))) (cond (BM (0+(A8 g.1))) ((Al JW (g.2.2.1,g.2.2.2.1,g.2.1,(g.2.1.length:Int),0,A9 [] g.1,())).bind λa=>match a with |.inl k=>A3 (k.1,0) |.inr f=>A3 (f.2.1,f.1)) A6) A6))
def a0O:rZ:=⟨[.v QL,.v QL,.v QL,.v QI],[.o QI,.v QI],KN⟩
def c8A:rY:=Qh [9,.own 8 8 QI,.sv 0 QL,.sv 1 QL,.sv 2 QL,3,.sv 42 QL,43,44,.own 10 10 QI,Qb 24,Qb 32] [[506,1008,2,512,1,3]] [[6,0,1084],[14,0,2108]] []
def Oo(x:Int):Option Bool:=cond (A4 (x>=(-1073741824))) (A3 (A4 (x<1073741824))) (A3 kc)
def gN:rZ:=⟨[.v QI],[.v .bool],Oo⟩
def Gr(s:Ia):Option b9r:=cond (A4 (s.2.2.1<s.2.1)) ((Ax s.1 s.2.2.1).bind λh=>(Oo h).bind λg=>cond (!g) (A3 (.inr (B6 (kc,())))) (A3 (.inl (s.1,s.2.1,zN .i64 (s.2.2.1+1),())))) (A3 (.inr (B7 ())))
def Mt(x:LI):Option Bool:=(Al Gr (x,(x.length:Int),0,())).bind λg=>match g with |.inl f=>A3 true |.inr h=>A3 h.1
def Qi:rZ:=⟨[.v QL],[.v .bool],Mt⟩
def c8B:rY:=Qh [.sv 5 QL,6,7,Qb 2] [[26,7,2,0,1,8]] [] []
def Gs(s:LI×Int×Int×b9p):QO (LI×Int×Int×b9p) (Int×Unit):=(λ(a b c:Int)(d:LI)(e:Int)=>cond (A4 (e<3)) ((Ax d e).bind λh=>cond (A4 ((zN .i64 ((zN .i64 ((zN .i64 (a-b))-1))+e))>=0)) ((Ax s.1 (zN .i64 ((zN .i64 ((zN .i64 (a-b))-1))+e))).bind λg=>A3 (.inl (s.1,a,b,zN .i64 (c+(zN .i64 (h*g))),d,zN .i64 (e+1),()))) (A3 (.inl (s.1,a,b,c,d,zN .i64 (e+1),())))) (A3 (.inr (c,())))) s.2.1 s.2.2.1 s.2.2.2.1 s.2.2.2.2.1 s.2.2.2.2.2.1
def Jl(x:LI×Z3):Option Int:=(Al Gs (x.1,x.2.1,x.2.2.1,0,x.2.2.2,0,())).bind λh=>A3 (AR .i64 h.1 6)
def VK:rZ:=⟨[.v QL,.v QI,.v QI,.v (.arr 3 QI)],[.v QI],Jl⟩
def c8C:rY:=Qh [.sv 0 QL,1,2,9,.sv 13 (.arr 3 QI),14] [[58,63,2,8]] [] []
def Mu(s:Int×c6X):QO (Int×c6X) b4L:=(λ(a b:Int)(c d:LI)=>cond (A4 (b<a)) ((Ax s.2.1 b).bind λh=>(Jl (c,b,s.1,d)).bind λg=>(Oo (zN .i64 (h+g))).bind λf=>cond (!f) (A3 (.inr (B6 (6,[],())))) (cond (BM ((A8 c)+1)) (A3 (.inl (s.1,s.2.1,a,zN .i64 (b+1),A9 c [zN .i64 (h+g)],d,()))) A6)) (A3 (.inr (B7 (c,()))))) s.2.2.1 s.2.2.2.1 s.2.2.2.2.1 s.2.2.2.2.2.1
def Ro(x:LI×Int×LI):Option (LI×Int):=(Qf (x.2.1,x.2.2)).bind λk=>cond (!k) (A3 ([],1)) ((Mt x.1).bind λa=>cond (!a) (A3 ([],6)) (cond (A4 (0<=(x.1.length:Int))&&BM (A7 (x.1.length:Int))) ((Al Mu (x.2.1,x.1,(x.1.length:Int),0,[],x.2.2,())).bind λf=>match f with |.inl g=>A3 (g.1,0) |.inr h=>A3 (h.2.1,h.1)) A6))
def a5X:rZ:=⟨[.v QL,.v QI,.v (.arr 3 QI)],[.o QI,.v QI],Ro⟩
def c8D:rY:=Qh [1,.sv 22 QL,23,24,.own 8 8 QI,.vp 5 (.arr 3 QI),7,.own 6 6 QI] [[250,63,2,16,1,192]] [] []
def Mv(x:Int):Option Bool:=cond (A4 (x>=(-1073741824))) (A3 (A4 (x<1073741824))) (A3 kc)
def TG:rZ:=⟨[.v QI],[.v .bool],Mv⟩
def Fz(s:Ia):Option b9r:=cond (A4 (s.2.2.1<s.2.1)) ((Ax s.1 s.2.2.1).bind λh=>(Mv h).bind λg=>cond (!g) (A3 (.inr (B6 (kc,())))) (A3 (.inl (s.1,s.2.1,zN .i64 (s.2.2.1+1),())))) (A3 (.inr (B7 ())))
def Ll(x:LI):Option Bool:=(Al Fz (x,(x.length:Int),0,())).bind λg=>match g with |.inl f=>A3 true |.inr h=>A3 h.1
def ON:rZ:=⟨[.v QL],[.v .bool],Ll⟩
def c8E:rY:=Qh [.sv 5 QL,6,7,Qb 2] [[26,7,2,0,1,8]] [] []
def Rp(x:Int×Int×Unit):Option c6O:=(KL x).bind λh=>cond (!h) A6 (cond (A4 (0<=x.1)&&(A4 (x.1<=x.1)&&BM (A7 x.1))) (cond (A4 (0<=x.1)&&(A4 (x.1<=x.1)&&BM (A7 x.1))) (A3 ((x.2.1,B4 (A7 x.1) 0,B4 (A7 x.1) 0,()),0)) A6) A6)
def VL:rZ:=⟨[.v Q5],[.b b2l,.v QI],Rp⟩
def c8F:rY:=Qh [] [] [] [(3,Qg 12 37529692733440 [])]
def Ie(x:Int):Option Int:=kd (OH (Fk x (-1073741824)) 1073741823)
def jN:rZ:=⟨[.v QI],[.v QI],Ie⟩
def Ez(s:c2v):QO c2v c6U:=(λ(a:Int)(b:b4K)=>cond (A4 (a<s.2.1)) (cond (A4 (0<=a)&&A4 (a<(b.2.1.length:Int))) (cond (A4 (0<=a)&&A4 (a<(b.2.2.1.length:Int))) (A3 (.inl (zN .i64 (s.1+(zN .i64 ((B3 b.2.1 (A7 a) 0)*(B3 b.2.2.1 (A7 a) 0)))),s.2.1,zN .i64 (a+1),b,()))) A6) A6) (A3 (.inr (s.1,b,())))) s.2.2.1 s.2.2.2.1
def Ei(x:b4K):Option c7n:=(Al Ez (0,(x.2.1.length:Int),0,x,())).bind λh=>(Ie (AR .i64 h.1 16)).bind λg=>A3 (g,h.2.1)
def Jm:rZ:=⟨[.r kc (.b b2l)],[.v QI],Ei⟩
def c8G:rY:=Qh [3,10,11,.box pinned b2l,Qp 0 pinned,.ref 9 pinned [.snd,.fst]] [[58,63,2,9]] [] []
def DC(s:Int×c2v):QO (Int×c2v) c6U:=(λ(a b c d:Int)(e:b4K)=>cond (A4 (d<c)) (cond (A4 (0<=d)&&A4 (d<(e.2.2.1.length:Int))) (cond (A4 (0<=d)&&A4 (d<(e.2.1.length:Int))) ((show Option (Int×Int×Int×c2v)from cond (A4 ((B3 e.2.2.1 (A7 d) 0) > 0)) (A3 (a,b,d,zN .i64 ((B3 e.2.1 (A7 d) 0)+b),c,d,e,())) (cond (A4 (B3 e.2.2.1 (A7 d) 0<0)) (A3 (a,b,d,zN .i64 ((B3 e.2.1 (A7 d) 0)-b),c,d,e,())) (A3 (a,b,d,B3 e.2.1 (A7 d) 0,c,d,e,())))).bind λh=>cond (A4 (0<=h.2.2.1)&&A4 (h.2.2.1<(h.2.2.2.2.2.2.1.2.1.length:Int))) (A3 (.inl (h.1,h.2.1,h.2.2.2.2.1,zN .i64 (h.2.2.2.2.2.1+1),(h.2.2.2.2.2.2.1.1,C1 h.2.2.2.2.2.2.1.2.1 (A7 h.2.2.1) (OH (Fk h.2.2.2.1 (-1048576)) 1048576),h.2.2.2.2.2.2.1.2.2),()))) A6) A6) A6) (A3 (.inr (a,e,())))) s.1 s.2.1 s.2.2.1 s.2.2.2.1 s.2.2.2.2.1
def GZ(x:c6O):Option b4K:=(Ie x.2).bind λf=>(show Option c7c from(Ei x.1).bind λg=>cond (A4 (f > g.1)) (cond (A4 (g.2.1<0)) A6 (A3 (f,AO .i64 1 g.2.1,g.2,()))) (cond (A4 (f<g.1)) (cond (A4 (g.2.1<0)) A6 (A3 (f,zN .i64 (0-(AO .i64 1 g.2.1)),g.2,()))) (A3 (f,0,g.2,())))).bind λk=>(Al DC (k.1,k.2.1,(k.2.2.1.2.2.1.length:Int),0,k.2.2.1,())).bind λh=>cond (A4 (1<=(h.2.1.2.2.1.length:Int))) (cond (A4 (0<(A8 (Zk h.2.1.2.2.1 1 ((A8 h.2.1.2.2.1)-1) h.2.1.2.2.1):Int))) (A3 (h.2.1.1,h.2.1.2.1,C1 (Zk h.2.1.2.2.1 1 ((A8 h.2.1.2.2.1)-1) h.2.1.2.2.1) 0 h.1,h.2.1.2.2.2)) A6) A6
def Ks:rZ:=⟨[.r kc (.b b2l),.v QI],[],GZ⟩
def c8H:rY:=Qh [1,4,6,8,36,37,.box pinned b2l,Qp 0 pinned,.ref 35 pinned [.snd,.snd,.fst]] [[122,499,3,193]] [[7,0,195],[15667,0,511]] [(17,Qg 10 142055903539 [])]
def Ig(s:Int×Int×LI×c7e):QO (Int×Int×LI×c7e) (b7G ⊕ b7G):=(λ(a:Int)(b:LI)(c:Int)(d:LI)=>cond (A4 (a<s.1)) (cond (A4 (0<=a)&&A4 (a<(d.length:Int))) ((Ei s.2.2.2.2.2.1).bind λh=>(Mv (zN .i64 (h.1+(B3 d (A7 a) 0)))).bind λg=>cond (!g) (A3 (.inr (B6 ([],6,d,())))) ((GZ (h.2,zN .i64 (h.1+(B3 d (A7 a) 0)))).bind λf=>cond (A4 (0<=a)&&A4 (a<(d.length:Int))) (A3 (.inl (s.1,zN .i64 (a+1),b,c,C1 d (A7 a) (zN .i64 (h.1+(B3 d (A7 a) 0))),f,()))) A6)) A6) (A3 (.inr (B7 (b,c,d,()))))) s.2.1 s.2.2.1 s.2.2.2.1 s.2.2.2.2.1
def Lm(k:Int)(v:(Int×Int×Unit))(s:(Z5×b7G)):Option ((Z5×b7G) ⊕ (Ex×Z5×b7G)):=(Rp v).bind λf=>cond (f.2 != 0) (A3 (.inr (.ret,s.1,[],f.2,s.2.2.2.1,()))) ((Al Ig ((s.2.2.2.1.length:Int),0,s.2.1,s.2.2.1,s.2.2.2.1,f.1,())).bind λa=>match a with |.inl h=>A3 (.inl (s.1,h.1,h.2.1,h.2.2.1,())) |.inr g=>A3 (.inr (.ret,s.1,g.1,g.2.1,g.2.2.1,())))
def Pi(x:LI×Z5):Option (LI×Int):=(Ol x.2).bind λf=>cond (!f) (A3 ([],1)) ((Ll x.1).bind λk=>cond (!k) (A3 ([],6)) ((CO x.1).bind λa=>cond (BM (A8 x.2)) ((PY Lm x.2 (A8 x.2) (x.2,[],0,a,())).bind λg=>match g with |.inl h=>A3 (h.2.2.2.1,0) |.inr (.normal,a14)=>A3 (a14.2.2.2.1,0) |.inr (.exit e15,a14)=>(cond (e15==0) (A3 (a14.2.2.2.1,0)) A6) |.inr (.ret,a14)=>A3 (a14.2.1,a14.2.2.1)) A6))
def Pj:rZ:=⟨[.v QL,.v (.list kc Q5)],[.v QL,.v QI],Pi⟩
def c8I:rY:=Qh [35,36,.box 1001004 QL,.box 1001005 QI,.box 1001006 (.list ka QI),.box 1028 b2l,Qp 4 1001004,Qp 5 1001005,Qp 6 1001006,Qp 9 1028,.ref 34 1001006 []] [[8046,2047,4,476,1,476]] [] []
def b9t:Cx:=FM [(128,Bk),(234,VJ),(258,ON),(260,VL),(261,Jm),(262,TG),(263,Ks)] [(6,.list ka QI)] 15875 72057594037927936
def c2E:vC:=⟨22,Q5,259,290,[4,5,6],[.sv 22 (.list kc Q5),.box 1001004 QL,.box 1001005 QI,.box 1001006 (.list ka QI),.ptr 4 1001004 [],.ptr 5 1001005 [],.ptr 6 1001006 []]⟩
theorem c2F(x):b0C b9t c8I c2E Tryz.f197 Pj.ps Pj.rs x=Pj.F x:=by kernel_rfl
def KO(x:Int):Option Bool:=cond (A4 ((-1073741824)<=x)) (A3 (A4 (x<1073741824))) (A3 kc)
def XI:rZ:=⟨[.v QI],[.v .bool],KO⟩
def Mw(s:b2c):QO b2c b4L:=(λ(a:Int)(b:LI)(c d:Int)(e:LI)=>cond (A4 (d<c)) ((Ax b d).bind λg=>(show Option (Int×Int×LI×Int×Int×Z9)from(KO g).bind λf=>cond (!f) (A3 (a,g,b,c,d,ka,e,())) (cond (A4 (a<0)) A6 ((KO (AO .i64 g a)).bind λk=>A3 (a,g,b,c,d,!k,e,())))).bind λh=>cond h.2.2.2.2.2.1 (A3 (.inr (B6 (6,[],())))) (cond (A4 (h.1<0)) A6 (cond (BM ((A8 h.2.2.2.2.2.2.1)+1)) (A3 (.inl (h.1,h.2.2.1,h.2.2.2.1,zN .i64 (h.2.2.2.2.1+1),A9 h.2.2.2.2.2.2.1 [AO .i64 h.2.1 h.1],()))) A6))) (A3 (.inr (B7 (e,()))))) s.1 s.2.1 s.2.2.1 s.2.2.2.1 s.2.2.2.2.1
def Oq(x:LI×Int):Option (LI×Int):=(show Option c2k from cond (A4 (x.2<0)) (A3 (x.1,x.2,ka,())) (A3 (x.1,x.2,A4 (x.2 > 30),()))).bind λh=>cond h.2.2.1 (A3 ([],1)) ((Al Mw (h.2.1,h.1,(h.1.length:Int),0,[],())).bind λk=>match k with |.inl f=>A3 (f.1,0) |.inr g=>A3 (g.2.1,g.1))
def a5Y:rZ:=⟨[.v QL,.v QI],[.o QI,.v QI],Oq⟩
def c8J:rY:=Qh [5,.own 4 4 QI,.sv 0 QL,1,Qb 14,8,.sv 15 QL,16,17,Qb 30,.own 6 6 QI] [[122,1480,2,1024,1,3]] [[6,0,28],[15666,0,2024]] []
def KP(s:b7Q):QO b7Q (LI×Unit):=cond (A4 (s.2.1<s.1)) ((Ax s.2.2.2.1.2.2.2.2.2.2.2.2.1 0).bind λh=>cond (BM ((A8 s.2.2.1)+1)) (A3 (.inl (s.1,zN .i64 (s.2.1+1),A9 s.2.2.1 [h],s.2.2.2.1,()))) A6) (A3 (.inr (s.2.2.1,())))
def TH(x:jJ):Option (LI×Int):=(show Option ((LI×Int×a9g) ⊕ Z4)from cond (x.1.1==0) ((Al KP (x.2,0,[],x.1,())).bind λe=>A3 (B6 (0,e.1,()))) (cond (x.1.1==1) (A3 (B7 (x.1.2.2.2.2.2.2.2.2.1,0,x.1,()))) (cond (x.1.1==2) ((Ph (x.1.2.2.2.2.2.2.2.2.1,x.1.2.2.2.2.2.2.2.2.2.2.1,x.1.2.2.1)).bind λa=>A3 (B7 (a.1,a.2,x.1,()))) (cond (x.1.1==3) ((KN (x.1.2.2.2.2.2.2.2.2.1,x.1.2.2.2.2.2.2.2.2.2.2.1,x.1.2.2.2.2.2.1,x.1.2.2.2.1)).bind λb=>A3 (B7 (b.1,b.2,x.1,()))) (cond (x.1.1==4) ((KN (x.1.2.2.2.2.2.2.2.2.1,x.1.2.2.2.2.2.2.2.2.2.2.1,x.1.2.2.2.2.2.1,x.1.2.2.2.1)).bind λk=>cond (k.2==0) ((Ro (k.1,x.1.2.2.2.2.1,x.1.2.2.2.2.2.2.1)).bind λc=>A3 (B7 (c.1,c.2,x.1,()))) (A3 (B7 (k.1,k.2,x.1,())))) (cond (x.1.1==5) ((Pi (x.1.2.2.2.2.2.2.2.2.2.2.1,x.1.2.2.2.2.2.2.2.1)).bind λd=>A3 (B7 (d.1,d.2,x.1,()))) (A3 (B7 ([],0,x.1,()))))))))).bind λi=>match i with |.inl f=>(cond (f.2.1 != 0) (A3 ([],f.2.1)) ((Oq (f.1,f.2.2.1.2.1)).bind λg=>A3 (g.1,g.2))) |.inr h=>A3 (h.2.1,h.1)
def a9i:rZ:=⟨[.v Ib,.v QI],[.o QI,.v QI],TH⟩
def c8K:rY:=Qh [12,13,.own 6 6 QI,.sv 6 QL,7,.vp 2 Ib,5,.own 4 6 QI] [[3922,39,3,4]] [[15,0,56,1,192]] []
def SE(x:jJ):Option (LI×Int):=(Pg (x.1,x.2)).bind λg=>cond (!g) (A3 ([],1)) ((TH (x.1,x.2)).bind λh=>cond (h.2 != 0) (A3 ([],1)) (A3 (h.1,0)))
def b2m:rZ:=⟨[.v Ib,.v QI],[.o QI,.v QI],SE⟩
def Ot(x:Int):Option Bool:=cond (A4 ((-1073741824)<=x)) (A3 (A4 (x<1073741824))) (A3 kc)
def a5Z:rZ:=⟨[.v QI],[.v .bool],Ot⟩
def Ho(s:(List LI)×(List LI)×b7H):QO ((List LI)×(List LI)×b7H) (((List LI)×(List LI)×Int×Int×Unit) ⊕ (Bool×Unit)):=(λ(a b:Int)(c:LI)(d e:Int)=>cond (A4 (e<d)) ((Ax c e).bind λh=>(Ot h).bind λg=>cond (!g) (A3 (.inr (B6 (kc,())))) (A3 (.inl (s.1,s.2.1,a,b,c,d,zN .i64 (e+1),())))) (A3 (.inr (B7 (s.1,s.2.1,a,b,()))))) s.2.2.1 s.2.2.2.1 s.2.2.2.2.1 s.2.2.2.2.2.1 s.2.2.2.2.2.2.1
def Hp(s:(List LI)×(List LI)×Int×Int×Unit):QO ((List LI)×(List LI)×Int×Int×Unit) Z0:=(λ(a b:Int)=>cond (A4 (b<a)) ((Ax s.2.1 b).bind λg=>(Ax s.1 0).bind λc=>cond ((g.length:Int) != (c.length:Int)) (A3 (.inr (B6 (kc,())))) ((Al Ho (s.1,s.2.1,a,b,g,(g.length:Int),0,())).bind λk=>match k with |.inl h=>A3 (.inl (h.1,h.2.1,h.2.2.1,zN .i64 (h.2.2.2.1+1),())) |.inr f=>A3 (.inr (B6 (f.1,()))))) (A3 (.inr (B7 ())))) s.2.2.1 s.2.2.2.1
def Rq(x:List LI):Option Bool:=(show Option ((List LI)×Bool×Unit)from cond (A4 ((x.length:Int)<1)) (A3 (x,ka,())) (cond (A4 ((x.length:Int) > 8)) (A3 (x,ka,())) ((Ax x 0).bind λa=>A3 (x,A4 ((a.length:Int) > 4096),())))).bind λh=>cond h.2.1 (A3 kc) ((Al Hp (h.1,h.1,(h.1.length:Int),0,())).bind λf=>match f with |.inl k=>A3 true |.inr g=>A3 g.1)
def Rr:rZ:=⟨[.v (.list kc QL)],[.v .bool],Rq⟩
def c8L:rY:=Qh [.sv 0 (.list kc QL),.sv 22 (.list kc QL),23,24,.sv 35 QL,36,37,Qb 2,Qb 21] [[58,15,2,0,1,128],[29902,127,4,15,1,128]] [[6,0,257]] []
def JX(s:(List LI)×c2l):QO ((List LI)×c2l) Z2:=cond (A4 (s.2.2.1<s.2.1)) ((Ax s.1 s.2.2.1).bind λg=>(CO g).bind λh=>cond (BM ((A8 s.2.2.2.1)+(A8 (C1 ([[]]:List LI) 0 h)))) (A3 (.inl (s.1,s.2.1,zN .i64 (s.2.2.1+1),A9 s.2.2.2.1 (C1 ([[]]:List LI) 0 h),()))) A6) (A3 (.inr (s.2.2.2.1,())))
def NL(x:List LI):Option (List LI):=(Al JX (x,(x.length:Int),0,([]:(List LI)),())).bind λh=>A3 h.1
def Sd:rZ:=⟨[.v (.list kc QL)],[.o (.list ka QI)],NL⟩
def c8M:rY:=Qh [.sv 6 (.list kc QL),7,8,.own 3 3 (.list ka QI)] [[58,15,2,8]] [] []
def Gb(s:Int×Int×Int×(List LI)×Z8×Int×Unit):QO (Int×Int×Int×(List LI)×Z8×Int×Unit) (Z2 ⊕ (Bool×Z2)):=(λ(a:Int)(b:List LI)(c:Z8)(d:Int)=>cond (A4 (a<s.2.1)) (cond (A4 (0<=a)&&A4 (a<((A8 (B3 b (A7 d) []):Nat):Int))) (cond (A4 (0<=c.2.1)&&A4 (c.2.1<(b.length:Int))) (cond (A4 (0<=a)&&A4 (a<((A8 (B3 b (A7 c.2.1) []):Nat):Int))) ((Ot (zN .i64 ((B3 (B3 b (A7 c.2.1) []) (A7 a) 0)+(zN .i64 (s.1*(AR .i64 (zN .i64 (c.2.2.1*(B3 (B3 b (A7 d) []) (A7 a) 0))) 8)))))).bind λh=>cond (!h) (A3 (.inr (B6 (kc,b,())))) (cond (A4 (0<=c.2.1)&&A4 (c.2.1<(b.length:Int))) (cond (A4 (0<=a)&&A4 (a<((A8 (B3 b (A7 c.2.1) []):Nat):Int))) (A3 (.inl (s.1,s.2.1,zN .i64 (a+1),C1 b (A7 c.2.1) (C1 (B3 b (A7 c.2.1) []) (A7 a) (zN .i64 ((B3 (B3 b (A7 c.2.1) []) (A7 a) 0)+(zN .i64 (s.1*(AR .i64 (zN .i64 (c.2.2.1*(B3 (B3 b (A7 d) []) (A7 a) 0))) 8)))))),c,((A7 d:Nat):Int),()))) A6) A6)) A6) A6) A6) (A3 (.inr (B7 (b,()))))) s.2.2.1 s.2.2.2.1 s.2.2.2.2.1 s.2.2.2.2.2.1
def Pk(x:(List LI)×Z8×Int):Option (Bool×(List LI)):=cond (A4 (0<=x.2.1.1)&&A4 (x.2.1.1<(x.1.length:Int))) ((Al Gb (x.2.2,((A8 (B3 x.1 (A7 x.2.1.1) []):Nat):Int),0,x.1,x.2.1,((A7 x.2.1.1:Nat):Int),())).bind λf=>match f with |.inl g=>A3 (ka,g.1) |.inr h=>A3 (h.1,h.2.1)) A6
def TI:rZ:=⟨[.r kc (.o (.list ka QI)),.v FV,.v QI],[.v .bool],Pk⟩
def c8N:rY:=Qh [2,15,16,Qb 6,.own 0 pinned (.list ka QI),.vp 4 FV,.rfi 14 pinned] [[26,119,2,16,1,24]] [] [(4,Qg 17 39199331156918079489 [])]
def Jn(k:Int)(v:Z8)(s:(Zh×c2s)):Option ((Zh×c2s) ⊕ (Ex×Zh×c2s)):=(Pk (s.2.2.2.1,v,(-1))).bind λh=>cond (!h.1) (A3 (.inr (.ret,s.1,([]:(List LI)),6,h.2,()))) (A3 (.inl (s.1,s.2.1,s.2.2.1,h.2,())))
def Rt(x:(List LI)×Zh):Option ((List LI)×Int):=(show Option ((List LI)×Zh×Bool×c1T)from(Rq x.1).bind λk=>cond (!k) (A3 (x.1,x.2,ka,([]:(List LI)),0,())) ((Qc (x.2,(x.1.length:Int))).bind λa=>A3 (x.1,x.2,!a,([]:(List LI)),0,()))).bind λh=>cond h.2.2.1 (A3 (([]:(List LI)),1)) ((NL h.1).bind λb=>cond (BM (A8 h.2.1)) ((PY Jn h.2.1 (A8 h.2.1) (h.2.1,h.2.2.2.1,h.2.2.2.2.1,b,())).bind λf=>match f with |.inl g=>A3 (g.2.2.2.1,0) |.inr (.normal,a8)=>A3 (a8.2.2.2.1,0) |.inr (.exit e9,a8)=>(cond (e9==0) (A3 (a8.2.2.2.1,0)) A6) |.inr (.ret,a8)=>A3 (a8.2.1,a8.2.2.1)) A6)
def Ru:rZ:=⟨[.v (.list kc QL),.v (.list kc FV)],[.v (.list kc QL),.v QI],Rt⟩
def d3B:rY:=Qh [.sv 0 (.list kc QL),.sv 1 (.list kc FV),Qb 18,.box 4 (.list kc QL),.box 5 QI,Qp 4 4,Qp 5 5] [] [[6,0,127]] []
def c2G:Cx:=FM [(106,Rr),(107,YE),(108,Sd),(109,TI)] [(6,.list ka (.list ka QI))] 3 536870912
def d1I:vC:=⟨21,FV,140,199,[4,5,6],[.sv 21 (.list kc FV),.box 1001004 (.list kc QL),.box 1001005 QI,.box 1001006 (.list ka (.list ka QI)),.ptr 4 1001004 [],.ptr 5 1001005 [],.ptr 6 1001006 []]⟩
theorem c8O(x):b0C c2G d3B d1I Tryz.f82 Ru.ps Ru.rs x=Ru.F x:=by kernel_rfl
def Hq(s:a9f×Int×b7Z):QO (a9f×Int×b7Z) (c0R ⊕ c2o):=(λ(a:Int)(b:List LI)(c:jI)(d:FU)=>cond (A4 (a<s.2.1)) ((Ax s.1 a).bind λg=>(SE (g,d.2.1)).bind λh=>cond (h.2 != 0) (A3 (.inr (B6 (1,(0,([]:(List LI)),()),())))) (cond (BM ((A8 b)+1)) (A3 (.inl (s.1,s.2.1,zN .i64 (a+1),A9 b ([h.1]:List LI),c,d,()))) A6)) (A3 (.inr (B7 (b,c,d,()))))) s.2.2.1 s.2.2.2.1 s.2.2.2.2.1 s.2.2.2.2.2.1
def Ed(x:FU):Option (jI×Int):=(show Option (Bool×b7X)from(KJ x).bind λb=>cond (!b) (A3 (ka,(0,([]:(List LI)),()),x,())) (A3 ((x.2.2.2.2.1.length:Int) != x.2.2.1.2.1,(0,([]:(List LI)),()),x,()))).bind λh=>cond h.1 (A3 ((0,([]:(List LI)),()),1)) (cond (A4 (0<=(h.2.2.1.2.2.2.2.1.length:Int))&&BM (A7 (h.2.2.1.2.2.2.2.1.length:Int))) ((Al Hq (h.2.2.1.2.2.2.2.1,(h.2.2.1.2.2.2.2.1.length:Int),0,([]:(List LI)),h.2.1,h.2.2.1,())).bind λa=>match a with |.inl g=>((Rt (g.1,g.2.2.1.2.2.2.1)).bind λf=>cond (f.2 != 0) (A3 ((0,([]:(List LI)),()),1)) ((LN (g.2.2.1.2.2.1.2.2.1,f.1,())).bind λc=>cond (!c) (A3 ((0,([]:(List LI)),()),1)) (A3 ((g.2.2.1.2.2.1.2.2.1,f.1,()),0)))) |.inr k=>A3 (k.2.1,k.1)) A6)
def XJ:rZ:=⟨[.v Ky],[.v Xp,.v QI],Ed⟩
def d3C:rY:=Qh [.sv 30 (.list kc Ib),31,32,.own 4 4 QL,3,Qb 23,.box 2 Xp,.vp 1 Ky,Qp 2 2] [[122,463,2,456,1,336]] [[6,0,480]] []
def Fi(x:FU):Option Bool:=(Ed x).bind λh=>A3 (h.2==0)
def a6a:rZ:=⟨[.v Ky],[.v .bool],Fi⟩
def Mx(s:c1W):QO c1W UX:=(λ(a:Int)(b:LI)(c d e:Int)=>cond (A4 (e<8)) (cond (AR .u16 a 15==1) (A3 (.inl (bits .u16 .xor (AO .u16 a 1) 32773,b,c,d,zN .i64 (e+1),()))) (A3 (.inl (AO .u16 a 1,b,c,d,zN .i64 (e+1),())))) (A3 (.inr (a,b,c,d,())))) s.1 s.2.1 s.2.2.1 s.2.2.2.1 s.2.2.2.2.1
def IK(s:UX):Option c1Z:=(λ(a b:Int)=>cond (A4 (b<a)) ((Ax s.2.1 b).bind λg=>(Al Mx (bits .u16 .xor s.1 (AO .u16 (zN .u16 g) 8),s.2.1,a,b,0,())).bind λh=>A3 (.inl (h.1,h.2.1,h.2.2.1,zN .i64 (h.2.2.2.1+1),()))) (A3 (.inr (s.1,())))) s.2.2.1 s.2.2.2.1
def Jo(x:LI):Option Int:=(Al IK (0,x,(x.length:Int),0,())).bind λh=>A3 h.1
def oI:rZ:=⟨[.v QB],[.v (.int .u16)],Jo⟩
def d3D:rY:=Qh [.sv 3 (.int .u16),.sv 7 QB,8,9,18] [[58,15,2,1],[29902,31,4,15]] [] []
def OO(s:c1W):QO c1W UX:=(λ(a:Int)(b:LI)(c d e:Int)=>cond (A4 (e<8)) (cond (AR .u8 a 7==1) (A3 (.inl (bits .u8 .xor (AO .u8 a 1) 7,b,c,d,zN .i64 (e+1),()))) (A3 (.inl (AO .u8 a 1,b,c,d,zN .i64 (e+1),())))) (A3 (.inr (a,b,c,d,())))) s.1 s.2.1 s.2.2.1 s.2.2.2.1 s.2.2.2.2.1
def Ln(s:UX):Option c1Z:=(λ(a b:Int)=>cond (A4 (b<a)) ((Ax s.2.1 b).bind λg=>(Al OO (bits .u8 .xor s.1 g,s.2.1,a,b,0,())).bind λh=>A3 (.inl (h.1,h.2.1,h.2.2.1,zN .i64 (h.2.2.2.1+1),()))) (A3 (.inr (s.1,())))) s.2.2.1 s.2.2.2.1
def My(x:LI):Option Int:=(Al Ln (0,x,(x.length:Int),0,())).bind λh=>A3 h.1
def a4b:rZ:=⟨[.v QB],[.v QV],My⟩
def c8P:rY:=Qh [.sv 3 QV,.sv 7 QB,8,9,16] [[58,15,2,1],[29902,31,4,15]] [] []
def Fj(x:Int):Option Int:=cond (C0 x 2==0) (A3 (zN .i64 (zN .u64 (B9 x 2)))) (A3 (zN .i64 ((zN .i64 (0-(zN .i64 (zN .u64 (B9 x 2)))))-1)))
def a6b:rZ:=⟨[.v QU],[.v QI],Fj⟩
def De(s:LI×Int×Int×b7Y):QO (LI×Int×Int×b7Y) (LI×b7Y):=(λ(a:Int)(b:FU)(c:Ia)=>cond (A4 (a<s.2.1)) ((AF (c,7)).bind λh=>(AF (h.2,7)).bind λg=>(AF (g.2,2048)).bind λf=>(Fj f.1).bind λk=>cond (BM ((A8 b.2.2.2.1)+1)) (A3 (.inl (s.1,s.2.1,zN .u64 (a+1),(b.1,b.2.1,b.2.2.1,A9 b.2.2.2.1 ([(zN .i64 h.1,zN .i64 g.1,k,())]:List Z8),b.2.2.2.2),f.2,()))) A6) (A3 (.inr (s.1,b,c,())))) s.2.2.1 s.2.2.2.1 s.2.2.2.2.1
def Gc(x:LI):Option (FU×Int×Int×Int):=cond (A4 ((x.length:Int)<2)) (A3 ((0,0,(0,0,0,()),[],[],()),0,0,3)) ((show Option (LI×Bool×Xo)from(Ax x 0).bind λq=>cond (q != 245) (A3 (x,ka,(0,0,(0,0,0,()),[],[],()),())) ((Ax x 1).bind λr=>A3 (x,r != 75,(0,0,(0,0,0,()),[],[],()),()))).bind λk=>cond k.2.1 (A3 ((0,0,(0,0,0,()),[],[],()),0,0,2)) (cond (A4 (2<=(k.1.length:Int))) ((Gq (C2 2 (B8 (A8 k.1) k.1))).bind λu=>(AF (u,4194304)).bind λj=>(AF (j.2,4096)).bind λl=>(AF (l.2,1048576)).bind λm=>(AF (m.2,8)).bind λo=>(AF (o.2,24)).bind λp=>(AF (p.2,16)).bind λa=>(Al De (k.1,a.1,0,(zN .i64 j.1,zN .i64 l.1,(zN .i64 m.1,zN .i64 o.1,zN .i64 p.1,k.2.2.1.2.2.1.2.2.2),k.2.2.1.2.2.2),a.2,())).bind λh=>(AF (h.2.2.1,1048576)).bind λb=>(DS b.2).bind λf=>cond (f.1 != 0) (A3 ((0,0,(0,0,0,()),[],[],()),0,0,f.1)) ((Co f.2).bind λc=>cond (A4 (c.1<1)) (A3 ((0,0,(0,0,0,()),[],[],()),0,0,3)) ((Ey c.2).bind λg=>cond (A4 (0<=(zN .i64 (2+g.1)))&&A4 ((zN .i64 (2+g.1))<=(h.1.length:Int))) ((My (B8 (A7 (zN .i64 (2+g.1))) h.1)).bind λe=>(Ax h.1 (zN .i64 (2+g.1))).bind λd=>cond (e != d) (A3 ((0,0,(0,0,0,()),[],[],()),0,0,5)) ((KJ h.2.1).bind λi=>cond (!i) (A3 ((0,0,(0,0,0,()),[],[],()),0,0,2)) (A3 (h.2.1,zN .i64 ((zN .i64 (2+g.1))+1),zN .i64 b.1,0)))) A6))) A6))
def jO:rZ:=⟨[.v QB],[.v c8a,.v QI,.v QI,.v QI],Gc⟩
def c8Q:rY:=Qh [.sv 0 QB,.sv 54 QU,.sv 55 QU,Qb 25,.box 2 d1H,.box 1029 FX,Qp 2 2,Qp 6 1029] [[8186,247,2,241]] [[14,0,89]] [(25,Qg 9 8589934592 [])]
def Nt(x:LI):Option Ia:=cond (BM (A8 x)) (A3 (x,0,0,())) A6
def a9j:rZ:=⟨[.v QB],[.b FX],Nt⟩
def Nu(x:jJ):Option Bool:=(SE (x.1,x.2)).bind λh=>A3 (h.2==0)
def b2n:rZ:=⟨[.v Ib,.v QI],[.v .bool],Nu⟩
def EA(s:b7H):QO b7H UX:=(λ(a b:Int)(c:LI)(d e:Int)=>cond (b != 0) (cond (A4 (a<32)) ((GK (b,a)).bind λh=>cond (!h) (A3 (.inl (zN .i64 (a+1),b,c,d,e,()))) (A3 (.inr (a,c,d,e,())))) (A3 (.inr (a,c,d,e,())))) (A3 (.inr (a,c,d,e,())))) s.1 s.2.1 s.2.2.1 s.2.2.2.1 s.2.2.2.2.1
def IL(s:UX):Option c1Z:=(λ(a b:Int)=>cond (A4 (b<a)) ((Ax s.2.1 b).bind λg=>(Al EA (s.1,g,s.2.1,a,b,())).bind λh=>A3 (.inl (h.1,h.2.1,h.2.2.1,zN .i64 (h.2.2.2.1+1),()))) (A3 (.inr (s.1,())))) s.2.2.1 s.2.2.2.1
def Cg(x:LI):Option Int:=(Al IL (0,x,(x.length:Int),0,())).bind λh=>A3 h.1
def oJ:rZ:=⟨[.v QL],[.v QI],Cg⟩
def c8R:rY:=Qh [3,5,.sv 6 QL,7,8] [[58,29,2,1],[7474,31,4,29]] [] []
def Ai(x:Ia):Option UX:=kd (x.2.2.1,x)
def ZL:rZ:=⟨[.r kc (.b FX)],[.v QI],Ai⟩
def Cz(x:Ia):Option UX:=kd (zN .i64 ((zN .i64 (8*(x.1.length:Int)))-x.2.1),x)
def YF:rZ:=⟨[.r kc (.b FX)],[.v QI],Cz⟩
def c8S:rY:=Qh [] [] [] [(1,Qg 12 37457265430835 [])]
def Bd(x:a3S):Option UX:=(Ax x.1.1 (zN .i64 (B9 x.2 8))).bind λh=>cond (A4 (zN .i64 (7-(C0 x.2 8))<0)) A6 (A3 (bits .u8 .and (AR .u8 h (zN .i64 (7-(C0 x.2 8)))) 1,x.1))
def YG:rZ:=⟨[.r kc (.b FX),.v QI],[.v QV],Bd⟩
def Gu(s:b7I):QO b7I b4M:=cond (A4 (s.2.2.1<s.2.1)) ((Bd (s.2.2.2.1,s.2.2.2.1.2.1)).bind λh=>A3 (.inl (bits .u64 .or (AO .u64 s.1 1) (zN .u64 h.1),s.2.1,zN .i64 (s.2.2.1+1),(h.2.1,zN .i64 (h.2.2.1+1),h.2.2.2),()))) (A3 (.inr (s.1,s.2.2.2.1,())))
def Ak(x:a3S):Option UX:=cond (x.1.2.2.1 != 0) (A3 (0,x.1)) ((show Option c6W from cond (A4 (x.2<0)) (A3 (x.2,ka,x.1,())) (A3 (x.2,A4 (x.2 > 64),x.1,()))).bind λh=>cond h.2.1 (A3 (0,h.2.2.1.1,h.2.2.1.2.1,1,h.2.2.1.2.2.2)) ((Cz h.2.2.1).bind λg=>cond (A4 (h.1 > g.1)) (A3 (0,g.2.1,g.2.2.1,3,g.2.2.2.2)) ((Al Gu (0,h.1,0,g.2,())).bind λf=>A3 (f.1,f.2.1))))
def ZM:rZ:=⟨[.r kc (.b FX),.v QI],[.v QU],Ak⟩
def c8T:rY:=Qh [.sv 5 QU,27,28,1,Qb 16,.box pinned FX,Qp 0 pinned] [[506,103,2,33]] [[14,0,120]] []
def AG(x:a3S):Option UX:=(Ak (x.1,x.2)).bind λg=>(show Option c2u from cond (g.2.2.2.1 != 0) (A3 (x.2,g.1,ka,g.2,())) (A3 (x.2,g.1,x.2==0,g.2,()))).bind λh=>cond h.2.2.1 (A3 (0,h.2.2.2.1)) (cond (A4 (zN .i64 (64-h.1)<0)) A6 (cond (A4 (zN .i64 (64-h.1)<0)) A6 (A3 (AR .i64 (zN .i64 (AO .u64 h.2.1 (zN .i64 (64-h.1)))) (zN .i64 (64-h.1)),h.2.2.2.1))))
def VM:rZ:=⟨[.r kc (.b FX),.v QI],[.v QI],AG⟩
def c8U:rY:=Qh [1,.sv 5 QU,Qb 17,.box pinned FX] [] [[14,0,15]] []
def DD(s:Int×b2g):QO (Int×b2g) (Int×b2f):=(λ(a:Int)(b:Ia)(c:Jf)=>cond (A4 (a<s.2.1)) ((AG (b,s.1)).bind λh=>cond (BM ((A8 c.2.2.2.2.2.1)+1)) (A3 (.inl (s.1,s.2.1,zN .i64 (a+1),h.2,(c.1,c.2.1,c.2.2.1,c.2.2.2.1,c.2.2.2.2.1,A9 c.2.2.2.2.2.1 [h.1],c.2.2.2.2.2.2),()))) A6) (A3 (.inr (s.1,c,b,())))) s.2.2.1 s.2.2.2.1 s.2.2.2.2.1
def Hr(x:b7R):Option (Bool×b7R):=(Ak (x.1,5)).bind λg=>(Ak (g.2,4)).bind λf=>(Ak (f.2,5)).bind λk=>(Al DD (zN .i64 k.1,zN .i64 ((zN .i64 g.1)+1),0,k.2,(x.2.1,x.2.2.1,x.2.2.2.1,zN .i64 f.1,x.2.2.2.2.2),())).bind λh=>(Cg h.2.1.2.2.2.2.2.1).bind λa=>A3 (a==h.1,h.2.2.1,h.2.1)
def oK:rZ:=⟨[.r kc (.b FX),.r kc (.b b4R)],[.v .bool],Hr⟩
def c8V:rY:=⟨[(250,[6,20,21,.box pinned FX,.box 1000001 b4R,Qp 0 pinned,Qp 1 1000001],[Qe 0 [6,.box 1000001 b4R,.box pinned FX,Qp 1 1000001]])],[],[(6,[.p,.p,.p,.r [26,1000001],.r [27,1000001],.p,.v,.w [30,1030,pinned],.q,.a [31,32,1000001],.x,.x,.x])]⟩
def Ck(s:b2g):QO b2g c0Q:=(λ(a:Int)(b:Ia)(c:Jf)=>cond (A4 (a<3)) ((AG (b,8)).bind λh=>cond (A4 (0<=a)&&A4 (a<3)) (A3 (.inl (s.1,zN .i64 (a+1),h.2,(c.1,c.2.1,c.2.2.1,c.2.2.2.1,c.2.2.2.2.1,c.2.2.2.2.2.1,C1 c.2.2.2.2.2.2.1 (A7 a) h.1,c.2.2.2.2.2.2.2),()))) A6) (A3 (.inr (s.1,b,c,())))) s.2.1 s.2.2.1 s.2.2.2.1
def DU(s:Int×Bool×b2g):QO (Int×Bool×b2g) (Int×Bool×b2f):=(λ(a b:Int)(c:Ia)(d:Jf)=>cond (A4 (b<a)) ((Ak (c,5)).bind λh=>(Ak (h.2,4)).bind λg=>cond (BM ((A8 d.2.2.2.2.2.2.2.1)+1)) (A3 (.inl (s.1,s.2.1,a,zN .u64 (b+1),g.2,(d.1,d.2.1,d.2.2.1,d.2.2.2.1,d.2.2.2.2.1,d.2.2.2.2.2.1,d.2.2.2.2.2.2.1,A9 d.2.2.2.2.2.2.2.1 ([(zN .i64 ((zN .i64 h.1)+1),zN .i64 g.1,())]:List (Int×Int×Unit)),d.2.2.2.2.2.2.2.2),()))) A6) (A3 (.inr (s.1,s.2.1,d,c,())))) s.2.2.1 s.2.2.2.1 s.2.2.2.2.1 s.2.2.2.2.2.1
def Dx(x:Ia):Option (Jf×Int×Bool×Ia):=(Ak (x,3)).bind λh=>(Ak (h.2,5)).bind λd=>(Ak (d.2,5)).bind λg=>(show Option (Int×Bool×b2f)from(show Option (c0Q ⊕ ((Int×Bool×b2f) ⊕ (Int×Bool×c0P)))from cond (zN .i64 h.1==2) ((Ak (g.2,3)).bind λm=>A3 (B6 (B7 (zN .i64 g.1,ka,(zN .i64 h.1,zN .i64 d.1,zN .i64 m.1,0,0,[],B4 3 0,[],[],(0,[],()),[],()),m.2,())))) (cond (zN .i64 h.1==4) ((Ak (g.2,10)).bind λo=>(Al Ck (zN .i64 g.1,0,o.2,(zN .i64 h.1,zN .i64 d.1,0,0,zN .i64 ((zN .i64 o.1)+1),[],B4 3 0,[],[],(0,[],()),[],()),())).bind λl=>A3 (B7 (l.1,l.2.1,l.2.2.1,()))) (cond (zN .i64 h.1==3) (A3 (B7 (zN .i64 g.1,g.2,(zN .i64 h.1,zN .i64 d.1,0,0,0,[],B4 3 0,[],[],(0,[],()),[],()),()))) (cond (zN .i64 h.1==5) (A3 (B6 (B6 (zN .i64 g.1,ka,g.2,(zN .i64 h.1,zN .i64 d.1,0,0,0,[],B4 3 0,[],[],(0,[],()),[],()),())))) (A3 (B6 (B7 (zN .i64 g.1,ka,(zN .i64 h.1,zN .i64 d.1,0,0,0,[],B4 3 0,[],[],(0,[],()),[],()),g.2,())))))))).bind λp=>match p with |.inl i=>((Hr (i.2.1,i.2.2.1)).bind λc=>A3 (i.1,c.1,c.2.2,c.2.1,())) |.inr j=>(match j with |.inl f=>A3 (f.1,f.2.1,f.2.2.1,f.2.2.2.1,()) |.inr k=>((Ak (k.2.2.1,2)).bind λe=>(Al DU (k.1,k.2.1,e.1,0,e.2,k.2.2.2.1,())).bind λa=>A3 (a.1,a.2.1,a.2.2.1,a.2.2.2.1,())))).bind λb=>A3 (b.2.2.1,b.1,b.2.1,b.2.2.2.1)
def a0P:rZ:=⟨[.r kc (.b FX)],[.v (.pair QI (.pair QI (.pair QI (.pair QI (.pair QI (.pair QL (.pair (.arr 3 QI) (.pair (.list kc Q5) c7X)))))))),.v QI,.v .bool],Dx⟩
def c8W:rY:=⟨[(8106,[3,.sv 4 .bool,.sv 50 QU,.sv 51 QU,.box pinned FX,.box 2 b4R,Qp 0 pinned,Qp 2 2],[Qe 7 [3,.sv 4 .bool,.box 2 b4R,.box pinned FX,Qp 2 2]]),(129550,[3,38,.box pinned FX,.box 2 b4R,Qp 0 pinned,Qp 2 2],[Qe 5 [3,.box pinned FX,.box 2 b4R,Qp 0 pinned,Qp 2 2]])],[(63,[Qn [3,.sv 4 .bool,.box 2 b4R,.box pinned FX,Qp 2 2]]),(2024,[Qn [3,.box pinned FX,.box 2 b4R,Qp 0 pinned,Qp 2 2],Qe 0 [3,.sv 4 .bool,.box 2 b4R,.box pinned FX,Qp 2 2],Qe 4 [3,.sv 4 .bool,.box pinned FX,.box 2 b4R,Qp 0 pinned,Qp 2 2]])],[]⟩
def Cl(x:Int):Option Bool:=cond (A4 (0<=x)) (A3 (A4 (x<=25))) (A3 kc)
def eD:rZ:=⟨[.v QI],[.v .bool],Cl⟩
def AX(s:b7I):QO b7I b4M:=(λ(a b:Int)(c:Ia)=>cond (b==zN .i64 (8*(c.1.length:Int))) (A3 (.inr (0,(c.1,c.2.1,3,c.2.2.2),()))) ((Bd (c,b)).bind λh=>cond (h.1==1) (A3 (.inr (a,(h.2.1,zN .i64 (b+1),h.2.2.2),()))) (cond (a==s.1) (A3 (.inr (0,(h.2.1,h.2.2.1,2,h.2.2.2.2),()))) (A3 (.inl (s.1,zN .i64 (a+1),zN .i64 (b+1),h.2,())))))) s.2.1 s.2.2.1 s.2.2.2.1
def BR(x:a3S):Option UX:=cond (x.1.2.2.1 != 0) (A3 (0,x.1)) ((Al AX (Fk x.2 0,0,x.1.2.1,x.1,())).bind λh=>A3 (h.1,h.2.1))
def Xs:rZ:=⟨[.r kc (.b FX),.v QI],[.v QI],BR⟩
def c8X:rY:=Qh [1,5,6,4,.box pinned FX,Qp 0 pinned] [[62,55,1,24]] [] [(4,Qg 6 2101555 [])]
def GP(x:Int):Option Int:=cond (A4 (x>=2147483648)) (A3 0) (cond (C0 x 2==0) (A3 (zN .i64 (zN .u64 (B9 x 2)))) (A3 (zN .i64 ((zN .i64 (0-(zN .i64 (zN .u64 (B9 x 2)))))-1))))
def a0Q:rZ:=⟨[.v QU],[.v QI],GP⟩
def FA(x:a3S):Option b7H:=(BR (x.1,32)).bind λa=>(Ai a.2).bind λf=>cond (f.1 != 0) ((Ai f.2).bind λc=>A3 (0,c.1,c.2)) (cond (A4 (zN .u64 a.1<32)) ((Ak (f.2,x.2)).bind λd=>cond (A4 (x.2<0)) A6 ((GP (zN .u64 ((AO .u64 (zN .u64 a.1) x.2)+d.1))).bind λj=>(Ai d.2).bind λe=>A3 (j,e.1,e.2))) ((Ak (f.2,32)).bind λg=>(Ai g.2).bind λk=>cond (k.1 != 0) ((Ai k.2).bind λi=>A3 (0,i.1,i.2)) ((show Option c6W from cond (A4 (g.1>=2147483648)) (A3 (g.1,ka,k.2,())) (cond (A4 (x.2<0)) A6 (A3 (g.1,A4 (AR .u64 g.1 x.2<32),k.2,())))).bind λh=>cond h.2.1 (A3 (0,2,h.2.2.1)) ((GP h.1).bind λb=>A3 (b,0,h.2.2.1)))))
def a9k:rZ:=⟨[.r kc (.b FX),.v QI],[.v QI,.v QI],FA⟩
def c8Y:rY:=Qh [.sv 8 QU,Qb 44,.box pinned FX] [] [[254,0,7]] []
def BC(s:oF):QO oF (c2t ⊕ c7b):=cond (A4 (s.2.2.1<s.2.1)) ((FA (s.2.2.2.2.1,s.1)).bind λh=>cond (h.2.1 != 0) (A3 (.inr (B6 (h.2.1,[],h.2.2,())))) (cond (BM ((A8 s.2.2.2.1)+1)) (A3 (.inl (s.1,s.2.1,zN .i64 (s.2.2.1+1),A9 s.2.2.2.1 [h.1],h.2.2,()))) A6)) (A3 (.inr (B7 (s.2.2.2.1,s.2.2.2.2.1,()))))
def Jp(x:c1X):Option c1Y:=(show Option c2u from(Cl x.2.1).bind λc=>cond (!c) (A3 (x.2.1,x.2.2,ka,x.1,())) (cond (A4 (x.2.2<0)) (A3 (x.2.1,x.2.2,ka,x.1,())) (A3 (x.2.1,x.2.2,A4 (x.2.2 > 4194304),x.1,())))).bind λh=>cond h.2.2.1 (A3 ([],1,h.2.2.2.1)) ((Ai h.2.2.2.1).bind λf=>cond (f.1 != 0) ((Ai f.2).bind λa=>A3 ([],a.1,a.2)) ((Al BC (h.1,h.2.1,0,[],f.2,())).bind λb=>match b with |.inl k=>A3 (k.1,0,k.2.1) |.inr g=>A3 (g.2.1,g.1,g.2.2.1)))
end Go.Ab
namespace Go.Ab
open IntKind renaming wrap->zN
open Go.Proofs
set_option maxRecDepth 100000
set_option linter.unusedVariables false
def a9l:rZ:=⟨[.r kc (.b FX),.v QI,.v QI],[.o QI,.v QI],Jp⟩
def c8Z:rY:=Qh [1,27,28,.own 8 8 QI,7,.own 6 6 QI,2,Qb 21,.box pinned FX,Qp 0 pinned] [[250,783,2,264,1,304]] [[6,0,961]] []
def FB(s:Int×oF):QO (Int×oF) c7f:=(λ(a b c:Int)(d:LI)(e:Ia)=>cond (A4 (c<b)) ((AG (e,a)).bind λh=>cond (BM ((A8 d)+1)) (A3 (.inl (s.1,a,b,zN .i64 (c+1),A9 d [h.1],h.2,()))) A6) (A3 (.inr (s.1,a,d,e,())))) s.2.1 s.2.2.1 s.2.2.2.1 s.2.2.2.2.1 s.2.2.2.2.2.1
def Dm(x:a3S):Option (Int×c1Y):=(Ak (x.1,5)).bind λh=>(Ai h.2).bind λf=>cond (f.1 != 0) ((Ai f.2).bind λc=>A3 (0,[],c.1,c.2)) (cond (A4 ((zN .i64 h.1)<=25)) ((Jp (f.2,zN .i64 h.1,x.2)).bind λb=>A3 (zN .i64 h.1,b.1,b.2.1,b.2.2)) (cond ((zN .i64 h.1) != 31) (A3 (0,[],2,f.2)) ((Ak (f.2,5)).bind λd=>(Al FB (zN .i64 h.1,zN .i64 d.1,x.2,0,[],d.2,())).bind λg=>(Ai g.2.2.2.1).bind λk=>cond (k.1 != 0) ((Ai k.2).bind λe=>A3 (0,[],e.1,e.2)) ((Cg g.2.2.1).bind λa=>cond (a != g.2.1) (A3 (0,[],2,k.2)) (A3 (g.1,g.2.2.1,0,k.2))))))
def a6c:rZ:=⟨[.r kc (.b FX),.v QI],[.v QI,.o QI,.v QI],Dm⟩
def c9a:rY:=Qh [7,10,37,38,.own 11 11 QI,.box pinned FX,Qp 0 pinned] [[2042,127,2,115]] [] []
def CA(s:Int×b7M):QO (Int×b7M) ((LI×Z4×b7K) ⊕ (Int×LI×b7K)):=(λ(a:Int)(b c:LI)(d:Ia)(e f:Z4)=>cond (A4 (a<s.1)) (cond (A4 (0<=a)&&A4 (a<(c.length:Int))) ((Dm (d,B3 c (A7 a) 0)).bind λh=>cond (h.2.2.1 != 0) (A3 (.inr (B6 (h.2.2.1,[],(0,[],()),h.2.2.2,())))) (cond (BM ((A8 f.2.1)+1)) (cond (BM ((A8 b)+(A8 h.2.1))) (A3 (.inl (s.1,zN .i64 (a+1),A9 b h.2.1,c,h.2.2.2,e,(f.1,A9 f.2.1 [h.1],f.2.2),()))) A6) A6)) A6) (A3 (.inr (B7 (b,e,f,d,()))))) s.2.1 s.2.2.1 s.2.2.2.1 s.2.2.2.2.1 s.2.2.2.2.2.1 s.2.2.2.2.2.2.1
def Jq(x:c1X):Option (Z4×c1Y):=(LO (x.2.1,x.2.2)).bind λd=>cond (!d) (A3 ((0,[],()),[],1,x.1)) ((Ak (x.1,4)).bind λk=>(Ai k.2).bind λg=>cond (g.1 != 0) ((Ai g.2).bind λb=>A3 ((0,[],()),[],b.1,b.2)) ((GO (zN .i64 k.1,x.2.1,x.2.2)).bind λa=>cond ((a.length:Int)==0) (A3 ((0,[],()),[],2,g.2)) ((Al CA ((a.length:Int),0,[],a,g.2,(0,[],()),(zN .i64 k.1,[],()),())).bind λc=>match c with |.inl f=>A3 (f.2.2.1,f.1,0,f.2.2.2.1) |.inr h=>A3 (h.2.2.1,h.2.1,h.1,h.2.2.2.1))))
def a6d:rZ:=⟨[.r kc (.b FX),.v QI,.v QI],[.v cZ,.o QI,.v QI],Jq⟩
def c9b:rY:=⟨[(4090,[43,44,.own 12 12 QI,.own 42 10 QI,.box pinned FX,.box 6 cZ,.box 11 c2x,Qp 0 pinned,Qp 6 6,Qp 11 11],[Qe 0 [.own 12 12 QI,.box 6 cZ,.box 11 c2x,.box pinned FX,Qp 6 6,Qp 11 11],Qr [8,.own 7 7 QI,.box 6 cZ,.box pinned FX,Qp 6 6]])],[],[]⟩
def HL(s:Int×Int×Bool×b8d):QO (Int×Int×Bool×b8d) (Int×Int×Bool×b8c):=(λ(a:Int)(b:Bool)(c d:Int)(e:Ia)(f g:Jf)=>cond (A4 (d<c)) ((AG (e,a)).bind λh=>cond (BM ((A8 g.2.2.2.2.2.2.2.2.1)+1)) (A3 (.inl (s.1,a,b,c,zN .i64 (d+1),h.2,f,(g.1,g.2.1,g.2.2.1,g.2.2.2.1,g.2.2.2.2.1,g.2.2.2.2.2.1,g.2.2.2.2.2.2.1,g.2.2.2.2.2.2.2.1,A9 g.2.2.2.2.2.2.2.2.1 [h.1],g.2.2.2.2.2.2.2.2.2),()))) A6) (A3 (.inr (s.1,a,b,e,f,g,())))) s.2.1 s.2.2.1 s.2.2.2.1 s.2.2.2.2.1 s.2.2.2.2.2.1 s.2.2.2.2.2.2.1 s.2.2.2.2.2.2.2.1
def LP(x:a3S):Option (Jf×UX):=cond (A4 (x.2<1)) (A3 ((0,0,0,0,0,[],B4 3 0,[],[],(0,[],()),[],()),1,x.1)) (cond (A4 (x.2 > 4096)) (A3 ((0,0,0,0,0,[],B4 3 0,[],[],(0,[],()),[],()),1,x.1)) ((Ai x.1).bind λb=>cond (b.1 != 0) (A3 ((0,0,0,0,0,[],B4 3 0,[],[],(0,[],()),[],()),b.1,b.2)) ((Dx b.2).bind λk=>(Ai k.2.2.2).bind λa=>cond (a.1 != 0) (A3 ((0,0,0,0,0,[],B4 3 0,[],[],(0,[],()),[],()),a.1,a.2)) ((PG (k.1.1,k.1,x.2)).bind λl=>cond (!l) (A3 ((0,0,0,0,0,[],B4 3 0,[],[],(0,[],()),[],()),2,a.2)) ((JT (k.1,x.2)).bind λm=>(Al HL (x.2,k.2.1,k.2.2.1,m,0,a.2,(0,0,0,0,0,[],B4 3 0,[],[],(0,[],()),[],()),k.1,())).bind λh=>(Ai h.2.2.2.1).bind λf=>cond (f.1 != 0) (A3 ((0,0,0,0,0,[],B4 3 0,[],[],(0,[],()),[],()),f.1,f.2)) ((JR h.2.2.2.2.2.1.1).bind λc=>cond c ((Jq (f.2,h.1,(h.2.2.2.2.2.1.2.2.2.2.2.2.2.2.1.length:Int))).bind λg=>cond (g.2.2.1 != 0) (A3 ((0,0,0,0,0,[],B4 3 0,[],[],(0,[],()),[],()),g.2.2.1,g.2.2.2)) (cond (!h.2.2.1) (A3 ((0,0,0,0,0,[],B4 3 0,[],[],(0,[],()),[],()),2,g.2.2.2)) ((Cg h.2.2.2.2.2.1.2.2.2.2.2.2.2.2.1).bind λd=>cond (d != h.2.1) (A3 ((0,0,0,0,0,[],B4 3 0,[],[],(0,[],()),[],()),2,g.2.2.2)) ((Nu ((h.2.2.2.2.2.1.1,h.2.2.2.2.2.1.2.1,h.2.2.2.2.2.1.2.2.1,h.2.2.2.2.2.1.2.2.2.1,h.2.2.2.2.2.1.2.2.2.2.1,h.2.2.2.2.2.1.2.2.2.2.2.1,h.2.2.2.2.2.1.2.2.2.2.2.2.1,h.2.2.2.2.2.1.2.2.2.2.2.2.2.1,h.2.2.2.2.2.1.2.2.2.2.2.2.2.2.1,g.1,g.2.1,h.2.2.2.2.2.1.2.2.2.2.2.2.2.2.2.2.2),h.1)).bind λe=>cond (!e) (A3 ((0,0,0,0,0,[],B4 3 0,[],[],(0,[],()),[],()),2,g.2.2.2)) (A3 ((h.2.2.2.2.2.1.1,h.2.2.2.2.2.1.2.1,h.2.2.2.2.2.1.2.2.1,h.2.2.2.2.2.1.2.2.2.1,h.2.2.2.2.2.1.2.2.2.2.1,h.2.2.2.2.2.1.2.2.2.2.2.1,h.2.2.2.2.2.1.2.2.2.2.2.2.1,h.2.2.2.2.2.1.2.2.2.2.2.2.2.1,h.2.2.2.2.2.1.2.2.2.2.2.2.2.2.1,g.1,g.2.1,h.2.2.2.2.2.1.2.2.2.2.2.2.2.2.2.2.2),0,g.2.2.2)))))) (cond (!h.2.2.1) (A3 ((0,0,0,0,0,[],B4 3 0,[],[],(0,[],()),[],()),2,f.2)) ((Cg h.2.2.2.2.2.1.2.2.2.2.2.2.2.2.1).bind λi=>cond (i != h.2.1) (A3 ((0,0,0,0,0,[],B4 3 0,[],[],(0,[],()),[],()),2,f.2)) ((Nu (h.2.2.2.2.2.1,h.1)).bind λj=>cond (!j) (A3 ((0,0,0,0,0,[],B4 3 0,[],[],(0,[],()),[],()),2,f.2)) (A3 (h.2.2.2.2.2.1,0,f.2)))))))))))
def b2o:rZ:=⟨[.r kc (.b FX),.v QI],[.v Ib,.v QI],LP⟩
def c9c:rY:=Qh [1,8,Qb 9,47,48,.box pinned FX,.box 4 Ib,.box 7 (.pair QI (.pair QI (.pair QI (.pair QI (.pair QI (.pair QL (.pair (.arr 3 QI) (.pair (.list kc Q5) (.pair (.list ka QI) c7W))))))))),Qp 0 pinned,Qp 4 4,Qp 7 7] [[1018,2047,2,2023]] [] [(14,Qg 9 9161933687 [[7,50],[7,51],[54,1054,pinned]])]
def Bf(s:c2a):QO c2a (b4M ⊕ b0E):=cond (A4 (s.2.1<s.1)) ((Bd (s.2.2.1,s.2.1)).bind λh=>cond (h.1==1) (A3 (.inr (B6 ((h.2.1,h.2.2.1,2,h.2.2.2.2),())))) (A3 (.inl (s.1,zN .i64 (s.2.1+1),h.2,())))) (A3 (.inr (B7 (s.1,s.2.2.1,()))))
def CS(x:Ia):Option Ia:=cond (x.2.2.1 != 0) (A3 x) ((Al Bf (zN .i64 ((zN .i64 (B9 (zN .i64 (x.2.1+7)) 8))*8),x.2.1,x,())).bind λf=>match f with |.inl h=>A3 (h.2.1.1,h.1,h.2.1.2.2) |.inr g=>A3 g.1)
def Xt:rZ:=⟨[.r kc (.b FX)],[],CS⟩
def c9d:rY:=Qh [2,3,.box pinned FX,Qp 0 pinned] [[58,15,2,13,1,4]] [] []
def CH(s:Int×b8g):QO (Int×b8g) (c0S ⊕ (Int×b7W)):=(λ(a:Int)(b c:FU)(d:Ia)=>cond (A4 (a<s.2.1)) ((LP (d,c.2.1)).bind λh=>cond (h.2.1 != 0) (A3 (.inr (B6 (0,2,(0,0,(0,0,0,()),[],[],()),())))) (cond (BM ((A8 c.2.2.2.2.1)+1)) (A3 (.inl (s.1,s.2.1,zN .i64 (a+1),b,(c.1,c.2.1,c.2.2.1,c.2.2.2.1,A9 c.2.2.2.2.1 ([h.1]:List Jf),c.2.2.2.2.2),h.2.2,()))) A6)) (A3 (.inr (B7 (s.1,b,c,d,()))))) s.2.2.1 s.2.2.2.1 s.2.2.2.2.1 s.2.2.2.2.2.1
def HM(x:LI):Option (FU×Int×Int):=(Gc x).bind λh=>cond (h.2.2.2 != 0) (A3 ((0,0,(0,0,0,()),[],[],()),0,h.2.2.2)) (cond (A4 ((x.length:Int)<zN .i64 ((zN .i64 (h.2.1+h.2.2.1))+2))) (A3 ((0,0,(0,0,0,()),[],[],()),0,3)) (cond (A4 (0<=(zN .i64 (h.2.1+h.2.2.1)))&&A4 ((zN .i64 (h.2.1+h.2.2.1))<=(x.length:Int))) ((Jo (B8 (A7 (zN .i64 (h.2.1+h.2.2.1))) x)).bind λj=>(Ax x (zN .i64 (h.2.1+h.2.2.1))).bind λe=>(Ax x (zN .i64 ((zN .i64 (h.2.1+h.2.2.1))+1))).bind λi=>cond (j != (bits .u16 .or (AO .u16 (zN .u16 e) 8) (zN .u16 i))) (A3 ((0,0,(0,0,0,()),[],[],()),0,5)) (cond (A4 (0<=(zN .i64 (h.2.1+h.2.2.1)))&&A4 ((zN .i64 (h.2.1+h.2.2.1))<=(x.length:Int))) (cond (A4 (0<=h.2.1)&&A4 (h.2.1<=((A7 (zN .i64 (h.2.1+h.2.2.1)):Nat):Int))) ((Nt (C2 (A7 h.2.1) (B8 (A7 (zN .i64 (h.2.1+h.2.2.1))) x))).bind λl=>(Al CH (zN .i64 (h.2.1+h.2.2.1),h.1.2.2.1.2.1,0,(0,0,(0,0,0,()),[],[],()),h.1,l,())).bind λd=>match d with |.inl k=>((Cz k.2.2.2.1).bind λf=>cond (A4 (f.1>=8)) (A3 ((0,0,(0,0,0,()),[],[],()),0,2)) ((CS f.2).bind λa=>(Ai a).bind λb=>cond (b.1 != 0) (A3 ((0,0,(0,0,0,()),[],[],()),0,2)) ((Fi k.2.2.1).bind λc=>cond (!c) (A3 ((0,0,(0,0,0,()),[],[],()),0,2)) (A3 (k.2.2.1,zN .i64 (k.1+2),0))))) |.inr g=>A3 (g.2.2.1,g.1,g.2.1)) A6) A6)) A6))
def a4c:rZ:=⟨[.v QB],[.v Ky,.v QI,.v QI],HM⟩
def d3E:rY:=Qh [9,59,60,3,4,.box 2 Ky,.box 5 c8b,.box 1056 FX,Qp 2 2,Qp 5 5,Qp 10 1056] [[2042,2023,2,2017,1,312]] [] [(7,Qg 18 590295810358705651712 [])]
def JY(x:LI×Ra×Int×Int×Int):Option (FU×jI×Int):=(Ax x.2.1.2.1 x.2.2.1).bind λg=>cond (A4 (zN .i64 ((x.1.length:Int)-x.2.2.2.1)<g)) (A3 ((0,0,(0,0,0,()),[],[],()),(0,([]:(List LI)),()),3)) (cond (A4 (0<=(zN .i64 (x.2.2.2.1+g)))&&A4 ((zN .i64 (x.2.2.2.1+g))<=(x.1.length:Int))) (cond (A4 (0<=x.2.2.2.1)&&A4 (x.2.2.2.1<=((A7 (zN .i64 (x.2.2.2.1+g)):Nat):Int))) ((HM (C2 (A7 x.2.2.2.1) (B8 (A7 (zN .i64 (x.2.2.2.1+g))) x.1))).bind λh=>cond (h.2.2 != 0) (A3 ((0,0,(0,0,0,()),[],[],()),(0,([]:(List LI)),()),h.2.2)) ((show Option (Bool×FU×b7X)from cond (A4 (h.2.1<g)) (A3 (ka,(0,0,(0,0,0,()),[],[],()),(0,([]:(List LI)),()),h.1,())) (cond (!(Xm FV h.1.2.2.1 x.2.1.1)) (A3 (ka,(0,0,(0,0,0,()),[],[],()),(0,([]:(List LI)),()),h.1,())) (cond (h.1.1 != x.2.2.2.2) (A3 (ka,(0,0,(0,0,0,()),[],[],()),(0,([]:(List LI)),()),h.1,())) ((Ax x.2.1.2.2.1 x.2.2.1).bind λa=>A3 (h.1.2.1 != a,(0,0,(0,0,0,()),[],[],()),(0,([]:(List LI)),()),h.1,()))))).bind λk=>cond k.1 (A3 ((0,0,(0,0,0,()),[],[],()),(0,([]:(List LI)),()),2)) ((Ed k.2.2.2.1).bind λf=>cond (f.2 != 0) (A3 ((0,0,(0,0,0,()),[],[],()),(0,([]:(List LI)),()),f.2)) (A3 (k.2.2.2.1,f.1,0))))) A6) A6)
def eE:rZ:=⟨[.v QB,.v c7g,.v QI,.v QI,.v QI],[.v Ky,.v Xp,.v QI],JY⟩
def d3F:rY:=Qh [Qb 72,.box 10 Ky,.box 11 Xp,.box 14 Ky,Qp 10 10,Qp 11 11,Qp 14 14] [] [[126,0,127]] [(7,Qg 26 2693757530541845613986417025536 []),(12,Qg 5 141425 [[17,86],[0,10]])]
def EN(s:LI×Int×LI×Int×Int×KF×Ra×jK):QO (LI×Int×LI×Int×Int×KF×Ra×jK) ((LI×Int×KF×Ra×jK) ⊕ b8b):=(λ(a:Int)(b:LI)(c d:Int)(e:KF)(f:Ra)(g:KF)=>cond (A4 (d<c)) ((Ax b d).bind λk=>(JY (s.1,f,d,a,g.2.1)).bind λh=>cond (h.2.2 != 0) (A3 (.inr (B6 (h.2.2,((0,0,0,()),0,0,[],[],()),())))) ((Ji (g.2.2.1,h.2.1)).bind λi=>cond (BM ((A8 g.2.2.2.1)+1)) (cond (BM ((A8 g.2.2.2.2.1)+1)) (A3 (.inl (s.1,zN .i64 (a+k),b,c,zN .i64 (d+1),e,f,(g.1,zN .i64 (g.2.1+h.1.2.1),i.1,A9 g.2.2.2.1 ([(g.2.1,zN .i64 (a-f.2.2.2.2.2.1),())]:List (Int×Int×Unit)),A9 g.2.2.2.2.1 ([h.1]:List FU),g.2.2.2.2.2),()))) A6) A6)) (A3 (.inr (B7 (s.1,a,e,f,g,()))))) s.2.1 s.2.2.1 s.2.2.2.1 s.2.2.2.2.1 s.2.2.2.2.2.1 s.2.2.2.2.2.2.1 s.2.2.2.2.2.2.2.1
def Db(x:LI):Option b8a:=(Lh x).bind λh=>cond (h.2 != 0) (A3 (((0,0,0,()),0,0,[],[],()),h.2)) ((Al EN (x,h.1.2.2.2.2.2.1,h.1.2.1,(h.1.2.1.length:Int),0,((0,0,0,()),0,0,[],[],()),h.1,(h.1.1,0,0,[],[],()),())).bind λk=>match k with |.inl g=>(cond (A4 (g.2.1<(g.1.length:Int))) (A3 (((0,0,0,()),0,0,[],[],()),2)) (cond (g.2.2.2.2.1.2.2.1 != g.2.2.2.1.2.2.2.2.1) (A3 (((0,0,0,()),0,0,[],[],()),5)) (A3 (g.2.2.2.2.1,0)))) |.inr f=>A3 (f.2.1,f.1))
def TJ:rZ:=⟨[.v QB],[.v Mb,.v QI],Db⟩
def d3G:rY:=Qh [.sv 0 QB,7,.sv 28 QL,29,30,3,.box 2 Mb,.box 4 c7g,.box 6 c0U,Qp 2 2,Qp 4 4,Qp 6 6] [[506,4063,2,4035,1,608]] [] []
def DE(x:Z6×Int):Option Z6:=(show Option c7m from cond (C0 x.1.2.1 8==0) (cond (BM ((A8 x.1.1)+1)) (A3 (x.2,(A9 x.1.1 [0],x.1.2),())) A6) (A3 (x.2,x.1,()))).bind λh=>cond (A4 (0<=(zN .i64 (B9 h.2.1.2.1 8)))&&A4 (zN .i64 (B9 h.2.1.2.1 8)<(h.2.1.1.length:Int))) (cond (A4 (zN .i64 (7-(C0 h.2.1.2.1 8))<0)) A6 (cond (A4 (0<=(zN .i64 (B9 h.2.1.2.1 8)))&&A4 (zN .i64 (B9 h.2.1.2.1 8)<(h.2.1.1.length:Int))) (A3 (C1 h.2.1.1 (A7 (zN .i64 (B9 h.2.1.2.1 8))) (bits .u8 .or (B3 h.2.1.1 (A7 (zN .i64 (B9 h.2.1.2.1 8))) 0) (AO .u8 h.1 (zN .i64 (7-(C0 h.2.1.2.1 8))))),zN .i64 (h.2.1.2.1+1),h.2.1.2.2)) A6)) A6
def ZN:rZ:=⟨[.r kc (.b a2e),.v QV],[],DE⟩
def c9e:rY:=Qh [.sv 1 QV,.box pinned a2e,Qp 0 pinned] [] [[1,0,7]] [(2,Qg 22 41254594833684711563530547 [])]
def Gv(s:c2q):QO c2q b3E:=cond (A4 (s.2.1>=0)) (cond (A4 (s.2.1<0)) A6 ((DE (s.2.2.1,zN .u8 (bits .u64 .and (AR .u64 s.1 s.2.1) 1))).bind λh=>A3 (.inl (s.1,zN .i64 (s.2.1-1),h,())))) (A3 (.inr (s.2.2.1,())))
def Av(x:Z6×Int×Int):Option b9p:=(show Option (Int×Int×Bool×b3E)from cond (A4 (x.2.2<0)) (A3 (x.2.1,x.2.2,ka,x.1,())) (cond (A4 (x.2.2 > 64)) (A3 (x.2.1,x.2.2,ka,x.1,())) (cond (A4 (x.2.2<0)) A6 (A3 (x.2.1,x.2.2,(AR .u64 x.2.1 x.2.2) != 0,x.1,()))))).bind λh=>cond h.2.2.1 (A3 (1,h.2.2.2.1)) ((Al Gv (h.1,zN .i64 (h.2.1-1),h.2.2.2.1,())).bind λg=>A3 (0,g.1))
def ZO:rZ:=⟨[.r kc (.b a2e),.v QU,.v QI],[.v QI],Av⟩
def c9f:rY:=Qh [.sv 1 QU,7,2,Qb 19,.box pinned a2e,Qp 0 pinned] [[58,51,2,16]] [[6,0,61]] []
def EO(x:Z6×Int×Int):Option Z6:=cond (A4 (x.2.2<0)) A6 ((Av (x.1,bits .u64 .and (zN .u64 x.2.1) (zN .u64 ((AO .u64 1 x.2.2)-1)),x.2.2)).bind λh=>A3 h.2)
def jP:rZ:=⟨[.r kc (.b a2e),.v QI,.v QI],[],EO⟩
def IM(s:b7J):QO b7J b3E:=(λ(a b:Int)(c:Z6)=>cond (A4 (b<a)) ((Ax s.2.1 b).bind λh=>(EO (c,h,s.1)).bind λg=>A3 (.inl (s.1,s.2.1,a,zN .i64 (b+1),g,()))) (A3 (.inr (c,())))) s.2.2.1 s.2.2.2.1 s.2.2.2.2.1
def Mz(x:Z6×Jf):Option Z6:=(Av (x.1,zN .u64 (zN .i64 ((x.2.2.2.2.2.2.1.length:Int)-1)),5)).bind λf=>(Av (f.2,zN .u64 x.2.2.2.2.1,4)).bind λk=>(Cg x.2.2.2.2.2.2.1).bind λh=>(Av (k.2,zN .u64 h,5)).bind λa=>(Al IM (h,x.2.2.2.2.2.2.1,(x.2.2.2.2.2.2.1.length:Int),0,a.2,())).bind λg=>A3 g.1
def oL:rZ:=⟨[.r kc (.b a2e),.v Ib],[],Mz⟩
def c9g:rY:=Qh [4,.sv 27 QL,28,29,.box pinned a2e,Qp 0 pinned] [[254,63,2,16]] [] []
def SF(s:Ia):Option b9r:=(λ(a b:Int)=>cond (A4 (b<a)) ((Ax s.1 b).bind λg=>(show Option c0M from cond (A4 (g<(-1073741824))) (A3 (s.1,a,b,ka,())) (A3 (s.1,a,b,A4 (g>=1073741824),()))).bind λh=>cond h.2.2.2.1 (A3 (.inr (B6 (kc,())))) (A3 (.inl (h.1,h.2.1,zN .i64 (h.2.2.1+1),())))) (A3 (.inr (B7 ())))) s.2.1 s.2.2.1
def NM(x:Z3):Option Bool:=(show Option (LI×Bool×Unit)from(LO (x.1,x.2.1)).bind λk=>cond (!k) (A3 (x.2.2,ka,())) (A3 (x.2.2,(x.2.2.length:Int) != (zN .i64 (x.1-x.2.1)),()))).bind λh=>cond h.2.1 (A3 kc) ((Al SF (h.1,(h.1.length:Int),0,())).bind λf=>match f with |.inl a=>A3 true |.inr g=>A3 g.1)
def XK:rZ:=⟨[.v QI,.v QI,.v QL],[.v .bool],NM⟩
def c9h:rY:=Qh [.sv 21 QL,22,23,Qb 6,.sv 2 QL,Qb 20,Qb 32] [[58,7,2,0,1,8]] [[6,0,48],[3737,0,71]] []
def Ou(x:LI):Option Int:=(Cg x).bind λh=>A3 (zN .i64 (5+(zN .i64 (h*(x.length:Int)))))
def a6e:rZ:=⟨[.v QL],[.v QI],Ou⟩
def LQ(x:Int):Option Bool:=cond (A4 ((-1073741824)<=x)) (A3 (A4 (x<1073741824))) (A3 kc)
def a6f:rZ:=⟨[.v QI],[.v .bool],LQ⟩
def Ov(x:Int):Option Int:=(LQ x).bind λh=>cond (!h) (A3 0) (cond (A4 (x>=0)) (A3 (zN .u64 (zN .i64 (2*x)))) (A3 (zN .u64 (zN .i64 ((zN .i64 ((-2)*x))-1)))))
def a6g:rZ:=⟨[.v QI],[.v QU],Ov⟩
def Rv(x:Int×Int):Option Int:=(show Option c1R from(Cl x.1).bind λf=>cond (!f) (A3 (x.1,x.2,ka,())) ((LQ x.2).bind λk=>A3 (x.1,x.2,!k,()))).bind λh=>cond h.2.2.1 (A3 0) ((Ov h.2.1).bind λg=>cond (A4 (h.1<0)) A6 (cond (A4 (zN .i64 (AR .u64 g h.1)<32)) (A3 (zN .i64 ((zN .i64 ((zN .i64 (AR .u64 g h.1))+1))+h.1))) (A3 65)))
def a6h:rZ:=⟨[.v QI,.v QI],[.v QI],Rv⟩
def c9i:rY:=Qh [0,1,Qb 13] [] [[6,0,7]] []
def NN(s:b7H):QO b7H (Int×Unit):=(λ(a:LI)(b c:Int)=>cond (A4 (c<b)) ((Ax a c).bind λh=>(Rv (s.1,h)).bind λg=>A3 (.inl (s.1,zN .i64 (s.2.1+g),a,b,zN .i64 (c+1),()))) (A3 (.inr (s.2.1,())))) s.2.2.1 s.2.2.2.1 s.2.2.2.2.1
def Qj(x:Int×LI):Option Int:=(Al NN (x.1,0,x.2,(x.2.length:Int),0,())).bind λh=>A3 h.1
def oM:rZ:=⟨[.v QI,.v QL],[.v QI],Qj⟩
def c9j:rY:=Qh [0,5,.sv 8 QL,9,10] [[58,31,2,2]] [] []
def Gd(s:b7L):QO b7L (Int×Unit):=(λ(a:LI)(b c d:Int)(e:LI)(f:Z4)=>cond (A4 (d<c)) (cond (A4 (0<=d)&&A4 (d<(e.length:Int))) (cond (A4 (0<=(B3 e (A7 d) 0))&&A4 ((B3 e (A7 d) 0)<=(a.length:Int))) (cond (A4 (0<=(B3 e (A7 d) 0))&&A4 ((B3 e (A7 d) 0)<=(a.length:Int))) ((Ax f.2.1 d).bind λh=>cond (h==31) ((Ou (B8 (A7 (B3 e (A7 d) 0)) a)).bind λk=>A3 (.inl (C2 (A7 (B3 e (A7 d) 0)) (B8 (A8 a) a),zN .i64 (b+(zN .i64 (5+k))),c,zN .i64 (d+1),e,f,()))) ((Ax f.2.1 d).bind λg=>(Qj (g,B8 (A7 (B3 e (A7 d) 0)) a)).bind λi=>A3 (.inl (C2 (A7 (B3 e (A7 d) 0)) (B8 (A8 a) a),zN .i64 (b+(zN .i64 (5+i))),c,zN .i64 (d+1),e,f,())))) A6) A6) A6) (A3 (.inr (b,())))) s.1 s.2.1 s.2.2.1 s.2.2.2.1 s.2.2.2.2.1 s.2.2.2.2.2.1
def Pl(x:c6S):Option Int:=(show Option (Int×Int×LI×c2m)from(On (x.1,x.2.1,x.2.2.1)).bind λk=>cond (!k) (A3 (x.2.1,x.2.2.1,x.2.2.2,ka,x.1,())) ((NM (x.2.1,x.2.2.1,x.2.2.2)).bind λa=>A3 (x.2.1,x.2.2.1,x.2.2.2,!a,x.1,()))).bind λh=>cond h.2.2.2.1 (A3 0) ((GO (h.2.2.2.2.1.1,h.1,h.2.1)).bind λg=>(Al Gd (h.2.2.1,4,(g.length:Int),0,g,h.2.2.2.2.1,())).bind λf=>A3 f.1)
def ZP:rZ:=⟨[.v cZ,.v QI,.v QI,.v QL],[.v QI],Pl⟩
def c9k:rY:=Qh [1,2,.sv 3 QL,9,30,31,.own 29 1029 QI,Qb 24,.vp 4 cZ] [[122,380,2,8]] [[6,0,391]] []
def Fc(s:c2q):QO c2q b3E:=cond (A4 (s.2.1<s.1)) ((DE (s.2.2.1,0)).bind λh=>A3 (.inl (s.1,zN .i64 (s.2.1+1),h,()))) (A3 (.inr (s.2.2.1,())))
def DH(x:Z6×Int):Option b9p:=(show Option (Int×Bool×b3E)from cond (A4 (x.2<0)) (A3 (x.2,ka,x.1,())) (A3 (x.2,A4 (x.2 > 4096),x.1,()))).bind λh=>cond h.2.1 (A3 (1,h.2.2.1)) ((Al Fc (h.1,0,h.2.2.1,())).bind λg=>(DE (g.1,1)).bind λf=>A3 (0,f))
def Xu:rZ:=⟨[.r kc (.b a2e),.v QI],[.v QI],DH⟩
def c9l:rY:=Qh [11,12,1,Qb 10,.box pinned a2e,Qp 0 pinned] [[58,51,2,48]] [[6,0,60]] []
def NO(s:Int×LI×c7q):QO (Int×LI×c7q) ((Int×LI×b3E) ⊕ c7m):=(λ(a:LI)(b c:Int)(d:Z6)=>cond (A4 (c<b)) ((Ax a c).bind λh=>(LQ h).bind λg=>cond (!g) (A3 (.inr (B6 (1,d,())))) (A3 (.inl (s.1,s.2.1,a,b,zN .i64 (c+1),d,())))) (A3 (.inr (B7 (s.1,s.2.1,d,()))))) s.2.2.1 s.2.2.2.1 s.2.2.2.2.1 s.2.2.2.2.2.1
def KQ(s:b7J):QO b7J b3E:=(λ(a:Int)(b:LI)(c d:Int)(e:Z6)=>cond (A4 (d<c)) ((Ax b d).bind λi=>(Ov i).bind λh=>cond (A4 (a<0)) A6 (cond (A4 (AR .u64 h a<32)) ((DH (e,zN .i64 (AR .u64 h a))).bind λj=>cond (A4 (a<0)) A6 ((Av (j.2,zN .u64 (h-(AO .u64 (AR .u64 h a) a)),a)).bind λg=>A3 (.inl (a,b,c,zN .i64 (d+1),g.2,())))) ((DH (e,32)).bind λf=>(Av (f.2,h,32)).bind λk=>A3 (.inl (a,b,c,zN .i64 (d+1),k.2,()))))) (A3 (.inr (e,())))) s.1 s.2.1 s.2.2.1 s.2.2.2.1 s.2.2.2.2.1
def TK(x:Z6×Int×LI):Option b9p:=(Cl x.2.1).bind λa=>cond (!a) (A3 (1,x.1)) ((Al NO (x.2.1,x.2.2,x.2.2,(x.2.2.length:Int),0,x.1,())).bind λk=>match k with |.inl h=>((Al KQ (h.1,h.2.1,(h.2.1.length:Int),0,h.2.2.1,())).bind λg=>A3 (0,g.1)) |.inr f=>A3 (f.1,f.2.1))
def a9m:rZ:=⟨[.r kc (.b a2e),.v QI,.v QL],[.v QI],TK⟩
def c9m:rY:=Qh [1,.sv 2 QL,.sv 16 QL,17,18,.sv 26 QL,27,28,6,.box pinned a2e,Qp 0 pinned] [[58,1567,2,1539,1,768],[122,1761,4,512]] [] []
def MA(s:LI×Int×Int×Int×b4N):QO (LI×Int×Int×Int×b4N) b4N:=(λ(a b c:Int)(d:LI)(e f:Int)(g:LI)(h:Z6)(i:Z4)=>cond (A4 (f<e)) ((Ax d f).bind λk=>cond (A4 (a<0)) A6 ((Av (h,bits .u64 .and (zN .u64 k) (zN .u64 ((AO .u64 1 a)-1)),a)).bind λj=>A3 (.inl (s.1,a,b,c,d,e,zN .i64 (f+1),g,j.2,i,())))) (A3 (.inr (s.1,b,c,g,h,i,())))) s.2.1 s.2.2.1 s.2.2.2.1 s.2.2.2.2.1 s.2.2.2.2.2.1 s.2.2.2.2.2.2.1 s.2.2.2.2.2.2.2.1 s.2.2.2.2.2.2.2.2.1 s.2.2.2.2.2.2.2.2.2.1
def Hs(s:b4N):QO b4N b3E:=(λ(a:LI)(b c:Int)(d:LI)(e:Z6)(f:Z4)=>cond (A4 (c<b)) (cond (A4 (0<=c)&&A4 (c<(d.length:Int))) (cond (A4 (0<=(B3 d (A7 c) 0))&&A4 ((B3 d (A7 c) 0)<=(a.length:Int))) (cond (A4 (0<=(B3 d (A7 c) 0))&&A4 ((B3 d (A7 c) 0)<=(a.length:Int))) ((Ax f.2.1 c).bind λj=>(Av (e,zN .u64 j,5)).bind λk=>(Ax f.2.1 c).bind λl=>cond (l != 31) ((Ax f.2.1 c).bind λm=>(TK (k.2,m,B8 (A7 (B3 d (A7 c) 0)) a)).bind λo=>A3 (.inl (C2 (A7 (B3 d (A7 c) 0)) (B8 (A8 a) a),b,zN .i64 (c+1),d,o.2,f,()))) ((Cg (B8 (A7 (B3 d (A7 c) 0)) a)).bind λi=>(Av (k.2,zN .u64 i,5)).bind λg=>(Al MA (C2 (A7 (B3 d (A7 c) 0)) (B8 (A8 a) a),i,b,c,B8 (A7 (B3 d (A7 c) 0)) a,((A8 (B8 (A7 (B3 d (A7 c) 0)) a):Nat):Int),0,d,g.2,f,())).bind λh=>A3 (.inl (h.1,h.2.1,zN .i64 (h.2.2.1+1),h.2.2.2.1,h.2.2.2.2.1,h.2.2.2.2.2.1,())))) A6) A6) A6) (A3 (.inr (e,())))) s.1 s.2.1 s.2.2.1 s.2.2.2.1 s.2.2.2.2.1 s.2.2.2.2.2.1
def Rw(x:Z6×c6S):Option b9p:=(Pl (x.2.1,x.2.2.1,x.2.2.2.1,x.2.2.2.2)).bind λf=>cond (f==0) (A3 (1,x.1)) ((Av (x.1,zN .u64 x.2.1.1,4)).bind λk=>(GO (x.2.1.1,x.2.2.1,x.2.2.2.1)).bind λg=>(Al Hs (x.2.2.2.2,(g.length:Int),0,g,k.2,x.2.1,())).bind λh=>A3 (0,h.1))
def a6i:rZ:=⟨[.r kc (.b a2e),.v cZ,.v QI,.v QI,.v QL],[.v QI],Rw⟩
def c9n:rY:=Qh [.sv 4 QL,14,33,34,.sv 73 QL,74,75,.own 32 1032 QI,.box pinned a2e,Qp 0 pinned,.vp 6 cZ] [[122,1933,2,256],[2005502,2047,4,1933]] [] []
def Pm(s:Int×Int×LI×b7S):QO (Int×Int×LI×b7S) a0E:=(λ(a:LI)(b:Int)(c:Z6)(d:Jf)=>cond (A4 (b<3)) ((Ax a b).bind λh=>(EO (c,h,8)).bind λg=>A3 (.inl (s.1,s.2.1,a,zN .i64 (b+1),g,d,()))) (A3 (.inr (s.1,s.2.1,c,d,())))) s.2.2.1 s.2.2.2.1 s.2.2.2.2.1 s.2.2.2.2.2.1
def Pn(s:Int×Int×Z5×a0E):QO (Int×Int×Z5×a0E) a0E:=(λ(a:Z5)(b c:Int)(d:Z6)(e:Jf)=>cond (A4 (c<b)) ((Ax a c).bind λh=>(Av (d,zN .u64 (zN .i64 (h.1-1)),5)).bind λg=>(Av (g.2,zN .u64 h.2.1,4)).bind λf=>A3 (.inl (s.1,s.2.1,a,b,zN .i64 (c+1),f.2,e,()))) (A3 (.inr (s.1,s.2.1,d,e,())))) s.2.2.1 s.2.2.2.1 s.2.2.2.2.1 s.2.2.2.2.2.1 s.2.2.2.2.2.2.1
def Po(s:Int×Int×LI×a0E):QO (Int×Int×LI×a0E) b7S:=(λ(a:LI)(b c:Int)(d:Z6)(e:Jf)=>cond (A4 (c<b)) ((Ax a c).bind λh=>(EO (d,h,s.2.1)).bind λg=>A3 (.inl (s.1,s.2.1,a,b,zN .i64 (c+1),g,e,()))) (A3 (.inr (s.1,d,e,())))) s.2.2.1 s.2.2.2.1 s.2.2.2.2.1 s.2.2.2.2.2.1 s.2.2.2.2.2.2.1
def PH(x:Z6×jJ):Option b9p:=(Nu (x.2.1,x.2.2)).bind λq=>cond (!q) (A3 (1,x.1)) ((Cg x.2.1.2.2.2.2.2.2.2.2.1).bind λd=>(Av (x.1,zN .u64 x.2.1.1,3)).bind λr=>(Av (r.2,zN .u64 x.2.1.2.1,5)).bind λu=>(Av (u.2,zN .u64 d,5)).bind λi=>(show Option a0E from(show Option (a0E ⊕ (a0E ⊕ a0E))from cond (x.2.1.1==2) ((Av (i.2,zN .u64 x.2.1.2.2.1,3)).bind λv=>A3 (B6 (B7 (x.2.2,d,v.2,x.2.1,())))) (cond (x.2.1.1==4) ((Av (i.2,zN .u64 (zN .i64 (x.2.1.2.2.2.2.1-1)),10)).bind λw=>(Al Pm (x.2.2,d,x.2.1.2.2.2.2.2.2.1,0,w.2,x.2.1,())).bind λb=>A3 (B7 (b.1,b.2.1,b.2.2.1,b.2.2.2.1,()))) (cond (x.2.1.1==3) (A3 (B7 (x.2.2,d,i.2,x.2.1,()))) (cond (x.2.1.1==5) (A3 (B6 (B6 (x.2.2,d,i.2,x.2.1,())))) (A3 (B6 (B7 (x.2.2,d,i.2,x.2.1,())))))))).bind λp=>match p with |.inl k=>((Mz (k.2.2.1,k.2.2.2.1)).bind λl=>A3 (k.1,k.2.1,l,k.2.2.2.1,())) |.inr j=>(match j with |.inl a=>A3 (a.1,a.2.1,a.2.2.1,a.2.2.2.1,()) |.inr h=>((Av (h.2.2.1,zN .u64 (h.2.2.2.1.2.2.2.2.2.2.2.1.length:Int),2)).bind λm=>(Al Pn (h.1,h.2.1,h.2.2.2.1.2.2.2.2.2.2.2.1,(h.2.2.2.1.2.2.2.2.2.2.2.1.length:Int),0,m.2,h.2.2.2.1,())).bind λc=>A3 (c.1,c.2.1,c.2.2.1,c.2.2.2.1,())))).bind λf=>(Al Po (f.1,f.2.1,f.2.2.2.1.2.2.2.2.2.2.2.2.1,(f.2.2.2.1.2.2.2.2.2.2.2.2.1.length:Int),0,f.2.2.1,f.2.2.2.1,())).bind λg=>(JR g.2.2.1.1).bind λo=>cond (!o) (A3 (0,g.2.1)) ((Rw (g.2.1,g.2.2.1.2.2.2.2.2.2.2.2.2.1,g.1,(g.2.2.1.2.2.2.2.2.2.2.2.1.length:Int),g.2.2.1.2.2.2.2.2.2.2.2.2.2.1)).bind λe=>A3 (e.1,e.2)))
def b2p:rZ:=⟨[.r kc (.b a2e),.v Ib,.v QI],[.v QI],PH⟩
def d3H:rY:=Qh [2,7,.sv 94 QL,95,96,.sv 75 (.list kc Q5),76,77,.sv 57 (.arr 3 QI),58,.box pinned a2e,Qp 0 pinned,.vp 4 Ib] [[2042,7199,11,7169],[32598,7395,9,7171],[260622,7939,7,7171]] [[127,0,7171],[4072,0,7171,2,7171,6,7171]] []
def Fd(s:b3E):QO b3E b3E:=cond ((C0 s.1.2.1 8) != 0) ((DE (s.1,0)).bind λh=>A3 (.inl (h,()))) (A3 (.inr (s.1,())))
def Ha(x:Z6):Option Z6:=(Al Fd (x,())).bind λh=>A3 h.1
def Xv:rZ:=⟨[.r kc (.b a2e)],[],Ha⟩
def d3I:rY:=Qh [.box pinned a2e,Qp 0 pinned] [[2,3,2,1]] [] []
def Hb(x:Z6):Option (LI×Z6):=cond (BM (A8 x.1)) (A3 (x.1,x)) A6
def Xw:rZ:=⟨[.r kc (.b a2e)],[.o QV],Hb⟩
def MB(s:b2c):QO b2c b2c:=(λ(a b c:Int)(d:LI)=>cond (A4 (a>=128)) (cond (BM ((A8 d)+1)) (A3 (.inl (zN .u64 (B9 a 128),s.2.1,b,c,A9 d [zN .u8 ((zN .u8 (C0 a 128))+128)],()))) A6) (A3 (.inr (a,s.2.1,b,c,d,())))) s.1 s.2.2.1 s.2.2.2.1 s.2.2.2.2.1
def MC(s:b3F):QO b3F (LI×Unit):=cond (A4 (s.2.2.1<s.2.1)) ((Ax s.1 s.2.2.1).bind λg=>(Al MB (g,s.1,s.2.1,s.2.2.1,s.2.2.2.1,())).bind λh=>cond (BM ((A8 h.2.2.2.2.1)+1)) (A3 (.inl (h.2.1,h.2.2.1,zN .i64 (h.2.2.2.1+1),A9 h.2.2.2.2.1 [zN .u8 h.1],()))) A6) (A3 (.inr (s.2.2.2.1,())))
def Ow(x:LI):Option LI:=(Al MC (x,(x.length:Int),0,[],())).bind λh=>A3 h.1
def a6j:rZ:=⟨[.v (.list kc QU)],[.o QV],Ow⟩
def d3J:rY:=Qh [.sv 5 QU,.sv 6 (.list kc QU),7,8,.own 3 3 QV] [[58,30,2,16],[14948,31,4,31]] [] []
def Rx(x:Int):Option Int:=cond (A4 (x>=0)) (A3 (zN .u64 (2*(zN .u64 x)))) (A3 (zN .u64 ((zN .u64 (2*(zN .u64 (zN .i64 (0-(zN .i64 (x+1)))))))+1)))
def a6k:rZ:=⟨[.v QI],[.v QU],Rx⟩
def HN(s:Int×Zh×b6X):QO (Int×Zh×b6X) Z4:=(λ(a b:Int)(c:LI)=>cond (A4 (b<a)) ((Ax s.2.1 b).bind λh=>(Rx h.2.2.1).bind λg=>cond (BM ((A8 c)+3)) (A3 (.inl (s.1,s.2.1,a,zN .i64 (b+1),A9 c [zN .u64 h.1,zN .u64 h.2.1,g],()))) A6) (A3 (.inr (s.1,c,())))) s.2.2.1 s.2.2.2.1 s.2.2.2.2.1
def Lo(x:FU×Int):Option LI:=(Al HN (x.2,x.1.2.2.2.1,(x.1.2.2.2.1.length:Int),0,([zN .u64 x.1.1,zN .u64 x.1.2.1,zN .u64 x.1.2.2.1.1,zN .u64 x.1.2.2.1.2.1,zN .u64 x.1.2.2.1.2.2.1,zN .u64 (x.1.2.2.2.1.length:Int)]:List Int),())).bind λg=>cond (BM ((A8 g.2.1)+1)) ((Ow (A9 g.2.1 [zN .u64 g.1])).bind λh=>cond (BM (2+(A8 h))) ((My (A9 [245,75] h)).bind λf=>cond (BM ((A8 (A9 [245,75] h))+1)) (A3 (A9 (A9 [245,75] h) [f])) A6) A6) A6
def jQ:rZ:=⟨[.v Ky,.v QI],[.o QV],Lo⟩
def d3K:rY:=Qh [1,.sv 33 (.list kc FV),34,35,.own 5 5 QU] [[58,31,2,17]] [] [(5,Qg 13 599238401655057 [])]
def Dn(s:c1U):QO c1U (LI×Unit):=cond (A4 (s.2.2.1<s.2.1)) (cond (BM ((A8 s.2.2.2.1)+1)) (A3 (.inl (zN .u64 (B9 s.1 256),s.2.1,zN .i64 (s.2.2.1+1),A9 s.2.2.2.1 [zN .u8 (C0 s.1 256)],()))) A6) (A3 (.inr (s.2.2.2.1,())))
def Ix(x:Int×Int):Option LI:=(GM x.2).bind λg=>(Al Dn (x.1,g,0,[],())).bind λh=>A3 h.1
def a0R:rZ:=⟨[.v QU,.v QI],[.o QV],Ix⟩
def c9o:rY:=Qh [.sv 0 QU,7,8,.own 5 5 QV] [[58,15,2,8]] [] []
def CU(x:LI):Option LI:=cond (A4 (A8 x<2147483648)) (A3 (D1 x)) A6
def Ox:rZ:=⟨[.r kc (.o QV)],[],CU⟩
def HE(x:Int×Int):Option LI:=(Ix (x.1,x.2)).bind λh=>(CU h).bind λg=>A3 g
def a6l:rZ:=⟨[.v QU,.v QI],[.o QV],HE⟩
def MD(s:a9f×Int×Int×Z6×Xo):QO (a9f×Int×Int×Z6×Xo) ((Z6×Xo) ⊕ Z4):=(λ(a:Int)(b:Z6)(c:FU)=>cond (A4 (a<s.2.1)) ((Ax s.1 a).bind λg=>(PH (b,g,c.2.1)).bind λh=>cond (h.1 != 0) (A3 (.inr (B6 (h.1,[],())))) (A3 (.inl (s.1,s.2.1,zN .i64 (a+1),h.2,c,())))) (A3 (.inr (B7 (b,c,()))))) s.2.2.1 s.2.2.2.1 s.2.2.2.2.1
def Ej(x:FU):Option (LI×Int):=(Fi x).bind λd=>cond (!d) (A3 ([],1)) ((Al MD (x.2.2.2.2.1,(x.2.2.2.2.1.length:Int),0,([],0,()),x,())).bind λc=>match c with |.inl a=>((Ha a.1).bind λe=>(Hb e).bind λg=>(Lo (a.2.1,(g.1.length:Int))).bind λf=>cond (BM ((A8 f)+(A8 g.1))) ((Jo (A9 f g.1)).bind λk=>(HE (zN .u64 k,2)).bind λh=>cond (BM ((A8 (A9 f g.1))+(A8 h))) (A3 (A9 (A9 f g.1) h,0)) A6) A6) |.inr b=>A3 (b.2.1,b.1))
def gO:rZ:=⟨[.v Ky],[.o QV,.v QI],Ej⟩
def d3L:rY:=Qh [.sv 14 (.list kc Ib),15,16,.box 4 a2e,.vp 1 Ky,Qp 4 4,3,.own 2 2 QV] [[122,63,2,56,1,192]] [] []
def Gw(s:GJ×c2l):QO (GJ×c2l) (Z2 ⊕ Z2):=cond (A4 (s.2.2.1<s.2.1)) ((Ax s.1 s.2.2.1).bind λg=>(Ej (0,g.2)).bind λh=>cond (h.2 != 0) (A3 (.inr (B6 (([]:(List LI)),())))) (cond (BM ((A8 s.2.2.2.1)+1)) (A3 (.inl (s.1,s.2.1,zN .i64 (s.2.2.1+1),A9 s.2.2.2.1 ([a4V h.1]:List LI),()))) A6)) (A3 (.inr (B7 (s.2.2.2.1,()))))
def Cs(x:LI):Option (List LI):=(Db x).bind λh=>cond (h.2 != 0) (A3 ([]:(List LI))) ((Al Gw (h.1.2.2.2.2.1,(h.1.2.2.2.2.1.length:Int),0,([]:(List LI)),())).bind λk=>match k with |.inl g=>A3 g.1 |.inr f=>A3 f.1)
def EB:rZ:=⟨[.v QB],[.o .str],Cs⟩
def d3M:rY:=Qh [.sv 18 (.list kc Ky),19,20,.own 5 5 .str,.own 2 2 .str] [[250,15,2,8,1,16]] [] []
def Iy(x:Z1):Option Int:=(Cs x.1).bind λa=>(Cs x.2).bind λb=>cond (BM (A8 a)&&BM (A8 b)) (A3 (((List.filter (λs=>List.contains a s) b).length:Nat):Int)) A6
def Se:rZ:=⟨[.v QB,.v QB],[.v QI],Iy⟩
def ME(s:Int×Int×Int×GJ×Int×Int×b8e):QO (Int×Int×Int×GJ×Int×Int×b8e) ((Int×Int×b8e) ⊕ (Bool×(List LI)×c6P)):=(λ(a b:Int)(c:GJ)(d e:Int)(f:List LI)(g:c0L)(h:KF)=>cond (A4 (e<d)) ((Ax c e).bind λl=>(show Option (Int×Int×Int×Int×GJ×Int×Int×Bool×(List LI)×c0L×FU×jK)from cond (!(Xm FV l.2.2.1 h.1)) (A3 (a,s.2.1,b,e,c,d,e,ka,f,g,l,h,())) (A3 (a,s.2.1,b,e,c,d,e,l.1 != a,f,g,l,h,()))).bind λk=>cond k.2.2.2.2.2.2.2.1 (A3 (.inr (B6 (kc,([]:(List LI)),[],())))) ((show Option (Int×Int×Int×GJ×Int×Int×Bool×(List LI)×c0L×FU×jK)from(Ax k.2.2.2.2.2.2.2.2.2.2.2.1.2.2.2.1 k.2.2.2.1).bind λp=>cond (p.1 != k.1) (A3 (k.1,k.2.1,k.2.2.1,k.2.2.2.2.1,k.2.2.2.2.2.1,k.2.2.2.2.2.2.1,ka,k.2.2.2.2.2.2.2.2.1,k.2.2.2.2.2.2.2.2.2.1,k.2.2.2.2.2.2.2.2.2.2.1,k.2.2.2.2.2.2.2.2.2.2.2.1,())) ((Ax k.2.2.2.2.2.2.2.2.2.2.2.1.2.2.2.1 k.2.2.2.1).bind λq=>A3 (k.1,k.2.1,k.2.2.1,k.2.2.2.2.1,k.2.2.2.2.2.1,k.2.2.2.2.2.2.1,q.2.1 != k.2.1,k.2.2.2.2.2.2.2.2.1,k.2.2.2.2.2.2.2.2.2.1,k.2.2.2.2.2.2.2.2.2.2.1,k.2.2.2.2.2.2.2.2.2.2.2.1,()))).bind λi=>cond i.2.2.2.2.2.2.1 (A3 (.inr (B6 (kc,([]:(List LI)),[],())))) ((Ed i.2.2.2.2.2.2.2.2.2.1).bind λm=>cond (m.2 != 0) (A3 (.inr (B6 (kc,([]:(List LI)),[],())))) ((Ej i.2.2.2.2.2.2.2.2.2.1).bind λo=>cond (o.2 != 0) (A3 (.inr (B6 (kc,([]:(List LI)),[],())))) ((Ji (i.2.2.1,m.1)).bind λj=>cond (!j.2) (A3 (.inr (B6 (kc,([]:(List LI)),[],())))) (cond (BM ((A8 i.2.2.2.2.2.2.2.1)+1)) (cond (BM ((A8 i.2.2.2.2.2.2.2.2.1)+1)) (A3 (.inl (zN .i64 (i.1+i.2.2.2.2.2.2.2.2.2.1.2.1),zN .i64 (i.2.1+(o.1.length:Int)),j.1,i.2.2.2.1,i.2.2.2.2.1,zN .i64 (i.2.2.2.2.2.1+1),A9 i.2.2.2.2.2.2.2.1 ([o.1]:List LI),A9 i.2.2.2.2.2.2.2.2.1 ([m.1]:List jI),i.2.2.2.2.2.2.2.2.2.2.1,()))) A6) A6)))))) (A3 (.inr (B7 (a,b,f,g,h,()))))) s.1 s.2.2.1 s.2.2.2.1 s.2.2.2.2.1 s.2.2.2.2.2.1 s.2.2.2.2.2.2.1 s.2.2.2.2.2.2.2.1 s.2.2.2.2.2.2.2.2.1
def Oy(x:KF):Option ((List LI)×c0L×Bool):=(show Option (Bool×b8e)from(GL x.1).bind λb=>cond (!b) (A3 (ka,([]:(List LI)),[],x,())) (cond (A4 ((x.2.2.2.2.1.length:Int) > 4096)) (A3 (ka,([]:(List LI)),[],x,())) (A3 ((x.2.2.2.1.length:Int) != (x.2.2.2.2.1.length:Int),([]:(List LI)),[],x,())))).bind λk=>cond k.1 (A3 (([]:(List LI)),[],kc)) ((Al ME (0,0,0,k.2.2.2.1.2.2.2.2.1,(k.2.2.2.1.2.2.2.2.1.length:Int),0,k.2.1,k.2.2.1,k.2.2.2.1,())).bind λa=>match a with |.inl h=>((show Option (Bool×(List LI)×c6P)from cond (h.2.2.2.2.1.2.1 != h.1) (A3 (ka,h.2.2.1,h.2.2.2.1,())) (A3 (h.2.2.2.2.1.2.2.1 != h.2.1,h.2.2.1,h.2.2.2.1,()))).bind λf=>cond f.1 (A3 (([]:(List LI)),[],kc)) (A3 (f.2.1,f.2.2.1,ka))) |.inr g=>A3 (g.2.1,g.2.2.1,g.1))
def a6m:rZ:=⟨[.v Mb],[.o QB,.o Xp,.v .bool],Oy⟩
def d3N:rY:=Qh [5,6,.sv 7 QU,Qb 4,Qb 31,Qb 117,8,.sv 33 (.list kc Ky),34,35,Qb 50,Qb 68,.own 2 2 QB,.own 3 3 Xp,.box 9 Ky,.vp 1 Mb,Qp 9 9] [[122,45959,2,45061,1,12296]] [[6,0,45072],[62,0,12320],[15666,0,128967],[31334,0,129927]] []
def HO(s:Int×Int×LI×c6P):QO (Int×Int×LI×c6P) (LI×Unit):=(λ(a:Int)(b:LI)(c:c0L)=>cond (A4 (a<s.1)) (cond (A4 (0<=a)&&A4 (a<(c.length:Int))) ((KH (B3 c (A7 a) (0,([]:(List LI)),()))).bind λh=>cond (BM ((A8 b)+(A8 h))) (A3 (.inl (s.1,zN .i64 (a+1),A9 b h,c,()))) A6) A6) (A3 (.inr (b,())))) s.2.1 s.2.2.1 s.2.2.2.1
def DK(x:KF):Option (LI×Int):=(Oy x).bind λh=>cond (!h.2.2) (A3 ([],1)) ((Al HO ((h.2.1.length:Int),0,[],h.2.1,())).bind λg=>A3 (g.1,0))
def UD:rZ:=⟨[.v Mb],[.o QI,.v QI],DK⟩
def d3O:rY:=Qh [19,20,.own 7 7 QI,.own 18 5 Xp] [[250,15,2,4]] [] []
def Ch(s:c2n):QO c2n Z0:=(λ(a b:Int)=>cond (A4 (b<a)) ((Ax s.1 b).bind λh=>(Ax s.2.1 b).bind λg=>cond (h != g) (A3 (.inr (B6 (kc,())))) (A3 (.inl (s.1,s.2.1,a,zN .i64 (b+1),())))) (A3 (.inr (B7 ())))) s.2.2.1 s.2.2.2.1
def DP(x:Z1):Option Bool:=cond ((x.1.length:Int) != (x.2.length:Int)) (A3 kc) ((Al Ch (x.1,x.2,(x.1.length:Int),0,())).bind λg=>match g with |.inl f=>A3 true |.inr h=>A3 h.1)
def Rb:rZ:=⟨[.v QL,.v QL],[.v .bool],DP⟩
def d3P:rY:=Qh [.sv 0 QL,.sv 1 QL,12,13,Qb 4] [[58,15,2,0,1,16]] [] [(6,Qg 9 8589934592 [])]
def Iz(x:Z1):Option Bool:=(Db x.1).bind λh=>cond (h.2 != 0) (A3 kc) ((Db x.2).bind λg=>(show Option b2k from cond (g.2 != 0) (A3 (ka,h.1,g.1,())) (cond (!(Xm FV h.1.1 g.1.1)) (A3 (ka,h.1,g.1,())) (A3 (h.1.2.1 != g.1.2.1,h.1,g.1,())))).bind λf=>cond f.1 (A3 kc) ((DK f.2.1).bind λk=>cond (k.2 != 0) (A3 kc) ((DK f.2.2.1).bind λa=>cond (a.2==0) ((DP (k.1,a.1)).bind λb=>A3 b) (A3 kc))))
def XL:rZ:=⟨[.v QB,.v QB],[.v .bool],Iz⟩
def d3Q:rY:=Qh [Qb 37,.box 5 Mb,.box 7 Mb,Qp 5 5,Qp 7 7] [] [[62,0,31]] []
def d1J:rY:=Qh [.sv 38 QL,39,40,5,.box 4 Xp,.box 6 (.pair QI Q8),.vp 3 FV,Qp 4 4,Qp 6 6] [[1018,503,2,432,1,152]] [] [(9,Qg 8 554762240 []),(16,Qg 13 609198446548036 [[6,64,65]])]
def ZQ:rZ:=US (FM [(26,NJ),(27,NH)] [(6,.pair QI Q8),(36,.list ka (.list ka QI)),(37,.pair QI Q8)] 931 8) d1J Tryz.f28 [.v QL,.v FV] [.v Xp,.v QI]
def d1K:rY:=Qh [.sv 21 (.list kc FV),22,23,.own 6 6 (.list ka QI),.sv 4 (.list kc QL),5,.sv 0 (.list kc QL),.sv 1 (.list kc FV),Qb 18] [[122,15,2,8,1,48]] [[6,0,448]] []
def eF:rZ:=US (FM [(106,Rr),(107,YE),(108,Sd),(109,TI)] [] 115 0) d1K Tryz.f61 [.v (.list kc QL),.v (.list kc FV)] [.v (.list kc QL),.v QI]
def c2H:rY:=Qh [3,.sv 5 QL,6,.sv 11 (.list kc QL),12,13] [[122,57,2,1],[31334,63,4,57]] [] [(10,Qg 18 627189298506124754944 [])]
def XM:rZ:=US (FM [(106,Rr)] [] 237 0) c2H Tryz.f169 [.v (.list kc QL)] [.v QI]
def ZR:rZ:=US (FM [] [] 135445 0) QH Tryz.f170 [.v QI] [.o FV]
def c2I:rY:=Qh [.sv 0 (.list kc QL),3,4,5] [[58,15,2,2]] [] []
def gP:rZ:=US (FM [(61,eF),(169,XM),(170,ZR)] [] 509 0) c2I Tryz.f105 [.v (.list kc QL)] [.o FV]
def d1L:rY:=Qh [4,25,26,.own 3 3 FV,.own 24 1024 FV,.vp 1 Xp] [[122,41,2,8],[7826,63,4,41]] [] []
def gQ:rZ:=US (FM [(58,Rj),(105,gP)] [] 29 2) d1L Tryz.f60 [.v Xp] [.o FV]
def c2J:rY:=Qh [5,.own 4 4 QI,.sv 0 QL,1,Qb 14,8,.sv 15 QL,16,17,Qb 30,.own 6 6 QI] [[122,1480,2,1024,1,3]] [[6,0,28],[15666,0,2024]] []
def Sf:rZ:=US (FM [(172,XI)] [] 371 0) c2J Tryz.f111 [.v QL,.v QI] [.o QI,.v QI]
def IN(x:Int):Option Int:=cond (x==0) (A3 64) ((Ax gM (AR .u64 (zN .u64 ((bits .u64 .and x (zN .u64 (0-x)))*285870213051353865)) 58)).bind λh=>A3 (zN .i64 h))
def Bn:rZ:=⟨[.v QU],[.v QI],IN⟩
def VN:Cx:=FM [] [] 5 0
theorem gR{Z:Type}{cx:Cx}{ops:List Oper}:∀(l1 l2:List (Md×Oper)) (U:AE) (K:AE->Rs Z),RV cx ops (l1++l2) U K=RV cx ops l1 U λh=>RV cx ops l2 h K|[],_,_,_=>rfl|(md,o)::l1,l2,U,K=>by simp only[C7,RV];congr 1;funext h;exact gR l1 l2 h K
theorem eG{Z:Type}{cx:Cx}{H:rY}{a b:Code}{p:Nat}(h:find H.cuts p=ke)(U:AE)(K:Ex->AE->Rs Z):Ea cx H (.seq a b) p U K=Ea cx H a (2*p) U λe g=>match e with
   |.normal=>Ea cx H b (2*p+1) g K
   |e=>K e g:=by
 simp only[Ea,h];rfl
theorem a4d{Z:Type}{cx:Cx}{H:rY}{id:Nat}{ops:Array Oper}{p:Nat}(U:AE)(K:Ex->AE->Rs Z):Ea cx H (.region id ops kc) p U K=RV cx ops.toList (ops.toList.map λo=>(.x,o)) U λh=>K .normal h:=by simp only[Ea,cF]
def Ry:Code:=match Tryz.f173.body with|some c=>c|none=>.skip
def b2q:Code->Code|.seq a _=>a|c=>c
def b8i:Code->Code|.seq _ b=>b|c=>c
def b4W:Code->Array Oper|.region _ ops _=>ops|_=>#[]
def b0G:Code:=b8i (b8i Ry)
def YH:List Oper:=(b4W (b2q b0G)).toList
def b4X(x:Int):AE:=(((Ux [.v QU] x).set 2 (.val QI (0:Int))).set 3 (.val QU x)).set 4 (.val .bool (x==(0:Int)))
def b9u(x:Int):AE:=(b4X x).set 2 (.val QI (64:Int))
def b4Y(e:Ex)(U:AE):Option Int:=match e,U.pd with|.exit _,_=>none|_,kd _=>none|_,ke=>(U.upto Tryz.f173.ntmps).outs VN [] Tryz.f173.ntmps [.v QI] (Tryz.f173.results.toList.map .inl) λy _=>kd y
def b9v(x a b c i:Int):AE:=((((((b4X x).set 5 (.val QU x)).set 6 (.val QU x)).set 7 (.val QU a)).set 8 (.val QU b)).set 9 (.val QU c)).set 10 (.val QU i)
set_option maxRecDepth 100000
theorem b4Z:Ry=.seq (b2q Ry) (.seq (b2q (b8i Ry)) (.seq (.region 3 (b4W (b2q b0G)) kc) .ret)):=by kernel_rfl
theorem b8j(x:Int):a0u VN QH Tryz.f173 Bn.ps Bn.rs x=Ea VN QH Ry 1 (Ux [.v (.int .u64)] x) b4Y:=rfl
theorem b8k(x:Int)(K:Ex->AE->Option Int):Ea VN QH (b2q Ry) 2 (Ux [.v (.int .u64)] x) K=K .normal ((Ux [.v (.int .u64)] x).set 2 (.val (.int .i64) (0:Int))):=by kernel_rfl
theorem b8l(x:Int)(K:Ex->AE->Option Int):Ea VN QH (b2q (b8i Ry)) 6 ((Ux [.v (.int .u64)] x).set 2 (.val (.int .i64) (0:Int))) K=bif x==(0:Int)then K .ret (b9u x)else K .normal (b4X x):=by kernel_rfl
theorem b8m(x:Int):b4Y .ret (b9u x)=kd (64:Int):=by kernel_rfl
theorem b8n(x:Int)(K:AE->Option Int):RV VN YH ((YH.map λo=>(Md.x,o)).take 6) (b4X x) K =K (b9v x (zN .u64 (0-x)) (bits .u64 .and x (zN .u64 (0-x))) (zN .u64 ((bits .u64 .and x (zN .u64 (0-x)))*(285870213051353865:Int))) (AR .u64 (zN .u64 ((bits .u64 .and x (zN .u64 (0-x)))*(285870213051353865:Int))) (58:Int))):=by kernel_rfl
theorem b8o(x a b c i:Int):RV VN YH ((YH.map λo=>(Md.x,o)).drop 6) (b9v x a b c i) (λU=>b4Y .ret U)=(Ax gM i).bind λh=>kd (zN .i64 h):=by kernel_rfl
theorem b8p(x:Int):RV VN YH (YH.map λo=>(Md.x,o)) (b4X x) (λU=>b4Y .ret U)=(Ax gM (AR .u64 (zN .u64 ((bits .u64 .and x (zN .u64 (0-x)))*(285870213051353865:Int))) (58:Int))).bind λh=>kd (zN .i64 h):=by rw[<-List.take_append_drop 6 (YH.map λo=>(Md.x,o)),gR,b8n,b8o]
theorem c0Y(x:Int):Ea VN QH Ry 1 (Ux [.v (.int .u64)] x) b4Y=IN x:=by rw[b4Z,eG rfl,b8k];simp only[];rw[eG rfl,b8l];simp only[];rw[eG rfl,a4d];simp only[Ea];rw[b8m];exact cG (λz=>bif x==(0:Int)then kd (64:Int)else z) (b8p x)
theorem c2K(x):a0u VN QH Tryz.f173 Bn.ps Bn.rs x=Bn.F x:=(b8j x).trans (c0Y x)
def c2L:rY:=Qh [3,.sv 6 QL,7,8] [[58,15,2,1]] [] []
def OP:rZ:=US (FM [(173,Bn)] [] 45 0) c2L Tryz.f112 [.v QL] [.v QI]
def c2M:rY:=Qh [7,25,26,.own 6 6 QI,.sv 0 QL,1,Qb 19] [[250,14,2,8],[64098,15,4,14]] [[6,0,112]] [(11,Qg 14 9571317725528321 [])]
def TL:rZ:=US (FM [(250,ZK)] [] 243 0) c2M Tryz.f224 [.v QL,.v QI] [.o QI,.v QI]
def c2N:rY:=Qh [1,5,.sv 8 QL,9,10] [[58,31,2,2]] [] []
def XN:rZ:=US (FM [] [] 243 0) c2N Tryz.f225 [.v QL,.v QI] [.v QI]
def c2O:rY:=Qh [.sv 0 QL,3,4,5,8,Qb 30] [[58,15,2,2]] [[7463,0,63]] []
def ZS:rZ:=US (FM [(224,TL),(225,XN)] [] 509 0) c2O Tryz.f174 [.v QL] [.v QI]
def oN(x:Int):Option Int:=kd (OH (Fk x (-1048576)) 1048575)
def Qk:rZ:=⟨[.v QI],[.v QI],oN⟩
def c2P:rY:=Qh [.sv 0 QL,3,.sv 29 QL,30,31,.own 6 6 QI,5,.sv 9 QL,10,11] [[58,899,2,3],[250,62,6,32],[7474,963,4,899]] [] [(5,Qg 8 536870912 [])]
def UE:rZ:=US (FM [(283,Qk)] [] 493 0) c2P Tryz.f281 [.v QL] [.o QI]
def c2Q:rY:=Qh [.sv 0 QL,.sv 1 QL,7,8,9,10] [[58,31,2,12],[60,12,4,12]] [[255,0,32]] [(5,Qg 13 598134325510144 []),(6,Qg 24 10522490333925732336642555904 [])]
def OX:rZ:=US (FM [] [] 1991 0) c2Q Tryz.f282 [.v QL,.v QL,.v QI] [.v QI]
def c2R:rY:=Qh [.sv 0 QL,1,9,10,11,.own 6 6 QI,.own 7 7 QI,.own 8 8 QI,Qb 24] [[1018,230,2,128],[260686,254,4,230]] [[6,0,259]] [(16,Qg 11 2203586728193 [])]
def SG:rZ:=US (FM [(128,Bk),(252,Ns),(281,UE),(282,OX),(283,Qk)] [] 16371 0) c2R Tryz.f226 [.v QL,.v QI] [.o QI,.v QI]
def c2S:rY:=Qh [.sv 0 QL,.sv 20 QL,21,22,.sv 6 QL,7,8,.sv 34 QL,35,36,.sv 44 QL,45,46,.own 9 9 QI,.sv 2 QL,3,Qb 19,Qb 31] [[58,15,2,1,1,49152],[250,912,4,16],[256410,16368,6,9152]] [[6,0,65537],[3737,0,131087]] []
def VO:rZ:=US (FM [] [] 4077 0) c2S Tryz.f227 [.v QL] [.v QL,.v QI]
def c2T:rY:=Qh [.sv 0 QL,1,.sv 31 QL,32,33,9,10,.sv 56 QL,57,58,.own 11 11 QI,5,6,.own 4 4 QI,.own 4 11 QI,Qb 30,Qb 42] [[58,31,2,3,1,14336],[122,35,4,0,1,22528],[125242,2019,6,1059]] [[6,0,32771],[3737,0,65567],[3913,0,99]] []
def VP:rZ:=US (FM [(27,NH)] [] 28531 0) c2T Tryz.f228 [.v QL,.v QI] [.o QI,.v QI,.v QI]
def Sg:rZ:=US (FM [(226,SG),(227,VO),(228,VP)] [] 4039 0) QH Tryz.f176 [.v QL,.v QI,.v QI] [.o QI,.v QI,.v QI]
def c2U:rY:=Qh [.sv 0 QL,1,2,8,9,10,11,12,Qb 29,Qb 74] [[506,63,2,8],[129610,255,4,127]] [[6,0,263],[32403,0,639]] [(15,Qg 12 37383395344384 [])]
def gS:rZ:=US (FM [(255,Qi)] [] 16327 0) c2U Tryz.f229 [.v QL,.v QI,.v QI] [.v QI,.v QI]
def c2V:rY:=Qh [.sv 0 QL,1,.sv 22 QL,23,24,.own 8 8 QI,.vp 5 (.arr 3 QI),7,.own 6 6 QI] [[250,127,2,32,1,384]] [] []
def Rz:rZ:=US (FM [(233,oH),(255,Qi),(256,VK),(257,gN)] [] 4039 32) c2V Tryz.f231 [.v QL,.v QI,.v (.arr 3 QI)] [.o QI,.v QI]
def ZT:rZ:=US (FM [] [] 1 0) QH Tryz.f284 [] [.o (.arr 3 QI)]
def c2W:rY:=Qh [.sv 0 QL,1,7,Qb 8,13,25,26,40,41,Qb 21,Qb 58,.own 24 1024 (.arr 3 QI),.own 39 11 QI,.box 4 (.arr 3 QI),.box 6 (.arr 3 QI),.box 10 (.arr 3 QI),Qp 4 4,Qp 6 6,Qp 10 10] [[122,223343,2,221192],[501370,522751,4,518271]] [[6,0,74243],[125343,0,519295]] []
def gT:rZ:=US (FM [(231,Rz),(284,ZT)] [] 47523 0) c2W Tryz.f230 [.v QL,.v QI] [.v (.arr 3 QI),.v QI]
def ZU:rZ:=US (FM [(176,Sg),(229,gS),(230,gT),(231,Rz)] [] 953 0) QH Tryz.f177 [.v QL] [.v Ib,.v .bool]
def Ql:rZ:=US (FM [(176,Sg)] [] 463 0) QH Tryz.f175 [.v QI,.v QI,.r kc (.b QL),.r kc (.b (.list ka Ib))] []
def c2X:rY:=⟨[(4050,[50,.box 5 (.list ka Ib),.box 2 QL,Qp 5 5,.clo 6 175 [2,5]],[Qe 0 [.box 5 (.list ka Ib),.box 2 QL,Qp 5 5,.clo 6 175 [2,5]]])],[(15,[Qn [1,.box 2 QL,.box 5 (.list ka Ib),Qp 2 2,Qp 5 5,.clo 6 175 [2,5]]]),(31,[Qn [1,.box 5 (.list ka Ib),.box 2 QL,Qp 5 5,.clo 6 175 [2,5]]]),(63,[Qn [.box 5 (.list ka Ib),Qp 5 5]])],[]⟩
def SH:rZ:=US (FM [(174,ZS),(175,Ql),(177,ZU)] [(5,.list ka Ib)] 851 147573952589676412928) c2X Tryz.f113 [.v QL,.v QI] [.v (.list kc Ib)]
def c2Y:rY:=Qh [.sv 0 QL,.sv 1 QL,2,9,.own 8 8 QI,7,.own 6 6 QI,Qb 21] [[250,31,2,16,1,96]] [[6,0,135]] [(9,Qg 12 37383395344384 [])]
def XO:rZ:=US (FM [(232,ZH),(252,Ns),(253,SD),(254,XH)] [] 1991 0) c2Y Tryz.f236 [.v QL,.v QL,.v QI] [.o QI,.v QI]
def c2Z:rY:=Qh [.sv 22 (.list kc Q5),23,24,37,38,.own 6 6 QI,.box 1030 b2l,Qp 9 1030,.ref 36 6 [],5,.own 4 4 QI] [[250,39,2,32,1,1536],[256414,511,4,39,1,1536]] [] []
def ZV:rZ:=US (FM [(128,Bk),(234,VJ),(258,ON),(260,VL),(261,Jm),(262,TG),(263,Ks)] [] 15987 0) c2Z Tryz.f237 [.v QL,.v (.list kc Q5)] [.o QI,.v QI]
def c3a:rY:=Qh [.sv 1 QL,.sv 5 QL,6,.box pinned Ib,Qp 0 pinned] [] [[15,0,31]] [(7,Qg 15 148920195945141040 []),(9,Qg 15 148920195945141040 []),(11,Qg 15 148920195945141041 [])]
def gU:rZ:=US (FM [(128,Bk),(188,ZI),(224,TL),(231,Rz),(236,XO),(237,ZV)] [] 147573952727119562867 0) c3a Tryz.f180 [.r kc (.b Ib),.v QL] [.v QI]
def c3b:rY:=Qh [.sv 0 QL,3,4,5] [[58,15,2,2]] [] []
def gX:rZ:=US (FM [(241,oM)] [] 125 0) c3b Tryz.f286 [.v QL] [.v QI]
def a6n(x:LI):Option Int:=gX.F x
def oO(x:LI):Option Int:=(a6n x).bind λh=>(Ou x).bind λg=>(Qj (h,x)).bind λf=>cond (A4 (g<f)) (A3 31) (A3 h)
def VQ:rZ:=⟨[.v QL],[.v QI],oO⟩
def c3c:rY:=Qh [0,1,2,.sv 3 QL,11,12,.sv 15 QL,43,44,.own 42 13 QI,18,Qb 72,.box 8 cZ,.box 10 cZ,.box 14 c2x,.box 14 cZ,Qp 8 8,Qp 10 10,Qp 14 14] [[250,208959,2,208896],[512634,488447,4,487487]] [[256319,0,506943]] [(15,Qg 10 146582536209 [])]
def ZW:rZ:=US (FM [(183,ZP),(184,XG),(238,XK),(239,VQ)] [(14,.pair QI Q3),(40,.pair QI Q3)] 440847 0) c3c Tryz.f181 [.v QI,.v QI,.v QI,.v QL] [.v cZ,.v QI]
def c3d:rY:=Qh [7,0,.sv 1 QL,.sv 39 QL,40,41,8,Qb 28,.box 6 Ib,.box 9 Ib,.vp 5 Ib,Qp 6 6,Qp 9 9] [[4050,6972,2,6916,1,2305]] [[14,0,3526]] []
def oQ:rZ:=US (FM [(110,Sc),(111,Sf),(112,OP),(178,a2f),(179,ZJ),(180,gU),(181,ZW)] [] 14727 32) c3d Tryz.f114 [.v QI,.v QL,.v Ib] [.v Ib,.v QI]
def MF(x:Z6):Option b9p:=kd (x.2.1,x)
def ZX:rZ:=⟨[.r kc (.b a2e)],[.v QI],MF⟩
def LD(x:jJ):Option Int:=(PH (([],0,()),x.1,x.2)).bind λh=>cond (h.1 != 0) (A3 0) ((MF h.2).bind λg=>A3 g.1)
def oS:rZ:=⟨[.v Ib,.v QI],[.v QI],LD⟩
def d1M:rY:=Qh [.sv 0 QL,9,Qb 10,1,Qb 31,15,.sv 50 (.list kc Ib),51,52,Qb 76,.box 4 Ib,.box 8 Ib,.box 13 Ib,Qp 4 4,Qp 8 8,Qp 13 13] [[2042,28103,2,27648]] [[6,0,9241],[1045711,0,65511]] []
def oT:rZ:=US (FM [(110,Sc),(111,Sf),(112,OP),(113,SH),(114,oQ),(115,oS)] [] 50915 0) d1M Tryz.f62 [.v QL,.v QI] [.v Ib,.v QI]
def d1N:rY:=Qh [9,2,3,.sv 81 (.list kc QL),82,83,Qb 51,.box 8 Ky,.box 10 c8b,.vp 4 Xp,.vp 5 FV,Qp 8 8,Qp 10 10] [[2042,6588,2,6528,1,2177]] [[6,0,3782],[31,0,7044]] [(3,Qg 7 34603008 [])]
def TM:rZ:=US (FM [(26,NJ),(58,Rj),(59,VH),(60,gQ),(61,eF),(62,oT)] [(10,.pair QI c2z),(52,.pair QI a0r),(57,.pair QI a0r),(63,.pair QI a0r),(79,.pair QI a0r),(95,.pair QI a0r)] 88591 48) d1N Tryz.f29 [.v Xp,.v FV,.v QI,.v QI] [.v Ky,.v QI]
def MG(s:GJ×Int×Int×(List LI)×b2i):QO (GJ×Int×Int×(List LI)×b2i) ((List LI)×b2i):=(λ(a:Int)(b:List LI)(c:LI)(d:KF)=>cond (A4 (a<s.2.1)) ((Ax s.1 a).bind λh=>cond (A4 (0<=a)&&A4 (a<(b.length:Int))) (cond (BM ((A8 c)+2)) (A3 (.inl (s.1,s.2.1,zN .i64 (a+1),b,A9 c ([zN .u64 ((A8 (B3 b (A7 a) []):Nat):Int),zN .u64 h.2.1]:List Int),d,()))) A6) A6) (A3 (.inr (b,c,d,())))) s.2.2.1 s.2.2.2.1 s.2.2.2.2.1 s.2.2.2.2.2.1
def MH(s:Int×Int×LI×Z2):QO (Int×Int×LI×Z2) (LI×Unit):=(λ(a:Int)(b:LI)(c:List LI)=>cond (A4 (a<s.1)) (cond (A4 (0<=a)&&A4 (a<(c.length:Int))) (cond (BM ((A8 b)+(A8 (B3 c (A7 a) [])))) (A3 (.inl (s.1,zN .i64 (a+1),A9 b (B3 c (A7 a) []),c,()))) A6) A6) (A3 (.inr (b,())))) s.2.1 s.2.2.1 s.2.2.2.1
def RB(x:KF):Option (LI×Int):=(Oy x).bind λk=>cond (!k.2.2) (A3 ([],1)) ((Al MG (x.2.2.2.2.1,(x.2.2.2.2.1.length:Int),0,k.1,([zN .u64 x.1.1,zN .u64 x.1.2.1,zN .u64 x.1.2.2.1,zN .u64 (x.2.2.2.2.1.length:Int)]:List Int),x,())).bind λg=>(Ow g.2.1).bind λh=>cond (BM (4+(A8 h))) ((HE (g.2.2.1.2.2.1,8)).bind λf=>cond (BM ((A8 (A9 [75,78,83,68] h))+(A8 f))) ((Hl (A9 (A9 [75,78,83,68] h) f)).bind λc=>(HE (zN .u64 c,4)).bind λa=>cond (BM ((A8 (A9 (A9 [75,78,83,68] h) f))+(A8 a))) ((Al MH ((g.1.length:Int),0,A9 (A9 (A9 [75,78,83,68] h) f) a,g.1,())).bind λb=>A3 (b.1,0)) A6) A6) A6)
def gY:rZ:=⟨[.v Mb],[.o QV,.v QI],RB⟩
def d3R:rY:=Qh [.sv 39 (.list kc Ky),40,41,.own 4 4 QB,.own 7 7 QU,.vp 1 Mb,76,77,.own 10 10 QV,.own 75 4 QB] [[250,63,2,56],[4090,960,4,256]] [] [(8,Qg 13 599238400610321 [])]
def d1O:rY:=Qh [.sv 1 QL,2,3,10,.sv 62 QL,63,64,14,15,.box 13 c0U,9,.own 8 8 QV,Qb 39,Qb 61,.vp 4 FV,Qp 13 13] [[506,16511,2,16399,1,3072],[4090,50063,4,33280,1,3072]] [[6,0,20487],[62,0,24591]] [(20,Qg 18 739022684452988911616 [[0,17]])]
def Qq:rZ:=US (FM [(26,NJ),(27,NH),(28,ZQ),(29,TM),(30,gO),(31,VI),(32,gY)] [(13,.pair FV b4S),(76,.pair FV a0F)] 1431311 16) d1O Tryz.f12 [.v FV,.v QL,.v QI,.v QI] [.o QV,.v QI]
def VR(x:Z8×(LI×(Int×Int))):Option (LI×Int):=Qq.F x
def Gx(s:Int×GJ×Int×b8b):QO (Int×GJ×Int×b8b) (jK ⊕ Z4):=(λ(a b:Int)(c:KF)=>cond (A4 (b<a)) ((Ax s.2.1 b).bind λh=>(Ej (c.2.1,h.2)).bind λf=>cond (f.2 != 0) (A3 (.inr (B6 (f.2,[],())))) ((Ed (c.2.1,h.2)).bind λk=>cond (k.2 != 0) (A3 (.inr (B6 (k.2,[],())))) ((Mp k.1).bind λg=>cond (g.2 != 0) (A3 (.inr (B6 (g.2,[],())))) ((Ms g.1).bind λd=>(Oj (c.2.2.1,d,(g.1.length:Int))).bind λe=>cond (BM ((A8 c.2.2.2.1)+1)) (cond (BM ((A8 c.2.2.2.2.1)+1)) (A3 (.inl (zN .i64 (s.1+(f.1.length:Int)),s.2.1,a,zN .i64 (b+1),(c.1,zN .i64 (c.2.1+h.2.1),e.1,A9 c.2.2.2.1 ([(c.2.1,s.1,())]:List (Int×Int×Unit)),A9 c.2.2.2.2.1 ([(c.2.1,h.2)]:List FU),c.2.2.2.2.2),()))) A6) A6)))) (A3 (.inr (B7 (c,()))))) s.2.2.1 s.2.2.2.1 s.2.2.2.2.1
def IP(x:Z8×GJ):Option (LI×Int):=(Al Gx (0,x.2,(x.2.length:Int),0,(x.1,0,0,[],[],()),())).bind λk=>match k with |.inl f=>((RB f.1).bind λh=>A3 (h.1,h.2)) |.inr g=>A3 (g.2.1,g.1)
def RC:rZ:=⟨[.v FV,.v (.list kc Ky)],[.o QV,.v QI],IP⟩
def d3S:rY:=Qh [7,.sv 16 (.list kc Ky),17,18,.box 6 c0U,Qp 6 6,5,.own 4 4 QV] [[122,63,2,48,1,192]] [] [(16,Qg 12 141837571526929 [[0,6]])]
def d1P:rY:=Qh [.sv 35 (.list kc QL),36,37,Qb 29,.box 4 Xp,.box 6 (.pair QI Q9),.vp 2 Xp,.vp 3 Q5,Qp 4 4,Qp 6 6] [[250,951,2,816]] [[14,0,472]] [(3,Qg 17 39199333501684949538 []),(9,Qg 13 600402068242449 [])]
def gZ:rZ:=US (FM [(58,Rj),(59,VH),(128,Cy)] [(6,.pair QI Q9),(12,.pair QI Q7),(30,.pair QI Q7),(33,.pair QI Q7)] 291 12) d1P Tryz.f72 [.v Xp,.v Q5] [.v Xp,.v QI]
def UF:rZ:=US (FM [(29,TM),(38,XJ),(72,gZ)] [] 647 24) QH Tryz.f33 [.v Ky,.v Q5,.v QI] [.v Ky,.v QI]
def d1Q:rY:=Qh [7,.own 6 6 QV,.sv 0 QB,2,.sv 47 (.list kc Ky),48,49,.own 10 10 Ky,Qb 20,Qb 45,.box 8 Mb,.box 12 Ky,.vp 4 Q5,Qp 8 8,Qp 12 12] [[1018,13560,2,9344,1,3]] [[6,0,4364],[62,0,13832],[260711,0,31992,1,3]] [(12,Qg 16 2306142149390897408 [])]
def TN:rZ:=US (FM [(14,TJ),(17,RC),(33,UF)] [] 26311 16) d1Q Tryz.f13 [.v QB,.v Q5,.v QI] [.o QV,.v QI]
def ZY(x:LI×((Int×Int×Unit)×Int)):Option (LI×Int):=TN.F x
def CM(s:LI×Z6):QO (LI×Z6) Z0:=(λ(a:Int)=>cond (A4 (a<(s.1.length:Int))) ((Ax s.1 a).bind λh=>(Ax s.2.1 a).bind λg=>cond (h != g) (A3 (.inr (B6 (kc,())))) (A3 (.inl (s.1,s.2.1,zN .i64 (a+1),())))) (A3 (.inr (B7 ())))) s.2.2.1
def CI(x:Z1):Option Bool:=cond ((x.1.length:Int) != (x.2.length:Int)) (A3 kc) ((Al CM (x.1,x.2,0,())).bind λg=>match g with |.inl f=>A3 true |.inr h=>A3 h.1)
def XP:rZ:=⟨[.v QL,.v QL],[.v .bool],CI⟩
def d3T:rY:=Qh [.sv 0 QL,.sv 1 QL,5,Qb 4] [[58,7,2,0,1,8]] [] [(6,Qg 9 8589934592 [])]
def ZZ(f0:(Z8×(List Int)×Int×Int)->Option ((List Int)×Int))(f1:((List Int)×(Int×Int×Unit)×Int)->Option ((List Int)×Int))(f2:(List Int)->Option b8a)(f3:(KF)->Option ((List Int)×Int))(f4:Z7->Option Bool)(f5:Z7->Option Int)(f6:Z7->Option Bool)(x:Unit):Option Bool:=
 (f0 (((8000:Int),((1:Int),((8:Int),()))),(([(1:Int),(2:Int),(3:Int),(4:Int)]:List Int),((2:Int),(0:Int))))).bind λh=>
 (f1 (h.1,(((1:Int),((4:Int),())),(0:Int)))).bind λg=>
 (f2 g.1).bind λf=>
 (f3 f.1).bind λk=>
 bif h.2==(0:Int)then(
 bif g.2==(0:Int)then(
 bif f.2==(0:Int)then(
 bif k.2==(0:Int)then(
 (f4 (k.1,([(2:Int),(3:Int),(4:Int)]:List Int))).bind λa=>
 bif a then(
 bif ((A8 f.1.2.2.2.2.1:Nat):Int)==(2:Int)then(
 (f5 (h.1,g.1)).bind λb=>
 bif b==(1:Int)then(
 (f6 (h.1,g.1)).bind λc=>
 A3 (!c))
 else A3 kc)
 else A3 kc)
 else A3 kc)
 else A3 kc)
 else A3 kc)
 else A3 kc)
 else A3 kc
def VS(x:Unit):Option Bool:=ZZ VR ZY Db DK CI Iy Iz x
def VT:rZ:=⟨[],[.v .bool],VS⟩
theorem a0S(h:((Z8×((List Int)×(Int×Int))))->Option ((List Int)×Int))(g:(((List Int)×((Int×(Int×Unit))×Int)))->Option ((List Int)×Int))(f:((List Int))->Option b8a)(k:(KF)->Option ((List Int)×Int))(a:Z7->Option Bool)(b:Z7->Option Int)(c:Z7->Option Bool)(x:Unit):a0u (FM [(8,c0V Se b),(10,c0V XL c),(12,c0V Qq h),(13,c0V TN g),(14,c0V TJ f),(15,c0V UD k),(16,c0V XP a)] [] 957 0) QH Tryz.f4 VT.ps VT.rs x=ZZ h g f k a b c x:=by kernel_rfl
def BS(x:GJ×Int):Option GJ:=cond (A4 (x.2<(0:Int))) A6 (cond (A4 ((zN .i64 (x.2-(0:Int))) > (0:Int))) (cond (A4 (0<=zN .i64 (x.2-(0:Int)))&&BM (A7 (zN .i64 (x.2-(0:Int))))) (cond (BM (A8 (B4 (A7 (zN .i64 (x.2-(0:Int)))) ((0:Int),(0:Int),((0:Int),(0:Int),(0:Int),()),([]:Zh),([]:a9f),())))) (cond (A4 ((0:Int)<=((A8 (B4 (A7 (zN .i64 (x.2-(0:Int)))) ((0:Int),(0:Int),((0:Int),(0:Int),(0:Int),()),([]:Zh),([]:a9f),())):Nat):Int))) (A3 ([]:GJ)) A6) A6) A6) (A3 ([]:GJ)))
def Kt:rZ:=⟨[.v (.nl Ky),.v QI],[.o Ky],BS⟩
def Bt(s:a3T×Int×a3T×Int×Int×Unit):QO (a3T×Int×a3T×Int×Int×Unit) (a3T×Int×Unit):=(λ(a:Int)(b:a3T)(c d:Int)=>cond (A4 (d<c)) ((Ax b d).bind λh=>cond (A4 (zN .i64 (a+(h.length:Int))<0)) A6 (A3 (.inl (s.1,zN .i64 (a+(h.length:Int)),b,c,zN .i64 (d+1),())))) (A3 (.inr (s.1,a,())))) s.2.1 s.2.2.1 s.2.2.2.1 s.2.2.2.2.1
def Bu(s:a3T×Int×Int×b7V):QO (a3T×Int×Int×b7V) b7V:=(λ(a:Int)(b:GJ)=>cond (A4 (a<s.2.1)) ((Ax s.1 a).bind λh=>cond (BM ((A8 b)+(A8 h))) (A3 (.inl (s.1,s.2.1,zN .i64 (a+1),A9 b h,()))) A6) (A3 (.inr (b,())))) s.2.2.1 s.2.2.2.1
def BI(x:a3T):Option GJ:=(Al Bt (x,0,x,(x.length:Int),0,())).bind λh=>(BS ([],h.2.1)).bind λf=>(Al Bu (h.1,(h.1.length:Int),0,f,())).bind λg=>A3 g.1
def Jr:rZ:=⟨[.v (.list kc (.list kc Ky))],[.o Ky],BI⟩
def d3U:rY:=Qh [.sv 0 (.list kc (.list kc Ky)),3,.sv 9 (.list kc (.list kc Ky)),10,11,.sv 25 (.list kc (.list kc Ky)),26,27,.own 6 6 Ky] [[58,31,2,3],[250,480,4,256]] [] []
def NP(x:Z1):Option (LI×Int):=(Db x.1).bind λh=>cond (h.2 != 0) (A3 ([],h.2)) ((Db x.2).bind λg=>cond (g.2 != 0) (A3 ([],g.2)) (cond (!(Xm FV h.1.1 g.1.1)) (A3 ([],2)) ((show Option b2k from cond (A4 ((zN .i64 (h.1.2.1+g.1.2.1)) > 4194304)) (A3 (ka,h.1,g.1,())) (A3 (A4 ((zN .i64 ((h.1.2.2.2.2.1.length:Int)+(g.1.2.2.2.2.1.length:Int))) > 4096),h.1,g.1,()))).bind λf=>cond f.1 (A3 ([],4)) ((BI ([f.2.1.2.2.2.2.1,f.2.2.1.2.2.2.2.1]:List GJ)).bind λa=>(IP (f.2.1.1,a)).bind λk=>A3 (k.1,k.2)))))
def a0T:rZ:=⟨[.v QB,.v QB],[.o QV,.v QI],NP⟩
def H5:rY:=Qh [Qb 45,.box 6 Mb,.box 8 Mb,Qp 6 6,Qp 8 8] [] [[254,0,31]] [(11,Qg 13 599311416103185 [])]
def LR(x:Z8):Option Bool:=cond (A4 (x.1>=1)) (cond (A4 (x.1<=1048576)) (cond (A4 (x.2.1>=1)) (cond (A4 (x.2.1<=8)) (cond (A4 (x.2.2.1>=4)) (A3 (A4 (x.2.2.1<=24))) (A3 kc)) (A3 kc)) (A3 kc)) (A3 kc)) (A3 kc)
def a6o:rZ:=⟨[.v FV],[.v .bool],LR⟩
def WY(x:GJ):Option Int:=cond ((x.length:Int)==0) (A3 0) ((Ax x (zN .i64 ((x.length:Int)-1))).bind λh=>A3 (zN .i64 (h.1+h.2.1)))
def b2r:rZ:=⟨[.v (.list kc Ky)],[.v QI],WY⟩
def Js(s:b6X):QO b6X (LI×Unit):=cond (A4 (s.2.1>=0)) (cond (A4 (zN .u64 (zN .i64 (8*s.2.1))<0)) A6 (cond (BM ((A8 s.2.2.1)+1)) (A3 (.inl (s.1,zN .i64 (s.2.1-1),A9 s.2.2.1 [zN .u8 (AR .u64 s.1 (zN .u64 (zN .i64 (8*s.2.1))))],()))) A6)) (A3 (.inr (s.2.2.1,())))
def Jt(x:Int×Int):Option LI:=(Al Js (x.1,zN .i64 ((Fk (OH x.2 8) 0)-1),[],())).bind λh=>A3 h.1
def b5a:rZ:=⟨[.v QU,.v QI],[.o QV],Jt⟩
def d3V:rY:=Qh [.sv 0 QU,6,.own 5 5 QV] [[58,7,2,4]] [] []
def Ht(s:c6V):QO c6V Z0:=(λ(a:Zh)(b c:Int)=>cond (A4 (c<(a.length:Int))) ((Ax a c).bind λh=>(show Option (Zh×c1R)from cond (A4 (h.1<0)) (A3 (a,b,c,ka,())) (cond (A4 (h.1>=b)) (A3 (a,b,c,ka,())) (cond (A4 (h.2.1<0)) (A3 (a,b,c,ka,())) (cond (A4 (h.2.1>=b)) (A3 (a,b,c,ka,())) (cond (h.1==h.2.1) (A3 (a,b,c,ka,())) (cond (A4 (h.2.2.1<(-1024))) (A3 (a,b,c,ka,())) (A3 (a,b,c,A4 (h.2.2.1 > 1024),())))))))).bind λg=>cond g.2.2.2.1 (A3 (.inr (B6 (kc,())))) (A3 (.inl (g.1,g.2.1,zN .i64 (g.2.2.1+1),())))) (A3 (.inr (B7 ())))) s.1 s.2.1 s.2.2.1
def KR(x:Zh×Int):Option Bool:=(show Option (Zh×Int×Bool×Unit)from cond (A4 (x.2<1)) (A3 (x.1,x.2,ka,())) (cond (A4 (x.2 > 8)) (A3 (x.1,x.2,ka,())) (A3 (x.1,x.2,A4 ((x.1.length:Int) > 16),())))).bind λh=>cond h.2.2.1 (A3 kc) ((Al Ht (h.1,h.2.1,0,())).bind λf=>match f with |.inl k=>A3 true |.inr g=>A3 g.1)
def a0U:rZ:=⟨[.v (.list kc FV),.v QI],[.v .bool],KR⟩
def c9p:rY:=Qh [.sv 0 (.list kc FV),1,5,Qb 4,Qb 17,Qb 64] [[58,7,2,0,1,8]] [[6,0,19],[1865,0,39]] []
def KS(x:FU):Option Bool:=(LR x.2.2.1).bind λh=>cond h (cond (A4 (x.2.1>=1)) (cond (A4 (x.2.1<=4096)) (cond (A4 (x.1>=0)) (cond (A4 (x.1<=(zN .i64 (4194304-x.2.1)))) ((KR (x.2.2.2.1,x.2.2.1.2.1)).bind λg=>A3 g) (A3 kc)) (A3 kc)) (A3 kc)) (A3 kc)) (A3 kc)
def a0V:rZ:=⟨[.v Ky],[.v .bool],KS⟩
def EW(s:Z5×c6N):QO (Z5×c6N) Z0:=(λ(a:Int)=>cond (A4 (a<(s.1.length:Int))) ((Ax s.1 a).bind λh=>(Ax s.2.1 a).bind λg=>cond (!(Xm Q5 h g)) (A3 (.inr (B6 (kc,())))) (A3 (.inl (s.1,s.2.1,zN .i64 (a+1),())))) (A3 (.inr (B7 ())))) s.2.2.1
def JZ(x:Z5×Z5):Option Bool:=cond ((x.1.length:Int) != (x.2.length:Int)) (A3 kc) ((Al EW (x.1,x.2,0,())).bind λg=>match g with |.inl f=>A3 true |.inr h=>A3 h.1)
def eH:rZ:=⟨[.v (.list kc Q5),.v (.list kc Q5)],[.v .bool],JZ⟩
def c9q:rY:=Qh [.sv 0 (.list kc Q5),.sv 1 (.list kc Q5),5,Qb 4] [[58,7,2,0,1,8]] [] [(6,Qg 9 8589934592 [])]
def Qs(x:Z4×Z4):Option Bool:=cond (x.1.1==x.2.1) ((CI (x.1.2.1,x.2.2.1)).bind λh=>A3 h) (A3 kc)
def oU:rZ:=⟨[.v cZ,.v cZ],[.v .bool],Qs⟩
def KT(x:Jf×Jf):Option Bool:=cond (x.1.1==x.2.1) (cond (x.1.2.1==x.2.2.1) (cond (x.1.2.2.1==x.2.2.2.1) (cond (x.1.2.2.2.1==x.2.2.2.2.1) (cond (x.1.2.2.2.2.1==x.2.2.2.2.2.1) ((CI (x.1.2.2.2.2.2.1,x.2.2.2.2.2.2.1)).bind λh=>cond h (cond (Xm (.arr 3 (.int .i64)) x.1.2.2.2.2.2.2.1 x.2.2.2.2.2.2.2.1) ((JZ (x.1.2.2.2.2.2.2.2.1,x.2.2.2.2.2.2.2.2.1)).bind λg=>cond g ((CI (x.1.2.2.2.2.2.2.2.2.1,x.2.2.2.2.2.2.2.2.2.1)).bind λf=>cond f ((Qs (x.1.2.2.2.2.2.2.2.2.2.1,x.2.2.2.2.2.2.2.2.2.2.1)).bind λk=>cond k ((CI (x.1.2.2.2.2.2.2.2.2.2.2.1,x.2.2.2.2.2.2.2.2.2.2.2.1)).bind λa=>A3 a) (A3 kc)) (A3 kc)) (A3 kc)) (A3 kc)) (A3 kc)) (A3 kc)) (A3 kc)) (A3 kc)) (A3 kc)) (A3 kc)
def a0W:rZ:=⟨[.v Ib,.v Ib],[.v .bool],KT⟩
def GQ(x:Int):Option Bool:=cond (A4 (x>=2)) (A3 (A4 (x<=5))) (A3 kc)
def a0X:rZ:=⟨[.v QI],[.v .bool],GQ⟩
def FC(s:Ia):QO Ia (Z6 ⊕ (Bool×Unit)):=(λ(a:LI)(b c:Int)=>cond (A4 (c<(a.length:Int))) ((show Option c0M from(Ax a c).bind λg=>cond (A4 (g<(-32768))) (A3 (a,b,c,ka,())) ((Ax a c).bind λf=>A3 (a,b,c,A4 (f>=32768),()))).bind λh=>cond h.2.2.2.1 (A3 (.inr (B6 (kc,())))) (A3 (.inl (h.1,h.2.1,zN .i64 (h.2.2.1+1),())))) (A3 (.inr (B7 (a,b,()))))) s.1 s.2.1 s.2.2.1
def Gf(x:LI×Int):Option Bool:=(Al FC (x.1,x.2,0,())).bind λf=>match f with |.inl h=>(cond (A4 ((h.1.length:Int)>=1)) (cond (A4 ((h.1.length:Int)<=32)) (cond (A4 (h.2.1>=0)) (A3 (A4 (h.2.1<=15))) (A3 kc)) (A3 kc)) (A3 kc)) |.inr g=>A3 g.1
def jR:rZ:=⟨[.v QL,.v QI],[.v .bool],Gf⟩
def c9r:rY:=Qh [.sv 0 QL,1,5,Qb 4,Qb 23] [[26,7,2,3,1,8]] [[420,0,23]] []
def Hu(s:b6X):QO b6X ((Int×Unit) ⊕ (Bool×Unit)):=(λ(a:Int)(b:LI)=>cond (A4 (a<3)) ((show Option (Int×Int×Z9)from(Ax b a).bind λg=>cond (A4 (g<(-64))) (A3 (s.1,a,ka,b,())) ((Ax b a).bind λf=>A3 (s.1,a,A4 (f > 64),b,()))).bind λh=>cond h.2.2.1 (A3 (.inr (B6 (kc,())))) (A3 (.inl (h.1,zN .i64 (h.2.1+1),h.2.2.2.1,())))) (A3 (.inr (B7 (s.1,()))))) s.2.1 s.2.2.1
def KU(x:Int×LI):Option Bool:=(Al Hu (x.1,0,x.2,())).bind λf=>match f with |.inl h=>(cond (A4 (h.1>=2)) (A3 (A4 (h.1<=1024))) (A3 kc)) |.inr g=>A3 g.1
def a0Y:rZ:=⟨[.v QI,.v (.arr 3 QI)],[.v .bool],KU⟩
def c9s:rY:=Qh [0,5,Qb 4,Qb 19,.vp 3 (.arr 3 QI)] [[26,19,2,1,1,4]] [[420,0,27]] []
def Ju(x:Int×Int×Unit):Option Bool:=cond (A4 (x.1>=1)) (cond (A4 (x.1<=32)) (cond (A4 (x.2.1>=0)) (A3 (A4 (x.2.1<=8))) (A3 kc)) (A3 kc)) (A3 kc)
def oV:rZ:=⟨[.v Q5],[.v .bool],Ju⟩
def Gy(s:c6N):QO c6N ((Z5×Unit) ⊕ (Bool×Unit)):=cond (A4 (s.2.1<(s.1.length:Int))) ((Ax s.1 s.2.1).bind λh=>(Ju h).bind λg=>cond (!g) (A3 (.inr (B6 (kc,())))) (A3 (.inl (s.1,zN .i64 (s.2.1+1),())))) (A3 (.inr (B7 (s.1,()))))
def Jv(x:Z5):Option Bool:=(Al Gy (x,0,())).bind λf=>match f with |.inl h=>A3 (A4 ((h.1.length:Int)<=3)) |.inr g=>A3 g.1
def oW:rZ:=⟨[.v (.list kc Q5)],[.v .bool],Jv⟩
def c9t:rY:=Qh [.sv 0 (.list kc Q5),3,Qb 2] [[26,3,2,1,1,4]] [] []
def LS(x:jJ):Option Int:=cond (x.1.1==0) (A3 1) (cond (x.1.1==1) (A3 x.2) (cond (x.1.1==2) ((show Option b7N from cond (A4 (x.1.2.2.1>=0)) (cond (A4 (x.1.2.2.1<=4)) (A3 (A4 (x.1.2.2.1<=x.2),x.1,())) (A3 (kc,x.1,()))) (A3 (kc,x.1,()))).bind λg=>cond g.1 (A3 g.2.1.2.2.1) (A3 (-1))) ((show Option b7P from cond (x.1.1==3) (A3 (x.2,x.1.1,x.1.1==3,x.1,())) (A3 (x.2,x.1.1,x.1.1==4,x.1,()))).bind λh=>cond h.2.2.1 ((show Option b7N from(Gf (h.2.2.2.1.2.2.2.2.2.1,h.2.2.2.1.2.2.2.1)).bind λk=>cond k (cond (A4 ((h.2.2.2.1.2.2.2.2.2.1.length:Int)<=h.1)) (cond (h.2.2.2.1.1==3) (A3 (ka,h.2.2.2.1,())) ((KU (h.2.2.2.1.2.2.2.2.1,h.2.2.2.1.2.2.2.2.2.2.1)).bind λa=>A3 (a,h.2.2.2.1,()))) (A3 (kc,h.2.2.2.1,()))) (A3 (kc,h.2.2.2.1,()))).bind λf=>cond f.1 (A3 (f.2.1.2.2.2.2.2.1.length:Int)) (A3 (-1))) (cond (h.2.1==5) ((show Option (Bool×Unit)from cond (A4 ((h.2.2.2.1.2.2.2.2.2.2.2.1.length:Int) > 0)) ((Jv h.2.2.2.1.2.2.2.2.2.2.2.1).bind λb=>A3 (b,())) (A3 (kc,()))).bind λc=>cond c.1 (A3 0) (A3 (-1))) (A3 (-1))))))
def a6p:rZ:=⟨[.v Ib,.v QI],[.v QI],LS⟩
def c9u:rY:=Qh [Qb 27,1,6,Qb 30,Qb 56,.vp 2 Ib,Qb 70] [] [[1726,0,33],[1727,0,46],[6910,0,48],[27646,0,64]] []
def RD(x:Jf):Option Jf:=cond (x.1==0) (A3 (x.1,0,0,0,0,[],B4 3 0,[],x.2.2.2.2.2.2.2.2.1,(0,[],()),[],())) (cond (x.1==1) (A3 (x.1,x.2.1,0,0,0,[],B4 3 0,[],x.2.2.2.2.2.2.2.2.1,(0,[],()),[],())) ((show Option b2h from cond (x.1==2) (A3 ((0,0,0,0,0,[],B4 3 0,[],[],(0,[],()),[],()),(x.1,x.2.1,x.2.2.1,0,0,[],B4 3 0,[],x.2.2.2.2.2.2.2.2.1,x.2.2.2.2.2.2.2.2.2.1,x.2.2.2.2.2.2.2.2.2.2.1,()),())) (cond (x.1==3) (A3 ((0,0,0,0,0,[],B4 3 0,[],[],(0,[],()),[],()),(x.1,x.2.1,0,x.2.2.2.1,0,x.2.2.2.2.2.1,B4 3 0,[],x.2.2.2.2.2.2.2.2.1,x.2.2.2.2.2.2.2.2.2.1,x.2.2.2.2.2.2.2.2.2.2.1,()),())) (cond (x.1==4) (A3 ((0,0,0,0,0,[],B4 3 0,[],[],(0,[],()),[],()),(x.1,x.2.1,0,x.2.2.2.1,x.2.2.2.2.1,x.2.2.2.2.2.1,x.2.2.2.2.2.2.1,[],x.2.2.2.2.2.2.2.2.1,x.2.2.2.2.2.2.2.2.2.1,x.2.2.2.2.2.2.2.2.2.2.1,()),())) (cond (x.1==5) (A3 ((0,0,0,0,0,[],B4 3 0,[],[],(0,[],()),[],()),(x.1,x.2.1,0,0,0,[],B4 3 0,x.2.2.2.2.2.2.2.1,[],x.2.2.2.2.2.2.2.2.2.1,x.2.2.2.2.2.2.2.2.2.2.1,()),())) (A3 ((0,0,0,0,0,[],B4 3 0,[],[],(0,[],()),[],()),(x.1,x.2.1,0,0,0,[],B4 3 0,[],x.2.2.2.2.2.2.2.2.1,x.2.2.2.2.2.2.2.2.2.1,x.2.2.2.2.2.2.2.2.2.2.1,()),())))))).bind λh=>A3 h.2.1))
def a6q:rZ:=⟨[.v Ib],[.v Ib],RD⟩
def c9v:rY:=Qh [.box 2 Ib,.box 3 Ib,Qp 2 2,Qp 3 3] [] [[127,0,15]] [(7,Qg 8 578879488 [[0,3]]),(12,Qg 8 578879488 [[0,3]]),(14,Qg 16 2486410860335988736 [[0,3],[0,3],[0,3]])]
def EC(x:Int):Option Bool:=cond (A4 (x>=(-1073741824))) (A3 (A4 (x<1073741824))) (A3 kc)
def b2t:rZ:=⟨[.v QI],[.v .bool],EC⟩
def Ih(s:Z6):QO Z6 Z0:=cond (A4 (s.2.1<(s.1.length:Int))) ((Ax s.1 s.2.1).bind λh=>(EC h).bind λg=>cond (!g) (A3 (.inr (B6 (kc,())))) (A3 (.inl (s.1,zN .i64 (s.2.1+1),())))) (A3 (.inr (B7 ())))
def Ct(x:LI):Option Bool:=(Al Ih (x,0,())).bind λg=>match g with |.inl f=>A3 true |.inr h=>A3 h.1
def a4e:rZ:=⟨[.v QL],[.v .bool],Ct⟩
def c9w:rY:=Qh [.sv 0 QL,3,Qb 2] [[26,3,2,0,1,4]] [] []
def VU(x:Int×Int):Option Bool:=cond (A4 (x.1>=1)) (cond (A4 (x.1<=4096)) (cond (A4 (x.2>=0)) (A3 (A4 (x.2<=x.1))) (A3 kc)) (A3 kc)) (A3 kc)
def b5b:rZ:=⟨[.v QI,.v QI],[.v .bool],VU⟩
def HP(s:c6Q):QO c6Q Z4:=(λ(a b c:Int)(d:LI)=>cond (A4 (zN .u64 a<0)) A6 (cond (A4 (c<AO .i64 1 (zN .u64 a))) (cond (A4 (zN .u64 a<0)) A6 (cond (BM ((A8 d)+1)) (A3 (.inl (a,s.2.1,b,zN .i64 (c+1),A9 d [AR .i64 s.2.1 (zN .u64 a)],()))) A6)) (A3 (.inr (b,d,()))))) s.1 s.2.2.1 s.2.2.2.1 s.2.2.2.2.1
def EP(x:Int×Int×Int):Option LI:=(show Option c6K from(VU (x.2.1,x.2.2)).bind λf=>cond (!f) (A3 (x.1,x.2.1,x.2.2,ka,())) (cond (A4 (x.1<0)) (A3 (x.1,x.2.1,x.2.2,ka,())) (cond (A4 (x.1 > 8)) (A3 (x.1,x.2.1,x.2.2,ka,())) (cond (A4 (zN .u64 x.1<0)) A6 (cond (AO .i64 1 (zN .u64 x.1)==0) A6 (cond ((C0 x.2.1 (AO .i64 1 (zN .u64 x.1))) != 0) (A3 (x.1,x.2.1,x.2.2,ka,())) (cond (A4 (zN .u64 x.1<0)) A6 (A3 (x.1,x.2.1,x.2.2,A4 (AR .i64 x.2.1 (zN .u64 x.1)<x.2.2),()))))))))).bind λg=>cond g.2.2.2.1 (A3 []) ((Al HP (g.1,g.2.1,g.2.2.1,0,[],())).bind λh=>cond (A4 (0<(h.2.1.length:Int))) (cond (A4 (0<(h.2.1.length:Int))) (A3 (C1 h.2.1 0 (zN .i64 ((B3 h.2.1 0 0)-h.1)))) A6) A6)
def jS:rZ:=⟨[.v QI,.v QI,.v QI],[.o QI],EP⟩
def c9x:rY:=Qh [0,1,2,8,.own 7 7 QI,Qb 36] [[122,31,2,20]] [[6,0,39]] []
def BW(x:Int):Option Bool:=cond (A4 (x>=0)) (A3 (A4 (x<=25))) (A3 kc)
def oX:rZ:=⟨[.v QI],[.v .bool],BW⟩
def Fl(s:Int×b7F):QO (Int×b7F) Z0:=cond (A4 (s.1<(s.2.1.2.1.length:Int))) ((show Option (Int×c2m)from(Ax s.2.1.2.1 s.1).bind λg=>(BW g).bind λk=>cond (!k) ((Ax s.2.1.2.1 s.1).bind λf=>A3 (s.1,f != 31,s.2.1,())) (A3 (s.1,kc,s.2.1,()))).bind λh=>cond h.2.1 (A3 (.inr (B6 (kc,())))) (A3 (.inl (zN .i64 (h.1+1),h.2.2.1,())))) (A3 (.inr (B7 ())))
def IA(x:Z4×Int×Int):Option Bool:=(EP (x.1.1,x.2.1,x.2.2)).bind λh=>(show Option c2m from cond ((h.length:Int)==0) (A3 (ka,x.1,())) (A3 ((h.length:Int) != (x.1.2.1.length:Int),x.1,()))).bind λg=>cond g.1 (A3 kc) ((Al Fl (0,g.2.1,())).bind λk=>match k with |.inl a=>A3 true |.inr f=>A3 f.1)
def a0Z:rZ:=⟨[.v cZ,.v QI,.v QI],[.v .bool],IA⟩
def c9y:rY:=Qh [8,Qb 6,Qb 24,Qb 46,.vp 3 cZ] [[122,17,2,0,1,2]] [[14,0,20],[1956,0,25]] []
def TO(x:Int):Option LI:=cond (A4 (0<=x)&&A4 (x<5)) (A3 (B3 ([[],[1],[2,(-1)],[3,(-3),1],[4,(-6),4,(-1)]]:List LI) (A7 x) [])) A6
def a4f:rZ:=⟨[.v QI],[.v QL],TO⟩
def FD(s:LI×Int×c6T):QO (LI×Int×c6T) (LI×b2c):=(λ(a:Int)(b:LI)(c d e:Int)(f:LI)=>cond (A4 (e<a)) ((Ax b e).bind λh=>cond (A4 (0<=(zN .i64 ((zN .i64 ((f.length:Int)-1))-e)))&&A4 (zN .i64 ((zN .i64 ((f.length:Int)-1))-e)<(f.length:Int))) (A3 (.inl (s.1,a,b,c,zN .i64 (d+(zN .i64 (h*(B3 f (A7 (zN .i64 ((zN .i64 ((f.length:Int)-1))-e))) 0)))),zN .i64 (e+1),f,()))) A6) (A3 (.inr (s.1,a,b,c,d,f,())))) s.2.1 s.2.2.1 s.2.2.2.1 s.2.2.2.2.1 s.2.2.2.2.2.1 s.2.2.2.2.2.2.1
def HQ(s:LI×Int×b7G):QO (LI×Int×b7G) b4L:=(λ(a:Int)(b:LI)=>cond (A4 (a<(s.1.length:Int))) ((Ax s.1 a).bind λg=>(Al FD (s.1,s.2.1,s.2.2.1,a,g,0,b,())).bind λh=>(EC h.2.2.2.2.1).bind λf=>cond (!f) (A3 (.inr (B6 (6,[],())))) (cond (BM ((A8 h.2.2.2.2.2.1)+1)) (A3 (.inl (h.1,h.2.1,h.2.2.1,zN .i64 (h.2.2.2.1+1),A9 h.2.2.2.2.2.1 [h.2.2.2.2.1],()))) A6)) (A3 (.inr (B7 (b,()))))) s.2.2.2.1 s.2.2.2.2.1
def Lp(x:c1S):Option (LI×Int):=(show Option c2p from cond (A4 (x.2.2<0)) (A3 (x.1,x.2.1,x.2.2,ka,())) (cond (A4 (x.2.2 > 4)) (A3 (x.1,x.2.1,x.2.2,ka,())) (A3 (x.1,x.2.1,x.2.2,(x.1.length:Int) != x.2.2,())))).bind λh=>cond h.2.2.2.1 (A3 ([],1)) ((show Option c2p from(Ct h.1).bind λb=>cond (!b) (A3 (h.1,h.2.1,h.2.2.1,ka,())) ((Ct h.2.1).bind λc=>A3 (h.1,h.2.1,h.2.2.1,!c,()))).bind λg=>cond g.2.2.2.1 (A3 ([],6)) (cond (BM (0+(A8 g.1))) ((TO g.2.2.1).bind λd=>(Al HQ (g.2.1,g.2.2.1,d,0,A9 [] g.1,())).bind λa=>match a with |.inl k=>A3 (k.1,0) |.inr f=>A3 (f.2.1,f.1)) A6))
def jT:rZ:=⟨[.v QL,.v QL,.v QI],[.o QI,.v QI],Lp⟩
def c9z:rY:=Qh [7,.own 6 6 QI,.sv 0 QL,.sv 1 QL,2,.sv 9 QL,10,11,12,.own 8 8 QI,Qb 24,Qb 32] [[250,632,2,512,1,3],[64074,1016,4,760]] [[6,0,1052],[14,0,2076]] [(13,Qg 16 2450257264738566144 [])]
def Ek(s:c7p):QO c7p ((Int×Int×Unit) ⊕ (Int×Unit)):=(λ(a b:LI)(c d e:Int)=>cond (A4 (e<(b.length:Int))) (cond (A4 (e<(a.length:Int))) ((Ax a (zN .i64 ((zN .i64 ((a.length:Int)-1))-e))).bind λh=>(EC h).bind λf=>cond (!f) (A3 (.inr (B6 (0,())))) ((Ax b e).bind λg=>A3 (.inl (a,b,c,zN .i64 (d+(zN .i64 (g*h))),zN .i64 (e+1),())))) (A3 (.inr (B7 (c,d,()))))) (A3 (.inr (B7 (c,d,()))))) s.1 s.2.1 s.2.2.1 s.2.2.2.1 s.2.2.2.2.1
def IQ(x:c1S):Option Int:=(Gf (x.2.1,x.2.2)).bind λk=>cond (!k) (A3 0) ((Al Ek (x.1,x.2.1,x.2.2,0,0,())).bind λf=>match f with |.inl h=>(cond (A4 (zN .u64 h.1<0)) A6 (A3 (AR .i64 h.2.1 (zN .u64 h.1)))) |.inr g=>A3 g.1)
def bB:rZ:=⟨[.v QL,.v QL,.v QI],[.v QI],IQ⟩
def c9A:rY:=Qh [.sv 0 QL,.sv 1 QL,2,7,8,6] [[122,31,2,12,1,32]] [] []
def Hc(s:LI×b3F):QO (LI×b3F) b4L:=(λ(a b:Int)(c:LI)=>cond (A4 (b<(s.1.length:Int))) ((Ax s.1 b).bind λh=>(IQ (c,s.2.1,a)).bind λg=>(EC (zN .i64 (h+g))).bind λf=>cond (!f) (A3 (.inr (B6 (6,[],())))) (cond (BM ((A8 c)+1)) (A3 (.inl (s.1,s.2.1,a,zN .i64 (b+1),A9 c [zN .i64 (h+g)],()))) A6)) (A3 (.inr (B7 (c,()))))) s.2.2.1 s.2.2.2.1 s.2.2.2.2.1
def Hv(x:LI×c1S):Option (LI×Int):=(show Option c6Z from(Gf (x.2.2.1,x.2.2.2)).bind λb=>cond (!b) (A3 (x.1,x.2.1,x.2.2.1,x.2.2.2,ka,())) (A3 (x.1,x.2.1,x.2.2.1,x.2.2.2,(x.1.length:Int) != (x.2.2.1.length:Int),()))).bind λh=>cond h.2.2.2.2.1 (A3 ([],1)) ((show Option c6Z from(Ct h.1).bind λc=>cond (!c) (A3 (h.1,h.2.1,h.2.2.1,h.2.2.2.1,ka,())) ((Ct h.2.1).bind λd=>A3 (h.1,h.2.1,h.2.2.1,h.2.2.2.1,!d,()))).bind λg=>cond g.2.2.2.2.1 (A3 ([],6)) (cond (BM (0+(A8 g.1))) ((Al Hc (g.2.1,g.2.2.1,g.2.2.2.1,0,A9 [] g.1,())).bind λa=>match a with |.inl k=>A3 (k.1,0) |.inr f=>A3 (f.2.1,f.1)) A6))
def eI:rZ:=⟨[.v QL,.v QL,.v QL,.v QI],[.o QI,.v QI],Hv⟩
def c9B:rY:=Qh [9,.own 8 8 QI,.sv 0 QL,.sv 1 QL,.sv 2 QL,3,11,.own 10 10 QI,Qb 23,Qb 31] [[250,248,2,128,1,3]] [[6,0,316],[14,0,572]] [(9,Qg 10 146297389056 [])]
def FE(s:c6T):QO c6T (Int×Unit):=(λ(a:LI)(b c d:Int)(e:LI)=>cond (A4 (d<3)) (cond (A4 ((zN .i64 ((zN .i64 ((zN .i64 ((a.length:Int)-b))-1))+d))>=0)) ((Ax e d).bind λh=>(Ax a (zN .i64 ((zN .i64 ((zN .i64 ((a.length:Int)-b))-1))+d))).bind λg=>A3 (.inl (a,b,zN .i64 (c+(zN .i64 (h*g))),zN .i64 (d+1),e,()))) (A3 (.inl (a,b,c,zN .i64 (d+1),e,())))) (A3 (.inr (c,())))) s.1 s.2.1 s.2.2.1 s.2.2.2.1 s.2.2.2.2.1
def Lq(x:LI×Int×LI):Option Int:=(Al FE (x.1,x.2.1,0,0,x.2.2,())).bind λh=>A3 (AR .i64 h.1 6)
def jU:rZ:=⟨[.v QL,.v QI,.v (.arr 3 QI)],[.v QI],Lq⟩
def c9C:rY:=Qh [.sv 0 QL,1,7,8,.vp 5 (.arr 3 QI)] [[58,31,2,4]] [] [(7,Qg 11 2336462209024 [])]
def IR(s:c6X):QO c6X b4L:=(λ(a:Int)(b c:LI)=>cond (A4 (a<(s.1.length:Int))) ((Ax s.1 a).bind λh=>(Lq (b,s.2.1,c)).bind λg=>(EC (zN .i64 (h+g))).bind λf=>cond (!f) (A3 (.inr (B6 (6,[],())))) (cond (BM ((A8 b)+1)) (A3 (.inl (s.1,s.2.1,zN .i64 (a+1),A9 b [zN .i64 (h+g)],c,()))) A6)) (A3 (.inr (B7 (b,()))))) s.2.2.1 s.2.2.2.1 s.2.2.2.2.1
def MI(x:LI×Int×LI):Option (LI×Int):=(KU (x.2.1,x.2.2)).bind λk=>cond (!k) (A3 ([],1)) ((Ct x.1).bind λa=>cond (!a) (A3 ([],6)) ((Al IR (x.1,x.2.1,0,[],x.2.2,())).bind λf=>match f with |.inl g=>A3 (g.1,0) |.inr h=>A3 (h.2.1,h.1)))
def oY:rZ:=⟨[.v QL,.v QI,.v (.arr 3 QI)],[.o QI,.v QI],MI⟩
def c9D:rY:=Qh [.sv 0 QL,1,9,.own 8 8 QI,.vp 5 (.arr 3 QI),7,.own 6 6 QI] [[250,31,2,8,1,96]] [] [(9,Qg 10 146297389056 [])]
def Lr(x:Int×Int×Unit):Option c6O:=(Ju x).bind λh=>cond (!h) A6 (cond (A4 (0<=x.1)&&(A4 (x.1<=x.1)&&BM (A7 x.1))) (cond (A4 (0<=x.1)&&(A4 (x.1<=x.1)&&BM (A7 x.1))) (A3 ((x.2.1,B4 (A7 x.1) 0,B4 (A7 x.1) 0,()),0)) A6) A6)
def jV:rZ:=⟨[.v Q5],[.b b2l,.v QI],Lr⟩
def c9E:rY:=Qh [] [] [] [(3,Qg 12 37529692733440 [])]
def Qt(x:Int):Option Int:=kd (OH (Fk x (-1073741824)) 1073741823)
def a9n:rZ:=⟨[.v QI],[.v QI],Qt⟩
def FJ(s:c7c):QO c7c c6U:=(λ(a:Int)(b:b4K)=>cond (A4 (a<(b.2.1.length:Int))) (cond (A4 (0<=a)&&A4 (a<(b.2.1.length:Int))) (cond (A4 (0<=a)&&A4 (a<(b.2.2.1.length:Int))) (A3 (.inl (zN .i64 (s.1+(zN .i64 ((B3 b.2.1 (A7 a) 0)*(B3 b.2.2.1 (A7 a) 0)))),zN .i64 (a+1),b,()))) A6) A6) (A3 (.inr (s.1,b,())))) s.2.1 s.2.2.1
def FF(x:b4K):Option c7n:=(Al FJ (0,0,x,())).bind λh=>(Qt (AR .i64 h.1 16)).bind λg=>A3 (g,h.2.1)
def YI:rZ:=⟨[.r kc (.b b2l)],[.v QI],FF⟩
def c9F:rY:=Qh [3,4,.box pinned b2l,Qp 0 pinned] [[58,15,2,5]] [] [(5,Qg 18 627265878610816340784 [])]
def Qu(x:Int):Option Int:=cond (A4 (x > 0)) (A3 1) (cond (A4 (x<0)) (A3 (-1)) (A3 0))
def a9o:rZ:=⟨[.v QI],[.v QI],Qu⟩
def El(s:Int×Int×Int×LI×c7a):QO (Int×Int×Int×LI×c7a) (Int×LI×c7a):=(λ(a:Int)(b c:LI)(d:b4K)=>cond (A4 (a<(d.2.1.length:Int))) (cond (A4 (0<=a)&&A4 (a<(d.2.1.length:Int))) (cond (A4 (0<=a)&&A4 (a<(d.2.2.1.length:Int))) ((Qu (B3 d.2.2.1 (A7 a) 0)).bind λh=>cond (A4 (zN .u64 d.1<0)) A6 (cond (BM ((A8 b)+1)) (A3 (.inl (s.1,s.2.1,zN .i64 (a+1),A9 b [OH (Fk (zN .i64 ((B3 d.2.1 (A7 a) 0)+(AO .i64 (zN .i64 (s.2.1*h)) (zN .u64 d.1)))) (-1048576)) 1048576],c,d,()))) A6)) A6) A6) (A3 (.inr (s.1,b,c,d,())))) s.2.2.1 s.2.2.2.1 s.2.2.2.2.1 s.2.2.2.2.2.1
def IS(x:c6O):Option b4K:=(Qt x.2).bind λg=>(FF x.1).bind λf=>(Qu (zN .i64 (g-f.1))).bind λk=>(Al El (g,k,0,[],[],f.2,())).bind λh=>cond (BM ((A8 h.2.2.1)+1)) (cond (A4 (0<=(zN .i64 ((h.2.2.2.1.2.2.1.length:Int)-1)))&&A4 ((zN .i64 ((h.2.2.2.1.2.2.1.length:Int)-1))<=(h.2.2.2.1.2.2.1.length:Int))) (cond (BM ((A8 (A9 h.2.2.1 [h.1]))+(A8 (B8 (A7 (zN .i64 ((h.2.2.2.1.2.2.1.length:Int)-1))) (C2 0 h.2.2.2.1.2.2.1))))) (A3 (h.2.2.2.1.1,h.2.1,A9 (A9 h.2.2.1 [h.1]) (B8 (A7 (zN .i64 ((h.2.2.2.1.2.2.1.length:Int)-1))) (C2 0 h.2.2.2.1.2.2.1)),h.2.2.2.1.2.2.2)) A6) A6) A6
def bD:rZ:=⟨[.r kc (.b b2l),.v QI],[],IS⟩
def c9G:rY:=Qh [1,4,7,.own 5 5 QI,.own 6 6 QI,.box pinned b2l,Qp 0 pinned] [[122,127,2,121]] [] [(6,Qg 30 176862611764635146946176749876089649 []),(7,Qg 17 39705835702662168833 [[6,55,56],[59,pinned],[60,pinned],[63,pinned],[64,pinned],[65,pinned],[67,pinned]])]
def FG(s:Z5×Int×c7e):QO (Z5×Int×c7e) ((Z5×Z4) ⊕ Z4):=(λ(a:Int)(b:LI)=>cond (A4 (a<(b.length:Int))) (cond (A4 (0<=a)&&A4 (a<(b.length:Int))) ((FF s.2.2.2.2.1).bind λh=>(EC (zN .i64 ((B3 b (A7 a) 0)+h.1))).bind λg=>cond (!g) (A3 (.inr (B6 (6,[],())))) (cond (A4 (0<=a)&&A4 (a<(b.length:Int))) ((IS (h.2,zN .i64 ((B3 b (A7 a) 0)+h.1))).bind λf=>A3 (.inl (s.1,s.2.1,zN .i64 (a+1),C1 b (A7 a) (zN .i64 ((B3 b (A7 a) 0)+h.1)),f,()))) A6)) A6) (A3 (.inr (B7 (s.1,s.2.1,b,()))))) s.2.2.1 s.2.2.2.1
def HR(s:Z5×Z4):QO (Z5×Z4) b4L:=cond (A4 (s.2.1>=0)) ((Ax s.1 s.2.1).bind λk=>(Lr k).bind λa=>(Al FG (s.1,s.2.1,0,s.2.2.1,a.1,())).bind λf=>match f with |.inl g=>A3 (.inl (g.1,zN .i64 (g.2.1-1),g.2.2.1,())) |.inr h=>A3 (.inr (B6 (h.1,h.2.1,())))) (A3 (.inr (B7 (s.2.2.1,()))))
def Lu(x:LI×Z5):Option (LI×Int):=(Jv x.2).bind λk=>cond (!k) (A3 ([],1)) ((Ct x.1).bind λa=>cond (!a) (A3 ([],6)) (cond (BM (0+(A8 x.1))) ((Al HR (x.2,zN .i64 ((x.2.length:Int)-1),A9 [] x.1,())).bind λf=>match f with |.inl g=>A3 (g.1,0) |.inr h=>A3 (h.2.1,h.1)) A6))
def jW:rZ:=⟨[.v QL,.v (.list kc Q5)],[.o QI,.v QI],Lu⟩
def c9H:rY:=Qh [.sv 1 (.list kc Q5),7,10,.own 6 6 QI,.box 1033 b2l,Qp 8 1033,5,.own 4 4 QI] [[250,11,2,8,1,192],[32038,63,4,11,1,192]] [] [(13,Qg 8 578909959 [[6,42],[6,44],[6,45],[47,1033,1047]])]
def TP(x:Jf):Option (LI×Int):=cond (x.1==2) ((Lp (x.2.2.2.2.2.2.2.2.1,x.2.2.2.2.2.2.2.2.2.2.1,x.2.2.1)).bind λg=>A3 (g.1,g.2)) (cond (x.1==3) ((Hv (x.2.2.2.2.2.2.2.2.1,x.2.2.2.2.2.2.2.2.2.2.1,x.2.2.2.2.2.1,x.2.2.2.1)).bind λf=>A3 (f.1,f.2)) (cond (x.1==4) ((Hv (x.2.2.2.2.2.2.2.2.1,x.2.2.2.2.2.2.2.2.2.2.1,x.2.2.2.2.2.1,x.2.2.2.1)).bind λh=>cond (h.2 != 0) (A3 ([],h.2)) ((MI (h.1,x.2.2.2.2.1,x.2.2.2.2.2.2.1)).bind λk=>A3 (k.1,k.2))) (cond (x.1==5) ((Lu (x.2.2.2.2.2.2.2.2.2.2.1,x.2.2.2.2.2.2.2.1)).bind λa=>A3 (a.1,a.2)) (A3 (x.2.2.2.2.2.2.2.2.1,0)))))
def a9p:rZ:=⟨[.v Ib],[.v QL,.v QI],TP⟩
def TQ(s:b3F):QO b3F b4L:=(λ(a:LI)(b c:Int)(d:LI)=>cond (A4 (c<(a.length:Int))) ((show Option (LI×Int×Int×Z9)from(Ax a c).bind λg=>(EC g).bind λe=>cond (!e) (A3 (a,b,c,ka,d,())) ((Ax a c).bind λf=>cond (A4 (zN .u64 b<0)) A6 ((EC (AO .i64 f (zN .u64 b))).bind λi=>A3 (a,b,c,!i,d,())))).bind λh=>cond h.2.2.2.1 (A3 (.inr (B6 (6,[],())))) ((Ax h.1 h.2.2.1).bind λk=>cond (A4 (zN .u64 h.2.1<0)) A6 (cond (BM ((A8 h.2.2.2.2.1)+1)) (A3 (.inl (h.1,h.2.1,zN .i64 (h.2.2.1+1),A9 h.2.2.2.2.1 [AO .i64 k (zN .u64 h.2.1)],()))) A6))) (A3 (.inr (B7 (d,()))))) s.1 s.2.1 s.2.2.1 s.2.2.2.1
def lR(x:LI×Int):Option (LI×Int):=(show Option c2k from cond (A4 (x.2<0)) (A3 (x.1,x.2,ka,())) (A3 (x.1,x.2,A4 (x.2 > 30),()))).bind λg=>cond g.2.2.1 (A3 ([],1)) ((Al TQ (g.1,g.2.1,0,[],())).bind λk=>match k with |.inl f=>A3 (f.1,0) |.inr h=>A3 (h.2.1,h.1))
def b8q:rZ:=⟨[.v QL,.v QI],[.o QI,.v QI],lR⟩
def c9I:rY:=Qh [.sv 0 QL,1,7,5,.own 4 4 QI,Qb 13,Qb 36,.own 6 6 QI] [[122,135,2,128,1,24]] [[6,0,35],[3912,0,199]] []
def Ii(s:b7Q):QO b7Q (LI×Unit):=(λ(a:Int)(b:LI)(c:Jf)=>cond (A4 (a<s.1)) ((Ax c.2.2.2.2.2.2.2.2.1 0).bind λh=>cond (A4 (0<=a)&&A4 (a<(b.length:Int))) (A3 (.inl (s.1,zN .i64 (a+1),C1 b (A7 a) h,c,()))) A6) (A3 (.inr (b,())))) s.2.1 s.2.2.1 s.2.2.2.1
def MJ(x:jJ):Option (LI×Bool):=(show Option b4O from cond (A4 (x.2<1)) (A3 (x.2,ka,x.1,())) (cond (A4 (x.2 > 4096)) (A3 (x.2,ka,x.1,())) (cond (A4 (x.1.1<0)) (A3 (x.2,ka,x.1,())) (cond (A4 (x.1.1 > 5)) (A3 (x.2,ka,x.1,())) ((RD x.1).bind λd=>(KT (x.1,d)).bind λe=>cond (!e) (A3 (x.2,ka,x.1,())) (cond (A4 (x.1.2.1<0)) (A3 (x.2,ka,x.1,())) (A3 (x.2,A4 (x.1.2.1 > 30),x.1,())))))))).bind λg=>cond g.2.1 (A3 ([],kc)) ((LS (g.2.2.1,g.1)).bind λk=>(show Option b7P from cond (A4 (k<0)) (A3 (g.1,k,ka,g.2.2.1,())) (cond ((g.2.2.1.2.2.2.2.2.2.2.2.1.length:Int) != k) (A3 (g.1,k,ka,g.2.2.1,())) ((Ct g.2.2.1.2.2.2.2.2.2.2.2.1).bind λi=>cond (!i) (A3 (g.1,k,ka,g.2.2.1,())) ((Ct g.2.2.1.2.2.2.2.2.2.2.2.2.2.1).bind λj=>A3 (g.1,k,!j,g.2.2.1,()))))).bind λf=>cond f.2.2.1 (A3 ([],kc)) ((show Option b4O from(GQ f.2.2.2.1.1).bind λl=>cond l (cond ((f.2.2.2.1.2.2.2.2.2.2.2.2.2.2.1.length:Int) != (zN .i64 (f.1-f.2.1))) (A3 (f.1,ka,f.2.2.2.1,())) ((IA (f.2.2.2.1.2.2.2.2.2.2.2.2.2.1,f.1,f.2.1)).bind λm=>A3 (f.1,!m,f.2.2.2.1,()))) (A3 (f.1,kc,f.2.2.2.1,()))).bind λh=>cond h.2.1 (A3 ([],kc)) (cond (h.2.2.1.1==0) (cond (A4 (0<=h.1)&&(A4 (h.1<=h.1)&&BM (A7 h.1))) ((Al Ii (h.1,0,B4 (A7 h.1) 0,h.2.2.1,())).bind λc=>A3 (c.1,ka)) A6) ((TP h.2.2.1).bind λa=>cond (a.2 != 0) (A3 ([],kc)) ((lR (a.1,h.2.2.1.2.1)).bind λb=>A3 (b.1,b.2==0))))))
def a4g:rZ:=⟨[.v Ib,.v QI],[.o QI,.v .bool],MJ⟩
def c9J:rY:=Qh [1,8,.own 7 7 QI,Qb 45,6,Qb 69,Qb 89,.vp 2 Ib] [[8106,135,2,4]] [[6,0,137],[30,0,177],[62,0,193]] [(1,Qg 33 725935716098001894237776267927795933730 [])]
def Jw(s:c1T):QO c1T Z0:=cond (A4 (s.2.1<(s.1.length:Int))) ((Ax s.1 s.2.1).bind λh=>(Ax s.1 0).bind λg=>cond ((h.length:Int) != (g.length:Int)) (A3 (.inr (B6 (kc,())))) (A3 (.inl (s.1,zN .i64 (s.2.1+1),())))) (A3 (.inr (B7 ())))
def Oz(x:List LI):Option Bool:=(show Option ((List LI)×Bool×Unit)from cond (A4 ((x.length:Int)<1)) (A3 (x,ka,())) (A3 (x,A4 ((x.length:Int) > 8),()))).bind λh=>cond h.2.1 (A3 kc) ((Al Jw (h.1,0,())).bind λf=>match f with |.inl k=>A3 true |.inr g=>A3 g.1)
def a6r:rZ:=⟨[.v (.list kc QL)],[.v .bool],Oz⟩
def c9K:rY:=Qh [.sv 0 (.list kc QL),3,Qb 2,Qb 11] [[58,3,2,0,1,4]] [[6,0,9]] [(6,Qg 10 137438953472 [])]
def KV(s:c1T):QO c1T Z0:=cond (A4 (s.2.1<(s.1.length:Int))) ((Ax s.1 s.2.1).bind λh=>(Ct h).bind λg=>cond (!g) (A3 (.inr (B6 (kc,())))) (A3 (.inl (s.1,zN .i64 (s.2.1+1),())))) (A3 (.inr (B7 ())))
def TR(x:(List LI)×Zh):Option Bool:=(show Option ((List LI)×Bool×Unit)from(Oz x.1).bind λa=>cond (!a) (A3 (x.1,ka,())) ((Ax x.1 0).bind λk=>cond (A4 ((k.length:Int) > 4096)) (A3 (x.1,ka,())) ((KR (x.2,(x.1.length:Int))).bind λb=>A3 (x.1,!b,())))).bind λh=>cond h.2.1 (A3 kc) ((Al KV (h.1,0,())).bind λf=>match f with |.inl c=>A3 true |.inr g=>A3 g.1)
def a9q:rZ:=⟨[.v (.list kc QL),.v (.list kc FV)],[.v .bool],TR⟩
def c9L:rY:=Qh [.sv 0 (.list kc QL),5,Qb 4,Qb 22] [[58,3,2,0,1,4]] [[6,0,9]] []
def Lv(s:c2s):QO c2s Z2:=cond (A4 (s.2.1<(s.1.length:Int))) ((Ax s.1 s.2.1).bind λh=>cond (BM (0+(A8 h))) (cond (BM ((A8 s.2.2.1)+(A8 (C1 ([[]]:List LI) 0 (A9 [] h))))) (A3 (.inl (s.1,zN .i64 (s.2.1+1),A9 s.2.2.1 (C1 ([[]]:List LI) 0 (A9 [] h)),()))) A6) A6) (A3 (.inr (s.2.2.1,())))
def Pq(x:List LI):Option (List LI):=(Al Lv (x,0,([]:(List LI)),())).bind λh=>A3 h.1
def a4h:rZ:=⟨[.v (.list kc QL)],[.o (.list ka QI)],Pq⟩
def c9M:rY:=Qh [.sv 0 (.list kc QL),4,.own 3 3 (.list ka QI)] [[58,7,2,4]] [] []
def Ka(s:Int×Int×(List LI)×c6L):QO (Int×Int×(List LI)×c6L) (Z2 ⊕ (Bool×Z2)):=(λ(a b:Int)(c:List LI)(d:Z8)=>cond (A4 (0<(c.length:Int))) (cond (A4 (b<((A8 (B3 c 0 []):Nat):Int))) (cond (A4 (0<=d.2.1)&&A4 (d.2.1<(c.length:Int))) (cond (A4 (0<=d.2.1)&&A4 (d.2.1<(c.length:Int))) (cond (A4 (0<=b)&&A4 (b<((A8 (B3 c (A7 d.2.1) []):Nat):Int))) (cond (A4 (0<=d.1)&&A4 (d.1<(c.length:Int))) (cond (A4 (0<=b)&&A4 (b<((A8 (B3 c (A7 d.1) []):Nat):Int))) (cond (A4 (0<=b)&&A4 (b<((A8 (B3 c (A7 d.2.1) []):Nat):Int))) (cond (A4 (0<=d.2.1)&&A4 (d.2.1<((A8 (C1 c (A7 d.2.1) (C1 (B3 c (A7 d.2.1) []) (A7 b) (zN .i64 ((B3 (B3 c (A7 d.2.1) []) (A7 b) 0)+(zN .i64 (a*(AR .i64 (zN .i64 (d.2.2.1*(B3 (B3 c (A7 d.1) []) (A7 b) 0))) 8))))))):Nat):Int))) (cond (A4 (0<=b)&&A4 (b<((A8 (B3 (C1 c (A7 d.2.1) (C1 (B3 c (A7 d.2.1) []) (A7 b) (zN .i64 ((B3 (B3 c (A7 d.2.1) []) (A7 b) 0)+(zN .i64 (a*(AR .i64 (zN .i64 (d.2.2.1*(B3 (B3 c (A7 d.1) []) (A7 b) 0))) 8))))))) (A7 d.2.1) []):Nat):Int))) ((EC (B3 (B3 (C1 c (A7 d.2.1) (C1 (B3 c (A7 d.2.1) []) (A7 b) (zN .i64 ((B3 (B3 c (A7 d.2.1) []) (A7 b) 0)+(zN .i64 (a*(AR .i64 (zN .i64 (d.2.2.1*(B3 (B3 c (A7 d.1) []) (A7 b) 0))) 8))))))) (A7 d.2.1) []) (A7 b) 0)).bind λh=>cond (!h) (A3 (.inr (B6 (kc,C1 c (A7 d.2.1) (C1 (B3 c (A7 d.2.1) []) (A7 b) (zN .i64 ((B3 (B3 c (A7 d.2.1) []) (A7 b) 0)+(zN .i64 (a*(AR .i64 (zN .i64 (d.2.2.1*(B3 (B3 c (A7 d.1) []) (A7 b) 0))) 8)))))),())))) (A3 (.inl (a,zN .i64 (b+1),C1 c (A7 d.2.1) (C1 (B3 c (A7 d.2.1) []) (A7 b) (zN .i64 ((B3 (B3 c (A7 d.2.1) []) (A7 b) 0)+(zN .i64 (a*(AR .i64 (zN .i64 (d.2.2.1*(B3 (B3 c (A7 d.1) []) (A7 b) 0))) 8)))))),d,())))) A6) A6) A6) A6) A6) A6) A6) A6) (A3 (.inr (B7 (c,()))))) A6) s.1 s.2.1 s.2.2.1 s.2.2.2.1
end Go.Ab
namespace Go.Ab
open IntKind renaming wrap->zN
open Go.Proofs
set_option maxRecDepth 100000
set_option linter.unusedVariables false
def WZ(x:(List LI)×Z8×Int):Option (Bool×(List LI)):=(Al Ka (x.2.2,0,x.1,x.2.1,())).bind λf=>match f with |.inl g=>A3 (ka,g.1) |.inr h=>A3 (h.1,h.2.1)
def b2u:rZ:=⟨[.r kc (.o (.list ka QI)),.v FV,.v QI],[.v .bool],WZ⟩
def c9N:rY:=Qh [2,7,Qb 6,.own 0 pinned (.list ka QI),.vp 4 FV] [[26,27,2,8,1,12]] [] [(4,Qg 31 2824609575243420935412588814411042817 [])]
def IT(s:Zh×jI):QO (Zh×jI) (Z2 ⊕ c1T):=cond (A4 (s.2.1>=0)) ((Ax s.1 s.2.1).bind λg=>(WZ (s.2.2.1,g,(-1))).bind λh=>cond (!h.1) (A3 (.inr (B6 (([]:(List LI)),6,())))) (A3 (.inl (s.1,zN .i64 (s.2.1-1),h.2,())))) (A3 (.inr (B7 (s.2.2.1,()))))
def MK(x:(List LI)×Zh):Option ((List LI)×Int):=(TR (x.1,x.2)).bind λk=>cond (!k) (A3 (([]:(List LI)),1)) ((Pq x.1).bind λa=>(Al IT (x.2,zN .i64 ((x.2.length:Int)-1),a,())).bind λf=>match f with |.inl g=>A3 (g.1,0) |.inr h=>A3 (h.1,h.2.1))
def oZ:rZ:=⟨[.v (.list kc QL),.v (.list kc FV)],[.v (.list kc QL),.v QI],MK⟩
def c9O:rY:=Qh [.sv 1 (.list kc FV),7,.own 6 6 (.list ka QI),.sv 4 (.list kc QL),5] [[122,7,2,4,1,24]] [] []
def pC(x:Int):Option Int:=(show Option (Int×Bool×Unit)from cond (A4 (x<1)) (A3 (x,ka,())) (A3 (x,A4 (x > 31),()))).bind λh=>cond h.2.1 (A3 0) (cond (A4 (zN .u64 (zN .i64 (h.1-1))<0)) A6 (A3 (AO .i64 (-1) (zN .u64 (zN .i64 (h.1-1))))))
def b5c:rZ:=⟨[.v QI],[.v QI],pC⟩
def c9P:rY:=Qh [0,Qb 8] [] [[6,0,3]] []
def eJ(x:Int):Option Int:=(show Option (Int×Bool×Unit)from cond (A4 (x<1)) (A3 (x,ka,())) (A3 (x,A4 (x > 31),()))).bind λh=>cond h.2.1 (A3 0) (cond (A4 (zN .u64 (zN .i64 (h.1-1))<0)) A6 (A3 (zN .i64 ((AO .i64 1 (zN .u64 (zN .i64 (h.1-1))))-1))))
def b2v:rZ:=⟨[.v QI],[.v QI],eJ⟩
def c9Q:rY:=Qh [0,Qb 8] [] [[6,0,3]] []
def Nv(x:Int×Int):Option Bool:=cond (A4 (x.2>=1)) (cond (A4 (x.2<=31)) ((pC x.2).bind λh=>cond (A4 (x.1>=h)) ((eJ x.2).bind λg=>A3 (A4 (x.1<=g))) (A3 kc)) (A3 kc)) (A3 kc)
def b2w:rZ:=⟨[.v QI,.v QI],[.v .bool],Nv⟩
def ED(s:c0N):QO c0N (c2o ⊕ (Bool×Unit)):=(λ(a b:Int)(c:jI)=>(Ax c.2.1 a).bind λh=>cond (A4 (b<(h.length:Int))) ((Ax c.2.1 a).bind λg=>(Ax g b).bind λf=>(Nv (f,c.1)).bind λk=>cond (!k) (A3 (.inr (B6 (kc,())))) (A3 (.inl (a,zN .i64 (b+1),c,())))) (A3 (.inr (B7 (a,c,()))))) s.1 s.2.1 s.2.2.1
def Gz(s:c2o):QO c2o Z0:=cond (A4 (s.1<(s.2.1.2.1.length:Int))) ((Al ED (s.1,0,s.2.1,())).bind λf=>match f with |.inl h=>A3 (.inl (zN .i64 (h.1+1),h.2.1,())) |.inr g=>A3 (.inr (B6 (g.1,())))) (A3 (.inr (B7 ())))
def Jy(x:jI):Option Bool:=(show Option c6R from cond (A4 (x.1<4)) (A3 (ka,x,())) (cond (A4 (x.1 > 24)) (A3 (ka,x,())) ((Oz x.2.1).bind λc=>cond (!c) (A3 (ka,x,())) ((Ax x.2.1 0).bind λa=>cond (A4 ((a.length:Int)<1)) (A3 (ka,x,())) ((Ax x.2.1 0).bind λb=>A3 (A4 ((b.length:Int) > 4096),x,())))))).bind λf=>cond f.1 (A3 kc) ((Al Gz (0,f.2.1,())).bind λg=>match g with |.inl k=>A3 true |.inr h=>A3 h.1)
def pD:rZ:=⟨[.v Xp],[.v .bool],Jy⟩
def c9R:rY:=Qh [3,4,Qb 2,Qb 34,.vp 1 Xp] [[58,17,2,0,1,4],[3730,19,4,17,1,4]] [[6,0,24]] [(9,Qg 12 37383395344384 [])]
def EX(s:b7Z):QO b7Z (c0R ⊕ c6R):=(λ(a:List LI)(b:jI)(c:FU)=>cond (A4 (s.1<(c.2.2.2.2.1.length:Int))) ((Ax c.2.2.2.2.1 s.1).bind λg=>(MJ (g,c.2.1)).bind λh=>cond (!h.2) (A3 (.inr (B6 (kc,(0,([]:(List LI)),()),())))) (cond (BM ((A8 a)+1)) (A3 (.inl (zN .i64 (s.1+1),A9 a ([h.1]:List LI),b,c,()))) A6)) (A3 (.inr (B7 (a,b,c,()))))) s.2.1 s.2.2.1 s.2.2.2.1
def DV(x:FU):Option (jI×Bool):=(show Option (Bool×b7X)from(KS x).bind λc=>cond (!c) (A3 (ka,(0,([]:(List LI)),()),x,())) (A3 ((x.2.2.2.2.1.length:Int) != x.2.2.1.2.1,(0,([]:(List LI)),()),x,()))).bind λk=>cond k.1 (A3 ((0,([]:(List LI)),()),kc)) ((Al EX (0,([]:(List LI)),k.2.1,k.2.2.1,())).bind λb=>match b with |.inl h=>((MK (h.1,h.2.2.1.2.2.2.1)).bind λf=>(show Option (Bool×jI×c6M)from cond (f.2 != 0) (A3 (ka,h.2.1,(h.2.2.1.2.2.1.2.2.1,f.1,()),())) ((Jy (h.2.2.1.2.2.1.2.2.1,f.1,())).bind λd=>A3 (!d,h.2.1,(h.2.2.1.2.2.1.2.2.1,f.1,()),()))).bind λg=>cond g.1 (A3 ((0,([]:(List LI)),()),kc)) (A3 (g.2.2.1,ka))) |.inr a=>A3 (a.2.1,a.1))
def eM:rZ:=⟨[.v Ky],[.v Xp,.v .bool],DV⟩
def d3W:rY:=Qh [5,.own 4 4 QL,Qb 3,Qb 22,Qb 67,.box 2 Xp,.vp 1 Ky,.box 10 Xp,Qp 2 2,Qp 10 10] [[122,355,2,354,1,292]] [[6,0,360],[254,0,944]] [(7,Qg 13 581719497375744 [])]
def Hw(x:FU):Option Bool:=(DV x).bind λh=>A3 h.2
def pE:rZ:=⟨[.v Ky],[.v .bool],Hw⟩
def Pr(x:jJ):Option Bool:=(MJ (x.1,x.2)).bind λh=>A3 h.2
def a4i:rZ:=⟨[.v Ib,.v QI],[.v .bool],Pr⟩
def KW(s:Ia):QO Ia Ia:=(λ(a:LI)(b c:Int)=>cond (A4 (b<32)) ((Ax a c).bind λh=>cond (h != 0) ((Ax a c).bind λg=>(Nv (g,b)).bind λf=>cond (!f) (A3 (.inl (a,zN .i64 (b+1),c,()))) (A3 (.inr (a,b,c,())))) (A3 (.inr (a,b,c,())))) (A3 (.inr (a,b,c,())))) s.1 s.2.1 s.2.2.1
def NQ(s:Ia):Option c2r:=cond (A4 (s.2.2.1<(s.1.length:Int))) ((Al KW (s.1,s.2.1,s.2.2.1,())).bind λh=>A3 (.inl (h.1,h.2.1,zN .i64 (h.2.2.1+1),()))) (A3 (.inr (s.2.1,())))
def Jz(x:LI):Option Int:=(Al NQ (x,0,0,())).bind λh=>A3 h.1
def a9r:rZ:=⟨[.v QL],[.v QI],Jz⟩
def c9S:rY:=Qh [.sv 0 QL,3,4] [[58,7,2,2],[1864,7,4,7]] [] []
def HS(s:c1V):QO c1V b3D:=(λ(a:Int)(b:LI×Unit)=>cond (A4 (a>=0)) (cond (A4 (zN .u64 a<0)) A6 (cond (BM ((A8 b.1)+1)) (A3 (.inl (s.1,zN .i64 (a-1),(A9 b.1 [zN .u8 (bits .u64 .and (AR .u64 s.1 (zN .u64 a)) 1)],b.2),()))) A6)) (A3 (.inr (b,())))) s.2.1 s.2.2.1
def Aw(x:(LI×Unit)×Int×Int):Option Z4:=(show Option (Int×Int×Bool×b3D)from cond (A4 (x.2.2<0)) (A3 (x.2.1,x.2.2,ka,x.1,())) (cond (A4 (x.2.2 > 64)) (A3 (x.2.1,x.2.2,ka,x.1,())) (cond (A4 (x.2.2<64)) (cond (A4 (zN .u64 x.2.2<0)) A6 (A3 (x.2.1,x.2.2,(AR .u64 x.2.1 (zN .u64 x.2.2)) != 0,x.1,()))) (A3 (x.2.1,x.2.2,kc,x.1,()))))).bind λh=>cond h.2.2.1 (A3 (1,h.2.2.2.1)) ((Al HS (h.1,zN .i64 (h.2.1-1),h.2.2.2.1,())).bind λg=>A3 (0,g.1))
def jX:rZ:=⟨[.r kc (.b Q2),.v QU,.v QI],[.v QI],Aw⟩
def c9T:rY:=Qh [.sv 1 QU,7,2,Qb 24,.box pinned Q2,Qp 0 pinned] [[58,51,2,16]] [[6,0,61]] []
def IU(s:LI×c1V):QO (LI×c1V) b3D:=cond (A4 (s.2.2.1<(s.1.length:Int))) ((Ax s.1 s.2.2.1).bind λh=>cond (A4 (zN .u64 s.2.1<0)) A6 ((Aw (s.2.2.2.1,bits .u64 .and (zN .u64 h) (zN .u64 ((AO .u64 1 (zN .u64 s.2.1))-1)),s.2.1)).bind λg=>A3 (.inl (s.1,s.2.1,zN .i64 (s.2.2.1+1),g.2,())))) (A3 (.inr (s.2.2.2.1,())))
def Em(x:(LI×Unit)×LI×Int):Option (LI×Unit):=(Al IU (x.2.1,x.2.2,0,x.1,())).bind λh=>A3 h.1
def pF:rZ:=⟨[.r kc (.b Q2),.v QL,.v QI],[],Em⟩
def c9U:rY:=Qh [.sv 1 QL,2,6,.box pinned Q2,Qp 0 pinned] [[6,31,2,8]] [] []
def Ij(x:(LI×Unit)×Jf):Option (LI×Unit):=(Aw (x.1,zN .u64 (zN .i64 ((x.2.2.2.2.2.2.1.length:Int)-1)),5)).bind λg=>(Aw (g.2,zN .u64 x.2.2.2.2.1,4)).bind λf=>(Jz x.2.2.2.2.2.2.1).bind λh=>(Aw (f.2,zN .u64 h,5)).bind λk=>(Em (k.2,x.2.2.2.2.2.2.1,h)).bind λa=>A3 a
def jY:rZ:=⟨[.r kc (.b Q2),.v Ib],[],Ij⟩
def SI(x:Int):Option Int:=(show Option (Int×Unit)from cond (A4 (x<0)) (A3 (bits .u64 .xor (IntKind.max .u64) (AO .u64 (zN .u64 x) 1),())) (A3 (AO .u64 (zN .u64 x) 1,()))).bind λh=>A3 h.1
def b5d:rZ:=⟨[.v QI],[.v QU],SI⟩
def c9V:rY:=Qh [.sv 3 QU] [] [[7,0,1]] []
def SJ(x:Int):Option Int:=(EC x).bind λh=>cond (!h) (A3 0) ((SI x).bind λg=>A3 g)
def b2x:rZ:=⟨[.v QI],[.v QU],SJ⟩
def NR(x:Int×Int):Option Int:=(show Option c1R from(BW x.1).bind λf=>cond (!f) (A3 (x.1,x.2,ka,())) ((EC x.2).bind λk=>A3 (x.1,x.2,!k,()))).bind λh=>cond h.2.2.1 (A3 0) ((SJ h.2.1).bind λg=>cond (A4 (zN .u64 h.1<0)) A6 (cond (A4 (zN .i64 (AR .u64 g (zN .u64 h.1))<32)) (A3 (zN .i64 ((zN .i64 ((zN .i64 (AR .u64 g (zN .u64 h.1)))+1))+h.1))) (A3 65)))
def a1a:rZ:=⟨[.v QI,.v QI],[.v QI],NR⟩
def c9W:rY:=Qh [0,1,Qb 13] [] [[6,0,7]] []
def Lw(s:UX):Option c1Z:=(λ(a:LI)(b c:Int)=>cond (A4 (c<(a.length:Int))) ((Ax a c).bind λh=>(NR (s.1,h)).bind λg=>A3 (.inl (s.1,a,zN .i64 (b+g),zN .i64 (c+1),()))) (A3 (.inr (b,())))) s.2.1 s.2.2.1 s.2.2.2.1
def Ps(x:Int×LI):Option Int:=(Al Lw (x.1,x.2,0,0,())).bind λh=>A3 h.1
def a4j:rZ:=⟨[.v QI,.v QL],[.v QI],Ps⟩
def c9X:rY:=Qh [0,.sv 1 QL,5,6] [[58,15,2,4]] [] []
def NS(x:Int×LI):Option Int:=cond (x.1==31) ((Jz x.2).bind λh=>A3 (zN .i64 (5+(zN .i64 ((x.2.length:Int)*h))))) ((Ps (x.1,x.2)).bind λg=>A3 g)
def a1b:rZ:=⟨[.v QI,.v QL],[.v QI],NS⟩
def IV(s:b7L):QO b7L (Int×Unit):=(λ(a b:Int)(c:LI)(d:Z4)=>cond (A4 (b<(c.length:Int))) ((Ax d.2.1 b).bind λh=>cond (A4 (0<=b)&&A4 (b<(c.length:Int))) (cond (A4 (0<=(zN .i64 (a+(B3 c (A7 b) 0))))&&A4 ((zN .i64 (a+(B3 c (A7 b) 0)))<=(s.1.length:Int))) (cond (A4 (0<=a)&&A4 (a<=((A7 (zN .i64 (a+(B3 c (A7 b) 0))):Nat):Int))) ((NS (h,C2 (A7 a) (B8 (A7 (zN .i64 (a+(B3 c (A7 b) 0)))) s.1))).bind λg=>cond (A4 (0<=b)&&A4 (b<(c.length:Int))) (A3 (.inl (s.1,zN .i64 ((zN .i64 (s.2.1+5))+g),zN .i64 (a+(B3 c (A7 b) 0)),zN .i64 (b+1),c,d,()))) A6) A6) A6) A6) (A3 (.inr (s.2.1,())))) s.2.2.1 s.2.2.2.1 s.2.2.2.2.1 s.2.2.2.2.2.1
def ML(x:c6S):Option Int:=(show Option (Int×Int×LI×c2m)from(IA (x.1,x.2.1,x.2.2.1)).bind λf=>cond (!f) (A3 (x.2.1,x.2.2.1,x.2.2.2,ka,x.1,())) (cond ((x.2.2.2.length:Int) != (zN .i64 (x.2.1-x.2.2.1))) (A3 (x.2.1,x.2.2.1,x.2.2.2,ka,x.1,())) ((Ct x.2.2.2).bind λk=>A3 (x.2.1,x.2.2.1,x.2.2.2,!k,x.1,())))).bind λh=>cond h.2.2.2.1 (A3 0) ((EP (h.2.2.2.2.1.1,h.1,h.2.1)).bind λa=>(Al IV (h.2.2.1,4,0,0,a,h.2.2.2.2.1,())).bind λg=>A3 g.1)
def pG:rZ:=⟨[.v cZ,.v QI,.v QI,.v QL],[.v QI],ML⟩
def c9Y:rY:=Qh [1,2,.sv 3 QL,9,10,12,.own 11 11 QI,Qb 30,.vp 4 cZ] [[250,380,2,8]] [[6,0,391]] [(8,Qg 19 10035033562272111788032 [])]
def GA(s:c1V):QO c1V b3D:=cond (A4 (s.2.1<s.1)) (cond (BM ((A8 s.2.2.1.1)+1)) (A3 (.inl (s.1,zN .i64 (s.2.1+1),(A9 s.2.2.1.1 [0],s.2.2.1.2),()))) A6) (A3 (.inr (s.2.2.1,())))
def EE(x:(LI×Unit)×Int):Option Z4:=(show Option (Int×Bool×b3D)from cond (A4 (x.2<0)) (A3 (x.2,ka,x.1,())) (A3 (x.2,A4 (x.2 > 4096),x.1,()))).bind λh=>cond h.2.1 (A3 (1,h.2.2.1)) ((Al GA (h.1,0,h.2.2.1,())).bind λg=>cond (BM ((A8 g.1.1)+1)) (A3 (0,A9 g.1.1 [1],g.1.2)) A6)
def bE:rZ:=⟨[.r kc (.b Q2),.v QI],[.v QI],EE⟩
def c9Z:rY:=Qh [1,5,Qb 11,.box pinned Q2,Qp 0 pinned] [[58,27,2,24]] [[6,0,29]] []
def Ik(s:Int×LI×c7l):QO (Int×LI×c7l) b3D:=(λ(a:Int)(b:LI)(c:Int)(d:LI×Unit)=>cond (A4 (c<(b.length:Int))) ((Ax b c).bind λg=>(SJ g).bind λh=>cond (A4 (zN .u64 a<0)) A6 (cond (A4 (zN .i64 (AR .u64 h (zN .u64 a))<32)) ((EE (d,zN .i64 (AR .u64 h (zN .u64 a)))).bind λf=>cond (A4 (zN .u64 a<0)) A6 ((Aw (f.2,bits .u64 .and h (zN .u64 ((AO .u64 1 (zN .u64 a))-1)),a)).bind λk=>A3 (.inl (a,b,zN .i64 (c+1),k.2,())))) ((EE (d,32)).bind λe=>(Aw (e.2,h,32)).bind λi=>A3 (.inl (a,b,zN .i64 (c+1),i.2,()))))) (A3 (.inr (d,())))) s.1 s.2.1 s.2.2.1 s.2.2.2.1
def Pt(x:(LI×Unit)×Int×LI):Option Z4:=(show Option (Int×LI×Bool×b3D)from(BW x.2.1).bind λf=>cond (!f) (A3 (x.2.1,x.2.2,ka,x.1,())) ((Ct x.2.2).bind λk=>A3 (x.2.1,x.2.2,!k,x.1,()))).bind λh=>cond h.2.2.1 (A3 (1,h.2.2.2.1)) ((Al Ik (h.1,h.2.1,0,h.2.2.2.1,())).bind λg=>A3 (0,g.1))
def a4k:rZ:=⟨[.r kc (.b Q2),.v QI,.v QL],[.v QI],Pt⟩
def d0a:rY:=Qh [1,.sv 2 QL,7,Qb 17,.box pinned Q2,Qp 0 pinned] [[58,55,2,16]] [[6,0,59]] []
def Fm(s:LI×Int×Int×LI×(LI×Unit)×b7F):QO (LI×Int×Int×LI×(LI×Unit)×b7F) b3D:=(λ(a:LI)(b c:Int)(d:LI)(e:LI×Unit)(f:Z4)=>cond (A4 (c<(d.length:Int))) (cond (A4 (0<=c)&&A4 (c<(d.length:Int))) (cond (A4 (0<=(zN .i64 (b+(B3 d (A7 c) 0))))&&A4 ((zN .i64 (b+(B3 d (A7 c) 0)))<=(a.length:Int))) (cond (A4 (0<=b)&&A4 (b<=((A7 (zN .i64 (b+(B3 d (A7 c) 0))):Nat):Int))) ((Ax f.2.1 c).bind λl=>(Aw (e,zN .u64 l,5)).bind λi=>(show Option (LI×Int×Int×LI×(LI×Unit)×b7F)from(Ax f.2.1 c).bind λm=>cond (m==31) ((Jz (C2 (A7 b) (B8 (A7 (zN .i64 (b+(B3 d (A7 c) 0)))) a))).bind λj=>(Aw (i.2,zN .u64 j,5)).bind λo=>(Em (o.2,C2 (A7 b) (B8 (A7 (zN .i64 (b+(B3 d (A7 c) 0)))) a),j)).bind λp=>A3 (a,b,c,d,p,f,())) ((Ax f.2.1 c).bind λg=>(Pt (i.2,g,C2 (A7 b) (B8 (A7 (zN .i64 (b+(B3 d (A7 c) 0)))) a))).bind λk=>A3 (a,b,c,d,k.2,f,()))).bind λh=>cond (A4 (0<=h.2.2.1)&&A4 (h.2.2.1<(h.2.2.2.1.length:Int))) (A3 (.inl (h.1,zN .i64 (h.2.1+(B3 h.2.2.2.1 (A7 h.2.2.1) 0)),zN .i64 (h.2.2.1+1),h.2.2.2.1,h.2.2.2.2.1,h.2.2.2.2.2.1,()))) A6) A6) A6) A6) (A3 (.inr (e,())))) s.1 s.2.1 s.2.2.1 s.2.2.2.1 s.2.2.2.2.1 s.2.2.2.2.2.1
def NT(x:(LI×Unit)×c6S):Option Z4:=(ML (x.2.1,x.2.2.1,x.2.2.2.1,x.2.2.2.2)).bind λg=>cond (g==0) (A3 (1,x.1)) ((Aw (x.1,zN .u64 x.2.1.1,4)).bind λf=>(EP (x.2.1.1,x.2.2.1,x.2.2.2.1)).bind λk=>(Al Fm (x.2.2.2.2,0,0,k,f.2,x.2.1,())).bind λh=>A3 (0,h.1))
def a1c:rZ:=⟨[.r kc (.b Q2),.v cZ,.v QI,.v QI,.v QL],[.v QI],NT⟩
def d0b:rY:=Qh [.sv 4 QL,12,13,.own 11 11 QI,.box pinned Q2,Qp 0 pinned,.vp 6 cZ] [[250,127,2,16]] [[16019,0,127]] []
def Lx(s:Int×b7T):QO (Int×b7T) b7T:=(λ(a:Int)(b:LI×Unit)(c:Jf)=>cond (A4 (a<(c.2.2.2.2.2.2.2.1.length:Int))) ((Ax c.2.2.2.2.2.2.2.1 a).bind λh=>(Aw (b,zN .u64 (zN .i64 (h.1-1)),5)).bind λf=>(Ax c.2.2.2.2.2.2.2.1 a).bind λg=>(Aw (f.2,zN .u64 g.2.1,4)).bind λk=>A3 (.inl (s.1,s.2.1,zN .i64 (a+1),k.2,c,()))) (A3 (.inr (s.1,s.2.1,b,c,())))) s.2.2.1 s.2.2.2.1 s.2.2.2.2.1
def Ee(x:(LI×Unit)×jJ):Option Z4:=(Pr (x.2.1,x.2.2)).bind λi=>cond (!i) (A3 (1,x.1)) ((Jz x.2.1.2.2.2.2.2.2.2.2.1).bind λf=>(Aw (x.1,zN .u64 x.2.1.1,3)).bind λj=>(Aw (j.2,zN .u64 x.2.1.2.1,5)).bind λl=>(Aw (l.2,zN .u64 f,5)).bind λa=>(show Option b7T from cond (x.2.1.1==2) ((Aw (a.2,zN .u64 x.2.1.2.2.1,3)).bind λm=>A3 (x.2.2,f,m.2,x.2.1,())) (cond (x.2.1.1==3) ((Ij (a.2,x.2.1)).bind λo=>A3 (x.2.2,f,o,x.2.1,())) (cond (x.2.1.1==4) ((Aw (a.2,zN .u64 (zN .i64 (x.2.1.2.2.2.2.1-1)),10)).bind λp=>(Em (p.2,B8 3 x.2.1.2.2.2.2.2.2.1,8)).bind λq=>(Ij (q,x.2.1)).bind λb=>A3 (x.2.2,f,b,x.2.1,())) (cond (x.2.1.1==5) ((Aw (a.2,zN .u64 (x.2.1.2.2.2.2.2.2.2.1.length:Int),2)).bind λc=>(Al Lx (x.2.2,f,0,c.2,x.2.1,())).bind λg=>A3 (g.1,g.2.1,g.2.2.1,g.2.2.2.1,())) (A3 (x.2.2,f,a.2,x.2.1,())))))).bind λh=>(Em (h.2.2.1,h.2.2.2.1.2.2.2.2.2.2.2.2.1,h.2.1)).bind λk=>(GQ h.2.2.2.1.1).bind λd=>cond d ((NT (k,h.2.2.2.1.2.2.2.2.2.2.2.2.2.1,h.1,(h.2.2.2.1.2.2.2.2.2.2.2.2.1.length:Int),h.2.2.2.1.2.2.2.2.2.2.2.2.2.2.1)).bind λe=>A3 (0,e.2)) (A3 (0,k)))
def a4l:rZ:=⟨[.r kc (.b Q2),.v Ib,.v QI],[.v QI],Ee⟩
def d3X:rY:=Qh [2,7,8,.box pinned Q2,Qp 0 pinned,.vp 4 Ib] [[2086902,63,3,59]] [[127,0,59]] []
def GB(s:Int×LI×b3D):QO (Int×LI×b3D) (LI×b3D):=(λ(a:Int)(b:LI)(c:LI×Unit)=>cond (A4 (a<(c.1.length:Int))) (cond (A4 (0<=(zN .i64 (B9 a 8)))&&A4 (zN .i64 (B9 a 8)<(b.length:Int))) (cond (A4 (0<=a)&&A4 (a<(c.1.length:Int))) (cond (A4 (zN .u64 (zN .i64 (7-(C0 a 8)))<0)) A6 (cond (A4 (0<=(zN .i64 (B9 a 8)))&&A4 (zN .i64 (B9 a 8)<(b.length:Int))) (A3 (.inl (zN .i64 (a+1),C1 b (A7 (zN .i64 (B9 a 8))) (bits .u8 .or (B3 b (A7 (zN .i64 (B9 a 8))) 0) (AO .u8 (B3 c.1 (A7 a) 0) (zN .u64 (zN .i64 (7-(C0 a 8)))))),c,()))) A6)) A6) A6) (A3 (.inr (b,c,())))) s.1 s.2.1 s.2.2.1
def IW(x:LI×Unit):Option d1s:=cond (A4 (0<=(zN .i64 (B9 (zN .i64 ((x.1.length:Int)+7)) 8)))&&(A4 ((zN .i64 (B9 (zN .i64 ((x.1.length:Int)+7)) 8))<=(zN .i64 (B9 (zN .i64 ((x.1.length:Int)+7)) 8)))&&BM (A7 (zN .i64 (B9 (zN .i64 ((x.1.length:Int)+7)) 8))))) ((Al GB (0,B4 (A7 (zN .i64 (B9 (zN .i64 ((x.1.length:Int)+7)) 8))) 0,x,())).bind λh=>A3 (h.1,h.2.1)) A6
def bF:rZ:=⟨[.r kc (.b Q2)],[.o QV],IW⟩
def d3Y:rY:=Qh [4,.own 3 3 QV,.box pinned Q2,Qp 0 pinned] [[58,15,2,6]] [] [(5,Qg 23 657655645946938375731679233 [])]
def Kb(s:b3F):QO b3F b3F:=(λ(a:Int)(b:LI)=>cond (A4 (a>=128)) (cond (BM ((A8 b)+1)) (A3 (.inl (s.1,s.2.1,AR .u64 a 7,A9 b [zN .u8 (bits .u64 .or (bits .u64 .and a 127) 128)],()))) A6) (A3 (.inr (s.1,s.2.1,a,b,())))) s.2.2.1 s.2.2.2.1
def Kc(s:b7G):QO b7G (LI×Unit):=cond (A4 (s.2.1<(s.1.length:Int))) ((Ax s.1 s.2.1).bind λg=>(Al Kb (s.1,s.2.1,g,s.2.2.1,())).bind λh=>cond (BM ((A8 h.2.2.2.1)+1)) (A3 (.inl (h.1,zN .i64 (h.2.1+1),A9 h.2.2.2.1 [zN .u8 h.2.2.1],()))) A6) (A3 (.inr (s.2.2.1,())))
def CY(x:LI):Option LI:=(Al Kc (x,0,[],())).bind λh=>A3 h.1
def a1d:rZ:=⟨[.v (.list kc QU)],[.o QV],CY⟩
def d3Z:rY:=Qh [.sv 0 (.list kc QU),4,.sv 5 QU,.own 3 3 QV] [[58,11,2,8],[7460,15,4,15]] [] []
def NU(s:Int×Int×LI×Xo):QO (Int×Int×LI×Xo) Z4:=(λ(a:Int)(b:LI)(c:FU)=>cond (A4 (a<(c.2.2.2.1.length:Int))) ((Ax c.2.2.2.1 a).bind λh=>(SI h.2.2.1).bind λf=>(CY [zN .u64 h.1,zN .u64 h.2.1,f]).bind λg=>cond (BM ((A8 b)+(A8 g))) (A3 (.inl (s.1,zN .i64 (a+1),A9 b g,c,()))) A6) (A3 (.inr (s.1,b,())))) s.2.1 s.2.2.1 s.2.2.2.1
def TS(x:FU×Int):Option LI:=(CY ([zN .u64 x.1.1,zN .u64 x.1.2.1,zN .u64 x.1.2.2.1.1,zN .u64 x.1.2.2.1.2.1,zN .u64 x.1.2.2.1.2.2.1,zN .u64 (x.1.2.2.2.1.length:Int)]:List Int)).bind λf=>(Al NU (x.2,0,f,x.1,())).bind λh=>(CY [zN .u64 h.1]).bind λg=>cond (BM ((A8 h.2.1)+(A8 g))) (cond (BM (2+(A8 (A9 h.2.1 g)))) (A3 (A9 [245,75] (A9 h.2.1 g))) A6) A6
def a9s:rZ:=⟨[.v Ky,.v QI],[.o QV],TS⟩
def d4a:rY:=Qh [1,6,.own 5 5 QV,.vp 2 Ky] [[58,15,2,5]] [] [(6,Qg 14 9588845470351633 [])]
def Si(s:b9q):QO b9q Ia:=(λ(a b c:Int)=>cond (A4 (c<8)) (cond (A4 (a>=128)) (A3 (.inl (s.1,bits .u8 .xor (AO .u8 a 1) 7,b,zN .i64 (c+1),()))) (A3 (.inl (s.1,AO .u8 a 1,b,zN .i64 (c+1),())))) (A3 (.inr (s.1,a,b,())))) s.2.1 s.2.2.1 s.2.2.2.1
def NV(s:Ia):Option c2r:=cond (A4 (s.2.2.1<(s.1.length:Int))) ((Ax s.1 s.2.2.1).bind λg=>(Al Si (s.1,bits .u8 .xor s.2.1 g,s.2.2.1,0,())).bind λh=>A3 (.inl (h.1,h.2.1,zN .i64 (h.2.2.1+1),()))) (A3 (.inr (s.2.1,())))
def Qv(x:LI):Option Int:=(Al NV (x,0,0,())).bind λh=>A3 h.1
def a9t:rZ:=⟨[.v QB],[.v QV],Qv⟩
def d4b:rY:=Qh [.sv 0 QB,.sv 3 QV,4,5] [[58,7,2,2],[7462,15,4,7]] [] []
def OQ(s:b9q):QO b9q Ia:=(λ(a b c:Int)=>cond (A4 (c<8)) (cond (A4 (a>=32768)) (A3 (.inl (s.1,bits .u16 .xor (AO .u16 a 1) 32773,b,zN .i64 (c+1),()))) (A3 (.inl (s.1,AO .u16 a 1,b,zN .i64 (c+1),())))) (A3 (.inr (s.1,a,b,())))) s.2.1 s.2.2.1 s.2.2.2.1
def Ly(s:Ia):Option c2r:=cond (A4 (s.2.2.1<(s.1.length:Int))) ((Ax s.1 s.2.2.1).bind λg=>(Al OQ (s.1,bits .u16 .xor s.2.1 (AO .u16 (zN .u16 g) 8),s.2.2.1,0,())).bind λh=>A3 (.inl (h.1,h.2.1,zN .i64 (h.2.2.1+1),()))) (A3 (.inr (s.2.1,())))
def MM(x:LI):Option Int:=(Al Ly (x,0,0,())).bind λh=>A3 h.1
def a4m:rZ:=⟨[.v QB],[.v (.int .u16)],MM⟩
def d4c:rY:=Qh [.sv 0 QB,.sv 3 (.int .u16),4,5] [[58,7,2,2],[7462,15,4,7]] [] []
def IX(s:Int×(LI×Unit)×Xo):QO (Int×(LI×Unit)×Xo) ((LI×Unit)×Xo):=(λ(a:FU)=>cond (A4 (s.1<(a.2.2.2.2.1.length:Int))) ((Ax a.2.2.2.2.1 s.1).bind λh=>(Ee (s.2.1,h,a.2.1)).bind λg=>A3 (.inl (zN .i64 (s.1+1),g.2,a,()))) (A3 (.inr (s.2.1,a,())))) s.2.2.1
def En(x:FU):Option (LI×Int):=(Hw x).bind λb=>cond (!b) (A3 ([],1)) ((Al IX (0,([],()),x,())).bind λk=>(IW k.1).bind λg=>(TS (k.2.1,(g.1.length:Int))).bind λh=>(Qv h).bind λf=>cond (BM ((A8 h)+1)) (cond (BM ((A8 (A9 h [f]))+(A8 g.1))) ((MM (A9 (A9 h [f]) g.1)).bind λc=>(Jt (zN .u64 c,2)).bind λa=>cond (BM ((A8 (A9 (A9 h [f]) g.1))+(A8 a))) (A3 (A9 (A9 (A9 h [f]) g.1) a,0)) A6) A6) A6)
def pH:rZ:=⟨[.v Ky],[.o QV,.v QI],En⟩
def d4d:rY:=Qh [5,.box 12 Q2,.vp 1 Ky,Qp 4 12] [[122,15,2,14]] [] [(7,Qg 9 8589934593 [])]
def MN(x:jI):Option Int:=cond ((x.2.1.length:Int)==0) (A3 0) ((Ax x.2.1 0).bind λh=>A3 (h.length:Int))
def pI:rZ:=⟨[.v Xp],[.v QI],MN⟩
def MO(s:c0O):QO c0O c6Y:=(λ(a:Int)(b:LI)(c:jI)=>cond (A4 (a<(c.2.1.length:Int))) ((Ax c.2.1 a).bind λh=>(Ax h s.1).bind λg=>cond (BM ((A8 b)+1)) (A3 (.inl (s.1,zN .i64 (a+1),A9 b [g],c,()))) A6) (A3 (.inr (s.1,b,c,())))) s.2.1 s.2.2.1 s.2.2.2.1
def MP(s:c6Y):QO c6Y (LI×Unit):=(MN s.2.2.1).bind λg=>cond (A4 (s.1<g)) ((Al MO (s.1,0,s.2.1,s.2.2.1,())).bind λh=>A3 (.inl (zN .i64 (h.1+1),h.2.1,h.2.2.1,()))) (A3 (.inr (s.2.1,())))
def RE(x:jI):Option LI:=(Jy x).bind λg=>cond (!g) (A3 []) ((Al MP (0,[],x,())).bind λh=>A3 h.1)
def a6s:rZ:=⟨[.v Xp],[.o QI],RE⟩
def d4e:rY:=Qh [4,5,.own 3 3 QI,.vp 1 Xp] [[122,13,2,4],[7826,15,4,13]] [] []
def MQ(s:GJ×Z4):QO (GJ×Z4) ((LI×Unit) ⊕ Z9):=cond (A4 (s.2.1<(s.1.length:Int))) ((Ax s.1 s.2.1).bind λf=>(DV f).bind λh=>cond (!h.2) (A3 (.inr (B6 (kc,[],())))) ((RE h.1).bind λg=>cond (BM ((A8 s.2.2.1)+(A8 g))) (A3 (.inl (s.1,zN .i64 (s.2.1+1),A9 s.2.2.1 g,()))) A6)) (A3 (.inr (B7 (s.2.2.1,()))))
def OA(x:GJ):Option (LI×Bool):=(Al MQ (x,0,[],())).bind λf=>match f with |.inl g=>A3 (g.1,ka) |.inr h=>A3 (h.2.1,h.1)
def a6t:rZ:=⟨[.v (.list kc Ky)],[.o QI,.v .bool],OA⟩
def d4f:rY:=Qh [.sv 0 (.list kc Ky),5,.own 4 4 QI,Qb 3,.own 2 2 QI] [[58,7,2,4,1,24]] [] []
def TT(x:Int):Option Bool:=cond (A4 (x>=4)) (A3 (A4 (x<=24))) (A3 kc)
def a9u:rZ:=⟨[.v QI],[.v .bool],TT⟩
def NW(s:c1U):QO c1U (LI×Unit):=(λ(a:Int)(b:LI)=>cond (A4 (a<s.2.1)) (cond (A4 (a<8)) (cond (A4 (zN .u64 (zN .i64 (8*a))<0)) A6 (cond (BM ((A8 b)+1)) (A3 (.inl (s.1,s.2.1,zN .i64 (a+1),A9 b [zN .u8 (AR .u64 s.1 (zN .u64 (zN .i64 (8*a))))],()))) A6)) (A3 (.inr (b,())))) (A3 (.inr (b,())))) s.2.2.1 s.2.2.2.1
def Qw(x:Int×Int):Option LI:=(Al NW (x.1,x.2,0,[],())).bind λh=>A3 h.1
def a9v:rZ:=⟨[.v QU,.v QI],[.o QV],Qw⟩
def d0c:rY:=Qh [.sv 0 QU,1,6,.own 5 5 QV] [[58,15,2,8]] [] []
def Pu(s:b3F):QO b3F b4L:=(λ(a:LI)(b c:Int)(d:LI)=>cond (A4 (c<(a.length:Int))) ((Ax a c).bind λg=>(Nv (g,b)).bind λk=>cond (!k) (A3 (.inr (B6 (6,[],())))) ((Ax a c).bind λf=>(Qw (zN .u64 f,zN .i64 (B9 (zN .i64 (b+7)) 8))).bind λh=>cond (BM ((A8 d)+(A8 h))) (A3 (.inl (a,b,zN .i64 (c+1),A9 d h,()))) A6)) (A3 (.inr (B7 (d,()))))) s.1 s.2.1 s.2.2.1 s.2.2.2.1
def Xa(x:LI×Int):Option (LI×Int):=(TT x.2).bind λk=>cond (!k) (A3 ([],1)) ((Al Pu (x.1,x.2,0,[],())).bind λf=>match f with |.inl g=>A3 (g.1,0) |.inr h=>A3 (h.2.1,h.1))
def b2y:rZ:=⟨[.v QL,.v QI],[.o QV,.v QI],Xa⟩
def d0d:rY:=Qh [.sv 0 QL,1,7,.own 6 6 QV,5,.own 4 4 QV] [[122,15,2,8,1,48]] [] []
def SL(x:Int×Int):Option Int:=kd (C0 (zN .u64 (x.1+x.2)) 2305843009213693951)
def b2z:rZ:=⟨[.v QU,.v QU],[.v QU],SL⟩
def Xb(x:Int):Option Int:=(SL (C0 (zN .u64 ((bits .u64 .and x 1099511627775)*1000003)) 2305843009213693951,C0 (zN .u64 ((bits .u64 .and (AO .u64 (zN .u64 ((AR .u64 x 40)*1000003)) 40) 2305843009213693951)+(AR .u64 (zN .u64 ((AR .u64 x 40)*1000003)) 21))) 2305843009213693951)).bind λh=>A3 h
def b2A:rZ:=⟨[.v QU],[.v QU],Xb⟩
def NX(s:Ia):Option c2r:=cond (A4 (s.2.2.1<(s.1.length:Int))) ((Xb s.2.1).bind λg=>(Ax s.1 s.2.2.1).bind λh=>(SL (g,zN .u64 ((zN .u64 h)+1))).bind λf=>A3 (.inl (s.1,f,zN .i64 (s.2.2.1+1),()))) (A3 (.inr (s.2.1,())))
def TU(x:LI):Option Int:=(Al NX (x,0,0,())).bind λh=>A3 h.1
def a9w:rZ:=⟨[.v QB],[.v QU],TU⟩
def d0e:rY:=Qh [.sv 0 QB,.sv 3 QU,4] [[58,7,2,2]] [] [(5,Qg 10 146028888064 [])]
def NY(x:LI×Int):Option Int:=(Xa (x.1,x.2)).bind λh=>(TU h.1).bind λg=>A3 g
def a1e:rZ:=⟨[.v QL,.v QI],[.v QU],NY⟩
def MR(s:GJ×Int×Int×Int×b8h):QO (GJ×Int×Int×Int×b8h) ((GJ×b8h) ⊕ (Bool×jK)):=(λ(a:GJ)(b c d:Int)(e f:KF)(g:Z8)=>cond (A4 (d<(a.length:Int))) ((Ax a d).bind λi=>(En i).bind λk=>(show Option (GJ×Int×Int×Int×Bool×LI×b8h)from cond (k.2 != 0) (A3 (a,b,c,d,ka,k.1,e,f,g,())) ((Ax a d).bind λj=>cond (!(Xm FV j.2.2.1 g)) (A3 (a,b,c,d,ka,k.1,e,f,g,())) ((Ax a d).bind λl=>A3 (a,b,c,d,l.1 != b,k.1,e,f,g,())))).bind λh=>cond h.2.2.2.2.1 (A3 (.inr (B6 (kc,((0,0,0,()),0,0,[],[],()),())))) (cond (BM ((A8 h.2.2.2.2.2.2.2.1.2.2.2.1)+1)) ((Ax h.1 h.2.2.2.1).bind λm=>A3 (.inl (h.1,zN .i64 (h.2.1+m.2.1),zN .i64 (h.2.2.1+(h.2.2.2.2.2.1.length:Int)),zN .i64 (h.2.2.2.1+1),h.2.2.2.2.2.2.1,(h.2.2.2.2.2.2.2.1.1,h.2.2.2.2.2.2.2.1.2.1,h.2.2.2.2.2.2.2.1.2.2.1,A9 h.2.2.2.2.2.2.2.1.2.2.2.1 ([(h.2.1,h.2.2.1,())]:List (Int×Int×Unit)),h.2.2.2.2.2.2.2.1.2.2.2.2),h.2.2.2.2.2.2.2.2.1,()))) A6)) (A3 (.inr (B7 (a,e,f,g,()))))) s.1 s.2.1 s.2.2.1 s.2.2.2.1 s.2.2.2.2.1 s.2.2.2.2.2.1 s.2.2.2.2.2.2.1
def JA(x:Z8×GJ):Option (KF×Bool):=(show Option (GJ×Bool×c2w)from(LR x.1).bind λc=>cond (!c) (A3 (x.2,ka,((0,0,0,()),0,0,[],[],()),x.1,())) (A3 (x.2,A4 ((x.2.length:Int) > 4096),((0,0,0,()),0,0,[],[],()),x.1,()))).bind λg=>cond g.2.1 (A3 (((0,0,0,()),0,0,[],[],()),kc)) ((WY g.1).bind λd=>(Al MR (g.1,0,0,0,g.2.2.1,(g.2.2.2.1,d,0,[],g.1,()),g.2.2.2.1,())).bind λk=>match k with |.inl h=>((OA h.1).bind λa=>(NY (a.1,h.2.2.2.1.2.2.1)).bind λb=>A3 ((h.2.2.1.1,h.2.2.1.2.1,b,h.2.2.1.2.2.2),ka)) |.inr f=>A3 (f.2.1,f.1))
def a6u:rZ:=⟨[.v FV,.v (.list kc Ky)],[.v Mb,.v .bool],JA⟩
def d4g:rY:=Qh [.sv 1 (.list kc Ky),7,8,9,Qb 5,Qb 21,Qb 61,.own 10 10 QV,.box 4 Mb,.box 6 c8f,.vp 2 FV,Qp 4 4,Qp 6 6] [[250,7951,2,7937,1,2320]] [[6,0,3361],[16018,0,8143]] [(3,Qg 7 34603008 []),(9,Qg 20 160560460455088771564066 [])]
def MS(s:b9q):QO b9q Ia:=(λ(a b c:Int)=>cond (A4 (c<8)) (cond (bits .u32 .and a 1==1) (A3 (.inl (s.1,bits .u32 .xor (AR .u32 a 1) 3988292384,b,zN .i64 (c+1),()))) (A3 (.inl (s.1,AR .u32 a 1,b,zN .i64 (c+1),())))) (A3 (.inr (s.1,a,b,())))) s.2.1 s.2.2.1 s.2.2.2.1
def IY(s:Ia):Option c2r:=cond (A4 (s.2.2.1<(s.1.length:Int))) ((Ax s.1 s.2.2.1).bind λg=>(Al MS (s.1,bits .u32 .xor s.2.1 (zN .u32 g),s.2.2.1,0,())).bind λh=>A3 (.inl (h.1,h.2.1,zN .i64 (h.2.2.1+1),()))) (A3 (.inr (s.2.1,())))
def JB(x:LI):Option Int:=(Al IY (x,4294967295,0,())).bind λh=>A3 (bits .u32 .xor (IntKind.max .u32) h.1)
def pK:rZ:=⟨[.v QB],[.v (.int .u32)],JB⟩
def d4h:rY:=Qh [.sv 0 QB,.sv 3 (.int .u32),4,5] [[58,7,2,2],[7462,15,4,7]] [] []
def JC(x:LI):Option Ia:=kd (x,0,0,())
def pL:rZ:=⟨[.v QB],[.b FX],JC⟩
def Dp(x:Ia):Option UX:=kd (zN .i64 ((x.1.length:Int)-x.2.1),x)
def eN:rZ:=⟨[.r kc (.b FX)],[.v QI],Dp⟩
def d4i:rY:=Qh [] [] [] [(1,Qg 11 2341079093555 [])]
def AT(x:a3S):Option c2n:=cond (x.1.2.2.1 != 0) (A3 ([],x.1)) ((Dp x.1).bind λh=>cond (A4 ((Fk x.2 0) > h.1)) (A3 ([],h.2.1,h.2.2.1,3,h.2.2.2.2)) (cond (A4 (0<=(zN .i64 (h.2.2.1+(Fk x.2 0))))&&A4 ((zN .i64 (h.2.2.1+(Fk x.2 0)))<=(h.2.1.length:Int))) (cond (A4 (0<=h.2.2.1)&&A4 (h.2.2.1<=((A7 (zN .i64 (h.2.2.1+(Fk x.2 0))):Nat):Int))) (cond (BM (0+(A8 (C2 (A7 h.2.2.1) (B8 (A7 (zN .i64 (h.2.2.1+(Fk x.2 0)))) h.2.1))))) (A3 (A9 [] (C2 (A7 h.2.2.1) (B8 (A7 (zN .i64 (h.2.2.1+(Fk x.2 0)))) h.2.1)),h.2.1,zN .i64 (h.2.2.1+(Fk x.2 0)),h.2.2.2)) A6) A6) A6))
def eO:rZ:=⟨[.r kc (.b FX),.v QI],[.o QV],AT⟩
def d4j:rY:=Qh [] [] [] [(7,Qg 18 627189601082597774129 [])]
def Df(s:b7I):QO b7I (b0E ⊕ b4M):=(λ(a b c:Int)(d:Ia)=>cond (A4 (zN .i64 (d.2.1+c)<(d.1.length:Int))) ((Ax d.1 (zN .i64 (d.2.1+c))).bind λg=>(show Option (Int×Int×c2u)from cond (c==9) (cond (A4 (g > 1)) (A3 (a,b,c,g,ka,d,())) (cond (A4 (c > 0)) (A3 (a,b,c,g,g==0,d,())) (A3 (a,b,c,g,kc,d,())))) (cond (A4 (c > 0)) (A3 (a,b,c,g,g==0,d,())) (A3 (a,b,c,g,kc,d,())))).bind λh=>cond h.2.2.2.2.1 (A3 (.inr (B6 (0,(h.2.2.2.2.2.1.1,h.2.2.2.2.2.1.2.1,2,h.2.2.2.2.2.1.2.2.2),())))) (cond (A4 (zN .u64 (zN .i64 (7*h.2.2.1))<0)) A6 (cond (A4 (h.2.2.2.1>=128)) (A3 (.inl (h.1,bits .u64 .or h.2.1 (AO .u64 (zN .u64 (bits .u8 .and h.2.2.2.1 127)) (zN .u64 (zN .i64 (7*h.2.2.1)))),zN .i64 (h.2.2.1+1),h.2.2.2.2.2.1,()))) (cond (A4 ((bits .u64 .or h.2.1 (AO .u64 (zN .u64 (bits .u8 .and h.2.2.2.1 127)) (zN .u64 (zN .i64 (7*h.2.2.1))))) > h.1)) (A3 (.inr (B6 (0,(h.2.2.2.2.2.1.1,h.2.2.2.2.2.1.2.1,4,h.2.2.2.2.2.1.2.2.2),())))) (A3 (.inr (B6 (bits .u64 .or h.2.1 (AO .u64 (zN .u64 (bits .u8 .and h.2.2.2.1 127)) (zN .u64 (zN .i64 (7*h.2.2.1)))),(h.2.2.2.2.2.1.1,zN .i64 ((zN .i64 (h.2.2.2.2.2.1.2.1+h.2.2.1))+1),h.2.2.2.2.2.1.2.2),())))))))) (A3 (.inr (B7 (d,()))))) s.1 s.2.1 s.2.2.1 s.2.2.2.1
def AS(x:a3S):Option UX:=cond (x.1.2.2.1 != 0) (A3 (0,x.1)) ((Al Df (x.2,0,0,x.1,())).bind λf=>match f with |.inl h=>A3 (0,h.1.1,h.1.2.1,3,h.1.2.2.2) |.inr g=>A3 (g.1,g.2.1))
def jZ:rZ:=⟨[.r kc (.b FX),.v QU],[.v QU],AS⟩
def d4k:rY:=Qh [.sv 1 QU,.sv 5 QU,6,.sv 4 QU,.sv 7 QV,Qb 52,.box pinned FX,Qp 0 pinned] [[122,199,2,192,1,72]] [[7826,0,247]] [(5,Qg 12 35258242175283 []),(7,Qg 13 600333637325107 [])]
def HT(s:c7f):QO c7f b4M:=(λ(a:Int)(b:LI)(c:Ia)=>cond (A4 (a<(b.length:Int))) (cond (A4 (0<=a)&&A4 (a<(b.length:Int))) (A3 (.inl (bits .u64 .or (AO .u64 s.1 8) (zN .u64 (B3 b (A7 a) 0)),zN .i64 (a+1),b,c,()))) A6) (A3 (.inr (s.1,c,())))) s.2.1 s.2.2.1 s.2.2.2.1
def EQ(x:a3S):Option UX:=(AT (x.1,OH x.2 8)).bind λg=>(Al HT (0,0,g.1,g.2,())).bind λh=>A3 (h.1,h.2.1)
def kA:rZ:=⟨[.r kc (.b FX),.v QI],[.v QU],EQ⟩
def d4l:rY:=Qh [.sv 6 QU,7,.own 5 5 QV,.box pinned FX] [[122,15,2,9]] [] []
def Kd(s:LI×Int×Bool×Int×b7U):QO (LI×Int×Bool×Int×b7U) (LI×Bool×b7U):=(λ(a:Int)(b:Bool)(c:Int)(d:Ra)(e:Ia)(f:Ra)=>cond (A4 (c<a)) ((AS (e,1048704)).bind λg=>cond (BM ((A8 f.2.1)+1)) ((AS (g.2,4096)).bind λh=>cond (BM ((A8 f.2.2.1)+1)) (cond b (A3 (.inl (s.1,a,A4 ((zN .i64 h.1) > 0),zN .i64 (c+1),d,h.2,(f.1,A9 f.2.1 [zN .i64 g.1],A9 f.2.2.1 [zN .i64 h.1],f.2.2.2.1,f.2.2.2.2.1,zN .i64 (f.2.2.2.2.2.1+(zN .i64 h.1)),f.2.2.2.2.2.2),()))) (A3 (.inl (s.1,a,kc,zN .i64 (c+1),d,h.2,(f.1,A9 f.2.1 [zN .i64 g.1],A9 f.2.2.1 [zN .i64 h.1],f.2.2.2.1,f.2.2.2.2.1,zN .i64 (f.2.2.2.2.2.1+(zN .i64 h.1)),f.2.2.2.2.2.2),())))) A6) A6) (A3 (.inr (s.1,b,d,e,f,())))) s.2.1 s.2.2.1 s.2.2.2.1 s.2.2.2.2.1 s.2.2.2.2.2.1 s.2.2.2.2.2.2.1
def NZ(x:LI):Option (Ra×Int):=cond (A4 ((x.length:Int)<4)) (A3 (((0,0,0,()),[],[],0,0,0,()),3)) (cond (A4 (4<=(x.length:Int))) (cond ((a4V (B8 4 x)) != [75,78,83,68]) (A3 (((0,0,0,()),[],[],0,0,0,()),2)) ((JC x).bind λm=>(AT (m,4)).bind λo=>(AS (o.2,1048576)).bind λe=>(AS (e.2,8)).bind λi=>(AS (i.2,24)).bind λj=>(AS (j.2,4096)).bind λl=>(Al Kd (x,zN .i64 l.1,ka,0,((0,0,0,()),[],[],0,0,0,()),l.2,((zN .i64 e.1,zN .i64 i.1,zN .i64 j.1,()),[],[],0,0,0,()),())).bind λk=>(show Option (LI×Bool×Bool×b7U)from cond (k.2.2.2.1.2.2.1==0) ((Dp k.2.2.2.1).bind λa=>A3 (k.1,k.2.1,A4 (a.1<12),k.2.2.1,a.2,k.2.2.2.2.1,())) (A3 (k.1,k.2.1,kc,k.2.2.1,k.2.2.2.1,k.2.2.2.2.1,()))).bind λh=>cond h.2.2.1 (A3 (((0,0,0,()),[],[],0,0,0,()),3)) ((EQ (h.2.2.2.2.1,8)).bind λg=>(EQ (g.2,4)).bind λf=>cond (f.2.2.2.1 != 0) (A3 (((0,0,0,()),[],[],0,0,0,()),f.2.2.2.1)) (cond (A4 (0<=g.2.2.1)&&A4 (g.2.2.1<=(h.1.length:Int))) ((JB (B8 (A7 g.2.2.1) h.1)).bind λc=>cond (f.1 != (zN .u64 c)) (A3 (((0,0,0,()),[],[],0,0,0,()),5)) ((show Option (Bool×b7O)from(LR h.2.2.2.2.2.1.1).bind λd=>cond (!d) (A3 (ka,h.2.2.2.1,(h.2.2.2.2.2.1.1,h.2.2.2.2.2.1.2.1,h.2.2.2.2.2.1.2.2.1,g.1,f.2.2.1,h.2.2.2.2.2.1.2.2.2.2.2),())) (cond (!h.2.1) (A3 (ka,h.2.2.2.1,(h.2.2.2.2.2.1.1,h.2.2.2.2.2.1.2.1,h.2.2.2.2.2.1.2.2.1,g.1,f.2.2.1,h.2.2.2.2.2.1.2.2.2.2.2),())) (A3 (A4 (h.2.2.2.2.2.1.2.2.2.2.2.1 > 4194304),h.2.2.2.1,(h.2.2.2.2.2.1.1,h.2.2.2.2.2.1.2.1,h.2.2.2.2.2.1.2.2.1,g.1,f.2.2.1,h.2.2.2.2.2.1.2.2.2.2.2),())))).bind λb=>cond b.1 (A3 (((0,0,0,()),[],[],0,0,0,()),2)) (A3 (b.2.2.1,0)))) A6)))) A6)
def a1f:rZ:=⟨[.v QB],[.v c7h,.v QI],NZ⟩
def d4m:rY:=Qh [.sv 0 QB,6,Qb 7,8,Qb 84,Qb 120,.box 2 c7h,.box 1022 FX,.box 5 d2w,Qp 2 2,Qp 4 1022,Qp 5 5] [[32762,4047,2,4037]] [[16382,0,4053],[16777167,0,2912]] [(16,Qg 9 9161441655 [[5,48],[5,49],[51,1022,1051]]),(18,Qg 19 11838654368567805022225 [[5,62,63],[],[0,5]]),(26,Qg 7 42432368 [[107,1022],[108,1022],[109,1022],[110,1022],[0,2]])]
def Nw(x:Z1):Option Bool:=kd ((a4V x.1)==(a4V x.2))
def b2B:rZ:=⟨[.v QB,.v QB],[.v .bool],Nw⟩
def VV(x:Int):Option Int:=(show Option (Int×Unit)from cond (bits .u64 .and x 1==1) (A3 (bits .i64 .xor (-1) (zN .i64 (AR .u64 x 1)),())) (A3 (zN .i64 (AR .u64 x 1),()))).bind λh=>A3 h.1
def b5e:rZ:=⟨[.v QU],[.v QI],VV⟩
def d0f:rY:=Qh [3] [] [[7,0,1]] []
def Oa(s:LI×Int×Int×FU×Ia×Xo):QO (LI×Int×Int×FU×Ia×Xo) (LI×FU×Ia×Xo):=(λ(a:Int)(b:FU)(c:Ia)(d:FU)=>cond (A4 (a<s.2.1)) ((AS (c,7)).bind λh=>(AS (h.2,7)).bind λg=>(AS (g.2,2048)).bind λf=>(VV f.1).bind λk=>cond (BM ((A8 d.2.2.2.1)+1)) (A3 (.inl (s.1,s.2.1,zN .i64 (a+1),b,f.2,(d.1,d.2.1,d.2.2.1,A9 d.2.2.2.1 ([(zN .i64 h.1,zN .i64 g.1,k,())]:List Z8),d.2.2.2.2),()))) A6) (A3 (.inr (s.1,b,c,d,())))) s.2.2.1 s.2.2.2.1 s.2.2.2.2.1 s.2.2.2.2.2.1
def TV(x:LI):Option (FU×Int×Int×Int):=cond (A4 ((x.length:Int)<2)) (A3 ((0,0,(0,0,0,()),[],[],()),0,0,3)) ((show Option (LI×Bool×Xo)from(Ax x 0).bind λm=>cond (m != 245) (A3 (x,ka,(0,0,(0,0,0,()),[],[],()),())) ((Ax x 1).bind λo=>A3 (x,o != 75,(0,0,(0,0,0,()),[],[],()),()))).bind λb=>cond b.2.1 (A3 ((0,0,(0,0,0,()),[],[],()),0,0,2)) ((JC b.1).bind λp=>(AT (p,2)).bind λq=>(AS (q.2,4194304)).bind λe=>(AS (e.2,4096)).bind λi=>(AS (i.2,1048576)).bind λj=>(AS (j.2,8)).bind λl=>(AS (l.2,24)).bind λk=>(AS (k.2,16)).bind λa=>(Al Oa (b.1,zN .i64 a.1,0,b.2.2.1,a.2,(zN .i64 e.1,zN .i64 i.1,(zN .i64 j.1,zN .i64 l.1,zN .i64 k.1,()),[],[],()),())).bind λg=>(AS (g.2.2.1,1048576)).bind λh=>(AT (h.2,1)).bind λf=>cond (f.2.2.2.1 != 0) (A3 ((0,0,(0,0,0,()),[],[],()),0,0,f.2.2.2.1)) (cond (A4 (0<(f.1.length:Int))) (cond (A4 (0<=h.2.2.1)&&A4 (h.2.2.1<=(g.1.length:Int))) ((Qv (B8 (A7 h.2.2.1) g.1)).bind λc=>cond ((B3 f.1 0 0) != c) (A3 ((0,0,(0,0,0,()),[],[],()),0,0,5)) ((KS g.2.2.2.1).bind λd=>cond (!d) (A3 ((0,0,(0,0,0,()),[],[],()),0,0,2)) (A3 (g.2.2.2.1,zN .i64 h.1,zN .i64 (h.2.2.1+1),0)))) A6) A6)))
def a9x:rZ:=⟨[.v QB],[.v c8a,.v QI,.v QI,.v QI],TV⟩
def d0g:rY:=Qh [.sv 0 QB,8,9,Qb 28,.box 2 c8a,.box 1031 FX,.box 7 d1H,Qp 2 2,Qp 6 1031,Qp 7 7] [[16378,1015,2,1009]] [[14,0,153]] [(17,Qg 12 37525137719415 [[7,70],[7,71],[75,1031,1075]]),(22,Qg 9 8598812528 [[97,1031],[98,1031],[99,1031],[100,1031],[0,2]]),(23,Qg 9 9126805777 [])]
def MT(x:LI):Option Ia:=kd (x,0,0,())
def pM:rZ:=⟨[.v QB],[.b FX],MT⟩
def BX(x:Ia):Option UX:=kd (zN .i64 ((zN .i64 (8*(x.1.length:Int)))-x.2.1),x)
def eP:rZ:=⟨[.r kc (.b FX)],[.v QI],BX⟩
def d0h:rY:=Qh [] [] [] [(1,Qg 12 37457265430835 [])]
def Gg(x:a3S):Option UX:=(Ax x.1.1 (zN .i64 (B9 x.2 8))).bind λh=>cond (A4 (zN .u64 (zN .i64 (7-(C0 x.2 8)))<0)) A6 (A3 (zN .u64 (bits .u8 .and (AR .u8 h (zN .u64 (zN .i64 (7-(C0 x.2 8))))) 1),x.1))
def kC:rZ:=⟨[.r kc (.b FX),.v QI],[.v QU],Gg⟩
def HU(s:b7I):QO b7I c2a:=(λ(a:Int)(b:Ia)=>cond (A4 (a<s.1)) ((Gg (b,zN .i64 (b.2.1+a))).bind λh=>A3 (.inl (s.1,bits .u64 .or (AO .u64 s.2.1 1) h.1,zN .i64 (a+1),h.2,()))) (A3 (.inr (s.1,s.2.1,b,())))) s.2.2.1 s.2.2.2.1
def AB(x:a3S):Option UX:=cond (x.1.2.2.1 != 0) (A3 (0,x.1)) ((show Option c6W from cond (A4 (x.2<0)) (A3 (x.2,ka,x.1,())) (A3 (x.2,A4 (x.2 > 64),x.1,()))).bind λh=>cond h.2.1 (A3 (0,h.2.2.1.1,h.2.2.1.2.1,1,h.2.2.1.2.2.2)) ((BX h.2.2.1).bind λf=>cond (A4 (h.1 > f.1)) (A3 (0,f.2.1,f.2.2.1,3,f.2.2.2.2)) ((Al HU (h.1,0,0,f.2,())).bind λg=>A3 (g.2.1,g.2.2.1.1,zN .i64 (g.2.2.1.2.1+g.1),g.2.2.1.2.2))))
def kD:rZ:=⟨[.r kc (.b FX),.v QI],[.v QU],AB⟩
def d0i:rY:=Qh [1,.sv 5 QU,6,Qb 17,.box pinned FX,Qp 0 pinned] [[506,55,2,51]] [[14,0,57]] []
def DW(x:a3S):Option UX:=(AB (x.1,x.2)).bind λg=>(show Option c2u from cond (g.2.2.2.1 != 0) (A3 (x.2,g.1,ka,g.2,())) (A3 (x.2,g.1,x.2==0,g.2,()))).bind λh=>cond h.2.2.1 (A3 (0,h.2.2.2.1)) (cond (A4 (zN .u64 (zN .i64 (64-h.1))<0)) A6 (cond (A4 (zN .u64 (zN .i64 (64-h.1))<0)) A6 (A3 (AR .i64 (zN .i64 (AO .u64 h.2.1 (zN .u64 (zN .i64 (64-h.1))))) (zN .u64 (zN .i64 (64-h.1))),h.2.2.2.1))))
def YJ:rZ:=⟨[.r kc (.b FX),.v QI],[.v QI],DW⟩
def d0j:rY:=Qh [1,.sv 5 QU,Qb 17,.box pinned FX] [] [[14,0,15]] []
def Cb(s:oF):QO oF c2t:=(λ(a:Int)(b:LI)(c:Ia)=>cond (A4 (a<s.1)) (cond (c.2.2.1==0) ((DW (c,s.2.1)).bind λh=>cond (BM ((A8 b)+1)) (A3 (.inl (s.1,s.2.1,zN .i64 (a+1),A9 b [h.1],h.2,()))) A6) (A3 (.inr (b,c,())))) (A3 (.inr (b,c,())))) s.2.2.1 s.2.2.2.1 s.2.2.2.2.1
def BY(x:c1X):Option c2n:=(Al Cb (x.2.1,x.2.2,0,[],x.1,())).bind λh=>A3 (h.1,h.2.1)
def pN:rZ:=⟨[.r kc (.b FX),.v QI,.v QI],[.o QI],BY⟩
def d0k:rY:=Qh [1,2,8,.own 7 7 QI,.box pinned FX,Qp 0 pinned] [[58,63,2,24]] [] []
def DL(x:b7R):Option b7R:=(AB (x.1,5)).bind λh=>(AB (h.2,4)).bind λg=>(AB (g.2,5)).bind λf=>(BY (f.2,zN .i64 ((zN .i64 h.1)+1),zN .i64 f.1)).bind λk=>A3 (k.2,x.2.1,x.2.2.1,x.2.2.2.1,zN .i64 g.1,x.2.2.2.2.2.1,k.1,x.2.2.2.2.2.2.2)
def kE:rZ:=⟨[.r kc (.b FX),.r kc (.b c2b)],[],DL⟩
def Cc(s:c2a):QO c2a (b0E ⊕ b4M):=(λ(a:Int)=>(BX s.2.2.1).bind λg=>cond (A4 (a<g.1)) ((Gg (g.2,zN .i64 (g.2.2.1+a))).bind λh=>cond (h.1==1) (A3 (.inr (B6 (a,(h.2.1,zN .i64 ((zN .i64 (h.2.2.1+a))+1),h.2.2.2),())))) (cond (A4 (a>=s.1)) (A3 (.inr (B6 (0,(h.2.1,h.2.2.1,2,h.2.2.2.2),())))) (A3 (.inl (s.1,zN .i64 (a+1),h.2,()))))) (A3 (.inr (B7 (g.2,()))))) s.2.1
def EF(x:a3S):Option UX:=cond (x.1.2.2.1 != 0) (A3 (0,x.1)) ((Al Cc (Fk x.2 0,0,x.1,())).bind λf=>match f with |.inl h=>A3 (0,h.1.1,h.1.2.1,3,h.1.2.2.2) |.inr g=>A3 (g.1,g.2.1))
def bG:rZ:=⟨[.r kc (.b FX),.v QI],[.v QI],EF⟩
def d0l:rY:=Qh [1,5,4,.box pinned FX,Qp 0 pinned] [[122,27,2,24,1,12]] [] []
def RF(x:Int):Option Int:=cond (A4 (x>=2147483648)) (A3 0) ((VV x).bind λh=>A3 h)
def a6v:rZ:=⟨[.v QU],[.v QI],RF⟩
def BE(s:oF):QO oF (c2t ⊕ c7b):=(λ(a b c:Int)(d:LI)(e:Ia)=>cond (A4 (c<b)) ((EF (e,32)).bind λk=>(show Option ((Int×oF) ⊕ c7b)from cond (A4 (k.1<32)) (cond (A4 (zN .u64 a<0)) A6 ((AB (k.2,a)).bind λl=>A3 (B7 (a,b,c,bits .u64 .or (AO .u64 (zN .u64 k.1) (zN .u64 a)) l.1,d,l.2,())))) ((AB (k.2,32)).bind λg=>(show Option (Int×Int×Int×Int×Bool×c2t)from cond (g.2.2.2.1==0) (cond (A4 (g.1>=2147483648)) (A3 (a,b,c,g.1,ka,d,g.2,())) (cond (A4 (zN .u64 a<0)) A6 (A3 (a,b,c,g.1,A4 (AR .u64 g.1 (zN .u64 a)<32),d,g.2,())))) (A3 (a,b,c,g.1,kc,d,g.2,()))).bind λf=>cond f.2.2.2.2.1 (A3 (B6 (2,[],f.2.2.2.2.2.2.1,()))) (A3 (B7 (f.1,f.2.1,f.2.2.1,f.2.2.2.1,f.2.2.2.2.2.1,f.2.2.2.2.2.2.1,()))))).bind λm=>match m with |.inl h=>(cond (h.2.2.2.2.2.1.2.2.1 != 0) (A3 (.inr (B6 (h.2.2.2.2.2.1.2.2.1,[],h.2.2.2.2.2.1,())))) ((RF h.2.2.2.1).bind λj=>cond (BM ((A8 h.2.2.2.2.1)+1)) (A3 (.inl (h.1,h.2.1,zN .i64 (h.2.2.1+1),A9 h.2.2.2.2.1 [j],h.2.2.2.2.2.1,()))) A6)) |.inr i=>A3 (.inr (B6 (i.1,i.2.1,i.2.2.1,())))) (A3 (.inr (B7 (d,e,()))))) s.1 s.2.1 s.2.2.1 s.2.2.2.1 s.2.2.2.2.1
def Ke(x:c1X):Option c1Y:=(show Option c2u from(BW x.2.1).bind λa=>cond (!a) (A3 (x.2.1,x.2.2,ka,x.1,())) (cond (A4 (x.2.2<0)) (A3 (x.2.1,x.2.2,ka,x.1,())) (A3 (x.2.1,x.2.2,A4 (x.2.2 > 4194304),x.1,())))).bind λh=>cond h.2.2.1 (A3 ([],1,h.2.2.2.1)) (cond (h.2.2.2.1.2.2.1 != 0) (A3 ([],h.2.2.2.1.2.2.1,h.2.2.2.1)) ((Al BE (h.1,h.2.1,0,[],h.2.2.2.1,())).bind λk=>match k with |.inl f=>A3 (f.1,0,f.2.1) |.inr g=>A3 (g.2.1,g.1,g.2.2.1)))
def a4n:rZ:=⟨[.r kc (.b FX),.v QI,.v QI],[.o QI,.v QI],Ke⟩
def d0m:rY:=Qh [1,2,9,7,.own 6 6 QI,Qb 22,.sv 11 QU,Qb 67,.own 8 8 QI,.box pinned FX,Qp 0 pinned] [[250,1799,2,768,1,536]] [[6,0,1571],[16019,0,1863,1,536],[256311,0,1991]] [(4,Qg 6 2101555 []),(17,Qg 6 2101555 [])]
def IB(x:c1X):Option c1Y:=cond (x.2.1 != 31) ((BW x.2.1).bind λk=>cond (!k) (A3 ([],2,x.1)) ((Ke (x.1,x.2.1,x.2.2)).bind λg=>A3 (g.1,g.2.1,g.2.2))) ((AB (x.1,5)).bind λf=>(BY (f.2,x.2.2,zN .i64 f.1)).bind λh=>cond (h.2.2.2.1 != 0) (A3 ([],h.2.2.2.1,h.2)) ((Jz h.1).bind λa=>cond (a != (zN .i64 f.1)) (A3 ([],2,h.2)) (A3 (h.1,0,h.2))))
def b2C:rZ:=⟨[.r kc (.b FX),.v QI,.v QI],[.o QI,.v QI],IB⟩
def d0n:rY:=Qh [] [] [] [(8,Qg 6 2101555 [])]
def Dq(s:b7M):QO b7M ((LI×Z4×b7K) ⊕ (Int×LI×b7K)):=(λ(a:Int)(b c:LI)(d:Ia)(e f:Z4)=>cond (A4 (a<(b.length:Int))) ((AB (d,5)).bind λh=>cond (h.2.2.2.1 != 0) (A3 (.inr (B6 (h.2.2.2.1,[],(0,[],()),h.2,())))) (cond (BM ((A8 f.2.1)+1)) (cond (A4 (0<=a)&&A4 (a<(b.length:Int))) ((IB (h.2,zN .i64 h.1,B3 b (A7 a) 0)).bind λg=>cond (g.2.1 != 0) (A3 (.inr (B6 (g.2.1,[],(0,[],()),g.2.2,())))) (cond (BM ((A8 c)+(A8 g.1))) (A3 (.inl (zN .i64 (a+1),b,A9 c g.1,g.2.2,e,(f.1,A9 f.2.1 [zN .i64 h.1],f.2.2),()))) A6)) A6) A6)) (A3 (.inr (B7 (c,e,f,d,()))))) s.1 s.2.1 s.2.2.1 s.2.2.2.1 s.2.2.2.2.1 s.2.2.2.2.2.1
def IC(x:c1X):Option (Z4×c1Y):=(VU (x.2.1,x.2.2)).bind λb=>cond (!b) (A3 ((0,[],()),[],1,x.1)) ((AB (x.1,4)).bind λh=>cond (h.2.2.2.1 != 0) (A3 ((0,[],()),[],h.2.2.2.1,h.2)) ((EP (zN .i64 h.1,x.2.1,x.2.2)).bind λk=>cond ((k.length:Int)==0) (A3 ((0,[],()),[],2,h.2)) ((Al Dq (0,k,[],h.2,(0,[],()),(zN .i64 h.1,[],()),())).bind λa=>match a with |.inl f=>A3 (f.2.2.1,f.1,0,f.2.2.2.1) |.inr g=>A3 (g.2.2.1,g.2.1,g.1,g.2.2.2.1))))
def a1g:rZ:=⟨[.r kc (.b FX),.v QI,.v QI],[.v cZ,.o QI,.v QI],IC⟩
def d0o:rY:=⟨[(2042,[12,.own 10 10 QI,.own 11 11 QI,.box pinned FX,.box 6 cZ,.box 9 c2x,Qp 0 pinned,Qp 6 6,Qp 9 9],[Qe 0 [.own 11 11 QI,.box 6 cZ,.box 9 c2x,.box pinned FX,Qp 6 6,Qp 9 9],Qr [8,.own 7 7 QI,.box 6 cZ,.box pinned FX,Qp 6 6]])],[],[(5,[.v,.p,.p,.r [33,pinned],.r [34,pinned],.w [0,6],.v,.x]),(15,[.v,.p,.p,.r [61,pinned],.r [62,pinned],.w [0,6],.v,.x])]⟩
def OR(x:LI×Unit):Option Z4:=kd ((x.1.length:Int),x)
def kF:rZ:=⟨[.r kc (.b Q2)],[.v QI],OR⟩
def GC(s:Int×Int×c7d):QO (Int×Int×c7d) (c7d ⊕ (Bool×c7d)):=(λ(a b:Int)(c:LI×Unit)(d:Ia)=>cond (A4 (b<(c.1.length:Int))) (cond (A4 (0<=b)&&A4 (b<(c.1.length:Int))) ((Ax d.1 (zN .i64 (B9 (zN .i64 (a+b)) 8))).bind λh=>cond (A4 (zN .u64 (zN .i64 (7-(C0 (zN .i64 (a+b)) 8)))<0)) A6 (cond ((B3 c.1 (A7 b) 0) != (bits .u8 .and (AR .u8 h (zN .u64 (zN .i64 (7-(C0 (zN .i64 (a+b)) 8))))) 1)) (A3 (.inr (B6 (kc,c,d,())))) (A3 (.inl (a,zN .i64 (b+1),c,d,()))))) A6) (A3 (.inr (B7 (c,d,()))))) s.1 s.2.1 s.2.2.1 s.2.2.2.1
def Hx(x:(LI×Unit)×a3S):Option (Bool×(LI×Unit)×Ia):=(OR x.1).bind λg=>cond (g.1 != (zN .i64 (x.2.1.2.1-x.2.2))) (A3 (kc,g.2,x.2.1)) ((Al GC (x.2.2,0,g.2,x.2.1,())).bind λk=>match k with |.inl f=>A3 (ka,f.1,f.2.1) |.inr h=>A3 (h.1,h.2.1,h.2.2.1))
def pO:rZ:=⟨[.r kc (.b Q2),.r kc (.b FX),.v QI],[.v .bool],Hx⟩
def d0p:rY:=Qh [2,7,Qb 6,.box pinned Q2,.box 1000001 FX,Qp 0 pinned,Qp 1 1000001] [[58,123,2,24,1,28]] [] [(1,Qg 9 8597746563 [[9,1009,pinned],[12,1000001],[13,1000001]]),(6,Qg 26 2535301200456458804175345553715 [])]
def ER(s:Int×Int×Int×Int×LI×b8c):QO (Int×Int×Int×Int×LI×b8c) b4P:=(λ(a b:Int)(c:LI)(d:Ia)(e f:Jf)=>cond (A4 (b<(c.length:Int))) (cond (A4 (0<=b)&&A4 (b<(c.length:Int))) (cond (A4 (0<=b)&&A4 (b<3)) (A3 (.inl (s.1,s.2.1,a,zN .i64 (b+1),c,d,e,(f.1,f.2.1,f.2.2.1,f.2.2.2.1,f.2.2.2.2.1,f.2.2.2.2.2.1,C1 f.2.2.2.2.2.2.1 (A7 b) (B3 c (A7 b) 0),f.2.2.2.2.2.2.2),()))) A6) A6) (A3 (.inr (s.1,s.2.1,a,d,e,f,())))) s.2.2.1 s.2.2.2.1 s.2.2.2.2.1 s.2.2.2.2.2.1 s.2.2.2.2.2.2.1 s.2.2.2.2.2.2.2.1
def Lz(s:Int×Int×b4P):QO (Int×Int×b4P) b4P:=(λ(a b c:Int)(d:Ia)(e f:Jf)=>cond (A4 (c<b)) ((AB (d,5)).bind λh=>(AB (h.2,4)).bind λg=>cond (BM ((A8 f.2.2.2.2.2.2.2.1)+1)) (A3 (.inl (s.1,s.2.1,a,b,zN .i64 (c+1),g.2,e,(f.1,f.2.1,f.2.2.1,f.2.2.2.1,f.2.2.2.2.1,f.2.2.2.2.2.1,f.2.2.2.2.2.2.1,A9 f.2.2.2.2.2.2.2.1 ([(zN .i64 ((zN .i64 h.1)+1),zN .i64 g.1,())]:List (Int×Int×Unit)),f.2.2.2.2.2.2.2.2),()))) A6) (A3 (.inr (s.1,s.2.1,a,d,e,f,())))) s.2.2.1 s.2.2.2.1 s.2.2.2.2.1 s.2.2.2.2.2.1 s.2.2.2.2.2.2.1 s.2.2.2.2.2.2.2.1
def Ef(x:a3S):Option (Jf×UX):=(show Option (Int×Bool×c0P)from cond (A4 (x.2<1)) (A3 (x.2,ka,x.1,(0,0,0,0,0,[],B4 3 0,[],[],(0,[],()),[],()),())) (A3 (x.2,A4 (x.2 > 4096),x.1,(0,0,0,0,0,[],B4 3 0,[],[],(0,[],()),[],()),()))).bind λf=>cond f.2.1 (A3 ((0,0,0,0,0,[],B4 3 0,[],[],(0,[],()),[],()),1,f.2.2.1)) ((AB (f.2.2.1,3)).bind λc=>(AB (c.2,5)).bind λm=>(AB (m.2,5)).bind λd=>(show Option b4P from cond (zN .i64 c.1==2) ((AB (d.2,3)).bind λw=>A3 (f.1,f.2.2.1.2.1,zN .i64 d.1,w.2,f.2.2.2.1,(zN .i64 c.1,zN .i64 m.1,zN .i64 w.1,0,0,[],B4 3 0,[],[],(0,[],()),[],()),())) (cond (zN .i64 c.1==3) ((DL (d.2,zN .i64 c.1,zN .i64 m.1,0,0,0,[],B4 3 0,[],[],(0,[],()),[],())).bind λy=>A3 (f.1,f.2.2.1.2.1,zN .i64 d.1,y.1,f.2.2.2.1,y.2,())) (cond (zN .i64 c.1==4) ((AB (d.2,10)).bind λz=>(BY (z.2,3,8)).bind λA=>(Al ER (f.1,f.2.2.1.2.1,zN .i64 d.1,0,A.1,A.2,f.2.2.2.1,(zN .i64 c.1,zN .i64 m.1,0,0,zN .i64 ((zN .i64 z.1)+1),[],B4 3 0,[],[],(0,[],()),[],()),())).bind λl=>(DL (l.2.2.2.1,l.2.2.2.2.2.1)).bind λo=>A3 (l.1,l.2.1,l.2.2.1,o.1,l.2.2.2.2.1,o.2,())) (cond (zN .i64 c.1==5) ((AB (d.2,2)).bind λp=>(Al Lz (f.1,f.2.2.1.2.1,zN .i64 d.1,zN .i64 p.1,0,p.2,f.2.2.2.1,(zN .i64 c.1,zN .i64 m.1,0,0,0,[],B4 3 0,[],[],(0,[],()),[],()),())).bind λa=>A3 (a.1,a.2.1,a.2.2.1,a.2.2.2.1,a.2.2.2.2.1,a.2.2.2.2.2.1,())) (A3 (f.1,f.2.2.1.2.1,zN .i64 d.1,d.2,f.2.2.2.1,(zN .i64 c.1,zN .i64 m.1,0,0,0,[],B4 3 0,[],[],(0,[],()),[],()),())))))).bind λh=>cond (h.2.2.2.1.2.2.1 != 0) (A3 ((0,0,0,0,0,[],B4 3 0,[],[],(0,[],()),[],()),h.2.2.2.1.2.2.1,h.2.2.2.1)) ((LS (h.2.2.2.2.2.1,h.1)).bind λj=>cond (A4 (j<0)) (A3 ((0,0,0,0,0,[],B4 3 0,[],[],(0,[],()),[],()),2,h.2.2.2.1)) ((BY (h.2.2.2.1,j,h.2.2.1)).bind λk=>cond (k.2.2.2.1 != 0) (A3 ((0,0,0,0,0,[],B4 3 0,[],[],(0,[],()),[],()),k.2.2.2.1,k.2)) ((show Option (b8d ⊕ (Int×b2f))from(GQ h.2.2.2.2.2.1.1).bind λu=>cond u ((IC (k.2,h.1,j)).bind λb=>cond (b.2.2.1 != 0) (A3 (B6 (b.2.2.1,(0,0,0,0,0,[],B4 3 0,[],[],(0,[],()),[],()),b.2.2.2,()))) (A3 (B7 (h.1,h.2.1,b.2.2.2,h.2.2.2.2.1,(h.2.2.2.2.2.1.1,h.2.2.2.2.2.1.2.1,h.2.2.2.2.2.1.2.2.1,h.2.2.2.2.2.1.2.2.2.1,h.2.2.2.2.2.1.2.2.2.2.1,h.2.2.2.2.2.1.2.2.2.2.2.1,h.2.2.2.2.2.1.2.2.2.2.2.2.1,h.2.2.2.2.2.1.2.2.2.2.2.2.2.1,k.1,b.1,b.2.1,h.2.2.2.2.2.1.2.2.2.2.2.2.2.2.2.2.2),())))) (A3 (B7 (h.1,h.2.1,k.2,h.2.2.2.2.1,(h.2.2.2.2.2.1.1,h.2.2.2.2.2.1.2.1,h.2.2.2.2.2.1.2.2.1,h.2.2.2.2.2.1.2.2.2.1,h.2.2.2.2.2.1.2.2.2.2.1,h.2.2.2.2.2.1.2.2.2.2.2.1,h.2.2.2.2.2.1.2.2.2.2.2.2.1,h.2.2.2.2.2.1.2.2.2.2.2.2.2.1,k.1,h.2.2.2.2.2.1.2.2.2.2.2.2.2.2.2),())))).bind λv=>match v with |.inl g=>((show Option (Bool×Jf×b2f)from(Ee (([],()),g.2.2.2.2.1,g.1)).bind λq=>cond (q.1 != 0) (A3 (ka,g.2.2.2.1,g.2.2.2.2.1,g.2.2.1,())) ((Hx (q.2,g.2.2.1,g.2.1)).bind λr=>A3 (!r.1,g.2.2.2.1,g.2.2.2.2.1,r.2.2,()))).bind λe=>cond e.1 (A3 ((0,0,0,0,0,[],B4 3 0,[],[],(0,[],()),[],()),2,e.2.2.2.1)) (A3 (e.2.2.1,0,e.2.2.2.1))) |.inr i=>A3 (i.2.1,i.1,i.2.2.1)))))
def a4o:rZ:=⟨[.r kc (.b FX),.v QI],[.v Ib,.v QI],Ef⟩
def d0q:rY:=⟨[(1038298,[1,6,8,10,.own 9 9 QI,.box pinned FX,.box 4 Ib,.box 7 c2b,Qp 0 pinned,Qp 4 4,Qp 7 7],[Qe 1 [1,6,8,.box pinned FX,.box 4 Ib,.box 7 c2b,Qp 0 pinned,Qp 4 4,Qp 7 7]]),(1038326,[1,6,8,11,12,.box pinned FX,.box 4 Ib,.box 7 c2b,Qp 0 pinned,Qp 4 4,Qp 7 7],[Qe 3 [1,6,8,.box pinned FX,.box 4 Ib,.box 7 c2b,Qp 0 pinned,Qp 4 4,Qp 7 7]])],[(6,[Qn [1,.sv 23 .bool,.box pinned FX,.box 4 Ib,Qp 0 pinned,Qp 4 4]]),(63,[Qn [1,6,8,.box pinned FX,.box 4 Ib,.box 7 c2b,Qp 0 pinned,Qp 4 4,Qp 7 7]]),(4095,[Qn [1,6,.box pinned FX,.box 4 Ib,.box 7 Ib,Qp 0 pinned,Qp 4 4,Qp 7 7],Qr [5,.box 4 Ib,.box pinned FX,Qp 4 4]]),(32766,[Qn [.sv 161 .bool,.box 4 Ib,.box 7 Ib,.box pinned FX,Qp 4 4,Qp 7 7]])],[(24,[.r [7,85],.r [7,86],.p,.w [88,1088,pinned],.v,.v,.p,.w [92,1092,pinned],.v,.v,.q,.x,.x,.x]),(26,[.v,.p,.p,.r [106,pinned],.r [107,pinned],.w [0,4],.x]),(32,[.v,.p,.p,.r [127,pinned],.r [128,pinned],.w [0,4],.x])]⟩
def CB(s:b4M):QO b4M (b4M ⊕ b0E):=cond ((C0 s.1 8) != 0) ((Gg (s.2.1,s.1)).bind λh=>cond (h.1==1) (A3 (.inr (B6 ((h.2.1,h.2.2.1,2,h.2.2.2.2),())))) (A3 (.inl (zN .i64 (s.1+1),h.2,())))) (A3 (.inr (B7 (s.1,s.2.1,()))))
def GD(x:Ia):Option Ia:=cond (x.2.2.1 != 0) (A3 x) ((Al CB (x.2.1,x,())).bind λf=>match f with |.inl h=>A3 (h.2.1.1,h.1,h.2.1.2.2) |.inr g=>A3 g.1)
def bH:rZ:=⟨[.r kc (.b FX)],[],GD⟩
def d0r:rY:=Qh [2,.box pinned FX,Qp 0 pinned] [[28,7,2,7,1,2]] [] []
def Dg(s:b8g):QO b8g (c0S ⊕ (Int×b7W)):=(λ(a b:FU)(c:Ia)=>cond (A4 (s.2.1<b.2.2.1.2.1)) ((Ef (c,b.2.1)).bind λh=>cond (h.2.1 != 0) (A3 (.inr (B6 (0,2,(0,0,(0,0,0,()),[],[],()),())))) (cond (BM ((A8 b.2.2.2.2.1)+1)) (A3 (.inl (s.1,zN .i64 (s.2.1+1),a,(b.1,b.2.1,b.2.2.1,b.2.2.2.1,A9 b.2.2.2.2.1 ([h.1]:List Jf),b.2.2.2.2.2),h.2.2,()))) A6)) (A3 (.inr (B7 (s.1,a,b,c,()))))) s.2.2.1 s.2.2.2.1 s.2.2.2.2.1
def LA(x:LI):Option (FU×Int×Int):=(TV x).bind λh=>cond (h.2.2.2 != 0) (A3 ((0,0,(0,0,0,()),[],[],()),0,h.2.2.2)) (cond (A4 ((x.length:Int)<zN .i64 ((zN .i64 (h.2.2.1+h.2.1))+2))) (A3 ((0,0,(0,0,0,()),[],[],()),0,3)) (cond (A4 (0<=(zN .i64 (h.2.2.1+h.2.1)))&&A4 ((zN .i64 (h.2.2.1+h.2.1))<=(x.length:Int))) ((MM (B8 (A7 (zN .i64 (h.2.2.1+h.2.1))) x)).bind λd=>(Jt (zN .u64 d,2)).bind λe=>cond (A4 (0<=(zN .i64 ((zN .i64 (h.2.2.1+h.2.1))+2)))&&A4 ((zN .i64 ((zN .i64 (h.2.2.1+h.2.1))+2))<=(x.length:Int))) (cond (A4 (0<=(zN .i64 (h.2.2.1+h.2.1)))&&A4 ((zN .i64 (h.2.2.1+h.2.1))<=((A7 (zN .i64 ((zN .i64 (h.2.2.1+h.2.1))+2)):Nat):Int))) ((Nw (e,C2 (A7 (zN .i64 (h.2.2.1+h.2.1))) (B8 (A7 (zN .i64 ((zN .i64 (h.2.2.1+h.2.1))+2))) x))).bind λi=>cond (!i) (A3 ((0,0,(0,0,0,()),[],[],()),0,5)) (cond (A4 (0<=(zN .i64 (h.2.2.1+h.2.1)))&&A4 ((zN .i64 (h.2.2.1+h.2.1))<=(x.length:Int))) (cond (A4 (0<=h.2.2.1)&&A4 (h.2.2.1<=((A7 (zN .i64 (h.2.2.1+h.2.1)):Nat):Int))) ((MT (C2 (A7 h.2.2.1) (B8 (A7 (zN .i64 (h.2.2.1+h.2.1))) x))).bind λj=>(Al Dg (zN .i64 (h.2.2.1+h.2.1),0,(0,0,(0,0,0,()),[],[],()),h.1,j,())).bind λc=>match c with |.inl k=>((GD k.2.2.2.1).bind λf=>cond (f.2.2.1 != 0) (A3 ((0,0,(0,0,0,()),[],[],()),0,2)) ((BX f).bind λa=>cond (A4 (a.1 > 0)) (A3 ((0,0,(0,0,0,()),[],[],()),0,2)) ((Hw k.2.2.1).bind λb=>cond (!b) (A3 ((0,0,(0,0,0,()),[],[],()),0,2)) (A3 (k.2.2.1,zN .i64 (k.1+2),0))))) |.inr g=>A3 (g.2.2.1,g.1,g.2.1)) A6) A6)) A6) A6) A6))
def kG:rZ:=⟨[.v QB],[.v Ky,.v QI,.v QI],LA⟩
def d4n:rY:=Qh [9,11,3,4,.box 2 Ky,.box 5 c8b,.box 1052 FX,Qp 2 2,Qp 5 5,Qp 10 1052] [[2042,1011,2,1009,1,156]] [] [(7,Qg 13 598134326558720 [])]
def LB(x:LI×Ra×Int×Int×Int):Option (FU×Int):=(Ax x.2.1.2.1 x.2.2.1).bind λk=>cond (A4 (zN .i64 ((x.1.length:Int)-x.2.2.2.1)<k)) (A3 ((0,0,(0,0,0,()),[],[],()),3)) ((Ax x.2.1.2.1 x.2.2.1).bind λg=>cond (A4 (0<=(zN .i64 (x.2.2.2.1+g)))&&A4 ((zN .i64 (x.2.2.2.1+g))<=(x.1.length:Int))) (cond (A4 (0<=x.2.2.2.1)&&A4 (x.2.2.2.1<=((A7 (zN .i64 (x.2.2.2.1+g)):Nat):Int))) ((LA (C2 (A7 x.2.2.2.1) (B8 (A7 (zN .i64 (x.2.2.2.1+g))) x.1))).bind λh=>cond (h.2.2 != 0) (A3 ((0,0,(0,0,0,()),[],[],()),h.2.2)) ((show Option (Bool×b8f)from(Ax x.2.1.2.1 x.2.2.1).bind λa=>cond (h.2.1 != a) (A3 (ka,(0,0,(0,0,0,()),[],[],()),h.1,())) (cond (!(Xm FV h.1.2.2.1 x.2.1.1)) (A3 (ka,(0,0,(0,0,0,()),[],[],()),h.1,())) (cond (h.1.1 != x.2.2.2.2) (A3 (ka,(0,0,(0,0,0,()),[],[],()),h.1,())) ((Ax x.2.1.2.2.1 x.2.2.1).bind λb=>A3 (h.1.2.1 != b,(0,0,(0,0,0,()),[],[],()),h.1,()))))).bind λf=>cond f.1 (A3 ((0,0,(0,0,0,()),[],[],()),2)) (A3 (f.2.2.1,0)))) A6) A6)
def kH:rZ:=⟨[.v QB,.v c7h,.v QI,.v QI,.v QI],[.v Ky,.v QI],LB⟩
def d4o:rY:=Qh [Qb 74,.box 10 Ky,.box 12 Ky,Qp 10 10,Qp 12 12] [] [[62,0,31]] [(6,Qg 30 176538093521590394158213826185527296 [])]
def Dh(s:LI×Int×Int×Int×GJ×KF×b2e):QO (LI×Int×Int×Int×GJ×KF×b2e) ((LI×Int×GJ×KF×b2e) ⊕ b8b):=(λ(a b c:Int)(d:GJ)(e:KF)(f:Ra)=>cond (A4 (c<(f.2.1.length:Int))) ((LB (s.1,f,c,a,b)).bind λh=>cond (h.2 != 0) (A3 (.inr (B6 (h.2,((0,0,0,()),0,0,[],[],()),())))) (cond (BM ((A8 d)+1)) ((Ax f.2.1 c).bind λg=>A3 (.inl (s.1,zN .i64 (a+g),zN .i64 (b+h.1.2.1),zN .i64 (c+1),A9 d ([h.1]:List FU),e,f,()))) A6)) (A3 (.inr (B7 (s.1,a,d,e,f,()))))) s.2.1 s.2.2.1 s.2.2.2.1 s.2.2.2.2.1 s.2.2.2.2.2.1 s.2.2.2.2.2.2.1
def CJ(x:LI):Option b8a:=(NZ x).bind λg=>cond (g.2 != 0) (A3 (((0,0,0,()),0,0,[],[],()),g.2)) ((Al Dh (x,g.1.2.2.2.2.1,0,0,[],((0,0,0,()),0,0,[],[],()),g.1,())).bind λa=>match a with |.inl h=>(cond (A4 (h.2.1<(h.1.length:Int))) (A3 (((0,0,0,()),0,0,[],[],()),2)) ((JA (h.2.2.2.2.1.1,h.2.2.1)).bind λk=>cond (k.1.2.2.1 != h.2.2.2.2.1.2.2.2.1) (A3 (((0,0,0,()),0,0,[],[],()),5)) (A3 (k.1,0)))) |.inr f=>A3 (f.2.1,f.1))
def kI:rZ:=⟨[.v QB],[.v Mb,.v QI],CJ⟩
def d4p:rY:=Qh [.sv 0 QB,7,8,9,.own 6 6 Ky,3,.box 2 Mb,.box 4 c7h,Qp 2 2,Qp 4 4] [[506,991,2,979,1,352]] [] [(13,Qg 13 563022967865616 [])]
def CC(s:Zh×Zh×Int×Unit):QO (Zh×Zh×Int×Unit) Z0:=(λ(a:Int)=>cond (A4 (a<(s.1.length:Int))) ((Ax s.1 a).bind λh=>(Ax s.2.1 a).bind λg=>cond (!(Xm FV h g)) (A3 (.inr (B6 (kc,())))) (A3 (.inl (s.1,s.2.1,zN .i64 (a+1),())))) (A3 (.inr (B7 ())))) s.2.2.1
def Gi(x:Zh×Zh):Option Bool:=cond ((x.1.length:Int) != (x.2.length:Int)) (A3 kc) ((Al CC (x.1,x.2,0,())).bind λg=>match g with |.inl f=>A3 true |.inr h=>A3 h.1)
def kJ:rZ:=⟨[.v (.list kc FV),.v (.list kc FV)],[.v .bool],Gi⟩
def d0s:rY:=Qh [.sv 0 (.list kc FV),.sv 1 (.list kc FV),5,Qb 4] [[58,7,2,0,1,8]] [] [(6,Qg 9 8589934592 [])]
def CD(s:Int×b8f):QO (Int×b8f) Z0:=cond (A4 (s.1<(s.2.1.2.2.2.2.1.length:Int))) ((Ax s.2.1.2.2.2.2.1 s.1).bind λh=>(Ax s.2.2.1.2.2.2.2.1 s.1).bind λg=>(KT (h,g)).bind λf=>cond (!f) (A3 (.inr (B6 (kc,())))) (A3 (.inl (zN .i64 (s.1+1),s.2.1,s.2.2.1,())))) (A3 (.inr (B7 ())))
def DM(x:FU×FU):Option Bool:=(show Option (Bool×b8f)from cond (x.1.1 != x.2.1) (A3 (ka,x.1,x.2,())) (cond (x.1.2.1 != x.2.2.1) (A3 (ka,x.1,x.2,())) (cond (!(Xm FV x.1.2.2.1 x.2.2.2.1)) (A3 (ka,x.1,x.2,())) ((Gi (x.1.2.2.2.1,x.2.2.2.2.1)).bind λk=>cond (!k) (A3 (ka,x.1,x.2,())) (A3 ((x.1.2.2.2.2.1.length:Int) != (x.2.2.2.2.2.1.length:Int),x.1,x.2,())))))).bind λh=>cond h.1 (A3 kc) ((Al CD (0,h.2.1,h.2.2.1,())).bind λf=>match f with |.inl a=>A3 true |.inr g=>A3 g.1)
def kK:rZ:=⟨[.v Ky,.v Ky],[.v .bool],DM⟩
def d4q:rY:=Qh [5,Qb 4,Qb 41,.vp 2 Ky,.vp 3 Ky] [[58,25,2,0,1,2]] [[6,0,28]] [(6,Qg 12 37383395344384 [])]
def HV(s:b2j):QO b2j (b4Q ⊕ (Bool×Unit)):=cond (A4 (s.1<(s.2.1.2.2.2.1.length:Int))) ((Ax s.2.1.2.2.2.1 s.1).bind λh=>(Ax s.2.2.1.2.2.2.1 s.1).bind λg=>cond (!(Xm Q5 h g)) (A3 (.inr (B6 (kc,())))) (A3 (.inl (zN .i64 (s.1+1),s.2.1,s.2.2.1,())))) (A3 (.inr (B7 (s.2.1,s.2.2.1,()))))
def HW(s:b2j):QO b2j Z0:=cond (A4 (s.1<(s.2.1.2.2.2.2.1.length:Int))) ((Ax s.2.1.2.2.2.2.1 s.1).bind λh=>(Ax s.2.2.1.2.2.2.2.1 s.1).bind λg=>(DM (h,g)).bind λf=>cond (!f) (A3 (.inr (B6 (kc,())))) (A3 (.inl (zN .i64 (s.1+1),s.2.1,s.2.2.1,())))) (A3 (.inr (B7 ())))
def OS(x:KF×KF):Option Bool:=(show Option b2k from cond (!(Xm FV x.1.1 x.2.1)) (A3 (ka,x.1,x.2,())) (cond (x.1.2.1 != x.2.2.1) (A3 (ka,x.1,x.2,())) (cond (x.1.2.2.1 != x.2.2.2.1) (A3 (ka,x.1,x.2,())) (cond ((x.1.2.2.2.1.length:Int) != (x.2.2.2.2.1.length:Int)) (A3 (ka,x.1,x.2,())) (A3 ((x.1.2.2.2.2.1.length:Int) != (x.2.2.2.2.2.1.length:Int),x.1,x.2,())))))).bind λf=>cond f.1 (A3 kc) ((Al HV (0,f.2.1,f.2.2.1,())).bind λc=>match c with |.inl k=>((Al HW (0,k.1,k.2.1,())).bind λg=>match g with |.inl a=>A3 true |.inr h=>A3 h.1) |.inr b=>A3 b.1)
def kL:rZ:=⟨[.v Mb,.v Mb],[.v .bool],OS⟩
def d0t:rY:=Qh [5,6,Qb 4,Qb 43,.vp 2 Mb,.vp 3 Mb] [[58,49,2,48,1,4],[122,50,4,0,1,4]] [[6,0,56]] [(6,Qg 11 2199023255552 []),(11,Qg 12 37383395344384 [])]
def JD(x:KF):Option Bool:=(JA (x.1,x.2.2.2.2.1)).bind λh=>cond h.2 ((OS (x,h.1)).bind λg=>A3 g) (A3 kc)
def pP:rZ:=⟨[.v Mb],[.v .bool],JD⟩
def IZ(s:Int×LI×b2i):QO (Int×LI×b2i) (LI×b2i):=(λ(a:Int)(b c:LI)(d:KF)=>cond (A4 (a<(d.2.2.2.2.1.length:Int))) ((Ax d.2.2.2.2.1 a).bind λf=>(En f).bind λh=>(Ax d.2.2.2.2.1 a).bind λk=>(CY ([zN .u64 (h.1.length:Int),zN .u64 k.2.1]:List Int)).bind λg=>cond (BM ((A8 b)+(A8 g))) (cond (BM ((A8 c)+(A8 h.1))) (A3 (.inl (zN .i64 (a+1),A9 b g,A9 c h.1,d,()))) A6) A6) (A3 (.inr (b,c,d,())))) s.1 s.2.1 s.2.2.1 s.2.2.2.1
def JE(x:KF):Option (LI×Int):=(JD x).bind λa=>cond (!a) (A3 ([],1)) ((CY ([zN .u64 x.1.1,zN .u64 x.1.2.1,zN .u64 x.1.2.2.1,zN .u64 (x.2.2.2.2.1.length:Int)]:List Int)).bind λk=>cond (BM (4+(A8 k))) ((Al IZ (0,A9 [75,78,83,68] k,[],x,())).bind λh=>(Jt (h.2.2.1.2.2.1,8)).bind λf=>cond (BM ((A8 h.1)+(A8 f))) ((JB (A9 h.1 f)).bind λb=>(Jt (zN .u64 b,4)).bind λg=>cond (BM ((A8 (A9 h.1 f))+(A8 g))) (cond (BM ((A8 (A9 (A9 h.1 f) g))+(A8 h.2.1))) (A3 (A9 (A9 (A9 h.1 f) g) h.2.1,0)) A6) A6) A6) A6)
def pQ:rZ:=⟨[.v Mb],[.o QV,.v QI],JE⟩
def d4r:rY:=Qh [6,.own 4 4 QV,.own 5 5 QV,.vp 1 Mb] [[250,15,2,14]] [] []
def Hd(s:Int×GJ×b4Q):QO (Int×GJ×b4Q) (GJ×jK):=(λ(a:GJ)(b c:KF)=>cond (A4 (s.1<(c.2.2.2.2.1.length:Int))) ((Ax c.2.2.2.2.1 s.1).bind λh=>cond (BM ((A8 a)+1)) (A3 (.inl (zN .i64 (s.1+1),A9 a ([(zN .i64 (h.1+b.2.1),h.2)]:List FU),b,c,()))) A6) (A3 (.inr (a,b,())))) s.2.1 s.2.2.1 s.2.2.2.1
def Kf(x:Z1):Option (LI×Int):=(CJ x.1).bind λh=>cond (h.2 != 0) (A3 ([],h.2)) ((CJ x.2).bind λg=>cond (g.2 != 0) (A3 ([],g.2)) (cond (!(Xm FV h.1.1 g.1.1)) (A3 ([],2)) ((show Option b2k from cond (A4 ((zN .i64 (h.1.2.1+g.1.2.1)) > 4194304)) (A3 (ka,h.1,g.1,())) (A3 (A4 ((zN .i64 ((h.1.2.2.2.2.1.length:Int)+(g.1.2.2.2.2.1.length:Int))) > 4096),h.1,g.1,()))).bind λf=>cond f.1 (A3 ([],4)) (cond (BM (0+(A8 f.2.1.2.2.2.2.1))) ((Al Hd (0,A9 ([]:List FU) f.2.1.2.2.2.2.1,f.2.1,f.2.2.1,())).bind λk=>(JA (k.2.1.1,k.1)).bind λb=>(JE b.1).bind λa=>A3 (a.1,a.2)) A6))))
def eQ:rZ:=⟨[.v QB,.v QB],[.o QV,.v QI],Kf⟩
def H6:rY:=Qh [11,.own 10 10 Ky,Qb 38,.box 6 Mb,.box 8 Mb,Qp 6 6,Qp 8 8] [[1018,123,3,42]] [[1999,0,124]] []
def KX(s:GJ×b7W):QO (GJ×b7W) Z0:=cond (A4 (s.2.1<(s.1.length:Int))) ((Ax s.1 s.2.1).bind λh=>(Ax s.1 s.2.1).bind λg=>(DM (g,h.1,s.2.2.1.2)).bind λf=>cond f (A3 (.inr (B6 (ka,())))) (A3 (.inl (s.1,zN .i64 (s.2.1+1),(h.1,s.2.2.1.2),())))) (A3 (.inr (B7 ())))
def TW(x:GJ×FU):Option Bool:=(Al KX (x.1,0,x.2,())).bind λg=>match g with |.inl f=>A3 false |.inr h=>A3 h.1
def a9y:rZ:=⟨[.v (.list kc Ky),.v Ky],[.v .bool],TW⟩
def d4s:rY:=Qh [.sv 0 (.list kc Ky),5,.box 3 Ky,Qp 3 3,Qb 4] [[26,15,2,0,1,16]] [] [(5,Qg 6 2162688 [])]
def EY(s:Int×b2j):QO (Int×b2j) (Int×Unit):=(λ(a:Int)(b c:KF)=>cond (A4 (a<(c.2.2.2.2.1.length:Int))) ((Ax c.2.2.2.2.1 a).bind λh=>(TW (b.2.2.2.2.1,h)).bind λg=>cond g (A3 (.inl (zN .i64 (s.1+1),zN .i64 (a+1),b,c,()))) (A3 (.inl (s.1,zN .i64 (a+1),b,c,())))) (A3 (.inr (s.1,())))) s.2.1 s.2.2.1 s.2.2.2.1
def Kg(x:Z1):Option Int:=(CJ x.1).bind λh=>(CJ x.2).bind λg=>(show Option b2k from cond (h.2 != 0) (A3 (ka,h.1,g.1,())) (A3 (g.2 != 0,h.1,g.1,()))).bind λf=>cond f.1 (A3 0) ((Al EY (0,0,f.2.1,f.2.2.1,())).bind λk=>A3 k.1)
def eS:rZ:=⟨[.v QB,.v QB],[.v QI],Kg⟩
def H9:rY:=Qh [9,10,Qb 26,.box 5 Mb,.box 7 Mb,Qp 5 5,Qp 7 7] [[506,123,2,1]] [[30,0,124]] [(9,Qg 8 536875281 [])]
def DX(x:KF):Option (LI×Int):=(JD x).bind λh=>cond (!h) (A3 ([],1)) ((OA x.2.2.2.2.1).bind λg=>A3 (g.1,0))
def YK:rZ:=⟨[.v Mb],[.o QI,.v QI],DX⟩
def Kh(x:Z1):Option Bool:=(CJ x.1).bind λh=>(CJ x.2).bind λg=>(show Option b2k from cond (h.2 != 0) (A3 (ka,h.1,g.1,())) (cond (g.2 != 0) (A3 (ka,h.1,g.1,())) (A3 (!(Xm FV h.1.1 g.1.1),h.1,g.1,())))).bind λf=>cond f.1 (A3 kc) ((DX f.2.1).bind λk=>(DX f.2.2.1).bind λa=>(CI (k.1,a.1)).bind λb=>A3 b)
def eU:rZ:=⟨[.v QB,.v QB],[.v .bool],Kh⟩
def d4t:rY:=Qh [Qb 35,.box 5 Mb,.box 7 Mb,Qp 5 5,Qp 7 7] [] [[30,0,31]] []
def MU(x:Z1):Option Bool:=(VS ()).bind λk=>cond (!k) (A3 kc) ((show Option (LI×LI×Bool×Unit)from cond (A4 ((x.1.length:Int) > 400)) (A3 (x.1,x.2,ka,())) (A3 (x.1,x.2,A4 ((x.2.length:Int) > 400),()))).bind λh=>cond h.2.2.1 (A3 ka) ((NP (h.1,h.2.1)).bind λg=>(Kf (h.1,h.2.1)).bind λf=>(Nw (g.1,f.1)).bind λa=>cond a (cond (g.2==f.2) ((Iy (h.1,h.2.1)).bind λb=>(Kg (h.1,h.2.1)).bind λc=>cond (b==c) ((Iz (h.1,h.2.1)).bind λd=>(Kh (h.1,h.2.1)).bind λe=>A3 (d==e)) (A3 kc)) (A3 kc)) (A3 kc)))
def MV:rZ:=⟨[.v QB,.v QB],[.v .bool],MU⟩
def H3:rY:=Qh [.sv 0 QB,.sv 1 QB,Qb 18] [] [[14,0,7]] []
end Go.Ab
namespace Go.Ab
open Go.Proofs
def b6Y(x:List Int):ByteArray:=⟨(x.map λn=>UInt8.ofNat n.toNat).toArray⟩
theorem pR(s:ByteArray):b6Y (OM s)=s:=by have⟨⟨l⟩⟩:=s;simp only[b6Y,OM,List.map_map];congr 1;rw[show(λn:Int=>UInt8.ofNat n.toNat)∘(λb:UInt8=>(b.toNat:Int))=id from funext λb=>by simp];simp
theorem c0Z{w:World}{v:Value}{g:List (List Int)}{O R}(B:AM (cells w) (.list ka .str) ((Src.one v).rd (cells w))=kd (g,O,R)):a3R w v (g.map b6Y)/\(g.map b6Y).map OM=g:=by
 rcases a3n (e:=.str) rfl B with⟨rfl,f,-,-⟩|⟨b,n,c,y,rfl,hb,D,a,-,z,k,-,i⟩;have f:g=[]:=f;subst f;exact⟨⟨ke,0,rfl,λj h=>by simp at h⟩,rfl⟩;replace a:n=g.length:=a;have m:∀j (h:j<g.length),∃s,y[j]?=kd (.string s)/\g[j]=OM s:=λj h=>by obtain⟨x,o,r,A,F,E,G,f,d,-,-⟩:=Bc n 0 j i (by omega);have d:g[j]?=kd x:=d;rw[lG h]at d;obtain rfl:g[j]=x:=Option.some.inj d;rw[Nat.zero_add]at f;simp only[AM,Ty.cells,E8,Nat.add_zero]at f;split at f;rename_i s u;exact⟨s,u,(cG (·.1) (Option.some.inj f)).symm⟩;cases f
 refine⟨⟨kd b,c,by rw[E1,<-a],λj h=>?_⟩,?_⟩;have C:j<g.length:=by simpa using h
 have⟨s,u,q⟩:=m j C;have p:c≠0:=by omega
 have l:=hb.resolve_left p;refine⟨b.block,b.off,by cases b;simp at l;subst l;rfl,?_⟩;rw[E9,q,pR];exact k j _ u;rw[List.map_map];refine List.ext_getElem (by simp) λj f d=>?_
 obtain⟨s,-,q⟩:=m j d;simp only[E9,Function.comp];rw[q,pR]
theorem XQ(fs:HH Tryz.prog G0 22 EB){w:World}{z:List Int}{m:List (List Int)}(hz:Cs z=kd m){Sh:Nat->Prop}{v:Value}(hv:CK (cells w) Sh (.list kc (.int .u8)) z v)(T:∀c,Sh c->c<w.heap.size) {B:Base}(hG:Ym G0 B)(hB:B.size=w.heap.size)(N:∀b,B.hp b=w.heap[b]?)(W:World)(G:OW w W):Calls Tryz.prog 22 #[v] W λe I=>(∃v,e=.returned v/\a3R I v (m.map b6Y)/\(m.map b6Y).map OM=m/\OW W I):=by
 let E:Base:={ size:=W.heap.size,hp:=λb=>W.heap[b]?,F:=λ_=>False,S:=λ_=>True,io:=EK W };let f:Gh:=⟨λ_=>.one undef,λ_=>[],ke⟩;have D:∀n,(Ux EB.ps z).rt n=ke:=λn=>by cases H:(Ux EB.ps z).rt n with|none=>rfl|some r=>obtain⟨i,c,a,y,-,d,-⟩:=a8t H;match i,d with|0,d=>(cases d)|i+1,d=>cases d
 have C:sH E (Ux EB.ps z) 1 (λi=>(#[v]:Array Value).getD i undef) W f:=by refine⟨λn r H=>?_,λn _=>rfl,λn=>by simp[f],λn n' _ c k=>by simp[f]at k,λn p hp=>by simp[f]at hp,λi d=>?_,trivial,D0 _,λb _ _=>rfl,λc k=>?_,λi b hb=>(by cases hb),rfl⟩;rw[D]at H;cases H;(have:i=0:=by omega);subst this;show CK (Ag W f.ov) (Bh E W f) (.list kc (.int .u8)) z v;exact CK.frame hv (λc j k=>by show W.cell? _=w.cell? _;simp only[World.cell?,G.2.1 c (T c k)]) (λc k=>⟨D7 (T c k) G.1,.inl trivial,λ⟨n,O⟩=>by simp[f]at O⟩);have⟨n,O⟩:=k;simp[f]at O
 have M:Ym G0 E:=λg t x h=>by obtain⟨K,-,-,w0,Y,Z⟩:=hG g t x h;have q:g<w.heap.size:=hB▸K;exact⟨D7 q G.1,trivial,λh=>h,w0,by rw[Y,N];exact(G.2.1 g q).symm,Z⟩
 refine(fs W E f #[v] z m M hz rfl (λ_=>rfl) rfl rfl C (λi d=>(by cases d))).mono ?_;rintro e I ⟨V,Q,rfl,P,l⟩;obtain⟨u,rfl⟩:∃u,V=[u]:=by match V,P with|[u],_=>exact⟨u,rfl⟩
 have A:=l.ll;rw[<-l.lv]at A;obtain⟨L,rfl⟩:∃L,Q=[L]:=by match Q,A with|[L],_=>exact⟨L,rfl⟩
 have⟨K,X⟩:=l.ok 0 ⟨.o .str,m⟩ u L rfl rfl rfl;obtain⟨O',R,U,-,-⟩:=X.rd;rw[K]at U;have⟨k1,k2⟩:=c0Z U;exact⟨u,rfl,k1,k2,l.size,λc k=>l.frame c k (λh=>h),l.still⟩
theorem b8r(fs:HH Tryz.prog G0 22 EB):HH Tryz.prog G0 8 Se:=by
 intro w B M g (x:List Int×List Int) (y:Int) hG d hB hhp hov hargs hrel hpins;have⟨j,H,d⟩:=E3.1 (show(Cs x.1).bind _=kd y from d);have⟨l,hb,d⟩:=E3.1 d;have⟨u,d⟩:=(Ah d).elim id λh=>by cases h.2
 simp only[HC,BM,dT]at u;cases d;have D:g.size=2:=hargs;have I:Ag w M.ov=cells w:=by rw[hov];rfl
 have m:=hrel.slots 0 (by decide);have f:=hrel.slots 1 (by decide);rw[I]at m f;generalize hv1:g.getD 0 undef=v1 at m;generalize hv2:g.getD 1 undef=v2 at f;have p:g=#[v1,v2]:=by
  rw[<-hv1,<-hv2];apply F1;simpa using D;intro i o G
  have:i=0\/i=1:=by simp at G;omega
  rcases this with rfl|rfl<;>simp[F0,D]
 subst p;have E:=XQ fs H (v:=v1) m (λc h=>h.1) hG hB hhp;have F:=XQ fs hb (v:=v2) f (λc h=>h.1) hG hB hhp;refine(b2b (pA:=(j.map b6Y).map OM=j) (pB:=(l.map b6Y).map OM=l) w (by rw[E1];exact u.1) (by rw[E1];exact u.2) E F).mono ?_
 rintro e N ⟨rfl,r,z,A⟩;have a:(((l.map b6Y).filter (b6W (j.map b6Y))).length:Nat)=(l.filter λs=>j.contains s).length:=by
  conv=>rhs;rw[<-A,List.filter_map,E1]
  congr 2;funext s;simp only[b6W,Function.comp,z]
 rw[a];refine⟨[.int .i64 _],[(.one undef,[])],rfl,rfl,rfl,rfl,λk O v L f C o=>?_,by simp,λk P L K f C o c q=>?_,by simp,by simp,by rw[hB];exact r.1,λb hb _=>(r.2.1 b (by rw[<-hB];exact hb)).trans (hhp b).symm,r.2.2.trans hrel.still⟩
 ·match k with
  |0=>cases f;cases C;cases o;exact⟨⟨λh=>(by cases h),λ_=>rfl,[],rfl,by simp⟩,rfl⟩
  |k+1=>cases f
 ·match k,f with
  |0,f=>cases f;cases q
  |k+1,f=>cases f
end Go.Ab
