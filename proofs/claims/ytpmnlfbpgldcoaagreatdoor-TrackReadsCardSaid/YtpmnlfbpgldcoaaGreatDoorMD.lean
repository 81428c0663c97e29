/- Part of the proof: Rv. Conditions: as each statement tells. -/
import Derived.Shelf.RegionOpenPlain
import Derived.WalkKit
import Derived.Deep.LoopGhost
import Derived.Lib.Walk
import Derived.Sort.WalkB12
import Derived.Lib.SlicesMore
import Derived.Test.YtpmnlfbpgldcoaaGreatDoorProg
import Derived.KernelRfl
import Derived.Laws.Externs
import Derived.Test.YtpmnlfbpgldcoaaGreatDoorMC
noncomputable section
set_option linter.unusedSimpArgs false
set_option linter.unusedVariables false
open Array renaming getElem?_modify->a01
open List renaming reverse->a00,mem_singleton->a02
namespace Go.Ab
open Go.Proofs Go.RowKit Go.Lib Go.Sort
set_option maxHeartbeats 1600000 in
set_option maxRecDepth 1000000 in
theorem e2C (blk off cap:Nat) (d:Array Int) (w:World) (hH:Holds (Value.int .u8) w blk off d) (hsz:d.size<=9223372036854775807):
  Calls Tryz.prog 150 #[.slice (some ⟨blk,off,none⟩) d.size cap] w fun e w'=>e=.returned (.tuple #[])/\∃n,w'=putRow (Value.int .u8) (Sort.ahead w n) blk off d.reverse:=by
 have b7L:Tryz.prog.follows .mixedOrders=true:=by kernel_rfl
 go_enter Tryz.func150,Tryz.ntmps150
 go_wp2
 go_loopg [2,3] d.size (fun k s2 s3 wr=>∃(i jn:Nat)(jz:Int)(dk:Array Int)(n:Nat),s2=.int .i64 i/\s3=.int .i64 jz/\((i:Int)<jz->jz=jn/\jn<d.size)/\(¬ (i:Int)<jz->¬ i<jn)/\jn-i<=k/\
  dk.size=d.size/\wr=putRow (Value.int .u8) (Sort.ahead w n) blk off dk/\reverseLoop i jn dk=reverseLoop 0 (d.size-1) d)
 case atStart=>exact⟨0,d.size-1,(d.size:Int)-1,d,0,rfl,rfl,fun h=>⟨by omega,by omega⟩,fun h=>by omega,by omega,rfl,(putRow_self (Value.int .u8) w blk off d hH).symm,rfl⟩
 case round=>
  obtain⟨i,jn,jz,dk,n,rfl,rfl,h1,h2,hk,hds,hwr,heq⟩:=hrel
  by_cases hlt:(i:Int)<jz
  ·obtain⟨rfl,hjn⟩:=h1 hlt
   have hij:i<jn:=by omega
   have hHk:Holds (Value.int .u8) wr blk off dk:=by rw[hwr];exact holds_putRow (Value.int .u8) _ blk off d dk (holds_ahead (Value.int .u8) w n blk off d hH) hds
   obtain⟨ci,fi⟩:=hHk i (by omega)
   obtain⟨cj,fj⟩:=hHk jn (by omega)
   have A:Aside (wr=putRow (Value.int .u8) (Sort.ahead w n) blk off dk):=hwr
   clear hwr hHk hH h1 h2
   go_wp2_with fail
   go_region_o
   go_wp2
   go_roundg (jn-1-(i+1))
   case measure=>omega
   case rel=>
    rw[reverseLoop,if_pos hij]at heq
    exact⟨i+1,jn-1,(jn:Int)-1,swp dk i jn,n+1,by simp,rfl,fun h=>⟨by omega,by omega⟩,fun h=>by omega,Nat.le_refl _,by rw[size_swp];exact hds,
     swap_world (Value.int .u8) (by omega) (by omega) A.out (by first|rfl|simp[getElem!_pos,show jn<dk.size by omega]) (by first|rfl|simp[getElem!_pos,show i<dk.size by omega]),heq⟩
  ·have hnot:=h2 hlt
   go_wp2
   go_end0
   refine⟨rfl,n,?_⟩
   rw[reverseLoop,if_neg hnot]at heq
   rw[<-Lib.reverseLoop_reverse,<-heq]
set_option maxHeartbeats 1000000 in
theorem e0E (a:Option Addr) (cap:Nat) (w:World):
  Calls Tryz.prog 150 #[.slice a 0 cap] w fun e w'=>e=.returned (.tuple #[])/\w'=w:=by
 go_enter Tryz.func150,Tryz.ntmps150
 go_wp2
 go_loopg [2,3] 0 (fun _ s2 s3 wr=>s2=.int .i64 0/\s3=.int .i64 (-1)/\wr=w)
 case atStart=>exact⟨rfl,rfl,rfl⟩
 case round=>
  obtain⟨rfl,rfl,rfl⟩:=hrel
  go_wp2
  go_end0
  exact⟨rfl,rfl⟩
end Go.Ab
namespace Go.Ab
open Go.Proofs Go.RowKit Go.Lib Go.Sort
theorem d7X{w:World}{b o:Nat}{l:List Int}{cs:List Value}(a:cs=l.map (Value.int .u8))(g:∀(j:Nat)(u:Value),cs[j]?=some u->w.cell? ⟨b,o+j,none⟩=some u)
  {k:Nat}(d:a0Q w b k)(p:o+l.length<=k):Holds (Value.int .u8) w b o l.toArray:=by
 intro j i;have f:j<l.length:=by simpa using i
 refine⟨?_,?_⟩;rw[g j (.int .u8 l[j]) (by rw[a,List.getElem?_map,lG f];rfl)];simp[getElem!_pos,f];obtain⟨c,e,lo,hi,h,m,n⟩:=d;simp only[World.frozen?,h];simp only[Bool.and_eq_false_iff,decide_eq_false_iff_not];omega
theorem d5f{w:World}{b o:Nat}{d:Array Int}{n c k:Nat}(h:a0Q w c k):a0Q (putRow (Value.int .u8) (Sort.ahead w n) b o d) c k:=by
 obtain⟨cs,e,lo,hi,h,g,f⟩:=h
 by_cases hb:b=c
 subst hb;refine⟨putCells (Value.int .u8) o d cs,e,lo,hi,?_,by simpa[putCells]using g,f⟩;show(w.heap.modify b _)[b]?=_;simp[a01,h,onCells];refine⟨cs,e,lo,hi,?_,g,f⟩;show(w.heap.modify b _)[c]?=_;simp[a01,h,hb]
theorem d5g{w:World}{b o:Nat}{d:Array Int}{n c:Nat}(h:c≠b):(putRow (Value.int .u8) (Sort.ahead w n) b o d).heap[c]?=w.heap[c]?:=by
 show(w.heap.modify b _)[c]?=_;simp[a01,Ne.symm h]
theorem e2D(G:b0Z):a5m Tryz.prog G 150 ⟨[.r false (.o (.int .u8))],[],fun x=>bif decide (List.length (x:List Int)<2147483648)then some (a00 (x:List Int))else none⟩:=by
 intro w B M args (x:List Int) (y:List Int) hG hy hB hhp hov hargs hrel hpins;have k0:List.length x<2147483648/\(a00 x)=y:=by
  rcases a0f hy with⟨h,A⟩|⟨h,A⟩;exact⟨of_decide_eq_true h,Option.some.inj A⟩;cases A
 obtain⟨k1,rfl⟩:=k0;have h5:(ini [PA.r false (.o (.int .u8))] x).rt (pinned+0)=some ⟨false,.list true (.int .u8),x⟩:=rfl;obtain⟨s,g5,g6⟩:=hpins 0 (by simp[a0F]) rfl;have hg:=hrel.pins 0 s g5 (by rw[h5];simp);have g4:=hrel.roots _ _ h5;obtain⟨V,R,hd,hR,I⟩:=g4.rd;obtain⟨h9,-⟩|⟨-,⟨v,hv⟩,-,hO⟩:=I;cases h9;rw[hv]at hg hd;subst hg;have K:args.getD 0 undef=v:=g6;have l:args=#[v]:=by
  have C:args.size=1:=hargs;apply Array.ext;simpa using C;intro i A Y
  have:i=0:=by simp at Y;exact Y
  subst this;rw[<-K];simp[Array.getD,C]
 have h4:a0a w M.ov=cells w:=by rw[hov];rfl
 rw[h4]at hd

 have back:∀(w':World)(y:List Int) X,w'.heap.size=w.heap.size->dec (cells w') (.list true (.int .u8)) ((Src.one v).rd (cells w'))=some (y,V,X)->(∀b k,a0Q w b k->a0Q w' b k)->
   (∀b,b<B.size->¬ B.F b->w'.heap[b]?=w.heap[b]?)->a2n w'=a2n w->
   Back B w' (a2r (RA.all [PA.r false (.o (.int .u8))] []) y) ([]++(a0F [PA.r false (.o (.int .u8))] 0).map (a4f [PA.r false (.o (.int .u8))] args)) [(.one v,V)]:=by
  intro w' y X k5 E T Q hio;have g:∀c∈V.map (·.1),B.F c\/B.size<=c:=fun c I=>hrel.mine c ⟨pinned+0,by rw[hO];exact I⟩;refine⟨rfl,rfl,fun k it u L C A Y=>?_,?_,?_,?_,?_,by omega,fun b hb hF=>?_,by rw[hio];exact hrel.still⟩
  ·cases k with
   |succ k=>simp at Y
   |zero=>
    have e1:it=⟨.o (.int .u8),y⟩:=(Option.some.inj C).symm;have e2:u=v:=by
     have:u=args.getD 0 undef:=(Option.some.inj A).symm
     rw[this,K]
    have e3:L=(.one v,V):=(Option.some.inj Y).symm;subst e1 e2 e3;refine⟨rfl,⟨V,X,E,?_,.inr ⟨rfl,⟨_,rfl⟩,⟨_,rfl⟩,rfl⟩⟩⟩;rw[c4g (e:=.int .u8) rfl E]
    simp
  intro L H;rw[a02]at H;subst H;rw[<-hO];exact hrel.nodup _;intro k k' L L' C A k4
  have:k=0:=by have:=(lS.1 C).1;simpa using this
  have:k'=0:=by have:=(lS.1 A).1;simpa using this
  omega;intro L H p hp;rw[a02]at H;subst H;exact T _ _ (hrel.live (pinned+0) p (by rw[hO];exact hp));intro L H c I;rw[a02]at H;subst H;exact g c I;rw[Q b hb hF,hhp]
 have h6:∀a c,v=.slice a 0 c->x=[]->Calls Tryz.prog 150 args w fun e w'=>∃vr Ls,e=.returned (b7s vr)/\vr.length=0/\Back B w' (a2r (RA.all [PA.r false (.o (.int .u8))] []) (a00 x)) (vr++(a0F [PA.r false (.o (.int .u8))] 0).map (a4f [PA.r false (.o (.int .u8))] args)) Ls:=by
  intro a c d hx;have I:=e0E a c w;rw[<-d,<-l]at I;refine I.mono fun e w' h=>?_
  obtain⟨rfl,rfl⟩:=h;subst hx;exact⟨[],_,rfl,rfl,back w' [] R rfl hd (fun _ _ h=>h) (fun _ _ _=>rfl) rfl⟩
 rcases d6t (e:=.int .u8) rfl hd with⟨d,hx,-,-⟩|⟨b,n,c,cs,d,hb,g3,t,m,g0,O,k2,h0⟩;exact h6 _ _ d hx;replace t:n=x.length:=t
 by_cases hn:n=0
 subst hn;exact h6 _ _ d (List.length_eq_zero_iff.1 (show x.length=0 from t.symm));have N:c≠0:=by omega
 replace hb:=hb.resolve_left N;rw[if_neg N]at m;simp only[Ty.cells,Nat.mul_one]at m g0;have Q:a0Q w b.block (b.off+c):=hrel.live (pinned+0) (b.block,b.off+c) (by rw[hO,m];simp);have g1:cs=x.map (Value.int .u8):=by
  have:=b5I x n 0 (by omega) h0
  simpa using this
 have hH:Holds (Value.int .u8) w b.block b.off x.toArray:=d7X g1 O Q (by omega);have hw:=e2C b.block b.off c x.toArray w hH (by simp;omega);have h8:(⟨b.block,b.off,none⟩:Addr)=b:=by cases b;simp at hb;subst hb;rfl
 rw[h8,show(x.toArray).size=n by simp[t],<-d,<-l]at hw;refine hw.mono fun e w' h=>?_
 obtain⟨rfl,q,rfl⟩:=h;have h7:=holds_putRow (Value.int .u8) (Sort.ahead w q) b.block b.off _ x.toArray.reverse (holds_ahead (Value.int .u8) w q b.block b.off _ hH) (by simp);have g:B.F b.block\/B.size<=b.block:=hrel.mine _ ⟨pinned+0,by rw[hO,m];simp⟩;have U:∀(j:Nat)(z:Int),(a00 x)[j]?=some z->dec (cells (putRow (Value.int .u8) (Sort.ahead w q) b.block b.off x.toArray.reverse)) (.int .u8) ((Src.at b.block (b.off+j*(Ty.int .u8).cells)).rd (cells (putRow (Value.int .u8) (Sort.ahead w q) b.block b.off x.toArray.reverse)))=some (z,[],[]):=by
  intro j z hz;have g2:j<x.reverse.length:=(lS.1 hz).1;have hj:j<x.toArray.reverse.size:=by simpa using g2
  have C:=(h7 j hj).1;have A:x.toArray.reverse[j]! = z:=by
   rw[getElem!_pos _ j hj]
   have:(a00 x)[j]'(by simpa using hj)=z:=(lS.1 hz).2
   rw[<-this];simp
  rw[A]at C;have g7:(Src.at b.block (b.off+j*(Ty.int .u8).cells)).rd (cells (putRow (Value.int .u8) (Sort.ahead w q) b.block b.off x.toArray.reverse)) 0=some (.int .u8 z):=by
   show World.cell? _ ⟨b.block,b.off+j*1+0,none⟩=_;rw[Nat.mul_one];exact C
  simp only[dec,g7,if_true];rfl
 obtain⟨X,P,k3⟩:=c6s (f:=fun i=>dec (cells (putRow (Value.int .u8) (Sort.ahead w q) b.block b.off x.toArray.reverse)) (.int .u8) ((Src.at b.block (b.off+i*(Ty.int .u8).cells)).rd (cells (putRow (Value.int .u8) (Sort.ahead w q) b.block b.off x.toArray.reverse)))) (S:=fun _=>False) (a00 x) 0 fun j z hz=>⟨[],by rw[Nat.zero_add];exact U j z hz,by simp⟩;have g9:(a00 x).length=n:=by rw[List.length_reverse];exact t.symm
 have D:=g9▸P;have E:=b9I (rd:=(Src.one v).rd (cells (putRow (Value.int .u8) (Sort.ahead w q) b.block b.off x.toArray.reverse))) (by rw[d];rfl) hb g3 N D;have Z:V=[(b.block,b.off+c*(Ty.int .u8).cells)]:=by rw[m];simp[Ty.cells]
 refine⟨[],_,rfl,rfl,back _ _ X (by simp) (by rw[Z];exact E) (fun _ _ h=>d5f h) (fun a ha hF=>d5g fun e=>?_) rfl⟩;subst e;rcases g with h|h;exact hF h;omega
end Go.Ab
namespace Go.Ab
open Go.Proofs Go.RowKit
theorem e5P(P:Program)(w:World)(x y c:Int)(h:c.toNat<=1):
  (add64Entry #[.int .u64 x,.int .u64 y,.int .u64 c]).run P w=.ok (.tuple #[.int .u64 (((x.toNat+y.toNat+c.toNat)%18446744073709551616:Nat):Int),.int .u64 (((x.toNat+y.toNat+c.toNat) / 18446744073709551616:Nat):Int)]) w:=by
 cases c with
 |ofNat k=>
  have:k=0\/k=1:=by simp at h;omega
  rcases this with rfl|rfl<;>rfl
 |negSucc n=>rfl
theorem d6I(m:Mem)(Sh:Nat->Prop)(n:Int):VOk m Sh (.int .u64) n (.int .u64 n):=by
 refine⟨fun h=>(by cases h),fun _=>rfl,[],?_,by simp⟩;rfl
theorem e5Q(G:b0Z):d2C Tryz.prog G 82 ⟨[.v (.int .u64),.v (.int .u64),.v (.int .u64)],[.v (.int .u64),.v (.int .u64)],fun(x:Int×(Int×Int))=>bif decide (x.2.2.toNat<=1)then some ((((x.1.toNat+x.2.1.toNat+x.2.2.toNat)%18446744073709551616:Nat):Int),(((x.1.toNat+x.2.1.toNat+x.2.2.toNat) / 18446744073709551616:Nat):Int))else none⟩:=by
 intro w B M args (x:Int×(Int×Int)) (y:Int×Int) hG m hB hhp hov hargs hrel hpins;obtain⟨l,m⟩:=(a0f m).elim id fun h=>by cases h.2
 have l:x.2.2.toNat<=1:=of_decide_eq_true l;cases m;have o:args.size=3:=hargs;have p:=a0l.int (k:=.u64) (n:=x.1) (g:=M.g) (rt:=(ini [.v (.int .u64),.v (.int .u64),.v (.int .u64)] x).rt) (hrel.slots 0 (by decide));have f:=a0l.int (k:=.u64) (n:=x.2.1) (g:=M.g) (rt:=(ini [.v (.int .u64),.v (.int .u64),.v (.int .u64)] x).rt) (hrel.slots 1 (by decide));have a:=a0l.int (k:=.u64) (n:=x.2.2) (g:=M.g) (rt:=(ini [.v (.int .u64),.v (.int .u64),.v (.int .u64)] x).rt) (hrel.slots 2 (by decide));have r:args=#[.int .u64 x.1,.int .u64 x.2.1,.int .u64 x.2.2]:=by
  rw[<-p,<-f,<-a];apply Array.ext;simpa using o;intro i j q
  have:i=0\/i=1\/i=2:=by simp at q;omega
  rcases this with rfl|rfl|rfl<;>simp[Array.getD,o]
 subst r;refine⟨_,w,?_,[.int .u64 (((x.1.toNat+x.2.1.toNat+x.2.2.toNat)%18446744073709551616:Nat):Int),.int .u64 (((x.1.toNat+x.2.1.toNat+x.2.2.toNat) / 18446744073709551616:Nat):Int)],[(.one undef,[]),(.one undef,[])],rfl,rfl,?_⟩;rw[run_callFunc_extern Tryz.func82 (by kernel_rfl) (by kernel_rfl) (by kernel_rfl) (e:=add64Entry) (by kernel_rfl),e5P _ _ _ _ _ l];rfl
 ·refine⟨rfl,rfl,fun k it v L f a j=>?_,by simp,fun k k' L s f a j c d=>?_,by simp,by simp,by omega,fun b _ _=>(hhp b).symm,hrel.still⟩
  ·match k with
   |0=>cases f;cases a;cases j;exact⟨d6I _ _ _,rfl⟩
   | 1=>cases f;cases a;cases j;exact⟨d6I _ _ _,rfl⟩
   |k+2=>cases f
  ·match k,f with
   |0,f=>cases f;cases d
   | 1,f=>cases f;cases d
   |k+2,f=>cases f
end Go.Ab
