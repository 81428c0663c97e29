/- Part of the proof: Rv. Conditions: as each statement tells. -/
import Derived.Shelf.RegionOpenPlain
import Derived.WalkKit
import Derived.Deep.LoopGhost
import Derived.Lib.Walk
import Derived.Sort.WalkB12
import Derived.Lib.SlicesMore
import Derived.Test.YtlddggjghmobhaaGreatProg
import Derived.KernelRfl
import Derived.Shelf.SlSortCmp.Insertion
import Derived.Shelf.GgSortFunc.RowK
import Derived.Shelf.SlSortCmp.InsertionK
import Derived.Shelf.SlSortFuncK.ComposeK
import Derived.Shelf.SlSortCmp.NoneTotal
import Derived.Shelf.SlGeneric
import Derived.Test.YtlddggjghmobhaaGreatME
noncomputable section
set_option linter.unusedSimpArgs false
set_option linter.unusedVariables false
open Array renaming getElem?_modify→a00,getElem?_append_left→a04,extract_size→a16
open Bool renaming and_eq_false_iff→a07
open List renaming mem_singleton→a01,pairwise_cons→a02,reverse→a03,getElem?_map→a05,length_eq_zero_iff→a06,length→a08,mem_of_getElem?→a09,mem_cons_self→a13,pairwise_map→a19
open Nat renaming zero_add→a17
namespace Go.Ab
open Go.Proofs Go.RowKit Go.Lib Go.Sort
set_option maxHeartbeats 1600000 in
set_option maxRecDepth 1000000 in
theorem b5e (blk off cap:Nat) (d:Array Int) (w:World) (hH:Holds (Value.int .u8) w blk off d) (hsz:d.size≤9223372036854775807):
  Calls Tryz.prog 102 #[.slice (some ⟨blk,off,none⟩) d.size cap] w fun e w'=>e=.returned (.tuple #[])∧∃n,w'=putRow (Value.int .u8) (Sort.ahead w n) blk off d.reverse:=by
 have mixed:Tryz.prog.follows .mixedOrders=true:=by kernel_rfl
 go_enter Tryz.func102,Tryz.ntmps102
 go_wp2
 go_loopg [2,3] d.size (fun k s2 s3 wr=>∃(i jn:Nat)(jz:Int)(dk:Array Int)(n:Nat),s2=.int .i64 i∧s3=.int .i64 jz∧((i:Int)<jz→jz=jn∧jn<d.size)∧(¬ (i:Int)<jz→¬ i<jn)∧jn-i≤k∧
  dk.size=d.size∧wr=putRow (Value.int .u8) (Sort.ahead w n) blk off dk∧reverseLoop i jn dk=reverseLoop 0 (d.size-1) d)
 case atStart=>exact⟨0,d.size-1,(d.size:Int)-1,d,0,rfl,rfl,fun h=>⟨by omega,by omega⟩,fun h=>by omega,by omega,rfl,(putRow_self (Value.int .u8) w blk off d hH).symm,rfl⟩
 case round=>
  obtain⟨i,jn,jz,dk,n,rfl,rfl,h1,h2,hk,hds,hwr,heq⟩:=hrel
  by_cases hlt:(i:Int)<jz
  ·obtain⟨rfl,hjn⟩:=h1 hlt
   have hij:i<jn:=by omega
   have hHk:Holds (Value.int .u8) wr blk off dk:=by rw[hwr];exact holds_putRow (Value.int .u8) _ blk off d dk (holds_ahead (Value.int .u8) w n blk off d hH) hds
   obtain⟨ci,fi⟩:=hHk i (by omega)
   obtain⟨cj,fj⟩:=hHk jn (by omega)
   have A:Aside (wr=putRow (Value.int .u8) (Sort.ahead w n) blk off dk):=hwr
   clear hwr hHk hH h1 h2
   go_wp2_with fail
   go_region_o
   go_wp2
   go_roundg (jn-1-(i+1))
   case measure=>omega
   case rel=>
    rw[reverseLoop,if_pos hij]at heq
    exact⟨i+1,jn-1,(jn:Int)-1,swp dk i jn,n+1,by simp,rfl,fun h=>⟨by omega,by omega⟩,fun h=>by omega,Nat.le_refl _,by rw[size_swp];exact hds,
     swap_world (Value.int .u8) (by omega) (by omega) A.out (by first|rfl|simp[getElem!_pos,show jn<dk.size by omega]) (by first|rfl|simp[getElem!_pos,show i<dk.size by omega]),heq⟩
  ·have hnot:=h2 hlt
   go_wp2
   go_end0
   refine⟨rfl,n,?_⟩
   rw[reverseLoop,if_neg hnot]at heq
   rw[←Lib.reverseLoop_reverse,←heq]
set_option maxHeartbeats 1000000 in
theorem b4o (a:Option Addr) (cap:Nat) (w:World):
  Calls Tryz.prog 102 #[.slice a 0 cap] w fun e w'=>e=.returned (.tuple #[])∧w'=w:=by
 go_enter Tryz.func102,Tryz.ntmps102
 go_wp2
 go_loopg [2,3] 0 (fun _ s2 s3 wr=>s2=.int .i64 0∧s3=.int .i64 (-1)∧wr=w)
 case atStart=>exact⟨rfl,rfl,rfl⟩
 case round=>
  obtain⟨rfl,rfl,rfl⟩:=hrel
  go_wp2
  go_end0
  exact⟨rfl,rfl⟩
end Go.Ab
namespace Go.Ab
open Go.Proofs Go.RowKit Go.Lib Go.Sort
theorem b3D{w:World}{b o:Nat}{l:List Int}{cs:List Value}(a:cs=l.map (Value.int .u8))(g:∀(j:Nat)(u:Value),cs[j]?=some u→w.cell? ⟨b,o+j,none⟩=some u)
  {k:Nat}(i:b0c w b k)(r:o+l.length≤k):Holds (Value.int .u8) w b o l.toArray:=by
 intro j m;have f:j<l.length:=by simpa using m
 refine⟨?_,?_⟩;rw[g j (.int .u8 l[j]) (by rw[a,a05,lG f];rfl)];simp[getElem!_pos,f];obtain⟨c,e,lo,q,h,n,p⟩:=i;simp only[World.frozen?,h];simp only[a07,decide_eq_false_iff_not];omega
theorem b2w{w:World}{b o:Nat}{d:Array Int}{n c k:Nat}(h:b0c w c k):b0c (putRow (Value.int .u8) (Sort.ahead w n) b o d) c k:=by
 obtain⟨cs,e,lo,a,h,g,f⟩:=h
 by_cases hb:b=c
 subst hb;refine⟨putCells (Value.int .u8) o d cs,e,lo,a,?_,by simpa[putCells]using g,f⟩;show(w.heap.modify b _)[b]?=_;simp[a00,h,onCells];refine⟨cs,e,lo,a,?_,g,f⟩;show(w.heap.modify b _)[c]?=_;simp[a00,h,hb]
theorem b2x{w:World}{b o:Nat}{d:Array Int}{n c:Nat}(h:c≠b):(putRow (Value.int .u8) (Sort.ahead w n) b o d).heap[c]?=w.heap[c]?:=by
 show(w.heap.modify b _)[c]?=_;simp[a00,Ne.symm h]
theorem b5f(G:GTab):h0p Tryz.prog G 102 ⟨[.r false (.o (.int .u8))],[],fun x=>bif decide (a08 (x:List Int)<2147483648)then some (a03 (x:List Int))else none⟩:=by
 intro w B σ args (x:List Int) (y:List Int) hG hy hB hhp hov hargs hrel hpins;have g9:a08 x<2147483648∧(a03 x)=y:=by
  rcases a0b hy with⟨h,C⟩|⟨h,C⟩;exact⟨of_decide_eq_true h,Option.some.inj C⟩;cases C
 obtain⟨k0,rfl⟩:=g9;have h5:(ini [PA.r false (.o (.int .u8))] x).rt (pinned+0)=some ⟨false,.list true (.int .u8),x⟩:=rfl;obtain⟨s,g5,g6⟩:=hpins 0 (by simp[a0o]) rfl;have hg:=hrel.pins 0 s g5 (by rw[h5];simp);have g4:=hrel.roots _ _ h5;obtain⟨W,R,hd,hR,K⟩:=g4.rd;obtain⟨h9,-⟩|⟨-,⟨v,hv⟩,-,hO⟩:=K;cases h9;rw[hv]at hg hd;subst hg;have M:args.getD 0 undef=v:=g6;have m:args=#[v]:=by
  have D:args.size=1:=hargs;apply Array.ext;simpa using D;intro i C Y
  have:i=0:=by simp at Y;exact Y
  subst this;rw[←M];simp[Array.getD,D]
 have h4:a0a w σ.ov=cells w:=by rw[hov];rfl
 rw[h4]at hd

 have back:∀(w':World)(y:List Int) X,w'.heap.size=w.heap.size→dec (cells w') (.list true (.int .u8)) ((Src.one v).rd (cells w'))=some (y,W,X)→(∀b k,b0c w b k→b0c w' b k)→
   (∀b,b<B.size→¬ B.F b→w'.heap[b]?=w.heap[b]?)→c0o w'=c0o w→
   Back B w' (c0r (RA.all [PA.r false (.o (.int .u8))] []) y) ([]++(a0o [PA.r false (.o (.int .u8))] 0).map (e0d [PA.r false (.o (.int .u8))] args)) [(.one v,W)]:=by
  intro w' y X k4 H U T hio;have g:∀c∈W.map (·.1),B.F c∨B.size≤c:=fun c K=>hrel.mine c ⟨pinned+0,by rw[hO];exact K⟩;refine⟨rfl,rfl,fun k it u L D C Y=>?_,?_,?_,?_,?_,by omega,fun b N hF=>?_,by rw[hio];exact hrel.still⟩
  ·cases k with
   |succ k=>simp at Y
   |zero=>
    have e1:it=⟨.o (.int .u8),y⟩:=(Option.some.inj D).symm;have e2:u=v:=by
     have:u=args.getD 0 undef:=(Option.some.inj C).symm
     rw[this,M]
    have e3:L=(.one v,W):=(Option.some.inj Y).symm;subst e1 e2 e3;refine⟨rfl,⟨W,X,H,?_,.inr ⟨rfl,⟨_,rfl⟩,⟨_,rfl⟩,rfl⟩⟩⟩;rw[v0m (e:=.int .u8) rfl H]
    simp
  intro L I;rw[a01]at I;subst I;rw[←hO];exact hrel.nodup _;intro k k' L L' D C k3
  have:k=0:=by have:=(lS.1 D).1;simpa using this
  have:k'=0:=by have:=(lS.1 C).1;simpa using this
  omega;intro L I p hp;rw[a01]at I;subst I;exact U _ _ (hrel.live (pinned+0) p (by rw[hO];exact hp));intro L I c K;rw[a01]at I;subst I;exact g c K;rw[T b N hF,hhp]
 have h6:∀a c,v=.slice a 0 c→x=[]→Calls Tryz.prog 102 args w fun e w'=>∃vr Ls,e=.returned (m0t vr)∧vr.length=0∧Back B w' (c0r (RA.all [PA.r false (.o (.int .u8))] []) (a03 x)) (vr++(a0o [PA.r false (.o (.int .u8))] 0).map (e0d [PA.r false (.o (.int .u8))] args)) Ls:=by
  intro a c l hx;have K:=b4o a c w;rw[←l,←m]at K;refine K.mono fun e w' h=>?_
  obtain⟨rfl,rfl⟩:=h;subst hx;exact⟨[],_,rfl,rfl,back w' [] R rfl hd (fun _ _ h=>h) (fun _ _ _=>rfl) rfl⟩
 rcases D0a (e:=.int .u8) rfl hd with⟨l,hx,-,-⟩|⟨b,n,c,cs,l,N,g3,A,t,g0,P,k1,h0⟩;exact h6 _ _ l hx;replace A:n=x.length:=A
 by_cases hn:n=0
 subst hn;exact h6 _ _ l (a06.1 (show x.length=0 from A.symm));have O:c≠0:=by omega
 replace N:=N.resolve_left O;rw[if_neg O]at t;simp only[Ty.cells,Nat.mul_one]at t g0;have T:b0c w b.block (b.off+c):=hrel.live (pinned+0) (b.block,b.off+c) (by rw[hO,t];simp);have g1:cs=x.map (Value.int .u8):=by
  have:=m0p x n 0 (by omega) h0
  simpa using this
 have hH:Holds (Value.int .u8) w b.block b.off x.toArray:=b3D g1 P T (by omega);have hw:=b5e b.block b.off c x.toArray w hH (by simp;omega);have h8:(⟨b.block,b.off,none⟩:Addr)=b:=by cases b;simp at N;subst N;rfl
 rw[h8,show(x.toArray).size=n by simp[A],←l,←m]at hw;refine hw.mono fun e w' h=>?_
 obtain⟨rfl,q,rfl⟩:=h;have h7:=holds_putRow (Value.int .u8) (Sort.ahead w q) b.block b.off _ x.toArray.reverse (holds_ahead (Value.int .u8) w q b.block b.off _ hH) (by simp);have g:B.F b.block∨B.size≤b.block:=hrel.mine _ ⟨pinned+0,by rw[hO,t];simp⟩;have V:∀(j:Nat)(z:Int),(a03 x)[j]?=some z→dec (cells (putRow (Value.int .u8) (Sort.ahead w q) b.block b.off x.toArray.reverse)) (.int .u8) ((Src.at b.block (b.off+j*(Ty.int .u8).cells)).rd (cells (putRow (Value.int .u8) (Sort.ahead w q) b.block b.off x.toArray.reverse)))=some (z,[],[]):=by
  intro j z hz;have g2:j<x.reverse.length:=(lS.1 hz).1;have hj:j<x.toArray.reverse.size:=by simpa using g2
  have D:=(h7 j hj).1;have C:x.toArray.reverse[j]! = z:=by
   rw[getElem!_pos _ j hj]
   have:(a03 x)[j]'(by simpa using hj)=z:=(lS.1 hz).2
   rw[←this];simp
  rw[C]at D;have g7:(Src.at b.block (b.off+j*(Ty.int .u8).cells)).rd (cells (putRow (Value.int .u8) (Sort.ahead w q) b.block b.off x.toArray.reverse)) 0=some (.int .u8 z):=by
   show World.cell? _ ⟨b.block,b.off+j*1+0,none⟩=_;rw[Nat.mul_one];exact D
  simp only[dec,g7,if_true];rfl
 obtain⟨X,Q,k2⟩:=x0p (f:=fun i=>dec (cells (putRow (Value.int .u8) (Sort.ahead w q) b.block b.off x.toArray.reverse)) (.int .u8) ((Src.at b.block (b.off+i*(Ty.int .u8).cells)).rd (cells (putRow (Value.int .u8) (Sort.ahead w q) b.block b.off x.toArray.reverse)))) (S:=fun _=>False) (a03 x) 0 fun j z hz=>⟨[],by rw[a17];exact V j z hz,by simp⟩;have g8:(a03 x).length=n:=by rw[List.length_reverse];exact A.symm
 have E:=g8▸Q;have H:=q0o (rd:=(Src.one v).rd (cells (putRow (Value.int .u8) (Sort.ahead w q) b.block b.off x.toArray.reverse))) (by rw[l];rfl) N g3 O E;have Z:W=[(b.block,b.off+c*(Ty.int .u8).cells)]:=by rw[t];simp[Ty.cells]
 refine⟨[],_,rfl,rfl,back _ _ X (by simp) (by rw[Z];exact H) (fun _ _ h=>b2w h) (fun a ha hF=>b2x fun e=>?_) rfl⟩;subst e;rcases g with h|h;exact hF h;omega
end Go.Ab
namespace Go.Ab
open Go.Proofs Go.Shelf Go.RowKit Go.Lib Go.Sort
def PgC:Type:={e:Pg×Value // 0≤e.1.1∧e.1.1<4611686018427387904∧e.2.oneCell'=true}
instance:Inhabited PgC:=⟨⟨((0,(false,(false,(false,([],()))))),.int .i64 0),by decide,by decide,rfl⟩⟩
def PgC.enc(e:PgC):List Value:=[.int .i64 e.1.1.1,.bool e.1.1.2.1,.bool e.1.1.2.2.1,.bool e.1.1.2.2.2.1,e.1.2]
def PgC.cf(a b:PgC):Int:=a.1.1.1-b.1.1.1
theorem PgC.lt_iff(x y:PgC):ltOf PgC.cf x y=true↔x.1.1.1<y.1.1.1:=by
 show decide (x.1.1.1-y.1.1.1<0)=true↔_;rw[decide_eq_true_iff];generalize x.1.1.1=a;generalize y.1.1.1=b;show a-b<0↔a<b;omega
theorem PgC.ge_iff(x y:PgC):ltOf PgC.cf x y=false↔y.1.1.1≤x.1.1.1:=by
 rw[←Bool.not_eq_true,PgC.lt_iff];generalize x.1.1.1=a;generalize y.1.1.1=b;show ¬ a<b↔b≤a;omega
theorem PgC.swo:SWO (ltOf PgC.cf):=⟨fun x=>(PgC.ge_iff x x).2 (Int.le_refl _),fun x y z h g=>(PgC.lt_iff x z).2 (Int.lt_trans ((PgC.lt_iff x y).1 h) ((PgC.lt_iff y z).1 g)),
 fun x y z h g=>(PgC.ge_iff x z).2 (Int.le_trans ((PgC.ge_iff y z).1 g) ((PgC.ge_iff x y).1 h))⟩
theorem PgC.one(e:PgC):∀v∈e.enc,v.oneCell'=true:=by
 intro v hv;simp only[PgC.enc,mC,List.not_mem_nil,or_false]at hv;rcases hv with rfl|rfl|rfl|rfl|rfl;rfl;rfl;rfl;rfl;exact e.2.2.2
set_option maxHeartbeats 1000000 in
set_option maxRecDepth 100000 in
theorem b6D (x y:PgC) (W:World):Calls Tryz.prog 119 #[.agg x.enc.toArray,.agg y.enc.toArray] W fun e w'=>e=.returned (.int .i64 (PgC.cf x y))∧∃q os',w'=grow (W.drewN q) os':=by
 have mixed:Tryz.prog.follows .mixedOrders=true:=by kernel_rfl
 obtain⟨⟨⟨a0,a1,a2,a3,a4,a5⟩,av⟩,hx1,hx2,hx3⟩:=x
 obtain⟨⟨⟨b0,b1,b2,b3,b4,b5⟩,bv⟩,hy1,hy2,hy3⟩:=y
 simp only[PgC.enc,PgC.cf]at *
 go_enter Tryz.func119,Tryz.ntmps119
 go_wp2
 go_ret
 have hw:Go.RowKit.wrap64 (a0-b0)=a0-b0:=by unfold Go.RowKit.wrap64;omega
 exact⟨by rw[hw];rfl,0,_,by rw[alloc_eq_grow,alloc_eq_grow,grow_grow];rfl⟩
end Go.Ab
namespace Go.Ab
open Go.Proofs Go.Shelf Go.RowKit Go.Lib Go.Sort
theorem a6V(p:Pg):∀l,(a1R p l).Perm (p::l)
 | []=>.refl _
 |q::l=>by
  simp only[a1R];cases decide (p.1≤q.1)with
  |true=>exact .refl _
  |false=>exact((a6V p l).cons q).trans (.swap p q l)
theorem a4E:∀l,(a0H l).Perm l
 | []=>.refl _
 |p::l=>(a6V p _).trans ((a4E l).cons p)
theorem a7N(p:Pg):∀l:List Pg,l.Pairwise (fun a b=>a.1<b.1)→(∀q∈l,q.1≠p.1)→(a1R p l).Pairwise (fun a b=>a.1<b.1)
 | [],_,_=>by simp[a1R]
 |q::l,h,hn=>by
  simp only[a1R];have i:=hn q (by simp);obtain⟨c,e⟩:=a02.1 h;cases hd:decide (p.1≤q.1)with
  |true=>
   have f:p.1≤q.1:=of_decide_eq_true hd;show List.Pairwise _ (p::q::l);refine a02.2 ⟨fun a g=>?_,h⟩;rcases mC.1 g with rfl|g;omega
   have:=c a g;omega
  |false=>
   have f:¬ p.1≤q.1:=of_decide_eq_false hd;show List.Pairwise _ (q::a1R p l);refine a02.2 ⟨fun a g=>?_,a7N p l e fun a g=>hn a (List.mem_cons_of_mem _ g)⟩;rcases mC.1 ((a6V p l).mem_iff.1 g)with rfl|g;omega;exact c a g
theorem a6W{p:Pg}{l:List Pg}(h:a3e (p::l)=true):0≤p.1∧p.1<4611686018427387904∧(∀q∈l,q.1≠p.1)∧a3e l=true:=by
 simp only[a3e,bA,dT,lA,Bool.not_eq_true',decide_eq_false_iff_not]at h;exact⟨h.1.1.1,h.1.1.2,h.1.2,h.2⟩
theorem a8U:∀{l:List Pg},a3e l=true→∀p∈l,0≤p.1∧p.1<4611686018427387904
 |q::l,h,p,hp=>by
  obtain⟨g,f,b,a⟩:=a6W h;rcases mC.1 hp with rfl|hp;exact⟨g,f⟩;exact a8U a p hp
theorem a6v:∀{l:List Pg},a3e l=true→(a0H l).Pairwise (fun a b=>a.1<b.1)
 | [],_=>.nil
 |p::l,h=>by
  obtain⟨-,-,g,f⟩:=a6W h;exact a7N p _ (a6v f) fun q c=>g q ((a4E l).mem_iff.1 c)
theorem a7S:∀{l:List Pg},a3e l=true→(l.map (·.1)).Nodup
 | [],_=>.nil
 |p::l,h=>by
  obtain⟨-,-,g,f⟩:=a6W h;refine List.nodup_cons.2 ⟨fun b=>?_,a7S f⟩;obtain⟨q,c,a⟩:=List.mem_map.1 b;exact g q c a
theorem a8V:∀{a b:List Pg},a.Pairwise (fun x y=>x.1<y.1)→b.Pairwise (fun x y=>x.1<y.1)→a.Perm b→a=b
 | [],b,_,_,h=>(List.nil_perm.1 h).symm
 |x::a,[],_,_,h=>absurd h (by simp)
 |x::a,y::b,h1,h2,h=>by
  obtain⟨f,i⟩:=a02.1 h1;obtain⟨c,j⟩:=a02.1 h2;have g:x=y:=by
   rcases mC.1 (h.mem_iff.1 (a13 (a:=x) (l:=a)))with e|hx;exact e;rcases mC.1 (h.mem_iff.2 (a13 (a:=y) (l:=b)))with e|hy;exact e.symm
   have:=c x hx;have:=f y hy;omega
  subst g;rw[a8V i j (List.Perm.cons_inv h)]
theorem b2y{l l':List Pg}(h:a3e l=true)(hp:l'.Perm l)(hs:l'.Pairwise fun a b=>a.1≤b.1):l'=a0H l:=by
 refine a8V ?_ (a6v h) (hp.trans (a4E l).symm);have f:(l'.map (·.1)).Nodup:=(hp.map _).nodup_iff.2 (a7S h);have g:l'.Pairwise fun a b=>a.1≠b.1:=a19.1 f;exact(hs.and g).imp fun⟨c,e⟩=>by omega
theorem a8C{α:Type}{P:Nat→α→Prop}:∀n:Nat,(∀i,i<n→∃e,P i e)→∃d:List α,d.length=n∧∀(i:Nat)(e:α),d[i]?=some e→P i e
 |0,_=>⟨[],rfl,by simp⟩
 |n+1,h=>by
  obtain⟨d,c,b⟩:=a8C n fun i a=>h i (by omega);obtain⟨e,j⟩:=h n (by omega);refine⟨d++[e],by simp[c],fun i x g=>?_⟩
  by_cases a:i<d.length
  rw[List.getElem?_append_left a]at g;exact b i x g;rw[List.getElem?_append_right (by omega)]at g
  have:i-d.length=0:=by
   have:=(lS.1 g).1
   simp at this;omega
  rw[this]at g;have f:i=n:=by omega
  cases g;rw[f];exact j
theorem b5g{m:Mem}{rd:Nat→Option Value}{p:Pg}{o R}(h:dec m PgT rd=some (p,o,R)):
  ∃v:Value,v.oneCell'=true∧rd 0=some (.int .i64 p.1)∧rd 1=some (.bool p.2.1)∧rd 2=some (.bool p.2.2.1)∧rd 3=some (.bool p.2.2.2.1)∧rd 4=some v∧o=[]:=by
 have A:o=[]:=h0c (t:=PgT) rfl h;obtain⟨W,o1,N,X,o2,r2,s,g,i,-,-⟩:=c0h h;obtain⟨Y,F,O,Z,G,P,f,w,j,-,-⟩:=c0h g;obtain⟨x5,H,Q,x6,I,S,b,y,l,-,-⟩:=c0h w;obtain⟨x7,K,T,x8,L,U,c,z,n,-,-⟩:=c0h y;obtain⟨x9,M,V,E,B,C,e,u,q,-,-⟩:=c0h z;subst q n l j i;simp only[Ty.cells]at f b c e;have int:∀{rd:Nat→Option Value}{x:Int}{o r},dec m (.int .i64) rd=some (x,o,r)→rd 0=some (.int .i64 x):=by
  intro rd x o r h;simp only[dec]at h
  split at h
  rename_i g
  split at h
  rename_i f;replace h:=Option.some.inj h;rw[g,f];congr 2;exact congrArg (fun x:Int×b0k×List Nat=>x.1) h;cases h;cases h
 have bl:∀{rd:Nat→Option Value}{x:Bool}{o r},dec m .bool rd=some (x,o,r)→rd 0=some (.bool x):=by
  intro rd x o r h;simp only[dec]at h
  split at h
  rename_i g;replace h:=Option.some.inj h;rw[g];congr 2;exact congrArg (fun x:Bool×b0k×List Nat=>x.1) h;cases h
 have D:∀{rd:Nat→Option Value}{x:List Int}{o r},dec m (.list false (.int .u8)) rd=some (x,o,r)→∃v,rd 0=some v∧v.oneCell'=true:=by
  intro rd x o r h;have h:a0w m false _ _ (rd 0)=_:=h;unfold a0w at h
  split at h
  rename_i g;exact⟨_,g,rfl⟩;rename_i g;exact⟨_,g,rfl⟩;cases h
 obtain⟨v,hv,a⟩:=D e;exact⟨v,a,int s,bl f,bl b,bl c,hv,A⟩
end Go.Ab
namespace Go.Ab
open Go.Proofs Go.Shelf Go.RowKit Go.Lib Go.Sort
theorem b5h{w:World}{b o c k:Nat}{F:Array Value}(h:b0c w c k):b0c (putRow id w b o F) c k:=by
 obtain⟨cs,e,lo,a,h,g,f⟩:=h
 by_cases hb:b=c
 subst hb;refine⟨putCells id o F cs,e,lo,a,?_,by simpa[putCells]using g,f⟩;show(w.heap.modify b _)[b]?=_;simp[a00,h,onCells];refine⟨cs,e,lo,a,?_,g,f⟩;show(w.heap.modify b _)[c]?=_;simp[a00,h,hb]
theorem b2z{w:World}{b o n c k:Nat}{d:Array PgC}{os:Array Obj}(h:b0c w c k):b0c (sortWorldK PgC.enc 5 w b o n d os) c k:=by
 have g:b0c (putRow id (Sort.ahead w n) b o (flatK PgC.enc 5 d)) c k:=b5h (w:=Sort.ahead w n) h;obtain⟨cs,e,lo,a,h,f⟩:=g;refine⟨cs,e,lo,a,?_,f⟩;show((putRow id (Sort.ahead w n) b o (flatK PgC.enc 5 d)).heap++os:Array Obj)[c]?=_;rw[a04 (Array.getElem?_eq_some_iff.1 h).1];exact h
theorem a8D{w:World}{b o n c:Nat}{d:Array PgC}{os:Array Obj}(h:c≠b)(g:c<w.heap.size):(sortWorldK PgC.enc 5 w b o n d os).heap[c]?=w.heap[c]?:=by
 show((w.heap.modify b _)++os:Array Obj)[c]?=_;rw[a04 (by simpa using g)];simp[a00,Ne.symm h]
theorem b4p{w w':World}{c:Nat}(h:w'.heap[c]?=w.heap[c]?)(j:Nat):cells w' c j=cells w c j:=by
 simp only[cells,World.cell?,h]
theorem b6E{m Sh f}{u:Unit}{v:Value}(h:VOk m Sh (.fn f) u v):v=.func (.func f) #[] #[]:=by
 obtain⟨R,g,-⟩:=VOk.rd (t:=.fn f) h rfl rfl;have a:=(q0m g).1;simpa[Src.rd]using a
theorem b5Z(G:GTab)
  (hs:∀blk off cap (d:Array PgC) w,HoldsK PgC.enc 5 w blk off d→blk<w.heap.size→d.size<4611686018427387904→
   Calls Tryz.prog 118 #[.slice (some ⟨blk,off,none⟩) d.size cap,.func (.func 119) #[] #[]] w fun e w'=>e=.returned (.tuple #[])∧∃l n os,PermIn 0 d.size d l∧SortedIn (ltOf PgC.cf) 0 d.size l∧w'=sortWorldK PgC.enc 5 w blk off n l os)
  (h0:∀p cap fv w,Calls Tryz.prog 118 #[.slice p 0 cap,fv] w fun e w'=>e=.returned (.tuple #[])∧w'=w):
  h0p Tryz.prog G 118 ⟨[.r false (.o PgT),.v (.fn 119)],[],fun x=>bif decide (a08 x.1<4611686018427387904)&&a3e x.1 then some (a0H x.1)else none⟩:=by
 intro w B σ args (x:List Pg×Unit) (y:List Pg) hG hy hB hhp hov hargs hrel hpins;have c5:x.1.length<4611686018427387904∧a3e x.1=true∧a0H x.1=y:=by
  rcases a0b hy with⟨h,m⟩|⟨h,m⟩;rw[bA,dT]at h;exact⟨h.1,h.2,Option.some.inj m⟩;cases m
 obtain⟨k0,O,rfl⟩:=c5;obtain⟨x,u⟩:=x;replace hrel:Rel B (ini [PA.r false (.o PgT),.v (.fn 119)] (x,u)) 2 (fun i=>args.getD i undef) w σ:=hrel;simp only at k0 O;have k4:(ini [PA.r false (.o PgT),.v (.fn 119)] (x,u)).rt (pinned+0)=some ⟨false,.list true PgT,x⟩:=rfl;obtain⟨s,b0,b3⟩:=hpins 0 (by simp[a0o]) rfl;have hg:=hrel.pins 0 s b0 (fun h=>by cases k4.symm.trans h);have a9:=hrel.roots _ _ k4;obtain⟨O',R,hd,hR,C⟩:=a9.rd;obtain⟨k9,-⟩|⟨-,⟨v,hv⟩,-,hO⟩:=C;cases k9;rw[hv]at hg hd;subst hg;have Y:args.getD 0 undef=v:=b3;have a3:args.getD 1 undef=.func (.func 119) #[] #[]:=by
  have g:=hrel.slots 1 (by decide);have e:(ini [PA.r false (.o PgT),.v (.fn 119)] (x,u)).sl 1=.one (.val (.fn 119) u):=rfl;rw[e]at g;exact b6E g
 have H:args=#[v,.func (.func 119) #[] #[]]:=by
  have g:args.size=2:=hargs;rw[←Y,←a3];apply Array.ext;simpa using g;intro i m h3
  have:i=0∨i=1:=by simp at h3;omega
  rcases this with rfl|rfl<;>simp[Array.getD,g]
 have k1:a0a w σ.ov=cells w:=by rw[hov];rfl
 rw[k1]at hd;have back:∀(w':World)(y:List Pg) R',w.heap.size≤w'.heap.size→dec (cells w') (.list true PgT) ((Src.one v).rd (cells w'))=some (y,O',R')→(∀b k,b0c w b k→b0c w' b k)→
   (∀b,b<B.size→¬ B.F b→w'.heap[b]?=w.heap[b]?)→c0o w'=c0o w→(∀c∈R',Shr B w σ c)→
   Back B w' (c0r (RA.all [PA.r false (.o PgT),.v (.fn 119)] []) y) ([]++(a0o [PA.r false (.o PgT),.v (.fn 119)] 0).map (e0d [PA.r false (.o PgT),.v (.fn 119)] args)) [(.one v,O')]:=by
  intro w' y R' b7 h9 g4 N hio Z;have D:∀c∈O'.map (·.1),B.F c∨B.size≤c:=fun c C=>hrel.mine c ⟨pinned+0,by rw[hO];exact C⟩;refine⟨rfl,rfl,fun k it u L g m h3=>?_,?_,?_,?_,?_,by omega,fun b hb hF=>?_,by rw[hio];exact hrel.still⟩
  ·cases k with
   |succ k=>simp at h3
   |zero=>
    have e1:it=⟨.o PgT,y⟩:=(Option.some.inj g).symm;have e2:u=v:=by
     have:u=args.getD 0 undef:=(Option.some.inj m).symm
     rw[this,Y]
    have e3:L=(.one v,O'):=(Option.some.inj h3).symm;subst e1 e2 e3;refine⟨rfl,⟨O',R',h9,fun c C=>?_,.inr ⟨rfl,⟨_,rfl⟩,⟨_,rfl⟩,rfl⟩⟩⟩;obtain⟨g1,g2,g3⟩:=Z c C;refine⟨Nat.lt_of_lt_of_le g1 b7,g2,fun L K hm=>?_⟩;rw[a01]at K;subst K;exact g3 ⟨pinned+0,by rw[hO];exact hm⟩
  intro L K;rw[a01]at K;subst K;rw[←hO];exact hrel.nodup _;intro k k' L L' g m c8
  have:k=0:=by have:=(lS.1 g).1;simpa using this
  have:k'=0:=by have:=(lS.1 m).1;simpa using this
  omega;intro L K p hp;rw[a01]at K;subst K;exact g4 _ _ (hrel.live (pinned+0) p (by rw[hO];exact hp));intro L K c C;rw[a01]at K;subst K;exact D c C;rw[N b hb hF,hhp]
 have k6:∀a c,v=.slice a 0 c→x=[]→Calls Tryz.prog 118 args w fun e w'=>∃vr Ls,e=.returned (m0t vr)∧vr.length=0∧Back B w' (c0r (RA.all [PA.r false (.o PgT),.v (.fn 119)] []) (a0H x)) (vr++(a0o [PA.r false (.o PgT),.v (.fn 119)] 0).map (e0d [PA.r false (.o PgT),.v (.fn 119)] args)) Ls:=by
  intro a c E hx;have C:=h0 a c (.func (.func 119) #[] #[]) w;rw[←E,←H]at C;refine C.mono fun e w' h=>?_
  obtain⟨rfl,rfl⟩:=h;subst hx;exact⟨[],_,rfl,rfl,back w' [] R (Nat.le_refl _) hd (fun _ _ h=>h) (fun _ _ _=>rfl) rfl hR⟩
 rcases D0a (e:=PgT) rfl hd with⟨E,hx,-,-⟩|⟨b,n,c,cs,E,hb,a8,U,M,a2,h7,c6,W⟩;exact k6 _ _ E hx
 ·replace U:n=x.length:=U
  by_cases hn:n=0
  subst hn;exact k6 _ _ E (a06.1 (show x.length=0 from U.symm))
  ·have h6:c≠0:=by omega
   replace hb:=hb.resolve_left h6;rw[if_neg h6]at M;have h5:PgT.cells=5:=rfl;simp only[h5]at M a2 W;have N:b0c w b.block (b.off+c*5):=hrel.live (pinned+0) (b.block,b.off+c*5) (by rw[hO,M];simp);have X:a0u σ b.block:=⟨pinned+0,by rw[hO,M];simp⟩

   obtain⟨d,I,g0⟩:=a8C (P:=fun i (e:PgC)=>x[i]?=some e.1.1∧(∀j,j<5→cs[i*5+j]?=e.enc[j]?)∧∃R,dec (cells w) PgT (fun j=>e.enc[j]?)=some (e.1.1,[],R)∧∀c∈R,Shr B w σ c) n fun i hi=>by
    obtain⟨p,o,r,A,B',A',c7,g,m,-,h4⟩:=b0a n 0 i W hi;rw[a17]at g;have m:x[i]?=some p:=m;obtain⟨q,hq,c0,c1,c2,c3,c4,rfl⟩:=b5g g;have V:=a8U O p (a09 m);have g7:∀j,j<5→cs[i*5+j]?=(PgC.enc ⟨(p,q),V.1,V.2,hq⟩)[j]?:=fun j hj=>by
     match j,hj with
     |0,_=>exact c0
     | 1,_=>exact c1
     | 2,_=>exact c2
     | 3,_=>exact c3
     | 4,_=>exact c4
    exact⟨⟨(p,q),V.1,V.2,hq⟩,m,g7,r,a0k PgT g (fun j hj=>(g7 j hj).symm) (fun _ _ _=>rfl),fun c C=>hR c (by rw[h4];simp[C])⟩
   have b9:x=d.map fun e=>e.1.1:=by
    apply List.ext_getElem?;intro i;rw[a05];cases he:d[i]? with
    |some e=>rw[(g0 i e he).1];rfl
    |none=>
     rw[List.getElem?_eq_none_iff]at he;rw[List.getElem?_eq_none (by omega)];rfl
   have hH:HoldsK PgC.enc 5 w b.block b.off d.toArray:=by
    intro t ht;have b8:t<n*5:=by simpa[I]using ht
    have c9:t / 5<n:=by omega
    have e0:d[t / 5]?=some d[t / 5]:=lG (by omega);have g:=(g0 _ _ e0).2.1 (t%5) (by omega);rw[show t / 5*5+t%5=t by omega]at g;have m:cs[t]?=some cs[t]:=lG (by omega);refine⟨?_,?_⟩;show cells w b.block (b.off+t)=_;rw[h7 t _ m,get_flatK _ _ _ _ (by simpa[I]using b8)];rw[show(d.toArray)[t / 5]! = d[t / 5]by rw[getElem!_pos _ _ (by simp;omega)];simp];rw[m]at g;have h3:(PgC.enc d[t / 5])[t%5]! = cs[t]:=by
     rw[List.getElem!_eq_getElem?_getD,←g];rfl
    rw[h3];rfl;obtain⟨c',e,lo,hi,h,g,m⟩:=N;simp only[World.frozen?,h];simp only[a07,decide_eq_false_iff_not];omega
   have hw:=hs b.block b.off c d.toArray w hH N.lt (by simp;omega);have k8:(⟨b.block,b.off,none⟩:Addr)=b:=by cases b;simp at hb;subst hb;rfl
   rw[k8,show(d.toArray).size=n by simp[I],←E,←H]at hw;refine hw.mono fun e w' h=>?_
   obtain⟨rfl,l,q,os,g5,Q,rfl⟩:=h;obtain⟨b4,-,k3⟩:=g5;have g8:l.size=n:=by simpa[I]using b4
   have k2:l.toList.Perm d:=by
    have g:(l.extract 0 n).toList=l.toList:=by rw[←g8,a16]
    have m:(d.toArray.extract 0 n).toList=d:=by rw[show n=d.toArray.size by simp[I],a16]
    rw[g,m]at k3;exact k3
   have hy:l.toList.map (fun e=>e.1.1)=a0H x:=by
    refine b2y O (by rw[b9];exact k2.map _) ?_
    rw[a19];rw[List.pairwise_iff_getElem];intro i j hi hj a5;have a4:i<l.size:=by simpa using hi
    have a6:j<l.size:=by simpa using hj
    have g:=(PgC.ge_iff _ _).1 (Q i j (Nat.zero_le _) a5 (by omega));rw[getElem!_pos l i a4,getElem!_pos l j a6]at g;simpa using g
   have k7:=holdsK_sortWorldK_c PgC.enc 5 w b.block b.off d.toArray l q os hH N.lt (by simp[I,g8]);have g6:∀(j:Nat)(z:Pg),(a0H x)[j]?=some z→∃r,dec (cells (sortWorldK PgC.enc 5 w b.block b.off q l os)) PgT ((Src.at b.block (b.off+j*5)).rd (cells (sortWorldK PgC.enc 5 w b.block b.off q l os)))=some (z,[],r)∧∀c∈r,Shr B w σ c:=by
    intro j z hz;rw[←hy,a05]at hz;obtain⟨e,he,rfl⟩:=Option.map_eq_some_iff.1 hz;have g9:j<l.size:=by simpa using(lS.1 he).1
    have a7:e∈d:=k2.mem_iff.1 (a09 he);obtain⟨i,hi⟩:=List.getElem?_of_mem a7;obtain⟨-,-,r,b5,k5⟩:=g0 i e hi;refine⟨r,a0k PgT b5 (fun k hk=>?_) (fun c j C=>?_),k5⟩;have g:=(HoldsK.cell k7 g9 (show k<5 from hk)).1;have m:l[j]! = e:=by
     rw[getElem!_pos l j g9]
     have:=(lS.1 he).2
     simpa using this
    rw[m]at g;show World.cell? _ ⟨b.block,b.off+j*5+k,none⟩=_;rw[g,List.getElem!_eq_getElem?_getD]
    have:k<e.enc.length:=hk
    rw[lG this];rfl;have C:c∈r:=by simpa using C
    obtain⟨g1,g2,g3⟩:=k5 c C;exact b4p (a8D (fun h=>g3 (by rw[h];exact X)) g1) j
   obtain⟨R',h8,Z⟩:=x0p (f:=fun i=>dec (cells (sortWorldK PgC.enc 5 w b.block b.off q l os)) PgT ((Src.at b.block (b.off+i*5)).rd (cells (sortWorldK PgC.enc 5 w b.block b.off q l os)))) (S:=Shr B w σ) (a0H x) 0 fun j z hz=>by
    rw[a17];exact g6 j z hz
   have b6:(a0H x).length=n:=by rw[(a4E x).length_eq];exact U.symm
   have T:=b6▸h8;have h9:=q0o (rd:=(Src.one v).rd (cells (sortWorldK PgC.enc 5 w b.block b.off q l os))) (by rw[E];rfl) hb a8 h6 T;have D:B.F b.block∨B.size≤b.block:=hrel.mine _ X;refine⟨[],_,rfl,rfl,back _ _ R' (size_sortWorldK_c _ _ _ _ _ _ _ _) (by rw[M];exact h9) (fun _ _ h=>b2z h) (fun a ha hF=>a8D (fun e=>?_) (by omega)) rfl Z⟩;subst e;rcases D with h|h;exact hF h;omega
end Go.Ab
namespace Go.Proofs
open Go.Shelf
def Tryz.sortPg_ren:Go.Shelf.Ren:=⟨fun|6=>118|15=>127|14=>126|28=>137|29=>138|20=>129|21=>130|22=>131|23=>132|24=>133|25=>134|26=>135|27=>136|46=>140|47=>141|48=>142|49=>143|50=>144|57=>145|n=>n,fun|22=>48|24=>60|25=>175|3=>3|39=>56|0=>0|53=>107|55=>102|4=>4|46=>187|45=>186|50=>191|5=>5|9=>9|66=>195|70=>199|76=>201|77=>202|n=>n,fun|n=>n⟩
theorem Tryz.sortPg:Go.Proofs.SlLaysF0.n6 Tryz.prog Tryz.sortPg_ren:={
 mixed:=by kernel_rfl
 f6:=⟨Tryz.f118.name,by decide,Tryz.func118.trans (congrArg some (by kernel_rfl))⟩
 f14:=⟨Tryz.f126.name,by decide,Tryz.func126.trans (congrArg some (by kernel_rfl))⟩
 f15:=Tryz.func127.trans (congrArg some (by kernel_rfl))
 f20:=⟨Tryz.f129.name,by decide,Tryz.func129.trans (congrArg some (by kernel_rfl))⟩
 f21:=⟨Tryz.f130.name,by decide,Tryz.func130.trans (congrArg some (by kernel_rfl))⟩
 f22:=⟨Tryz.f131.name,by decide,Tryz.func131.trans (congrArg some (by kernel_rfl))⟩
 f23:=⟨Tryz.f132.name,by decide,Tryz.func132.trans (congrArg some (by kernel_rfl))⟩
 f24:=⟨Tryz.f133.name,by decide,Tryz.func133.trans (congrArg some (by kernel_rfl))⟩
 f25:=⟨Tryz.f134.name,by decide,Tryz.func134.trans (congrArg some (by kernel_rfl))⟩
 f26:=⟨Tryz.f135.name,by decide,Tryz.func135.trans (congrArg some (by kernel_rfl))⟩
 f27:=⟨Tryz.f136.name,by decide,Tryz.func136.trans (congrArg some (by kernel_rfl))⟩
 f28:=Tryz.func137.trans (congrArg some (by kernel_rfl))
 f29:=Tryz.func138.trans (congrArg some (by kernel_rfl))
 f46:=⟨Tryz.f140.name,by decide,Tryz.func140.trans (congrArg some (by kernel_rfl))⟩
 f47:=Tryz.func141.trans (congrArg some (by kernel_rfl))
 f48:=Tryz.func142.trans (congrArg some (by kernel_rfl))
 f49:=⟨Tryz.f143.name,by decide,Tryz.func143.trans (congrArg some (by kernel_rfl))⟩
 f50:=⟨Tryz.f144.name,by decide,Tryz.func144.trans (congrArg some (by kernel_rfl))⟩
 f57:=⟨Tryz.f145.name,by decide,Tryz.func145.trans (congrArg some (by kernel_rfl))⟩
 t0:=Tryz.underlying0
 a0:=Tryz.isAgg0
 z0:=Tryz.sizeOf0
 v0:=Tryz.zeroValue0
 t3:=Tryz.underlying3
 a3:=Tryz.isAgg3
 z3:=Tryz.sizeOf3
 v3:=Tryz.zeroValue3
 t4:=Tryz.underlying4
 a4:=Tryz.isAgg4
 z4:=Tryz.sizeOf4
 v4:=Tryz.zeroValue4
 t5:=Tryz.underlying5
 a5:=Tryz.isAgg5
 z5:=Tryz.sizeOf5
 v5:=Tryz.zeroValue5
 t9:=Tryz.underlying9
 a9:=Tryz.isAgg9
 z9:=Tryz.sizeOf9
 v9:=Tryz.zeroValue9
 t22:=Tryz.underlying48
 a22:=Tryz.isAgg48
 z22:=Tryz.sizeOf48
 v22:=Tryz.zeroValue48
 t25:=Tryz.underlying175
 a25:=Tryz.isAgg175
 z25:=Tryz.sizeOf175
 v25:=Tryz.zeroValue175
 t39:=Tryz.underlying56
 a39:=Tryz.isAgg56
 z39:=Tryz.sizeOf56
 v39:=Tryz.zeroValue56
 t45:=Tryz.underlying186
 a45:=Tryz.isAgg186
 z45:=Tryz.sizeOf186
 v45:=Tryz.zeroValue186
 t46:=Tryz.underlying187
 a46:=Tryz.isAgg187
 z46:=Tryz.sizeOf187
 v46:=Tryz.zeroValue187
 t50:=Tryz.underlying191
 a50:=Tryz.isAgg191
 z50:=Tryz.sizeOf191
 v50:=Tryz.zeroValue191
 t53:=Tryz.underlying107
 a53:=Tryz.isAgg107
 z53:=Tryz.sizeOf107
 v53:=Tryz.zeroValue107
 t55:=Tryz.underlying102
 a55:=Tryz.isAgg102
 z55:=Tryz.sizeOf102
 v55:=Tryz.zeroValue102
 t66:=Tryz.underlying195
 a66:=Tryz.isAgg195
 z66:=Tryz.sizeOf195
 v66:=Tryz.zeroValue195
 t70:=Tryz.underlying199
 a70:=Tryz.isAgg199
 z70:=Tryz.sizeOf199
 v70:=Tryz.zeroValue199
 t76:=Tryz.underlying201
 a76:=Tryz.isAgg201
 z76:=Tryz.sizeOf201
 v76:=Tryz.zeroValue201
 t77:=Tryz.underlying202
 a77:=Tryz.isAgg202
 z77:=Tryz.sizeOf202
 v77:=Tryz.zeroValue202 }
end Go.Proofs
namespace Go.Ab
open Go.Proofs Go.Shelf Go.RowKit Go.Lib Go.Sort
theorem b4q(G:GTab):h0p Tryz.prog G 118 ⟨[.r false (.o PgT),.v (.fn 119)],[],fun x=>bif decide (a08 x.1<4611686018427387904)&&a3e x.1 then some (a0H x.1)else none⟩:=by
 refine b5Z G (fun f off h d w e g a=>?_) fun p h c w=>AnyF.slices_SortFunc_none Tryz.sortPg p h c w;have b:∀args w,(callFunc 119 args).run Tryz.prog w=.ok (.enter 119 args) w:=enters_of Tryz.func119 (by kernel_rfl) rfl;exact AnyQ.slices_SortFunc Tryz.sortPg 5 Tryz.isAgg60 Tryz.sizeOf60 PgC.enc (fun _=>rfl) PgC.one PgC.cf PgC.swo 119 #[] f off h d w b (fun _ _ _ _ x y=>b6D x y _) e g a
end Go.Ab
