/- Part of the proof: Rv, RvB. Conditions: as each statement tells. -/
import Derived.Shelf.RegionOpenPlain
import Derived.WalkKit
import Derived.Deep.LoopGhost
import Derived.Lib.Walk
import Derived.Sort.WalkB12
import Derived.Lib.SlicesMore
import Derived.Test.YtimgpmdfgkgobaaGreatDoorProg
import Derived.KernelRfl
import Derived.Test.YtimgpmdfgkgobaaGreatDoorMC
noncomputable section
set_option linter.unusedSimpArgs false
set_option linter.unusedVariables false
open Array renaming getElem?_modify→a01
open List renaming reverse→a00,mem_singleton→a02
namespace Go.Ab
open Go.Proofs Go.RowKit Go.Lib Go.Sort
set_option maxHeartbeats 1600000 in
set_option maxRecDepth 1000000 in
theorem d4M (blk off cap:Nat) (d:Array Int) (w:World) (hH:Holds (Value.int .u8) w blk off d) (hsz:d.size≤9223372036854775807):
  Calls Tryz.prog 133 #[.slice (some ⟨blk,off,none⟩) d.size cap] w fun e w'=>e=.returned (.tuple #[])∧∃n,w'=putRow (Value.int .u8) (Sort.ahead w n) blk off d.reverse:=by
 have b6t:Tryz.prog.follows .mixedOrders=true:=by kernel_rfl
 go_enter Tryz.func133,Tryz.ntmps133
 go_wp2
 go_loopg [2,3] d.size (fun k s2 s3 wr=>∃(i jn:Nat)(jz:Int)(dk:Array Int)(n:Nat),s2=.int .i64 i∧s3=.int .i64 jz∧((i:Int)<jz→jz=jn∧jn<d.size)∧(¬ (i:Int)<jz→¬ i<jn)∧jn-i≤k∧
  dk.size=d.size∧wr=putRow (Value.int .u8) (Sort.ahead w n) blk off dk∧reverseLoop i jn dk=reverseLoop 0 (d.size-1) d)
 case atStart=>exact⟨0,d.size-1,(d.size:Int)-1,d,0,rfl,rfl,fun h=>⟨by omega,by omega⟩,fun h=>by omega,by omega,rfl,(putRow_self (Value.int .u8) w blk off d hH).symm,rfl⟩
 case round=>
  obtain⟨i,jn,jz,dk,n,rfl,rfl,h1,h2,hk,hds,hwr,heq⟩:=hrel
  by_cases hlt:(i:Int)<jz
  ·obtain⟨rfl,hjn⟩:=h1 hlt
   have hij:i<jn:=by omega
   have hHk:Holds (Value.int .u8) wr blk off dk:=by rw[hwr];exact holds_putRow (Value.int .u8) _ blk off d dk (holds_ahead (Value.int .u8) w n blk off d hH) hds
   obtain⟨ci,fi⟩:=hHk i (by omega)
   obtain⟨cj,fj⟩:=hHk jn (by omega)
   have A:Aside (wr=putRow (Value.int .u8) (Sort.ahead w n) blk off dk):=hwr
   clear hwr hHk hH h1 h2
   go_wp2_with fail
   go_region_o
   go_wp2
   go_roundg (jn-1-(i+1))
   case measure=>omega
   case rel=>
    rw[reverseLoop,if_pos hij]at heq
    exact⟨i+1,jn-1,(jn:Int)-1,swp dk i jn,n+1,by simp,rfl,fun h=>⟨by omega,by omega⟩,fun h=>by omega,Nat.le_refl _,by rw[size_swp];exact hds,
     swap_world (Value.int .u8) (by omega) (by omega) A.out (by first|rfl|simp[getElem!_pos,show jn<dk.size by omega]) (by first|rfl|simp[getElem!_pos,show i<dk.size by omega]),heq⟩
  ·have hnot:=h2 hlt
   go_wp2
   go_end0
   refine⟨rfl,n,?_⟩
   rw[reverseLoop,if_neg hnot]at heq
   rw[←Lib.reverseLoop_reverse,←heq]
set_option maxHeartbeats 1000000 in
theorem d3q (a:Option Addr) (cap:Nat) (w:World):
  Calls Tryz.prog 133 #[.slice a 0 cap] w fun e w'=>e=.returned (.tuple #[])∧w'=w:=by
 go_enter Tryz.func133,Tryz.ntmps133
 go_wp2
 go_loopg [2,3] 0 (fun _ s2 s3 wr=>s2=.int .i64 0∧s3=.int .i64 (-1)∧wr=w)
 case atStart=>exact⟨rfl,rfl,rfl⟩
 case round=>
  obtain⟨rfl,rfl,rfl⟩:=hrel
  go_wp2
  go_end0
  exact⟨rfl,rfl⟩
end Go.Ab
namespace Go.Ab
open Go.Proofs Go.RowKit Go.Lib Go.Sort
theorem d1y{w:World}{b o:Nat}{l:List Int}{cs:List Value}(hcs:cs=l.map (Value.int .u8))(hcell:∀(j:Nat)(u:Value),cs[j]?=some u→w.cell? ⟨b,o+j,none⟩=some u)
  {k:Nat}(hf:a0L w b k)(hk:o+l.length≤k):Holds (Value.int .u8) w b o l.toArray:=by
 intro j hj;have hj':j<l.length:=by simpa using hj
 refine⟨?_,?_⟩;rw[hcell j (.int .u8 l[j]) (by rw[hcs,List.getElem?_map,lG hj'];rfl)];simp[getElem!_pos,hj'];obtain⟨c,e,lo,hi,h,h1,h2⟩:=hf;simp only[World.frozen?,h];simp only[Bool.and_eq_false_iff,decide_eq_false_iff_not];omega
theorem c9K{w:World}{b o:Nat}{d:Array Int}{n c k:Nat}(h:a0L w c k):a0L (putRow (Value.int .u8) (Sort.ahead w n) b o d) c k:=by
 obtain⟨cs,e,lo,hi,h,h1,h2⟩:=h
 by_cases hb:b=c
 subst hb;refine⟨putCells (Value.int .u8) o d cs,e,lo,hi,?_,by simpa[putCells]using h1,h2⟩;show(w.heap.modify b _)[b]?=_;simp[a01,h,onCells];refine⟨cs,e,lo,hi,?_,h1,h2⟩;show(w.heap.modify b _)[c]?=_;simp[a01,h,hb]
theorem c9L{w:World}{b o:Nat}{d:Array Int}{n c:Nat}(h:c≠b):(putRow (Value.int .u8) (Sort.ahead w n) b o d).heap[c]?=w.heap[c]?:=by
 show(w.heap.modify b _)[c]?=_;simp[a01,Ne.symm h]
theorem d4N(G:b8t):a3r Tryz.prog G 133 ⟨[.r false (.o (.int .u8))],[],fun x=>bif decide (List.length (x:List Int)<2147483648)then some (a00 (x:List Int))else none⟩:=by
 intro w B σ args (x:List Int) (y:List Int) hG hy hB hhp hov hargs hrel hpins;have hy':List.length x<2147483648∧(a00 x)=y:=by
  rcases a0i hy with⟨h,h2⟩|⟨h,h2⟩;exact⟨of_decide_eq_true h,Option.some.inj h2⟩;cases h2
 obtain⟨hlen,rfl⟩:=hy';have hr0:(ini [PA.r false (.o (.int .u8))] x).rt (pinned+0)=some ⟨false,.list true (.int .u8),x⟩:=rfl;obtain⟨s,hp1,hp2⟩:=hpins 0 (by simp[a0E]) rfl;have hg:=hrel.pins 0 s hp1 (by rw[hr0];simp);have hok:=hrel.roots _ _ hr0;obtain⟨O',R,hd,hR,hc⟩:=hok.rd;obtain⟨hbx,-⟩|⟨-,⟨v,hv⟩,-,hO⟩:=hc;cases hbx;rw[hv]at hg hd;subst hg;have hp2':args.getD 0 undef=v:=hp2;have hargs1:args=#[v]:=by
  have h1:args.size=1:=hargs;apply Array.ext;simpa using h1;intro i h2 h3
  have:i=0:=by simp at h3;exact h3
  subst this;rw[←hp2'];simp[Array.getD,h1]
 have hmem:a0a w σ.ov=cells w:=by rw[hov];rfl
 rw[hmem]at hd

 have back:∀(w':World)(y:List Int) R',w'.heap.size=w.heap.size→dec (cells w') (.list true (.int .u8)) ((Src.one v).rd (cells w'))=some (y,O',R')→(∀b k,a0L w b k→a0L w' b k)→
   (∀b,b<B.size→¬ B.F b→w'.heap[b]?=w.heap[b]?)→a1M w'=a1M w→
   Back B w' (a1S (RA.all [PA.r false (.o (.int .u8))] []) y) ([]++(a0E [PA.r false (.o (.int .u8))] 0).map (a3H [PA.r false (.o (.int .u8))] args)) [(.one v,O')]:=by
  intro w' y R' hsz hd' hfree hfr hio;have hmine:∀c∈O'.map (·.1),B.F c∨B.size≤c:=fun c hc=>hrel.mine c ⟨pinned+0,by rw[hO];exact hc⟩;refine⟨rfl,rfl,fun k it u L h1 h2 h3=>?_,?_,?_,?_,?_,by omega,fun b hb hF=>?_,by rw[hio];exact hrel.still⟩
  ·cases k with
   |succ k=>simp at h3
   |zero=>
    have e1:it=⟨.o (.int .u8),y⟩:=(Option.some.inj h1).symm;have e2:u=v:=by
     have:u=args.getD 0 undef:=(Option.some.inj h2).symm
     rw[this,hp2']
    have e3:L=(.one v,O'):=(Option.some.inj h3).symm;subst e1 e2 e3;refine⟨rfl,⟨O',R',hd',?_,.inr ⟨rfl,⟨_,rfl⟩,⟨_,rfl⟩,rfl⟩⟩⟩;rw[c1s (e:=.int .u8) rfl hd']
    simp
  intro L hL;rw[a02]at hL;subst hL;rw[←hO];exact hrel.nodup _;intro k k' L L' h1 h2 hne
  have:k=0:=by have:=(lS.1 h1).1;simpa using this
  have:k'=0:=by have:=(lS.1 h2).1;simpa using this
  omega;intro L hL p hp;rw[a02]at hL;subst hL;exact hfree _ _ (hrel.live (pinned+0) p (by rw[hO];exact hp));intro L hL c hc;rw[a02]at hL;subst hL;exact hmine c hc;rw[hfr b hb hF,hhp]
 have hxn:∀a c,v=.slice a 0 c→x=[]→Calls Tryz.prog 133 args w fun e w'=>∃vr Ls,e=.returned (b6f vr)∧vr.length=0∧Back B w' (a1S (RA.all [PA.r false (.o (.int .u8))] []) (a00 x)) (vr++(a0E [PA.r false (.o (.int .u8))] 0).map (a3H [PA.r false (.o (.int .u8))] args)) Ls:=by
  intro a c hv0 hx;have hc:=d3q a c w;rw[←hv0,←hargs1]at hc;refine hc.mono fun e w' h=>?_
  obtain⟨rfl,rfl⟩:=h;subst hx;exact⟨[],_,rfl,rfl,back w' [] R rfl hd (fun _ _ h=>h) (fun _ _ _=>rfl) rfl⟩
 rcases d0m (e:=.int .u8) rfl hd with⟨hv0,hx,-,-⟩|⟨b,n,c,cs,hv0,hb,hnc,hnl,hOc,hcl,hcell,hone,hcol⟩;exact hxn _ _ hv0 hx;replace hnl:n=x.length:=hnl
 by_cases hn:n=0
 subst hn;exact hxn _ _ hv0 (List.length_eq_zero_iff.1 (show x.length=0 from hnl.symm));have hc0:c≠0:=by omega
 replace hb:=hb.resolve_left hc0;rw[if_neg hc0]at hOc;simp only[Ty.cells,Nat.mul_one]at hOc hcl;have hfr:a0L w b.block (b.off+c):=hrel.live (pinned+0) (b.block,b.off+c) (by rw[hO,hOc];simp);have hcs:cs=x.map (Value.int .u8):=by
  have:=b4y x n 0 (by omega) hcol
  simpa using this
 have hH:Holds (Value.int .u8) w b.block b.off x.toArray:=d1y hcs hcell hfr (by omega);have hw:=d4M b.block b.off c x.toArray w hH (by simp;omega);have hbe:(⟨b.block,b.off,none⟩:Addr)=b:=by cases b;simp at hb;subst hb;rfl
 rw[hbe,show(x.toArray).size=n by simp[hnl],←hv0,←hargs1]at hw;refine hw.mono fun e w' h=>?_
 obtain⟨rfl,q,rfl⟩:=h;have hH':=holds_putRow (Value.int .u8) (Sort.ahead w q) b.block b.off _ x.toArray.reverse (holds_ahead (Value.int .u8) w q b.block b.off _ hH) (by simp);have hmine:B.F b.block∨B.size≤b.block:=hrel.mine _ ⟨pinned+0,by rw[hO,hOc];simp⟩;have hread:∀(j:Nat)(z:Int),(a00 x)[j]?=some z→dec (cells (putRow (Value.int .u8) (Sort.ahead w q) b.block b.off x.toArray.reverse)) (.int .u8) ((Src.at b.block (b.off+j*(Ty.int .u8).cells)).rd (cells (putRow (Value.int .u8) (Sort.ahead w q) b.block b.off x.toArray.reverse)))=some (z,[],[]):=by
  intro j z hz;have hj0:j<x.reverse.length:=(lS.1 hz).1;have hj:j<x.toArray.reverse.size:=by simpa using hj0
  have h1:=(hH' j hj).1;have h2:x.toArray.reverse[j]! = z:=by
   rw[getElem!_pos _ j hj]
   have:(a00 x)[j]'(by simpa using hj)=z:=(lS.1 hz).2
   rw[←this];simp
  rw[h2]at h1;have hrd:(Src.at b.block (b.off+j*(Ty.int .u8).cells)).rd (cells (putRow (Value.int .u8) (Sort.ahead w q) b.block b.off x.toArray.reverse)) 0=some (.int .u8 z):=by
   show World.cell? _ ⟨b.block,b.off+j*1+0,none⟩=_;rw[Nat.mul_one];exact h1
  simp only[dec,hrd,if_true];rfl
 obtain⟨R',hcol',hR'⟩:=c3a (f:=fun i=>dec (cells (putRow (Value.int .u8) (Sort.ahead w q) b.block b.off x.toArray.reverse)) (.int .u8) ((Src.at b.block (b.off+i*(Ty.int .u8).cells)).rd (cells (putRow (Value.int .u8) (Sort.ahead w q) b.block b.off x.toArray.reverse)))) (S:=fun _=>False) (a00 x) 0 fun j z hz=>⟨[],by rw[Nat.zero_add];exact hread j z hz,by simp⟩;have hrl:(a00 x).length=n:=by rw[List.length_reverse];exact hnl.symm
 have hcol'':=hrl▸hcol';have hd':=b8p (rd:=(Src.one v).rd (cells (putRow (Value.int .u8) (Sort.ahead w q) b.block b.off x.toArray.reverse))) (by rw[hv0];rfl) hb hnc hc0 hcol'';have hOc':O'=[(b.block,b.off+c*(Ty.int .u8).cells)]:=by rw[hOc];simp[Ty.cells]
 refine⟨[],_,rfl,rfl,back _ _ R' (by simp) (by rw[hOc'];exact hd') (fun _ _ h=>c9K h) (fun a ha hF=>c9L fun e=>?_) rfl⟩;subst e;rcases hmine with h|h;exact hF h;omega
end Go.Ab
