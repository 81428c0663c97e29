/- Part of the proof: LibS, LibT, LibU, LibV, LibW, LibWA, LibX, LibY, LibZ, LibZA, LibZAA, LibZAB, LibZB, LibZC, LibZD, LibZE, LibZF, LibZG, LibZH, LibZI, LibZJA, LibZJB, LibZJC. Conditions: as each statement tells. -/
import Derived.Laws.AppendOwn
import Derived.CallsIn
import Derived.Tactics
import Derived.Deep.LoopGhost
import Derived.TacticsIn
import Derived.Test.YtimgpmdfgkgobabGreatDoorMA
noncomputable section
set_option linter.unusedSimpArgs false
set_option linter.unusedVariables false
open Array renaming getElem?_toList→a19,length_toList→a40,range→a51
open Bool renaming not_eq_true'→a41,not_eq_true→a52
open List renaming mem_map_of_mem→a00,mem_cons_of_mem→a01,length_eq_zero_iff→a02,getElem?_append_left→a03,nodup_cons→a04,mem_of_getElem?→a05,mem_map→a06,getElem?_append_right→a08,map_cons→a09,nodup_append→a17,append→a20,length→a21,getElem?_toArray→a22,pairwise_iff_getElem→a24,getD→a25,mem_append_left→a26,drop_eq_getElem_cons→a28,getElem?_map→a33,take_succ_eq_append_getElem→a35,mem_append_right→a36,mem_iff_getElem?→a37,take→a38,length_nil→a39,nil_append→a43,length_eq_one_iff→a44,replicate→a45,take_set_of_le→a46,drop→a47,size_toArray→a48,take_length→a50,append_nil→a54,length_map→a55,set→a56,drop_zero→a57
open Nat renaming le_refl→a07,lt_of_lt_of_le→a16,zero_add→a18,add_mul→a23,mul_le_mul_right→a27,le_trans→a30,add_sub_cancel_left→a32,lt_trichotomy→a49
open Option renaming map_some→a29,bind_eq_some_iff→a31,map_eq_some_iff→a34,isSome_iff_exists→a42,elim→a53
namespace Go.Ab
theorem b4I{m:Mem}{e:Ty}{b o n:Nat}{l:List e.den}{os R}(h:a0g (fun i=>dec m e fun j=>m b (o+(i*e.cells+j))) n 0=some (l,os,R)):
  ∃cs:List Value,cs.length=n*e.cells∧(∀j u,cs[j]?=some u→m b (o+j)=some u)∧(∀u∈cs,a1v u=true)∧a0g (fun i=>dec m e fun j=>cs[i*e.cells+j]?) n 0=some (l,os,R):=by
 have h1:dec m (.arr n e) (fun j=>m b (o+j))=some (l,os,R):=h;have hc:∀j,j<n*e.cells→∃u,m b (o+j)=some u∧a1v u=true:=a8r (.arr n e) h1
 let cs:List Value:=(List.range (n*e.cells)).map fun j=>(m b (o+j)).getD undef
 have hcs:∀j,j<n*e.cells→cs[j]?=m b (o+j):=fun j hj=>by
  grind
 have hlen:cs.length=n*e.cells:=by grind
 refine⟨cs,hlen,fun j u hu=>?_,fun u hu=>?_,?_⟩
 grind
 grind
 exact a0x (.arr n e) h1 (rd':=fun j=>cs[j]?) (fun j hj=>hcs j hj) (fun _ _ _=>rfl)
theorem c6k{m:Mem}{o:Bool}{e:Ty}(he:e.sh=e){v:Value}{l:List e.den}{O R}(h:dec m (.list o e) ((Src.one v).rd m)=some (l,O,R)):
  (v=.slice none 0 0∧l=[])∨∃a n c rs,v=.slice (some a) n c∧(c=0∨a.spot=none)∧n≤c∧n=l.length∧a0g (fun i=>dec m e fun j=>m a.block (a.off+(i*e.cells+j))) n 0=some (l,[],rs)∧
   (∀x∈rs,x∈R)∧(o=false→0<n→a.block∈R):=by
 have h:a1j m o e.cells (dec m e) (some v)=some (l,O,R):=h;unfold a1j at h
 split at h
 simp_all;rename_i a n c hv;simp at hv
 split at h
 rename_i hc
 split at h
 grind
 rename_i xs os rs hx;have hos:os=[]:=by
  have h1:dec m (.arr n e) (fun j=>m a.block (a.off+j))=some (xs,os,rs):=hx;exact b1T (by simp_all[Ty.shn]) h1
 subst hos;have hxl:xs=l∧(∀x∈rs,x∈R)∧(o=false→0<n→a.block∈R):=by
  split at h
  grind
  split at h
  rename_i hn;subst hn;simp[a0g]at hx;simp_all
  grind
 obtain⟨rfl,h2,h3⟩:=hxl
 grind[a0W]
 simp_all;simp_all
def b1u(w:World)(m:Mem)(Sh:Nat→Prop)(e:Ty)(l:List e.den)(v:Value):Prop:=
 ∃A n c,∃cs:List Value,v=.slice A n c∧n=l.length∧cs.length=n*e.cells∧(∀u∈cs,a1v u=true)∧(∃R,a0g (fun i=>dec m e fun j=>cs[i*e.cells+j]?) n 0=some (l,[],R)∧∀c∈R,Sh c)∧
  (∀b,A=some b→∀j u,cs[j]?=some u→w.cell? (b.add j)=some u)∧(A=none→n=0)∧(∀b,A=some b→n=0∨b.spot=none)
theorem b1u.nil{w m Sh e}{A:Option Addr}{c:Nat}:b1u w m Sh e [] (.slice A 0 c):=
 ⟨A,0,c,[],rfl,rfl,by simp,by simp,⟨[],rfl,by simp⟩,by simp,fun _=>rfl,fun _ _=>.inl rfl⟩
section
variable {P:Program} {B:Base} {N:Nat} {ρ:Type} {Γ:AE} {a:Act} {w:World} {σ:Gh}
theorem Rel.ov_none{tm}(h:Rel B Γ N tm w σ)(hp:Γ.pd=none):σ.ov=none:=by
 have:=h.pend
 rw[hp]at this;cases hov:σ.ov with
 |none=>rfl
 |some x=>rw[hov]at this;exact this.elim
theorem Rel.memo_shr{tm}(h:Rel B Γ N tm w σ){c j:Nat}(hc:Shr B w σ c):a0a w σ.ov c j=w.cell? ⟨c,j,none⟩:=by
 unfold a0a;split
 ·rename_i b o v hov;have hp:=h.pend;rw[hov]at hp;cases hpd:Γ.pd with
  |none=>rw[hpd]at hp;exact hp.elim
  |some x=>
   obtain⟨n,p,d⟩:=x;rw[hpd]at hp;obtain⟨r,e,hr,hl⟩:=hp;rw[←hov]at hl;have hb:=h.place hr hl;rw[if_neg]
   rintro⟨rfl,-⟩
   exact hc.2.2 ⟨n,hb⟩
 rfl
theorem b6h{A:Addr}(h:A.spot=none)(j:Nat):w.cell? (A.add j)=w.cell? ⟨A.block,A.off+j,none⟩:=by rw[a3R h]
theorem Rel.elems{tm}{e:Ty}(he:e.sh=e)(h:Rel B Γ N tm w σ){av v}{K:List e.den→Rs ρ}{z:ρ}(ha:a0j (a0a w σ.ov) σ.g Γ.rt (Shr B w σ) av v)(hK:Γ.elems e av K=some z):
  ∃l,K l=some z∧b1u w (a0a w σ.ov) (Shr B w σ) e l v:=by
 unfold AE.elems at hK
 split at hK
 rename_i t' x
 split at hK
 rename_i ht;subst ht;refine⟨_,hK,?_⟩;obtain⟨R,h1,h2⟩:=VOk.rd (t:=.list false t') ha rfl rfl;rcases c6k he h1 with⟨rfl,h3⟩|⟨A,n,c,rs,rfl,g1,g2,g3,g4,g5,g6⟩;simp_all[b1u.nil];obtain⟨cs,k1,k2,k3,k4⟩:=b4I g4;refine⟨some A,n,c,cs,rfl,g3,k1,k3,⟨rs,k4,fun b hb=>h2 b (g5 b hb)⟩,fun b hb j u hu=>?_,by simp,fun b hb=>by grind⟩;simp at hb;subst hb;have hn0:0<n:=by
  grind
 rw[b6h (g1.resolve_left (by omega)),←h.memo_shr (h2 _ (g6 rfl hn0))];simp_all;simp_all;refine⟨[],hK,?_⟩;have ha:v=.slice none 0 0:=ha;rw[ha];exact b1u.nil;refine⟨[],hK,?_⟩;obtain⟨A,hv⟩:=ha;rw[hv];exact b1u.nil;rename_i n p
 split at hK
 rename_i r hr;obtain⟨hpd,hr⟩:=a0N hr
 split at hK
 rename_i e' l hg
 split at hK
 rename_i hee;subst hee;obtain⟨s,O',R',g1,g2,g3,g4,g5,g6⟩:=h.slice ha hr hg;refine⟨l,hK,?_⟩;have hov:=h.ov_none hpd;rcases c6k he g4 with⟨rfl,h3⟩|⟨A,n,c,rs,rfl,f1,f2,f3,f4,f5,-⟩;rw[h3];exact b1u.nil;obtain⟨cs,k1,k2,k3,k4⟩:=b4I f4;refine⟨some A,n,c,cs,rfl,f3,k1,k3,⟨rs,k4,fun b hb=>g5 b (f5 b hb)⟩,fun b hb j u hu=>?_,by simp,fun b hb=>by grind⟩;simp at hb;subst hb;have hn0:0<n:=by
  grind
 rw[b6h (f1.resolve_left (by omega))]
 have:=k2 j u hu
 rw[hov]at this;exact this;simp_all;simp_all;simp_all
 ·rename_i n p o k
  split at hK
  ·rename_i r hr;obtain⟨hpd,hr⟩:=a0N hr
   split at hK
   ·rename_i e' l hg
    split at hK
    ·rename_i hee;subst hee;obtain⟨s,O',R',A0,n0,c,g1,g2,g3,g4,g5,g6,a',rfl,g7,g8⟩:=h.window ha hr hg;refine⟨_,hK,?_⟩;show b1u _ _ _ _ (a38 k (a47 o l)) _;have hov:=h.ov_none hpd;rcases c6k he g3 with⟨hv,h3⟩|⟨A,n,c',rs,hv,f1,f2,f3,f4,f5,-⟩;simp_all[b1u.nil]
     ·simp at hv;obtain⟨rfl,rfl,rfl⟩:=hv;rw[show n0=o+(k+(n0-o-k))from by omega]at f4;obtain⟨os1,rs1,os2,rs2,j1,j2,e1,rfl⟩:=a4W o _ 0 f4;obtain⟨os3,rs3,os4,rs4,j3,j4,rfl,rfl⟩:=a4W k _ (0+o) j2;have hos:os3=[]:=by
       simp_all
      subst hos;have hshift:∀(q i:Nat),a0g (fun i=>dec (a0a w σ.ov) e' fun j=>a0a w σ.ov A.block (A.off+o*e'.cells+(i*e'.cells+j))) q i=a0g (fun i=>dec (a0a w σ.ov) e' fun j=>a0a w σ.ov A.block (A.off+(i*e'.cells+j))) q (o+i):=by
       intro q
       induction q with
       |zero=>intro i;rfl
       |succ q ih=>
        intro i;have hf:(fun j=>a0a w σ.ov A.block (A.off+o*e'.cells+(i*e'.cells+j)))=fun j=>a0a w σ.ov A.block (A.off+((o+i)*e'.cells+j)):=by
         funext j
         grind
        simp[a0g];rw[ih (i+1),hf,show o+(i+1)=o+i+1 from by rfl]
      have hc:a0g (fun i=>dec (a0a w σ.ov) e' fun j=>a0a w σ.ov A.block (A.off+o*e'.cells+(i*e'.cells+j))) k 0=some (a38 k (a47 o l),[],rs3):=by
       grind
      obtain⟨cs,k1,k2,k3,k4⟩:=b4I hc;refine⟨a',k,c-o,cs,rfl,?_,k1,k3,⟨rs3,k4,fun b hb=>g4 b (f5 b (by grind))⟩,fun b hb j u hu=>?_,fun hn=>?_,fun b hb=>(g7 b hb).imp (fun e=>by omega) id⟩;have e0:n0=l.length:=f3;have e1:(a38 k (a47 o l)).length=min k (l.length-o):=List.length_take.trans (congrArg (min k) List.length_drop);omega;have hjk:=(lS.1 hu).1;rw[k1]at hjk;have hk0:0<k:=Nat.pos_of_ne_zero fun e0=>by grind
      rcases g8 with g8|g8;omega;rw[g8]at hb;simp at hb;rw[←hb,a3R (f1.resolve_left (by omega)),b6h rfl]
      have:=k2 j u hu
      rw[hov]at this;exact this
      grind
    simp_all
   simp_all
  simp_all
 simp_all
theorem b2k{w w2:World}{e:Ty}{v:Value}{A:Option Addr}{n c:Nat}{cs:List Value}(hv:v=.slice A n c)(hw:∀x,w2.cell? x=w.cell? x)(hlen:cs.length=n*e.cells)
  (hc:∀b,A=some b→∀j u,cs[j]?=some u→w.cell? (b.add j)=some u)(hn:A=none→n=0)(k:Nat)(hk:k≤n):
  (Builtin.firstCells e.cells k v).run P w2=.ok (cs.take (k*e.cells)).toArray w2:=by
 subst hv;cases A with
 |none=>
  have:k=0:=by simp_all
  simp_all[Builtin.firstCells]
 |some b=>
  refine run_firstCells_some w2 e.cells k b n c _ ?_ fun j u hu=>?_
  simp_all
  grind
end
end Go.Ab
namespace Go.Ab
theorem d4F{P:Program}{τ:Ty}{t:TypeId}(h:a0u P τ (.inl t)=true):∃d,P.underlying t=some d:=by
 cases hu:P.underlying t with
 |some d=>simp
 |none=>cases τ<;>simp[a0u,hu]at h
theorem b1V{P:Program}{k:IntKind}{t:TypeId}(h:a0u P (.int k) (.inl t)=true):P.underlying t=some (.int k):=by
 simp[a0u]at h
 grind
theorem b6i{P:Program}{t:TypeId}(h:a0u P .str (.inl t)=true):P.underlying t=some .string:=by
 simp[a0u]at h
 grind
theorem b9G{m:Mem}{k:IntKind}:∀(l:List Int)(n i:Nat){cs:List Value}{R},cs.length=i+n→a0g (fun i=>dec m (.int k) fun j=>cs[i*1+j]?) n i=some (l,[],R)→cs.drop i=l.map (Value.int k)
 |l,0,i,cs,R,hl,h=>by
  have h1:[]=l:=congrArg (·.1) (Option.some.inj h);simp_all
 |l,n+1,i,cs,R,hl,h=>by
  simp only[a0g]at h
  split at h
  grind
  rename_i x o r hx
  split at h
  grind
  rename_i xs os rs h2;have hi:i<cs.length:=by omega
  simp[dec,lG hi]at hx
  split at hx
  rename_i k' n' hv
  split at hx
  rename_i hk;subst hk;have hxv:n'=x:=congrArg (·.1) (Option.some.inj hx);have hl':x::xs=l:=congrArg (·.1) (Option.some.inj h);have ho:o=[]:=by
   simp_all
  have hos:os=[]:=by
   grind
  subst hos;rw[a28 hi,b9G xs n (i+1) (by omega) h2,←hl'];simp at hv;rw[hv,hxv];rfl;simp_all;simp_all
section
variable {P:Program} {B:Base} {N:Nat} {ρ:Type} {Γ:AE} {a:Act} {w:World} {σ:Gh}
theorem d1F(ns:List Int):∀(s:ByteArray),((ns.foldl (fun r n=>r.push (UInt8.ofNat n.toNat)) s).data.toList.map fun b=>(b.toNat:Int))=(s.data.toList.map fun b=>(b.toNat:Int))++b2s ns:=by
 induction ns with
 |nil=>intro s;simp[b2s]
 |cons n ns ih=>
  simp_all[b2s]
theorem b8g(w:World)(a:Addr)(c:Nat):(w.freeze a 1).heap[c]?=if c=a.block then(w.heap[c]?).map (fun|.cells cs elem (lo,hi)=>.cells cs elem (if lo==hi then(a.off,a.off+1)else(min lo a.off,max hi (a.off+1)))|o=>o)else w.heap[c]?:=by
 unfold World.freeze
 grind
theorem d0e(w:World)(a p:Addr):(w.freeze a 1).cell? p=w.cell? p:=by
 unfold World.cell?;rw[b8g]
 grind
theorem b8h(w:World)(a:Addr)(ov):a0a (w.freeze a 1) ov=a0a w ov:=by
 funext b o;simp_all[d0e,a0a]
theorem Rel.frozen{Γ:AE}{w:World}{σ:Gh}{tm:Nat→Value}(h:Rel B Γ N tm w σ){b:Nat}(ho:a0P σ b){cs:Array Value}{el:TypeId}{lo hi:Nat}(hh:w.heap[b]?=some (.cells cs el (lo,hi))):
  Rel B Γ N tm (w.freeze { block:=b,off:=cs.size } 1) σ:=by
 have hsz:(w.freeze { block:=b,off:=cs.size } 1).heap.size=w.heap.size:=by
  simp_all[World.freeze]
 refine h.mem (fun c j _=>by rw[b8h]) (fun n p hp=>?_) (Nat.le_of_eq hsz.symm) (fun c hc hF=>?_);obtain⟨c,e,lo',hi',g1,g2,g3⟩:=h.live n p hp;unfold a0Z;rw[b8g]
 grind
 ·rw[b8g,if_neg (fun e=>?_)];exact h.frame c hc hF
  ·rcases h.mine b ho with g|g
   all_goals grind
theorem c8H{o:Oper}{t t2:TypeId}{x:Operand}{d:Nat}{cx:Cx}{q:Bool}{K:AE→Rs ρ}{z:ρ}(hcx:CxTy P cx)(ho:o.op=.convert t t2 x)(hd:o.dst=some d)
  (h:Rel B Γ N (a0p a) w σ)(hN:a.tmps.size=N)(hf:fits N o=true)(hz:aop cx q o Γ K=some z):a0w P B N o a w K z:=by
 have hx:=h.opd (a0X hf x (by simp[ho,Op.operands]));simp[aop,ho,hd]at hz;have hrun:∀v w',(convert t t2 (a.eval x)).run P w=.ok v w'→(execOp a.eval o).run P w=.ok (.value v) w':=fun v w' hv=>by simp[execOp,ho,hv]
 unfold AE.conv AE.convK at hz
 split at hz
 rename_i τ k k' n hT hT2 he;rw[he]at hx;have hv:=a0j.int hx;obtain⟨u,hu⟩:=d4F (hcx.T _ _ hT).2;have hu2:=b1V (hcx.T _ _ hT2).2;refine a0w.set hd hN (hrun (.int k (k.wrap n)) w ?_) h (a0j.mk_int _) hz;rw[hv];simp[convert,run_underlying hu,run_underlying hu2,Conv.intToInt]
 ·rename_i o' l hT hT2 he
  suffices main:∀l:List Int,Γ.opd x=.val .str l→(bif lim (a21 l)then Γ.fresh q d ⟨false,.list true (.int .u8),l⟩ fun Γ=>K (Γ.set d (.sref d []))else none)=some z→a0w P B N o a w K z from main l he hz
  clear he hz;intro l he hz;rw[he]at hx;obtain⟨s,hv,hl⟩:=a0j.str hx;have hu:=b6i (hcx.T _ _ hT).2;obtain⟨hsh,hty2⟩:=hcx.T _ _ hT2;obtain⟨e,hu2,hte,-⟩:=a1X hty2;have hue:=b1V hte;rcases a0i hz with⟨-,hz⟩|⟨-,hz⟩
  ·have hr:=run_bytes_of_string (P:=P) w t t2 e s hu hu2 hue;rw[←hv]at hr;have hg:=grownCap_ge w s.size 0 e;have hsize:(bytesRow s (grownCap w s.size 0 e)).size=grownCap w s.size 0 e:=by
    have:s.data.size=s.size:=rfl
    simp_all[bytesRow]
   have hll:a21 l=s.size:=by simp_all
   have hll':@List.length (Ty.int .u8).den l=s.size:=hll;have hcol:a0g (fun i=>dec (a0a w σ.ov) (.int .u8) fun j=>(bytesRow s (grownCap w s.size 0 e))[i*(Ty.int .u8).cells+j]?) (a21 l) 0=some (l,[],[]):=by
    have key:∀(n i:Nat)(l':List Int),l'=l.drop i→l'.length=n→i+n=s.size→a0g (fun i=>dec (a0a w σ.ov) (.int .u8) fun j=>(bytesRow s (grownCap w s.size 0 e))[i*(Ty.int .u8).cells+j]?) n i=some (l',[],[]):=by
     intro n
     induction n with
     |zero=>intro i l' _ h2 _;rw[a02.1 h2];rfl
     |succ n ih=>
      intro i l' h1 h2 h3;have hi:i<s.data.toList.length:=by
       grind
      have hi':i<(List.map (fun b:UInt8=>(b.toNat:Int)) s.data.toList).length:=by simp_all
      have hcell:(bytesRow s (grownCap w s.size 0 e))[i]?=some (.int .u8 ((s.data.toList[i]).toNat:Int)):=by
       simp_all[bytesRow,Array.getElem?_append_left]
      have hl':l'=((s.data.toList[i]).toNat:Int)::l.drop (i+1):=by
       simp_all[a28]
      subst hl';have h4:=ih (i+1) (l.drop (i+1)) rfl (by grind) (by omega);simp only[a0g];rw[h4];simp only[dec,Ty.cells,Nat.mul_one,Nat.add_zero,hcell,if_true];rfl
    grind
   obtain⟨Γ',σ',g1,g2,g3,-,-⟩:=h.newSlice (c:=grownCap w s.size 0 e) hz (w':=w.drew.alloc (.cells (bytesRow s (grownCap w s.size 0 e)) e ((bytesRow s (grownCap w s.size 0 e)).size,(bytesRow s (grownCap w s.size 0 e)).size+1)))
    (fun c hc=>a2j (w:=w.drew) _ c hc) (a2O (w:=w.drew) _) (a2k (w:=w.drew) _) (.inr (by simp[hsize,Ty.cells])) (by simp[hsize,Ty.cells]) (a30 (Nat.le_of_eq hll') hg) hcol (by simp)
   grind[a0w.set]
  simp_all
 rename_i l hT hT2 he;rw[he]at hx;obtain⟨s,hv,hl⟩:=a0j.str hx;have hu:=b6i (hcx.T _ _ hT).2;have hu2:=b6i (hcx.T _ _ hT2).2;refine a0w.set hd hN (hrun (.string s) w ?_) h (hl▸a0j.mk_str s) hz;simp_all[convert,run_underlying];rename_i o1 o2 n hT hT2 he
 split at hz
 rename_i htt;subst htt
 split at hz
 rename_i l hl;obtain⟨hlen,hz⟩:=(a0i hz).elim id fun h=>by grind
 have hlen:0<a21 l:=by simp_all
 obtain⟨hpd,hr⟩:=a0N hl;rw[he]at hx;obtain⟨hsh,hty⟩:=hcx.T _ _ hT;obtain⟨e,hu,hte,-⟩:=a1X hty;have hue:=b1V hte;obtain⟨s,O',R',f1,f2,f3,f4,f5,f6⟩:=h.slice hx hr (show a1p (.list true (.int .u8)) l []=⟨.list true (.int .u8),l⟩from rfl);obtain⟨b,n1,c1,hval,hb,hnc,hc0,hbow⟩:∃(b:Addr)(n1 c1:Nat),a.eval x=.slice (some b) n1 c1∧b.spot=none∧n1≤c1∧c1≠0∧b.block∈(σ.ow n).map (·.1):=by
  rcases a1W f4 with⟨hs,hl0,-,-⟩|⟨b,n1,c1,os,hs,hA,hn,hcol,ho⟩;simp_all;simp[Src.rd]at hs
  grind[a0W]
 have hown:a0P σ b.block:=⟨n,hbow⟩;obtain⟨p0,hp0,hp1⟩:=a06.1 hbow;obtain⟨cs,el,lo,hi,hheap,-,-⟩:=h.live n p0 hp0;rw[hp1]at hheap;have hrun1:(convert t t (a.eval x)).run P w=.ok (a.eval x) (w.freeze { block:=b.block,off:=cs.size } 1):=by
  have hshp:w.shape? b.block=some (el,cs.size):=by simp_all[World.shape?]
  rw[hval];simp[convert,run_underlying hu,run_underlying hue,markStringish,hshp]
 exact a0w.set hd hN (hrun _ _ hrun1) (h.frozen hown hheap) (av:=.sref n []) (by
  obtain⟨r,e',s',k1,k2,k3⟩:=hx;exact⟨r,e',s',k1,by simp_all[b8h],by simp_all[b8h]⟩) hz
 simp_all;simp_all
 ·rename_i o' hT hT2;obtain⟨hsh,hty⟩:=hcx.T _ _ hT;obtain⟨e,hu,hte,-⟩:=a1X hty;have hue:=b1V hte;have hu2:=b6i (hcx.T _ _ hT2).2;obtain⟨l,hz,A,n,c,cs,hv,hn,hlen,-,⟨R,hcol,-⟩,hc,hnil,-⟩:=h.elems rfl hx hz;have hlen':cs.length=n:=by simp_all[Ty.cells]
  have hcs:cs=l.map (Value.int .u8):=by
   have:=b9G (k:=.u8) l n 0 (cs:=cs) (by omega) hcol
   grind
  cases A with
  |none=>
   have h0:l=[]:=by
    grind
   refine a0w.set hd hN (hrun (.string .empty) w ?_) h (av:=.val .str (b2s l)) (by rw[h0];exact a0j.mk_str .empty) hz;simp_all[run_convert_bytes_string,Conv.bytesToString]
  |some b=>
   refine a0w.set hd hN (hrun (.string (l.foldl (fun r n=>r.push (UInt8.ofNat n.toNat)) ByteArray.empty)) w ?_) h (av:=.val .str (b2s l)) ?_ hz;rw[hv,run_convert_bytes_string w t t2 e _ n c hu hue hu2];refine run_bytesToString w b n c l ?_
   rw[←hcs,←hlen'];exact run_loadCells_list w b cs (hc b rfl)
   have:=d1F l ByteArray.empty
   have e1:b2s l=((l.foldl (fun r n=>r.push (UInt8.ofNat n.toNat)) ByteArray.empty).data.toList.map fun b=>(b.toNat:Int)):=by
    exact(this.trans (a43 _)).symm
   simp_all[a0j.mk_str]
 simp_all
theorem b8P{o:Oper}{c:Call}{b:Builtin}(ho:o.op=.call c)(hb:c.callee=.builtin b):
  ∃cs,(execOp a.eval o).run P w=(builtin b c.argTypes o.type cs (c.args.map a.eval)).run P w:=by
 exact⟨_,by simp[execOp,ho,resolve,hb,invoke];rfl⟩
theorem d4G{o:Oper}{c:Call}{d:Nat}{cx:Cx}{q:Bool}{K:AE→Rs ρ}{z:ρ}(hcx:CxTy P cx)(ho:o.op=.call c)(hb:c.callee=.builtin .len)(hd:o.dst=some d)
  (h:Rel B Γ N (a0p a) w σ)(hN:a.tmps.size=N)(hf:fits N o=true)(hz:aop cx q o Γ K=some z):a0w P B N o a w K z:=by
 obtain⟨cs,hrun⟩:=b8P (P:=P) (a:=a) (w:=w) ho hb;have hops:=a0X hf;have hl:∃x,c.args.toList=[x]:=by
  cases hl:c.args.toList with
  |nil=>simp_all[aop,AE.blt]
  |cons x l=>
   cases l with
   |nil=>simp
   |cons y l=>simp_all[aop,AE.blt]
 obtain⟨x,hx⟩:=hl;have hargs:c.args=#[x]:=by grind
 have hxo:a1u N x=true:=hops x (by simp_all[Op.operands,Call.operands]);simp[aop,ho,hd,hb,hx,AE.blt]at hz;cases ht:c.argTypes.toList.head? with
  |none=>
   simp_all[AE.lenK]
  |some t=>
   rw[ht]at hz;simp at hz;obtain⟨n,hz,hn⟩:=d3v hcx h hxo hz o.type;have ht0:c.argTypes[0]?=some t:=by
    rw[←a19];cases hl:c.argTypes.toList with
    |nil=>simp_all
    |cons y l=>simp_all
   refine a0w.set hd hN (hrun.trans ?_) h (a0j.mk_int _) hz;have hsame:Builtin.len_ c.argTypes o.type #[a.eval x]=Builtin.len_ #[t] o.type #[a.eval x]:=by
    simp[Builtin.len_,ht0]
   simp_all[builtin]
theorem b7p{o:Oper}{c:Call}{b:Builtin}(ho:o.op=.call c)(hb:c.callee=.builtin b)(hf:fits N o=true):∀y∈c.args.toList,a1u N y=true:=fun y hy=>
 a0X hf y (by simp_all[Op.operands,Call.operands])
theorem d4H{o:Oper}{c:Call}{d:Nat}{cx:Cx}{q:Bool}{K:AE→Rs ρ}{z:ρ}(ho:o.op=.call c)(hb:c.callee=.builtin .max)(hd:o.dst=some d)
  (h:Rel B Γ N (a0p a) w σ)(hN:a.tmps.size=N)(hf:fits N o=true)(hz:aop cx q o Γ K=some z):a0w P B N o a w K z:=by
 obtain⟨cs,hrun⟩:=b8P (P:=P) (a:=a) (w:=w) ho hb;have hops:=b7p ho hb hf;cases hl:c.args.toList with
 |nil=>simp_all[aop,AE.blt]
 |cons x l=>
  simp[aop,ho,hd,hb,hl,AE.blt]at hz
  split at hz
  all_goals first|(rename_i h1;cases h1;done)|(rename_i h1 _;cases h1;done)|(cases hz;done)|skip
  rename_i k n r h1 h2;have hx:=h.opd (hops x (by simp_all));obtain⟨e1,rfl⟩:=List.cons.inj h2;rw[e1]at hx;obtain⟨r,hz,hr⟩:=c1h (P:=P) (f:=a1r) (g:=Builtin.max2) (k:=k) (fun x y w=>by simp[Builtin.max2,a1r]) l n h (fun y hy=>hops y (by simp_all)) hz;refine a0w.set hd hN (hrun.trans ?_) h (a0j.mk_int _) hz;have hm:(c.args.map a.eval).toList=a.eval x::l.map a.eval:=by simp_all
  simp only[builtin,Builtin.max_,hm,a0j.int hx,Sem.run_bind];simp_all
theorem d4I{o:Oper}{c:Call}{d:Nat}{cx:Cx}{q:Bool}{K:AE→Rs ρ}{z:ρ}(ho:o.op=.call c)(hb:c.callee=.builtin .min)(hd:o.dst=some d)
  (h:Rel B Γ N (a0p a) w σ)(hN:a.tmps.size=N)(hf:fits N o=true)(hz:aop cx q o Γ K=some z):a0w P B N o a w K z:=by
 obtain⟨cs,hrun⟩:=b8P (P:=P) (a:=a) (w:=w) ho hb;have hops:=b7p ho hb hf;cases hl:c.args.toList with
 |nil=>simp_all[aop,AE.blt]
 |cons x l=>
  simp[aop,ho,hd,hb,hl,AE.blt]at hz
  split at hz
  all_goals first|(rename_i h1;cases h1;done)|(rename_i h1 _;cases h1;done)|(cases hz;done)|skip
  rename_i k n r h1 h2;have hx:=h.opd (hops x (by simp_all));obtain⟨e1,rfl⟩:=List.cons.inj h2;rw[e1]at hx;obtain⟨r,hz,hr⟩:=c1h (P:=P) (f:=a2d) (g:=Builtin.min2) (k:=k) (fun x y w=>by simp[Builtin.min2,a2d]) l n h (fun y hy=>hops y (by simp_all)) hz;refine a0w.set hd hN (hrun.trans ?_) h (a0j.mk_int _) hz;have hm:(c.args.map a.eval).toList=a.eval x::l.map a.eval:=by simp_all
  simp only[builtin,Builtin.min_,hm,a0j.int hx,Sem.run_bind];simp_all
end
end Go.Ab
namespace Go.Ab
theorem b4J{m:Mem}:∀(p:a0R)(t:Ty)(s:Src){x O R t' b o y O' R'},dec m t (s.rd m)=some (x,O,R)→loc m t s p=some (t',.at b o)→dec m t' ((Src.at b o).rd m)=some (y,O',R')→
  (O.map (·.1)).Nodup→(∀c∈O.map (·.1),s.avoids c)→b∉O'.map (·.1)
 | [],t,s,x,O,R,t',b,o,y,O',R',h,hl,hy,hn,hs=>by
  simp[a0V]at hl;obtain⟨rfl,rfl⟩:=hl;rw[h]at hy;simp at hy;obtain⟨-,rfl,-⟩:=hy;exact fun hb=>hs b hb rfl
 |.fst::p,t,s,x,O,R,t',b,o,y,O',R',h,hl,hy,hn,hs=>by
  obtain⟨a,b',bl,so,rfl,rfl,hl⟩:=a9f hl;obtain⟨x1,o1,r1,x2,o2,r2,h1,h2,rfl,rfl,rfl⟩:=a2s h;simp only[pA]at hn hs;exact b4J p a (.at bl so) h1 hl hy (a17.1 hn).1 (fun c hc=>hs c (a26 _ hc))
 |.snd::p,t,s,x,O,R,t',b,o,y,O',R',h,hl,hy,hn,hs=>by
  obtain⟨a,b',bl,so,rfl,rfl,hl⟩:=a9g hl;obtain⟨x1,o1,r1,x2,o2,r2,h1,h2,rfl,rfl,rfl⟩:=a2s h;rw[a6C]at h2;simp only[pA]at hn hs;exact b4J p b' (.at bl (so+a.cells)) h2 hl hy (a17.1 hn).2.1 (fun c hc=>hs c (a36 _ hc))
 |.idx i::p,t,s,x,O,R,t',b,o,y,O',R',h,hl,hy,hn,hs=>by
  rcases a6J hl with⟨n,t1,bl,so,rfl,rfl,hi,hl⟩|⟨t1,a,n,c,rfl,hv',hi,hl⟩;simp[dec,a6C]at h;obtain⟨y0,o0,r0,A0,B0,A0',B0',hf,-,rfl,rfl⟩:=a0T n 0 i h hi;simp at hf;simp only[pA]at hn hs;exact b4J p t1 _ hf hl hy (a17.1 (a17.1 hn).2.1).1 (fun c hc=>hs c (a36 _ (a26 _ hc)));rcases a1W h with⟨hv,-⟩|⟨a',n',c',os,hv,ha,hn',hx,ho⟩;simp_all;rw[hv]at hv';simp at hv';obtain⟨rfl,rfl,rfl⟩:=hv';obtain⟨y0,o0,r0,A0,B0,A0',B0',hf,-,rfl,rfl⟩:=a0T n' 0 i hx hi;simp at hf;rcases ho with⟨hc,-⟩|⟨-,rfl⟩;omega;simp only[pA,a09,a04]at hn hs;exact b4J p t1 _ hf hl hy (a17.1 (a17.1 hn.2).2.1).1 (fun c hc=>by
   rintro rfl
   simp_all)
section
variable {P:Program} {B:Base} {N:Nat} {ρ:Type} {Γ:AE} {a:Act} {w:World} {σ:Gh}
theorem Rel.own{tm}(h:Rel B Γ N tm w σ){n p v r}{e:Ty}{l:List e.den}(ha:a0j (a0a w σ.ov) σ.g Γ.rt (Shr B w σ) (.sref n p) v)(hr:Γ.rt n=some r)(hg:a1p r.t r.x p=⟨.list true e,l⟩):
  ∃s O' R',loc (a0a w σ.ov) r.t (σ.g n) p=some (.list true e,s)∧s.rd (a0a w σ.ov) 0=some v∧dec (a0a w σ.ov) (.list true e) (s.rd (a0a w σ.ov))=some (l,O',R')∧
   dec (a0a w σ.ov) (.list true e) ((Src.one v).rd (a0a w σ.ov))=some (l,O',R')∧(∀c∈R',Shr B w σ c)∧(∀q∈O',q∈σ.ow n)∧(O'.map (·.1)).Nodup∧(∀b o,s=.at b o→b∉O'.map (·.1)):=by
 obtain⟨r',e',s,h1,h2,h3⟩:=ha;rw[hr]at h1;simp at h1;subst h1;obtain⟨O1,R1,k1,k2,k3,k4,k5,k6⟩:=h.sep hr;obtain⟨y,O',R',A,B',A',B'',g1,g2,g3,g4⟩:=a1G p r.t _ k1 h2;rw[hg]at g2;have hE:e=e':=by grind
 subst hE;have g2:=eq_of_heq (Sigma.mk.inj g2).2;subst g2;have hsub:∀q∈O',q∈O1:=fun q hq=>by simp_all
 refine⟨s,O',R',h2,h3,g1,a0x _ g1 (fun j hj=>?_) (fun _ _ _=>rfl),fun c hc=>k2 c (by simp_all),fun q hq=>?_,?_,fun b o hs=>?_⟩;have hj0:j=0:=by simp_all[Ty.cells]
 subst hj0;rw[h3];rfl
 grind
 have:=k3.nodup
 grind
 subst hs;exact b4J p r.t _ k1 h2 g1 k3.nodup k3.src
theorem c2X{m:Mem}{e:Ty}{l1 l2:List e.den}{cs1 cs2 rest:List Value}{n1 n2:Nat}{o1 o2 R1 R2}(h1:a0g (fun i=>dec m e fun j=>cs1[i*e.cells+j]?) n1 0=some (l1,o1,R1))(hl1:cs1.length=n1*e.cells)
  (h2:a0g (fun i=>dec m e fun j=>cs2[i*e.cells+j]?) n2 0=some (l2,o2,R2))(hl2:cs2.length=n2*e.cells):
  a0g (fun i=>dec m e fun j=>(cs1++(cs2++rest))[i*e.cells+j]?) (n1+n2) 0=some (a20 l1 l2,o1++o2,R1++R2):=by
 have a1:a0g (fun i=>dec m e fun j=>(cs1++(cs2++rest))[i*e.cells+j]?) n1 0=some (l1,o1,R1):=by
  refine a0x (.arr n1 e) (show dec m (.arr n1 e) (fun j=>cs1[j]?)=_ from h1) (rd':=fun j=>(cs1++(cs2++rest))[j]?) (fun j hj=>?_) (fun _ _ _=>rfl);exact a03 (by rw[hl1];exact hj)
 have a2:a0g (fun i=>dec m e fun j=>(cs1++(cs2++rest))[i*e.cells+j]?) n2 n1=some (l2,o2,R2):=by
  have hs:∀(k i:Nat),i+k≤n2→a0g (fun i=>dec m e fun j=>(cs1++(cs2++rest))[i*e.cells+j]?) k (n1+i)=a0g (fun i=>dec m e fun j=>(cs2++rest)[i*e.cells+j]?) k i:=by
   intro k
   induction k with
   |zero=>intro i _;rfl
   |succ k ih=>
    intro i hi;have hf:(fun j=>(cs1++(cs2++rest))[(n1+i)*e.cells+j]?)=fun j=>(cs2++rest)[i*e.cells+j]?:=by
     grind
    grind[a0g]
  have:=hs n2 0 (by omega)
  rw[Nat.add_zero]at this;rw[this];refine a0x (.arr n2 e) (show dec m (.arr n2 e) (fun j=>cs2[j]?)=_ from h2) (rd':=fun j=>(cs2++rest)[j]?) (fun j hj=>?_) (fun _ _ _=>rfl);exact a03 (by rw[hl2];exact hj)
 have:=b8M n1 n2 0 a1 (by rw[a18];omega)
 omega
theorem d0f{cx:Cx}{ts:Array TypeId}(hcx:CxTy P cx)(h:c1a cx ts.toList=true):ts[1]?=none∨∃t2,ts[1]?=some t2∧(P.underlying t2=some .string∨∃e,P.underlying t2=some (.slice e)):=by
 rw[←a19];unfold c1a at h
 split at h
 simp_all;rename_i t2 _ hl;rw[hl];refine .inr ⟨t2,rfl,?_⟩
 split at h
 rename_i hT;obtain⟨e,he,-⟩:=a1X (hcx.T _ _ hT).2;simp_all;rename_i hT;exact .inl (b6i (hcx.T _ _ hT).2);simp_all;simp_all
theorem a6Z{w2:World}{t t' ty:TypeId}{ts:Array TypeId}{x:Value}{e:Ty}(I:Info P e t')(h0:ts[0]?=some t)(hu:P.underlying t=some (.slice t'))
  (h1:ts[1]?=none∨∃t2,ts[1]?=some t2∧(P.underlying t2=some .string∨∃e,P.underlying t2=some (.slice e)))
  {A:Option Addr}{n c k:Nat}{new:List Value}(hlen:(Builtin.lenOf x).run P w=.ok k w)(hnew:(Builtin.firstCells e.cells k x).run P w=.ok new.toArray w)(hfit:n+k≤c)
  (hst:∀b,A=some b→(storeCells (b.add (n*e.cells)) new).run P w=.ok () w2)(hno:A=none→w2=w):
  (Builtin.append_ ts ty #[.slice A n c,x]).run P w=.ok (.slice A (n+k) c) w2:=by
 have key:∀A,(A=none→w2=w)→(∀b,A=some b→(storeCells (b.add (n*e.cells)) new).run P w=.ok () w2)→(Builtin.append_ ts ty #[.slice A n c,x]).run P w=.ok (.slice A (n+k) c) w2:=by
  intro A hno hst;cases A with
  |none=>
   have:=hno rfl
   subst this;rcases h1 with h1|⟨t2,h1,h2|⟨e2,h2⟩⟩;simp[Builtin.append_,h0,h1,run_underlying hu,I.sizeOf,hlen,hfit,hnew];simp[Builtin.append_,h0,h1,run_underlying hu,run_underlying h2,I.sizeOf,hlen,hfit,hnew];simp[Builtin.append_,h0,h1,run_underlying hu,run_underlying h2,I.sizeOf,hlen,hfit,hnew]
  |some b=>
   have hs:=hst b rfl;rcases h1 with h1|⟨t2,h1,h2|⟨e2,h2⟩⟩;simp[Builtin.append_,h0,h1,run_underlying hu,I.sizeOf,hlen,hfit,hnew,hs];simp[Builtin.append_,h0,h1,run_underlying hu,run_underlying h2,I.sizeOf,hlen,hfit,hnew,hs];simp[Builtin.append_,h0,h1,run_underlying hu,run_underlying h2,I.sizeOf,hlen,hfit,hnew,hs]
 simp_all
theorem b1W{t t' ty:TypeId}{ts:Array TypeId}{x:Value}{e:Ty}(I:Info P e t')(h0:ts[0]?=some t)(hu:P.underlying t=some (.slice t'))
  (h1:ts[1]?=none∨∃t2,ts[1]?=some t2∧(P.underlying t2=some .string∨∃e,P.underlying t2=some (.slice e)))
  {A:Option Addr}{n c k:Nat}{old new:List Value}(hlen:(Builtin.lenOf x).run P w=.ok k w)(hnew:(Builtin.firstCells e.cells k x).run P w.drew=.ok new.toArray w.drew)
  (hold:(Builtin.firstCells e.cells n (.slice A n c)).run P w.drew=.ok old.toArray w.drew)(hg:c<n+k)(hlim:n+k<2147483648):
  (Builtin.append_ ts ty #[.slice A n c,x]).run P w=.ok (.slice (some ⟨w.heap.size,0,none⟩) (n+k) (grownCap w (n+k) c t'))
   (w.drew.alloc (.cells (old++(new++(Builtin.zeroCells I.z.cells (grownCap w (n+k) c t'-(n+k))).toList)).toArray t')):=by
 have hn:¬ (n+k≤c):=by omega
 have hfits:Builtin.nextslicecap (n+k) c*I.i.bytes≤281474976710656:=growslice_fits hg (by
  have:=Nat.mul_le_mul (Nat.le_of_lt hlim) I.bytes
  omega)
 have h48:¬ (281474976710656<Builtin.nextslicecap (n+k) c*I.i.bytes):=by omega
 have h63:¬ (9223372036854775807<((n:Int)+(k:Int))):=by omega
 have fin:∀X Y:Array Value,X.toList=Y.toList→w.drew.alloc (Obj.cells X t')=w.drew.alloc (Obj.cells Y t'):=fun X Y e=>by simp_all
 rcases h1 with h1|⟨t2,h1,h2|⟨e2,h2⟩⟩;simp[Builtin.append_,h0,h1,run_underlying hu,I.sizeOf,I.typeInfo,I.zeroValue,hlen,hn,hnew,hold,h48,h63,Question.forced,newRow,grownCap]
 grind
 simp[Builtin.append_,h0,h1,run_underlying hu,run_underlying h2,I.sizeOf,I.typeInfo,I.zeroValue,hlen,hn,hnew,hold,h48,h63,Question.forced,newRow,grownCap]
 grind
 simp[Builtin.append_,h0,h1,run_underlying hu,run_underlying h2,I.sizeOf,I.typeInfo,I.zeroValue,hlen,hn,hnew,hold,h48,h63,Question.forced,newRow,grownCap]
 grind
end
end Go.Ab
namespace Go.Ab
theorem d6F{m:Mem}{e:Ty}(he:e.sh=e){v:Value}{l:List e.den}{O R}(h:dec m (.list true e) ((Src.one v).rd m)=some (l,O,R)):
  (v=.slice none 0 0∧l=[]∧O=[]∧R=[])∨∃b n c,∃cs:List Value,v=.slice (some b) n c∧(c=0∨b.spot=none)∧n≤c∧n=l.length∧O=(if c=0 then[]else[(b.block,b.off+c*e.cells)])∧
   cs.length=n*e.cells∧(∀j u,cs[j]?=some u→m b.block (b.off+j)=some u)∧(∀u∈cs,a1v u=true)∧a0g (fun i=>dec m e fun j=>cs[i*e.cells+j]?) n 0=some (l,[],R):=by
 rcases a1W h with⟨hv,h2,h3,h4⟩|⟨b,n,c,os,hv,hb,hn,hx,ho⟩;simp_all[Src.rd];simp[Src.rd]at hv;have hx':a0g (fun i=>dec m e fun j=>m b.block (b.off+(i*e.cells+j))) n 0=some (l,os,R):=by simp_all[b9B]
 have hos:os=[]:=by
  have h1:dec m (.arr n e) (fun j=>m b.block (b.off+j))=some (l,os,R):=hx';exact b1T (by simp_all[Ty.shn]) h1
 subst hos;obtain⟨cs,k1,k2,k3,k4⟩:=b4I hx';refine .inr ⟨b,n,c,cs,hv,hb,hn,(a0W n 0 hx).symm,?_,k1,k2,k3,k4⟩
 grind
theorem c2F{m m0:Mem}{e:Ty}{b:Addr}{n c:Nat}{cs:List Value}{l:List e.den}{os R}(hb:c=0∨b.spot=none)(hnc:n≤c)(hlen:n*e.cells≤cs.length)(hm:∀j u,j<n*e.cells→cs[j]?=some u→m b.block (b.off+j)=some u)
  (hc:a0g (fun i=>dec m0 e fun j=>cs[i*e.cells+j]?) n 0=some (l,os,R))(hR:∀c∈R,∀j,m c j=m0 c j)(hos:∀c∈os.map (·.1),∀j,m c j=m0 c j:=by simp):
  dec m (.list true e) ((Src.one (.slice (some b) n c)).rd m)=some (l,if c=0 then[]else(b.block,b.off+c*e.cells)::os,R):=by
 have h1:dec m (.arr n e) (fun j=>m b.block (b.off+j))=some (l,os,R):=a0x (.arr n e) (show dec m0 (.arr n e) (fun j=>cs[j]?)=_ from hc) (fun j hj=>by
  have hj:j<n*e.cells:=hj
  grind) (fun c j hb=>by
  grind)
 have h1:a0g (fun i=>dec m e fun j=>m b.block (b.off+(i*e.cells+j))) n 0=some (l,os,R):=h1;show a1j m true e.cells (dec m e) (some (.slice (some b) n c))=_;simp only[a1j];rw[if_pos ⟨hb,hnc⟩,h1]
 simp
 split
 all_goals simp_all[a0g]
theorem c1k{m:Mem}:∀(p:a0R)(t:Ty)(s:Src){t' s'},loc m t s p=some (t',s')→p≠[]→∃b o,s'=.at b o
 | [],_,_,_,_,_,hp=>absurd rfl hp
 |.fst::p,t,s,t',s',hl,_=>by
  obtain⟨a,b',bl,so,rfl,rfl,hl⟩:=a9f hl;cases p with
  |nil=>simp[a0V]at hl;grind
  |cons x p=>exact c1k (x::p) _ _ hl (by simp)
 |.snd::p,t,s,t',s',hl,_=>by
  obtain⟨a,b',bl,so,rfl,rfl,hl⟩:=a9g hl;cases p with
  |nil=>simp[a0V]at hl;grind
  |cons x p=>exact c1k (x::p) _ _ hl (by simp)
 |.idx i::p,t,s,t',s',hl,_=>by
  rcases a6J hl with⟨n,t1,bl,so,rfl,rfl,hi,hl⟩|⟨t1,a,n,c,rfl,hv',hi,hl⟩
  ·cases p with
   |nil=>simp[a0V]at hl;grind
   |cons x p=>exact c1k (x::p) _ _ hl (by simp)
  ·cases p with
   |nil=>simp[a0V]at hl;grind
   |cons x p=>exact c1k (x::p) _ _ hl (by simp)
theorem b0l{Γ:AE}{n:Nat}(r:Option Root):(Γ.setRt n r).rt n=r:=by simp[AE.setRt]
section
variable {P:Program} {B:Base} {N:Nat} {ρ:Type} {Γ:AE} {a:Act} {w:World} {σ:Gh}
structure News (P:Program) (w:World) (m:Mem) (Sh:Nat→Prop) (e:Ty) (ys:List e.den) (x:Value) where
 cs:List Value
 len:(Builtin.lenOf x).run P w=.ok ys.length w
 size:cs.length=ys.length*e.cells
 one:∀u∈cs,a1v u=true
 R:List Nat
 rd:a0g (fun i=>dec m e fun j=>cs[i*e.cells+j]?) ys.length 0=some (ys,[],R)
 shr:∀c∈R,Sh c
 run:(Builtin.firstCells e.cells ys.length x).run P w=.ok cs.toArray w
 drew:(Builtin.firstCells e.cells ys.length x).run P w.drew=.ok cs.toArray w.drew
theorem Rel.turn{d:Nat}{K:AE→Rs ρ}{z:ρ}{n:Nat}{p:a0R}{r:Root}{e:Ty}{l l':List e.den}{v v':Value}{w2:World}{s O' R' O2 R2}(h:Rel B Γ N (a0p a) w σ)(hN:a.tmps.size=N)(hr:Γ.look n=some r)
  (hl:loc (a0a w σ.ov) r.t (σ.g n) p=some (.list true e,s))(hg:a1p r.t r.x p=⟨.list true e,l⟩)(hv:s.rd (a0a w σ.ov) 0=some v)
  (hd:dec (a0a w σ.ov) (.list true e) (s.rd (a0a w σ.ov))=some (l,O',R'))(hsub:∀q∈O',q∈σ.ow n)(hap:∀b o,s=.at b o→b∉O'.map (·.1))
  (hd2:dec (a0a w2 none) (.list true e) ((Src.one v').rd (a0a w2 none))=some (l',O2,R2))
  (hmem:∀c j,a0a w2 none c j=a0a w none c j∨c∈O'.map (·.1)∨w.heap.size≤c)
  (hO2:∀c∈O2.map (·.1),c∈O'.map (·.1)∨w.heap.size≤c)(hn2:(O2.map (·.1)).Nodup)(hlive:∀p∈O2,a0Z w2 p.1 p.2)(hfree:∀c k,a0Z w c k→a0P σ c→a0Z w2 c k)
  (hsz:w.heap.size≤w2.heap.size)(hfr:∀b,b<B.size→¬ B.F b→w2.heap[b]?=B.hp b)(hR2:∀c∈R2,Shr B w σ c)
  (hz:(let Γ':=((Γ.mapv (AV.kill n p)).setRt n (some ⟨r.bx,r.t,a1U r.t r.x p (.list true e) l'⟩)).set d (.sref n p)
   match p,r.bx with
   | [],false=>bif decide (n<pinned)then K Γ' else none
   |p,_=>match Γ.pd with
    |none=>K { Γ' with pd:=some (n,p,d) }
    |some _=>none)=some z)(hio:a2n w2=a2n w:=by first|rfl|assumption):
  ∃Γ' σ',Rel B Γ' N (a0p (a.put (some d) v')) w2 σ'∧K Γ'=some z:=by
 obtain⟨hpd,hr⟩:=a0N hr;have hov:=h.ov_none hpd;have hR2':∀c∈R2,c<w2.heap.size∧(B.S c∨B.F c∨B.size≤c)∧¬ a0P σ c∧c∉O2.map (·.1):=fun c hc=>by
  have hs:=hR2 c hc;refine⟨a16 hs.1 hsz,hs.2.1,hs.2.2,fun g=>?_⟩;rcases hO2 c g with g|g;obtain⟨q,hq,rfl⟩:=a06.1 g;exact hs.2.2 ⟨n,a00 (hsub q hq)⟩
  have:=hs.1;omega
 have top:p=[]→r.bx=false→∃Γ' σ',Rel B Γ' N (a0p (a.put (some d) v')) w2 σ'∧K Γ'=some z:=by
  intro hp hbx;subst hp;obtain⟨bx,t,x⟩:=r;simp only at hbx;subst hbx;simp[a1p,a1L]at hg;cases hg;have hz:(bif decide (n<pinned)then K (((Γ.mapv (AV.kill n [])).setRt n (some ⟨false,.list true e,a1U (.list true e) l [] (.list true e) l'⟩)).set d (.sref n []))else none)=some z:=hz;obtain⟨hnp,hz⟩:=(a0i hz).elim id fun h=>by grind
  have hnp:n<pinned:=by simp_all
  have hset:a1U (.list true e) l [] (.list true e) l'=l':=c3O _ _ _;replace hz:K (((Γ.mapv (AV.kill n [])).setRt n (some ⟨false,.list true e,l'⟩)).set d (.sref n []))=some z:=by
   simp_all
  have hrel:=h.top hr hnp hpd (w':=w2) (v':=v') (l':=l') (by grind) (fun c j hc hn=>by
    grind) (fun c hc=>(hO2 c hc).imp (fun g=>by
     grind) id) hn2 hlive hfree hsz hfr hR2' (f:=AV.kill n []) (fun av=>by
    cases av with
    |ptr m q=>
     simp only[AV.kill]
     by_cases hm:m=n
     ·subst hm;cases q with
      |nil=>simp
      |cons=>left;simp[a4O]
     simp_all
    |sref m q=>
     grind[AV.kill,a4O]
    |swin m q o k=>
     grind[AV.kill,a4O]
    |_=>exact .inr ⟨rfl,fun k q h1 _=>by rcases h1 with h1|h1|⟨_,_,h1⟩<;>cases h1⟩)
  refine⟨_,_,hrel.putd (sv:=.one (.sref n [])) (v:=v') hN (fun _=>⟨⟨false,.list true e,l'⟩,e,.one v',b0l _,?_,rfl⟩),hz⟩;show some (_,if n=n then Src.one v' else _)=_
  simp
 have pnd:(∃b o,s=.at b o)→K { (((Γ.mapv (AV.kill n p)).setRt n (some ⟨r.bx,r.t,a1U r.t r.x p (.list true e) l'⟩)).set d (.sref n p))with pd:=some (n,p,d) }=some z→
   ∃Γ' σ',Rel B Γ' N (a0p (a.put (some d) v')) w2 σ'∧K Γ'=some z:=by
  rintro⟨b,o,rfl⟩ hz
  have hb:=h.place hr hl;have hbo:a0P σ b:=⟨n,hb⟩;have hblt:=h.lt hbo;have hbO2:b∉O2.map (·.1):=fun g=>by
   grind
  have hbR2:b∉R2:=fun g=>(hR2 b g).2.2 hbo;have hm2:∀c j,c≠b→a0a w2 (some (b,o,v')) c j=a0a w2 none c j:=fun c j hc=>by
   simp_all[a0a]
  have hd3:dec (a0a w2 (some (b,o,v'))) (.list true e) ((Src.at b o).rd (a0a w2 (some (b,o,v'))))=some (l',O2,R2):=a0x _ hd2 (fun j hj=>by
   simp_all[Ty.cells,Src.rd,a0a]) (fun c j hc=>hm2 c j fun e=>by
    simp_all)
  obtain⟨ow',how,hrel⟩:=h.chg hr hl hd (w':=w2) (ov':=some (b,o,v')) (pd':=some (n,p,d)) (.new d v' e hpd rfl) hd3 (fun c j=>by
    by_cases hc:c=b∧j=o
    simp_all[Ty.cells];have e1:a0a w2 (some (b,o,v')) c j=a0a w2 none c j:=by
     simp_all[a0a]
    grind) hO2 hn2 hlive hfree hsz hfr hR2' (f:=AV.kill n p) (fun av=>b9D n p _ av)
  obtain⟨r'',e'',h1,h2⟩:=hrel.pend;exact⟨_,_,hrel.putd (sv:=.one (.sref n p)) (v:=v') hN (fun _=>⟨r'',e'',.at b o,h1,h2,by simp[Src.rd,a0a]⟩),hz⟩
 cases p with
 |nil=>
  cases hb:r.bx with
  |false=>
   simp_all
  |true=>
   have hz2:(match Γ.pd with
    |none=>K { (((Γ.mapv (AV.kill n [])).setRt n (some ⟨r.bx,r.t,a1U r.t r.x [] (.list true e) l'⟩)).set d (.sref n []))with pd:=some (n,[],d) }
    |some _=>none)=some z:=by
    simp_all
   rw[hpd]at hz2;refine pnd ?_ hz2;simp[a0V]at hl;obtain⟨O'',R'',-,-,-,-,-,h6⟩:=h.sep hr
   grind
 |cons x p=>
  have hz2:(match Γ.pd with
   |none=>K { (((Γ.mapv (AV.kill n (x::p))).setRt n (some ⟨r.bx,r.t,a1U r.t r.x (x::p) (.list true e) l'⟩)).set d (.sref n (x::p)))with pd:=some (n,x::p,d) }
   |some _=>none)=some z:=hz
  grind[c1k]
end
end Go.Ab
namespace Go.Ab
section
variable {P:Program} {B:Base} {N:Nat} {ρ:Type} {Γ:AE} {a:Act} {w:World} {σ:Gh}
theorem a8O(b:Nat):∀(vs:List Value)(o:Nat)(w:World),a2n (w.setCells b o vs)=a2n w
 | [],_,_=>rfl
 |v::r,o,w=>(a8O b r (o+1) (w.setCell ⟨b,o,none⟩ v)).trans rfl
theorem c4O{z:Array Value}(n:Nat):Builtin.zeroCells z n=madeCells z (n*z.size):=rfl
theorem d3z{q:Bool}{d:Nat}{e:Ty}(he:e.sh=e){t t' ty:TypeId}{ts:Array TypeId}(I:Info P e t')(h0:ts[0]?=some t)(hu:P.underlying t=some (.slice t'))
  (h1:ts[1]?=none∨∃t2,ts[1]?=some t2∧(P.underlying t2=some .string∨∃e,P.underlying t2=some (.slice e)))
  {av:AV}{s x:Value}{ys:List e.den}{K:AE→Rs ρ}{z:ρ}(h:Rel B Γ N (a0p a) w σ)(hN:a.tmps.size=N)(hav:a0j (a0a w σ.ov) σ.g Γ.rt (Shr B w σ) av s)
  (Y:News P w (a0a w σ.ov) (Shr B w σ) e ys x)(hz:Γ.apnd q d e av ys K=some z):
  ∃v w' Γ' σ',(Builtin.append_ ts ty #[s,x]).run P w=.ok v w'∧Rel B Γ' N (a0p (a.put (some d) v)) w' σ'∧K Γ'=some z:=by

 have row:∀(l:List e.den)(n:Nat)(cs:List Value)(R:List Nat)(rest:List Value),cs.length=n*e.cells→a0g (fun i=>dec (a0a w σ.ov) e fun j=>cs[i*e.cells+j]?) n 0=some (l,[],R)→
   a0g (fun i=>dec (a0a w σ.ov) e fun j=>(cs++(Y.cs++rest)).toArray[i*e.cells+j]?) (n+ys.length) 0=some (a20 l ys,[],R++Y.R):=by
  intro l n cs R rest hl hc;simp only[a22];exact c2X hc hl Y.rd Y.size
 have zsz:∀k,(Builtin.zeroCells I.z.cells k).size=k*e.cells:=fun k=>by rw[c4O,size_madeCells,I.zsize]
 have nil0:∀A:Option Addr,s=.slice A 0 0→(bif lim ys.length then Γ.fresh q d ⟨false,.list true e,ys⟩ fun Γ=>K (Γ.set d (.sref d []))else none)=some z→
   ∃v w' Γ' σ',(Builtin.append_ ts ty #[s,x]).run P w=.ok v w'∧Rel B Γ' N (a0p (a.put (some d) v)) w' σ'∧K Γ'=some z:=by
  intro A hs hz;subst hs;obtain⟨hlim,hz⟩:lim ys.length=true∧_:=(a0i hz).elim id fun h=>by grind
  simp[lim]at hlim
  by_cases hk:ys.length=0
  ·have hcs:Y.cs=[]:=a02.1 (by rw[Y.size,hk];omega);have hy:ys=[]:=a02.1 hk;have hrun:=a6Z (P:=P) (w2:=w) (ty:=ty) I h0 hu h1 (A:=A) (n:=0) (c:=0) Y.len Y.run (by omega) (fun b _=>by rw[hcs];rfl) (fun _=>rfl);obtain⟨Γ',σ',g1,g2,g3,g4,g5,g6⟩:=h.fresh hz (fun _ _=>rfl) (a07 _) (s:=.one (.slice A (0+ys.length) 0)) (O:=[]) (by simp) (by simp) (by simp) ⟨[],[],by
    show a1j (a0a w σ.ov) true e.cells (dec (a0a w σ.ov) e) (some (.slice A (0+ys.length) 0))=some (ys,[],[]);rw[hk,hy];cases A with
    |none=>rfl
    |some b=>rfl,by simp,.inr ⟨rfl,⟨_,rfl⟩,⟨e,rfl⟩,rfl⟩⟩
   exact⟨_,w,_,σ',hrun,g2.putd (sv:=.one (.sref d [])) hN (fun _=>⟨_,e,_,g3,by rw[g4];rfl,rfl⟩),g1⟩
  have hold:(Builtin.firstCells e.cells 0 (.slice A 0 0)).run P w.drew=.ok ([]:List Value).toArray w.drew:=by
   have:=b2k (P:=P) (w:=w) (w2:=w.drew) (e:=e) (v:=.slice A 0 0) (cs:=[]) rfl (fun _=>rfl) (by simp) (by simp) (fun _=>rfl) 0 (by omega)
   simp_all
  have hrun:=b1W (P:=P) (w:=w) (ty:=ty) I h0 hu h1 (A:=A) (n:=0) (c:=0) Y.len Y.drew hold (by omega) (by omega);have hg:=grownCap_ge w (0+ys.length) 0 t';obtain⟨Γ',σ',g1,g2,g3,-,-⟩:=h.newSlice (c:=grownCap w (0+ys.length) 0 t') hz (fun c hc=>a2j (w:=w.drew) _ c hc) (a2O (w:=w.drew) _)
   (a2k (w:=w.drew) (Obj.cells (([]:List Value)++(Y.cs++(Builtin.zeroCells I.z.cells (grownCap w (0+ys.length) 0 t'-(0+ys.length))).toList)).toArray t')) (.inl rfl) (by
    have:(([]:List Value)++(Y.cs++(Builtin.zeroCells I.z.cells (grownCap w (0+ys.length) 0 t'-(0+ys.length))).toList)).length=grownCap w (0+ys.length) 0 t'*e.cells:=by
     simp only[a43,lN,Y.size,a40,zsz];rw[←a23];simp_all
    simp_all) (by omega) (by
    have:=row [] 0 [] [] (Builtin.zeroCells I.z.cells (grownCap w (0+ys.length) 0 t'-(0+ys.length))).toList (by simp) rfl
    simp_all) Y.shr
  refine⟨_,_,_,σ',hrun,g2.putd (sv:=.one (.sref d [])) hN (fun _=>?_),g1⟩;rw[a18]at g3⊢;exact g3
 unfold AE.apnd at hz
 split at hz
 have hav:s=.slice none 0 0:=hav;simp_all;obtain⟨A,hv⟩:=hav;simp_all
 ·rename_i n p;obtain⟨-,hz⟩:q=false∧_:=by
   by_cases hq:q
   rw[hq]at hz;simp at hz;exact⟨by simp_all,(a0i hz).elim (fun h=>absurd h.1 hq) (·.2)⟩
  split at hz
  ·rename_i r hr;obtain⟨hpd,hr'⟩:=a0N hr;have hov:=h.ov_none hpd
   split at hz
   ·rename_i e' l hg
    split at hz
    ·rename_i hee;subst hee;obtain⟨hlim,hz⟩:lim (a21 l+ys.length)=true∧_:=(a0i hz).elim id fun h=>by grind
     simp[lim]at hlim;obtain⟨s',O',R',f1,f2,f3,f4,f5,f6,f7,f8⟩:=h.own hav hr' hg;have hsh:∀c∈R'++Y.R,Shr B w σ c:=fun c hc=>(mA.1 hc).elim (f5 c) (Y.shr c);have hownb:∀c∈O'.map (·.1),a0P σ c:=fun c hc=>by
      obtain⟨q,hq,rfl⟩:=a06.1 hc;exact⟨n,a00 (f6 q hq)⟩

     have grow:∀(A:Option Addr)(n0 c:Nat)(cs:List Value),s=.slice A n0 c→n0=a21 l→cs.length=n0*e.cells→(∀b,A=some b→∀j u,cs[j]?=some u→w.cell? (b.add j)=some u)→(A=none→n0=0)→
       a0g (fun i=>dec (a0a w σ.ov) e fun j=>cs[i*e.cells+j]?) n0 0=some (l,[],R')→c<n0+ys.length→
       ∃v w' Γ' σ',(Builtin.append_ ts ty #[s,x]).run P w=.ok v w'∧Rel B Γ' N (a0p (a.put (some d) v)) w' σ'∧K Γ'=some z:=by
      intro A n0 c cs hs hn0 hcl hcell hnone hcol hgt;subst hs;have hold:(Builtin.firstCells e.cells n0 (.slice A n0 c)).run P w.drew=.ok cs.toArray w.drew:=by
       have:=b2k (P:=P) (w:=w) (w2:=w.drew) (e:=e) (v:=.slice A n0 c) (cs:=cs) rfl (fun _=>rfl) hcl hcell hnone n0 (a07 _)
       grind
      have hrun:=b1W (P:=P) (w:=w) (ty:=ty) I h0 hu h1 (A:=A) (n:=n0) (c:=c) Y.len Y.drew hold hgt (by omega);have hge:=grownCap_ge w (n0+ys.length) c t';generalize hw2:w.drew.alloc _=w2 at hrun;generalize hgc:grownCap w (n0+ys.length) c t'=gc at hrun hge;have hold2:∀c,c<w.heap.size→w2.heap[c]?=w.heap[c]?:=fun c hc=>by rw[←hw2];exact a2j (w:=w.drew) _ c hc
      have hnew2:=a2k (w:=w.drew) (.cells (cs++(Y.cs++(Builtin.zeroCells I.z.cells (gc-(n0+ys.length))).toList)).toArray t');have hnew2:w2.heap[w.heap.size]?=some (.cells (cs++(Y.cs++(Builtin.zeroCells I.z.cells (gc-(n0+ys.length))).toList)).toArray t'):=by
       rw[←hw2,hgc];simp_all
      have hsz2:w.heap.size≤w2.heap.size:=by grind
      have hcs2:(cs++(Y.cs++(Builtin.zeroCells I.z.cells (gc-(n0+ys.length))).toList)).length=gc*e.cells:=by
       simp[hcl,Y.size,zsz];rw[←a23,←a23]
       grind
      have hd2:=c2F (m:=a0a w2 none) (m0:=a0a w σ.ov) (b:=⟨w.heap.size,0,none⟩) (n:=n0+ys.length) (c:=gc) (cs:=cs++(Y.cs++(Builtin.zeroCells I.z.cells (gc-(n0+ys.length))).toList)) (.inr rfl) hge (by
        rw[hcs2];exact a27 _ hge) (fun j u _ hu=>by
        simp only[a0a,a18,World.cell?,hnew2]
        grind) (by
        have:=row l n0 cs R' (Builtin.zeroCells I.z.cells (gc-(n0+ys.length))).toList hcl hcol
        simpa only[a22]using this) (fun c hc j=>by
        rw[hov];exact a1s none (hold2 c (hsh c hc).1) j)
      have hgc0:gc≠0:=by omega
      rw[if_neg hgc0]at hd2;have hfree:∀c k,a0Z w c k→a0Z w2 c k:=fun c k hf=>by
       obtain⟨cc,e1,lo,hi,g1,g2⟩:=hf;exact⟨cc,e1,lo,hi,by grind,g2⟩
      obtain⟨Γ',σ',k1,k2⟩:=h.turn (w2:=w2) hN hr f1 hg f2 f3 f6 f8 hd2 (fun c j=>by
        grind[a1s]) (fun c hc=>by
        grind) (by simp) (fun p hp=>by
        simp only[List.mem_singleton]at hp;subst hp;exact⟨_,t',0,0,hnew2,by grind,.inl rfl⟩) (fun c k hf _=>hfree c k hf) hsz2 (fun b hb hF=>by
        have:=h.size
        rw[hold2 b (by omega)];exact h.frame b hb hF) hsh hz (hio:=by rw[←hw2];rfl)
      grind
     rcases d6F he f4 with⟨hs,hl0,hO0,hR0⟩|⟨b,n0,c,cs,hs,hb,hnc,hn0,hO,hcl,hcell,hone,hcol⟩
     by_cases hk:ys.length=0
     have hcs:Y.cs=[]:=a02.1 (by rw[Y.size,hk];omega);have hy:ys=[]:=a02.1 hk;have hrun:=a6Z (P:=P) (w2:=w) (ty:=ty) I h0 hu h1 (A:=none) (n:=0) (c:=0) Y.len Y.run (by omega) (fun b hb=>by grind) (fun _=>rfl);subst hs;obtain⟨Γ',σ',k1,k2⟩:=h.turn (w2:=w) (v':=.slice none (0+ys.length) 0) (O2:=[]) (R2:=[]) (l':=a20 l ys) hN hr f1 hg f2 f3 f6 f8 (by
       grind[a20]) (fun c j=>.inl rfl) (by simp) (by simp) (by simp) (fun _ _ hf _=>hf) (a07 _) h.frame (by simp) hz
     grind
     exact grow none 0 0 [] hs (by grind) (by simp) (by simp) (fun _=>rfl) (by rw[hl0,hR0];rfl) (by omega)
     ·have hcell':∀b',some b=some b'→∀j u,cs[j]?=some u→w.cell? (b'.add j)=some u:=fun b' hb' j u hu=>by
       simp at hb';subst hb';have hc0:c≠0:=fun e0=>by
        grind
       rw[b6h (hb.resolve_left hc0)]
       have:=hcell j u hu
       rw[hov]at this;exact this
      by_cases hfit:n0+ys.length≤c
      ·
       let w2:=w.setCells b.block (b.off+n0*e.cells) Y.cs
       have hlive:c≠0→a0Z w b.block (b.off+c*e.cells):=fun hc=>h.live n (b.block,b.off+c*e.cells) (f6 _ (by grind));have hroom:Y.cs≠[]→c≠0∧b.off+n0*e.cells+Y.cs.length≤b.off+c*e.cells:=fun hne=>by
        have:ys.length≠0:=fun e0=>hne (a02.1 (by rw[Y.size,e0];omega))
        refine⟨by omega,?_⟩
        have:=a27 e.cells hfit
        rw[a23,←Y.size]at this;omega
       have hstore:(storeCells (b.add (n0*e.cells)) Y.cs).run P w=.ok () w2:=by
        by_cases hne:Y.cs=[]
        simp[w2,hne];rfl;obtain⟨hc,hle⟩:=hroom hne;rw[a3R (hb.resolve_left hc)]
        have:=run_storeCells_cells (P:=P) b.block (b.off+n0*e.cells) Y.cs 0 w (fun j hj=>((hlive hc).cell (by omega)).1) (fun j hj=>((hlive hc).cell (by omega)).2) (fun u hu=>a9v (Y.one u hu))
        omega
       have hcells:∀c' j,w2.cell? ⟨c',j,none⟩=if c'=b.block∧b.off+n0*e.cells≤j∧j<b.off+n0*e.cells+Y.cs.length then Y.cs[j-(b.off+n0*e.cells)]? else w.cell? ⟨c',j,none⟩:=fun c' j=>by
        by_cases hne:Y.cs=[]
        simp only[w2,hne,World.setCells,a39]
        grind
        grind[a8N]
       have hrun:=a6Z (P:=P) (w2:=w2) (ty:=ty) I h0 hu h1 (A:=some b) (n:=n0) (c:=c) Y.len Y.run hfit (fun b' hb'=>by
        grind) (fun hn=>by grind)
       have hother:∀c',c'≠b.block→w2.heap[c']?=w.heap[c']?:=fun c' hc'=>a4x _ _ _ _ _ hc';have hbO:Y.cs≠[]→b.block∈O'.map (·.1):=fun hne=>by grind
       have hd2:=c2F (m:=a0a w2 none) (m0:=a0a w σ.ov) (b:=b) (n:=n0+ys.length) (c:=c) (cs:=cs++(Y.cs++[])) (l:=a20 l ys) (R:=R'++Y.R) hb hfit (by
         simp only[lN,hcl,Y.size,a39]
         grind) (fun j u hj hu=>by
         simp only[a0a,hcells]
         by_cases hj2:j<n0*e.cells
         rw[if_neg (by omega)];rw[a03 (by omega)]at hu
         have:=hcell j u hu
         rw[hov]at this;exact this;rw[a23,←Y.size]at hj;rw[if_pos ⟨trivial,by omega,by omega⟩];rw[a08 (by omega),a54,hcl]at hu;rw[←hu];congr 1;omega) (by
         have:=row l n0 cs R' [] hcl hcol
         simpa only[a22]using this) (fun c' hc' j=>by
         rw[hov]
         by_cases hne:Y.cs=[]
         grind[World.setCells]
         exact a1s none (hother c' fun e1=>(hsh c' hc').2.2 (by grind)) j)
       rw[←hO]at hd2;subst hs;obtain⟨Γ',σ',k1,k2⟩:=h.turn (w2:=w2) hN hr f1 hg f2 f3 f6 f8 hd2 (fun c' j=>by
         grind[World.setCells,a1s]) (fun c' hc'=>.inl hc') f7 (fun p hp=>(h.live n p (f6 p hp)).setCells _ _ _) (fun _ _ hf _=>hf.setCells _ _ _) (by rw[a6K];simp) (fun b' hb' hF=>by
         by_cases hne:Y.cs=[]
         simp[w2,hne,World.setCells];exact h.frame b' hb' hF
         ·rw[hother b' ?_];exact h.frame b' hb' hF
          ·rintro rfl
           rcases h.mine _ (hownb _ (hbO hne))with g|g
           all_goals grind) hsh hz (hio:=a8O _ _ _ _)
       grind
      exact grow (some b) n0 c cs hs hn0 hcl hcell' (by simp) hcol (by omega)
    simp_all
   simp_all
  simp_all
 simp_all
end
end Go.Ab
namespace Go.Ab
theorem d0Z{m:Mem}{e:Ty}{v:Value}{l:List e.den}{O R}(h:dec m (.list true e) ((Src.one v).rd m)=some (l,O,R)):
  ∃A n c,∃cs:List Value,∃os,v=.slice A n c∧n=l.length∧n≤c∧cs.length=n*e.cells∧(∀u∈cs,a1v u=true)∧a0g (fun i=>dec m e fun j=>cs[i*e.cells+j]?) n 0=some (l,os,R)∧
   (∀b,A=some b→(c=0∨b.spot=none)∧O=(if c=0 then[]else(b.block,b.off+c*e.cells)::os)∧∀j u,cs[j]?=some u→m b.block (b.off+j)=some u)∧(A=none→c=0)∧(c=0→O=[]∧os=[]∧R=[]):=by
 rcases a1W h with⟨hv,rfl,rfl,rfl⟩|⟨b,n,c,os,hv,hb,hn,hx,ho⟩;simp[Src.rd]at hv;exact⟨none,0,0,[],[],hv,rfl,a07 _,by simp,by simp,rfl,by simp,fun _=>rfl,fun _=>⟨rfl,rfl,rfl⟩⟩;simp[Src.rd]at hv;have hx':a0g (fun i=>dec m e fun j=>m b.block (b.off+(i*e.cells+j))) n 0=some (l,os,R):=by simp_all[b9B]
 obtain⟨cs,k1,k2,k3,k4⟩:=b4I hx';have h0:c=0→os=[]∧R=[]:=fun e0=>by
  simp_all[a0g]
 have hO:O=if c=0 then[]else(b.block,b.off+c*e.cells)::os:=by
  grind
 exact⟨some b,n,c,cs,os,hv,(a0W n 0 hx).symm,hn,k1,k3,k4,fun b' hb'=>by
  simp_all,fun g=>(by grind),fun e0=>⟨by simp_all,(h0 e0).1,(h0 e0).2⟩⟩
section
variable {P:Program} {B:Base} {N:Nat} {ρ:Type} {Γ:AE} {a:Act} {w:World} {σ:Gh}
theorem Rel.one{tm}(h:Rel B Γ N tm w σ){n}{e:Ty}{l:List e.den}(hr:Γ.rt n=some ⟨false,.list true e,l⟩):
  ∃v R,σ.g n=.one v∧dec (a0a w σ.ov) (.list true e) ((Src.one v).rd (a0a w σ.ov))=some (l,σ.ow n,R)∧∀c∈R,Shr B w σ c:=by
 obtain⟨O',R,h1,h2,-,-,-,h3⟩:=h.sep hr;rcases h3 with⟨g,-⟩|⟨-,⟨v,hv⟩,-,hO⟩
 grind
 rw[hv]at h1;exact⟨v,R,hv,by rw[hO];exact h1,h2⟩
theorem c4P{d m n:Nat}{es e:Ty}{ys:List e.den}(hes:e.sh=es){t t' ty:TypeId}{ts:Array TypeId}(I:Info P es t')(h0:ts[0]?=some t)(hu:P.underlying t=some (.slice t'))
  (h1:ts[1]?=none∨∃t2,ts[1]?=some t2∧(P.underlying t2=some .string∨∃e,P.underlying t2=some (.slice e)))
  {s x:Value}{K:AE→Rs ρ}{z:ρ}(h:Rel B Γ N (a0p a) w σ)(hN:a.tmps.size=N)(hgn:σ.g n=.one s)(hgm:σ.g m=.one x)(hm:Γ.rt m=some ⟨false,.list true e,ys⟩)(hz:Γ.gathN d m e ys n K=some z):
  ∃v w' Γ' σ',(Builtin.append_ ts ty #[s,x]).run P w=.ok v w'∧Rel B Γ' N (a0p (a.put (some d) v)) w' σ'∧K Γ'=some z:=by
 have hce:es.cells=e.cells:=by rw[←hes,Ty.cells_sh]
 unfold AE.gathN at hz
 split at hz
 rotate_left;cases hz;rename_i e' l hl
 split at hz
 rotate_left;cases hz;rename_i hee;subst hee;obtain⟨hpd,hr⟩:=a0N hl;obtain⟨hc,hz⟩:=(a0i hz).elim id fun h=>by cases h.2
 simp only[bA,lim,dT,a41,beq_eq_false_iff_ne]at hc;obtain⟨⟨hnp,hnm⟩,hlim⟩:=hc;have hov:=h.ov_none hpd;obtain⟨s',Rn,g1,g2,g3⟩:=h.one hr;rw[hgn]at g1;cases g1;obtain⟨x',Rm,f1,f2,f3⟩:=h.one hm;rw[hgm]at f1;cases f1;obtain⟨An,n0,cn,csn,osn,hs,hln,hnc,hcn,hsn,hrn,hAn,hAn0,hcn0⟩:=d0Z g2;obtain⟨Am,k0,cm,csm,osm,hx,hlm,hmc,hcm,hsm,hrm,hAm,hAm0,hcm0⟩:=d0Z f2;subst hs;subst hx;have cell:∀{A:Option Addr}{cs:List Value}{c:Nat}{O os:a1g},(∀b,A=some b→(c=0∨b.spot=none)∧O=(if c=0 then[]else(b.block,b.off+c*e.cells)::os)∧∀j u,cs[j]?=some u→a0a w σ.ov b.block (b.off+j)=some u)→(∃n,cs.length=n*e.cells∧n≤c)→
   ∀b,A=some b→∀j u,cs[j]?=some u→w.cell? (b.add j)=some u:=fun {A cs c O os} hA ⟨n,hl,hle⟩ b hb j u hu=>by
  obtain⟨q1,-,q2⟩:=hA b hb;have hc0:c≠0:=fun e0=>by
   have:=(lS.1 hu).1
   rw[hl,show n=0 from by omega,Nat.zero_mul]at this;omega
  rw[b6h (q1.resolve_left hc0)]
  have:=q2 j u hu
  rw[hov]at this;exact this
 have read:∀(w2:World),(∀x,w2.cell? x=w.cell? x)→∀{A:Option Addr}{cs:List Value}{n c:Nat}{O os:a1g},(∀b,A=some b→(c=0∨b.spot=none)∧O=(if c=0 then[]else(b.block,b.off+c*e.cells)::os)∧∀j u,cs[j]?=some u→a0a w σ.ov b.block (b.off+j)=some u)→
   cs.length=n*e.cells→n≤c→(A=none→c=0)→(Builtin.firstCells es.cells n (.slice A n c)).run P w2=.ok cs.toArray w2:=fun w2 hw A cs n c O os hA hl hle h0=>by
  have:=b2k (P:=P) (w:=w) (w2:=w2) (e:=e) (v:=.slice A n c) rfl hw hl (cell hA ⟨n,hl,hle⟩) (fun g=>by have:=h0 g;omega) n (a07 _)
  rw[←hl,a50]at this;rw[hce];exact this
 have hlen:(Builtin.lenOf (.slice Am k0 cm)).run P w=.ok k0 w:=rfl;have hrows:∀rest,a0g (fun i=>dec (a0a w σ.ov) e fun j=>(csn++(csm++rest))[i*e.cells+j]?) (n0+k0) 0=some (a20 l ys,osn++osm,Rn++Rm):=fun rest=>c2X hrn hcn hrm hcm;have hsubn:∀p∈osn,p∈σ.ow n:=fun p hp=>by
  by_cases e0:cn=0
  rw[(hcn0 e0).2.1]at hp;cases hp
  ·cases hA:An with
   |none=>exact absurd (hAn0 hA) e0
   |some b=>rw[(hAn b hA).2.1,if_neg e0];exact a01 _ hp
 have hsubm:∀p∈osm,p∈σ.ow m:=fun p hp=>by
  by_cases e0:cm=0
  rw[(hcm0 e0).2.1]at hp;cases hp
  ·cases hA:Am with
   |none=>exact absurd (hAm0 hA) e0
   |some b=>rw[(hAm b hA).2.1,if_neg e0];exact a01 _ hp
 have hos:∀p∈osn++osm,p∈σ.ow n∨p∈σ.ow m:=fun p hp=>(mA.1 hp).imp (hsubn p) (hsubm p);have hosO:∀c∈(osn++osm).map (·.1),a0P σ c:=fun c hc=>by
  obtain⟨p,hp,rfl⟩:=a06.1 hc;rcases hos p hp with g|g;exact⟨n,a00 g⟩;exact⟨m,a00 g⟩
 have hndn:(osn.map (·.1)).Nodup:=by
  have:=h.nodup n
  by_cases e0:cn=0
  rw[(hcn0 e0).2.1];simp
  ·cases hA:An with
   |none=>exact absurd (hAn0 hA) e0
   |some b=>rw[(hAn b hA).2.1,if_neg e0]at this;exact(a04.1 this).2
 have hndm:(osm.map (·.1)).Nodup:=by
  have:=h.nodup m
  by_cases e0:cm=0
  rw[(hcm0 e0).2.1];simp
  ·cases hA:Am with
   |none=>exact absurd (hAm0 hA) e0
   |some b=>rw[(hAm b hA).2.1,if_neg e0]at this;exact(a04.1 this).2
 have hnd:((osn++osm).map (·.1)).Nodup:=by
  rw[pA];refine a17.2 ⟨hndn,hndm,fun c hc c' hc' e=>?_⟩;subst e;obtain⟨p,hp,rfl⟩:=a06.1 hc;obtain⟨p',hp',e⟩:=a06.1 hc';exact h.disj n m hnm p.1 (a00 (hsubn p hp)) (by rw[←e];exact a00 (hsubm p' hp'))
 have hshr:∀c∈Rn++Rm,Shr B w σ c:=fun c hc=>(mA.1 hc).elim (g3 c) (f3 c)

 have fin:∀{w2:World}{v':Value}{O2:a1g},dec (a0a w2 none) (.list true e) ((Src.one v').rd (a0a w2 none))=some (a20 l ys,O2,Rn++Rm)→
   (∀c j,c<w.heap.size→c∉(σ.ow n).map (·.1)→a0a w2 none c j=a0a w none c j)→(∀c∈O2.map (·.1),(c∈(σ.ow n).map (·.1)∨c∈(σ.ow m).map (·.1))∨w.heap.size≤c)→(O2.map (·.1)).Nodup→
   (∀p∈O2,a0Z w2 p.1 p.2)→(∀c k,a0Z w c k→a0P σ c→a0Z w2 c k)→w.heap.size≤w2.heap.size→(∀b,b<B.size→¬ B.F b→w2.heap[b]?=B.hp b)→a2n w2=a2n w→
   ∃Γ' σ',Rel B Γ' N (a0p (a.put (some d) v')) w2 σ'∧K Γ'=some z:=by
  intro w2 v' O2 q1 q2 q3 q4 q5 q6 q7 q8 q9;have hrel:=h.topG (w':=w2) (v':=v') (l':=a20 l ys) (O2:=O2) (R2:=Rn++Rm) (G:=fun j=>j==m) hr hnp hpd (by simpa using hnm) (by rw[hov];exact q1) (fun c j c1 c2 _=>by rw[hov];exact q2 c j c1 c2)
   (fun c hc=>(q3 c hc).imp (fun g=>g.imp id fun g=>⟨m,by simp,g⟩) id) q4 q5 q6 q7 q8 (fun c hc=>by
    have hs:=hshr c hc;refine⟨a16 hs.1 q7,hs.2.1,hs.2.2,fun g=>?_⟩;rcases q3 c g with(g|g)|g;exact hs.2.2 ⟨n,g⟩;exact hs.2.2 ⟨m,g⟩
    have:=hs.1;omega) (f:=fun av=>(av.kill n []).drop m) (fun av=>by
    have same:(∀k q,(av=.ptr k q∨av=.sref k q∨∃o l,av=.swin k q o l)→False)→(av.kill n []).drop m=av→(av.kill n []).drop m=.dead∨((av.kill n []).drop m=av∧∀k q,(av=.ptr k q∨av=.sref k q∨∃o l,av=.swin k q o l)→(k=n→av=.ptr n [])∧(k==m)=false):=
     fun h1 h2=>.inr ⟨h2,fun k q hk=>(h1 k q hk).elim⟩
    cases av with
    |sref k q=>
     by_cases e1:k=n
     left;simp[AV.kill,AV.drop,e1,a4O]
     by_cases e2:k=m
     left;simp[AV.kill,AV.drop,e2,Ne.symm hnm];right;simp[AV.kill,AV.drop,e1,e2]
    |swin k q o l=>
     by_cases e1:k=n
     left;simp[AV.kill,AV.drop,e1,a4O]
     by_cases e2:k=m
     left;simp[AV.kill,AV.drop,e2,Ne.symm hnm];right;simp[AV.kill,AV.drop,e1,e2]
    |ptr k q=>
     by_cases e2:k=m
     left
     by_cases e1:k=n
     exact absurd (e1.symm.trans e2) hnm;simp[AV.kill,AV.drop,e2,Ne.symm hnm]
     ·by_cases e1:k=n
      ·cases q with
       |nil=>right;simp[AV.kill,AV.drop,e1,hnm,a4O]
       |cons=>left;simp[AV.kill,AV.drop,e1,a4O]
      right;simp[AV.kill,AV.drop,e1,e2]
    |_=>exact same (by rintro k q (g|g|⟨_,_,g⟩)<;>cases g) rfl) q9
  have hAE:(⟨(Γ.mapv fun av=>(av.kill n []).drop m).sl,fun j=>if j=n then some ⟨false,.list true e,a20 l ys⟩else bif j==m then none else Γ.rt j,none⟩:AE) =
    (((Γ.mapv (AV.kill n [])).mapv (AV.drop m)).setRt m none).setRt n (some ⟨false,.list true e,a20 l ys⟩):=by
   simp only[AE.setRt,AE.mapv,hpd];congr 1;funext j;cases Γ.sl j<;>simp[SV.mapv];funext j
   by_cases e1:j=n
   simp[e1];have e2:(j==n)=false:=by simpa using e1
   simp[e1,e2]
  rw[hAE]at hrel;refine⟨_,_,hrel.putd (sv:=.one (.sref n [])) (v:=v') hN (fun _=>⟨_,e,.one v',b0l _,?_,rfl⟩),hz⟩;show some (_,if n=n then Src.one v' else _)=_
  rw[if_pos rfl]
 by_cases hfit:n0+k0≤cn
 ·cases hA:An with
  |none=>
   have hc0:=hAn0 hA;have hk0:k0=0:=by omega
   have hn00:n0=0:=by omega
   have hl0:a20 l ys=[]:=by
    have e1:l=[]:=a02.1 (by omega);have e2:ys=[]:=a02.1 (by omega);rw[e1,e2];rfl
   have hcsm:csm=[]:=a02.1 (by rw[hcm,hk0];omega);have hRm:Rm=[]:=by
    subst hk0;simp only[a0g,sj,pJ]at hrm;exact hrm.2.2.symm
   have hrun:=a6Z (P:=P) (w:=w) (w2:=w) (ty:=ty) (A:=none) (n:=n0) (c:=cn) (k:=k0) (new:=csm) I h0 hu h1 hlen (read w (fun _=>rfl) hAm hcm hmc hAm0) hfit (fun b hb=>by cases hb) (fun _=>rfl);obtain⟨Γ',σ',k1,k2⟩:=fin (w2:=w) (v':=.slice none (n0+k0) cn) (O2:=[]) (by
    rw[hl0,hk0,hn00,hc0,(hcn0 hc0).2.2,hRm];rfl) (fun _ _ _ _=>rfl) (by simp) (by simp) (by simp) (fun _ _ hf _=>hf) (a07 _) h.frame rfl
   exact⟨_,w,Γ',σ',hrun,k1,k2⟩
  |some b=>
   obtain⟨hb,hO,hcell⟩:=hAn b hA;obtain⟨w2,hw2⟩:∃w2,w2=w.setCells b.block (b.off+n0*e.cells) csm:=⟨_,rfl⟩;have hlive:cn≠0→a0Z w b.block (b.off+cn*e.cells):=fun hc=>h.live n (b.block,b.off+cn*e.cells) (by rw[hO,if_neg hc];simp);have hroom:csm≠[]→cn≠0∧b.off+n0*e.cells+csm.length≤b.off+cn*e.cells:=fun hne=>by
    have:k0≠0:=fun e0=>hne (a02.1 (by rw[hcm,e0];omega))
    refine⟨by omega,?_⟩
    have:=a27 e.cells hfit
    rw[a23,←hcm]at this;omega
   have hstore:(storeCells (b.add (n0*es.cells)) csm).run P w=.ok () w2:=by
    rw[hce,hw2]
    by_cases hne:csm=[]
    simp only[hne];rfl;obtain⟨hc,hle⟩:=hroom hne;rw[a3R (hb.resolve_left hc)]
    have:=run_storeCells_cells (P:=P) b.block (b.off+n0*e.cells) csm 0 w (fun j hj=>((hlive hc).cell (by omega)).1) (fun j hj=>((hlive hc).cell (by omega)).2) (fun u hu=>a9v (hsm u hu))
    simpa using this
   have hcells:∀c' j,w2.cell? ⟨c',j,none⟩=if c'=b.block∧b.off+n0*e.cells≤j∧j<b.off+n0*e.cells+csm.length then csm[j-(b.off+n0*e.cells)]? else w.cell? ⟨c',j,none⟩:=fun c' j=>by
    rw[hw2]
    by_cases hne:csm=[]
    simp only[hne,World.setCells,a39];rw[if_neg (by omega)];obtain⟨hc,hle⟩:=hroom hne;exact a8N _ _ _ w _ (hlive hc) hle c' j
   have hrun:=a6Z (P:=P) (w:=w) (w2:=w2) (ty:=ty) (A:=some b) (n:=n0) (c:=cn) (k:=k0) (new:=csm) I h0 hu h1 hlen (read w (fun _=>rfl) hAm hcm hmc hAm0) hfit (fun b' hb'=>by
    simp only[sj]at hb';subst hb';exact hstore) (fun hn=>by cases hn)
   have hother:∀c',c'≠b.block→w2.heap[c']?=w.heap[c']?:=fun c' hc'=>by rw[hw2];exact a4x _ _ _ _ _ hc'
   have hbO:csm≠[]→b.block∈(σ.ow n).map (·.1):=fun hne=>by rw[hO,if_neg (hroom hne).1];simp
   have hmem:∀c',(csm≠[]→c'≠b.block)→∀j,a0a w2 none c' j=a0a w σ.ov c' j:=fun c' hc' j=>by
    rw[hov]
    by_cases hne:csm=[]
    rw[hw2,hne];rfl;exact a1s none (hother c' (hc' hne)) j
   have hd2:=c2F (m:=a0a w2 none) (m0:=a0a w σ.ov) (b:=b) (n:=n0+k0) (c:=cn) (cs:=csn++(csm++[])) (l:=a20 l ys) (os:=osn++osm) (R:=Rn++Rm) hb hfit (by
     simp only[lN,hcn,hcm,a39];rw[a23];omega) (fun j u hj hu=>by
     simp only[a0a,hcells]
     by_cases hj2:j<n0*e.cells
     rw[if_neg (by omega)];rw[a03 (by omega)]at hu
     have:=hcell j u hu
     rw[hov]at this;exact this;rw[a23,←hcm]at hj;rw[if_pos ⟨trivial,by omega,by omega⟩];rw[a08 (by omega),a54,hcn]at hu;rw[←hu];congr 1;omega) (hrows []) (fun c' hc' j=>hmem c' (fun hne e1=>(hshr c' hc').2.2 ⟨n,by rw[e1];exact hbO hne⟩) j) (fun c' hc' j=>hmem c' (fun hne e1=>by
     obtain⟨p,hp,rfl⟩:=a06.1 hc';rcases mA.1 hp with hp|hp
     have:=h.nodup n
     rw[hO,if_neg (hroom hne).1,a09,a04]at this;exact this.1 (by show b.block∈_;rw[←e1];exact a00 hp);exact h.disj n m hnm b.block (hbO hne) (by rw[←e1];exact a00 (hsubm p hp))) j)
   have hO2:∀p∈(if cn=0 then[]else(b.block,b.off+cn*e.cells)::(osn++osm)),p∈σ.ow n∨p∈σ.ow m:=fun p hp=>by
    split at hp
    cases hp;rename_i hc;rcases mC.1 hp with rfl|hp;left;rw[hO,if_neg hc];simp;exact hos p hp
   obtain⟨Γ',σ',k1,k2⟩:=fin (w2:=w2) hd2 (fun c' j hc' hn'=>by
     have:=hmem c' (fun hne e1=>hn' (by rw[e1];exact hbO hne)) j
     rw[hov]at this;exact this) (fun c' hc'=>by
     obtain⟨p,hp,rfl⟩:=a06.1 hc';exact .inl ((hO2 p hp).imp a00 a00)) (by
     split
     simp
     rename_i hc;rw[a09,a04];refine⟨fun g=>?_,hnd⟩;obtain⟨p,hp,e1⟩:=a06.1 g;have e1:p.1=b.block:=e1;rcases mA.1 hp with hp|hp
     have:=h.nodup n
     rw[hO,if_neg hc,a09,a04]at this;exact this.1 (by show b.block∈_;rw[←e1];exact a00 hp);exact h.disj n m hnm b.block (by rw[hO,if_neg hc];simp) (by rw[←e1];exact a00 (hsubm p hp))) (fun p hp=>by
     have:a0Z w p.1 p.2:=(hO2 p hp).elim (h.live n p) (h.live m p)
     rw[hw2];exact this.setCells _ _ _) (fun _ _ hf _=>by rw[hw2];exact hf.setCells _ _ _) (by rw[hw2,a6K];exact a07 _) (fun b' hb' hF=>by
     by_cases hne:csm=[]
     rw[hw2,hne];exact h.frame b' hb' hF;rw[hother b' ?_];exact h.frame b' hb' hF
     rintro rfl
     rcases h.mine _ ⟨n,hbO hne⟩with g|g;exact hF g;omega) (by rw[hw2];exact a8O _ _ _ _)
   exact⟨_,w2,Γ',σ',hrun,k1,k2⟩
 have hgt:cn<n0+k0:=by omega
 have hrun:=b1W (P:=P) (w:=w) (ty:=ty) (A:=An) (n:=n0) (c:=cn) (k:=k0) (old:=csn) (new:=csm) I h0 hu h1 hlen (read w.drew (fun _=>rfl) hAm hcm hmc hAm0) (read w.drew (fun _=>rfl) hAn hcn hnc hAn0) hgt (by rw[hln,hlm];exact hlim);have hge:=grownCap_ge w (n0+k0) cn t';generalize hw2:w.drew.alloc _=w2 at hrun;generalize hgc:grownCap w (n0+k0) cn t'=gc at hrun hge;have hold2:∀c,c<w.heap.size→w2.heap[c]?=w.heap[c]?:=fun c hc=>by rw[←hw2];exact a2j (w:=w.drew) _ c hc
 have hnew2:=a2k (w:=w.drew) (.cells (csn++(csm++(Builtin.zeroCells I.z.cells (gc-(n0+k0))).toList)).toArray t');have hnew2:w2.heap[w.heap.size]?=some (.cells (csn++(csm++(Builtin.zeroCells I.z.cells (gc-(n0+k0))).toList)).toArray t'):=by
  rw[←hw2,hgc];exact hnew2
 have hsz2:w.heap.size≤w2.heap.size:=by rw[←hw2];exact a2O (w:=w.drew) _
 have zsz:∀k,(Builtin.zeroCells I.z.cells k).size=k*e.cells:=fun k=>by rw[c4O,size_madeCells,I.zsize,hce]
 have hcs2:(csn++(csm++(Builtin.zeroCells I.z.cells (gc-(n0+k0))).toList)).length=gc*e.cells:=by
  simp only[lN,hcn,hcm,a40,zsz];rw[←a23,←a23];congr 1;omega
 have hd2:=c2F (m:=a0a w2 none) (m0:=a0a w σ.ov) (b:=⟨w.heap.size,0,none⟩) (n:=n0+k0) (c:=gc) (cs:=csn++(csm++(Builtin.zeroCells I.z.cells (gc-(n0+k0))).toList)) (os:=osn++osm) (.inr rfl) hge (by
   rw[hcs2];exact a27 _ hge) (fun j u _ hu=>by
   simp only[a0a,a18,World.cell?,hnew2];simpa using hu) (hrows _) (fun c hc j=>by
   rw[hov];exact a1s none (hold2 c (hshr c hc).1) j) (fun c hc j=>by
   rw[hov];exact a1s none (hold2 c (h.lt (hosO c hc))) j)
 have hgc0:gc≠0:=by omega
 rw[if_neg hgc0]at hd2;have hfree:∀c k,a0Z w c k→a0Z w2 c k:=fun c k hf=>by
  obtain⟨cc,e1,lo,hi,g1,g2⟩:=hf;exact⟨cc,e1,lo,hi,by rw[hold2 c (Array.getElem?_eq_some_iff.1 g1).1];exact g1,g2⟩
 obtain⟨Γ',σ',k1,k2⟩:=fin (w2:=w2) hd2 (fun c j hc _=>a1s none (hold2 c hc) j) (fun c hc=>by
   rw[a09,mC]at hc;rcases hc with hc|hc;exact .inr (by have hc:c=w.heap.size:=hc;omega);obtain⟨p,hp,rfl⟩:=a06.1 hc;exact .inl ((hos p hp).imp a00 a00)) (by
   rw[a09,a04];refine⟨fun g=>?_,hnd⟩
   have:=h.lt (hosO _ g)
   exact absurd this (Nat.lt_irrefl _)) (fun p hp=>by
   rcases mC.1 hp with rfl|hp;exact⟨_,t',0,0,hnew2,by show 0+gc*e.cells≤_;rw[a48,hcs2];omega,.inl rfl⟩;exact hfree _ _ ((hos p hp).elim (h.live n p) (h.live m p))) (fun c k hf _=>hfree c k hf) hsz2 (fun b hb hF=>by
   have:=h.size
   rw[hold2 b (by omega)];exact h.frame b hb hF) (by rw[←hw2];rfl)
 exact⟨_,w2,Γ',σ',by rw[←hce]at *;exact hrun,k1,k2⟩
theorem d3A{d m:Nat}{r:Root}{y:Operand}{q:a0R}(h:Γ.opd y=.sref m q)(hd:d≠m):(Γ.newRt d r).opd y=.sref m q:=by
 unfold AE.newRt;split;exact h
 ·cases y with
  |tmp t=>
   have e:(m==d)=false:=by grind
   simp[AE.opd,AE.get,AE.setRt,AE.mapv]at h⊢
   grind[SV.mapv,AV.drop]
  |_=>exact h
theorem Rel.top1{tm}(h:Rel B Γ N tm w σ){k:Nat}{r:Root}{v:Value}(hr:Γ.rt k=some r)(hb:r.bx=false)(hv:a0j (a0a w σ.ov) σ.g Γ.rt (Shr B w σ) (.sref k []) v):σ.g k=.one v:=by
 obtain⟨r',e',s',k1,k2,k3⟩:=hv;rw[hr]at k1;cases k1;simp[a0V]at k2;obtain⟨O',R,-,-,hc⟩:=(h.roots k r hr).rd;rcases hc with⟨g,-⟩|⟨-,⟨v0,hv0⟩,-⟩;simp_all;rw[←k2.2,hv0]at k3;simp_all[Src.rd]
theorem d3B{d m:Nat}{es e:Ty}{ys:List e.den}(hes:e.sh=es){t t' ty:TypeId}{ts:Array TypeId}(I:Info P es t')(h0:ts[0]?=some t)(hu:P.underlying t=some (.slice t'))
  (h1:ts[1]?=none∨∃t2,ts[1]?=some t2∧(P.underlying t2=some .string∨∃e,P.underlying t2=some (.slice e)))
  {s:Value}{av:AV}{y:Operand}{K:AE→Rs ρ}{z:ρ}(h:Rel B Γ N (a0p a) w σ)(hN:a.tmps.size=N)(hav:a0j (a0a w σ.ov) σ.g Γ.rt (Shr B w σ) av s)(hyo:a1u N y=true)(hy:Γ.opd y=.sref m [])
  (hm:Γ.look m=some ⟨false,.list true e,ys⟩)(hz:Γ.gath d m e ys av K=some z):
  ∃v w' Γ' σ',(Builtin.append_ ts ty #[s,a.eval y]).run P w=.ok v w'∧Rel B Γ' N (a0p (a.put (some d) v)) w' σ'∧K Γ'=some z:=by
 obtain⟨hpd,hm⟩:=a0N hm;unfold AE.gath at hz
 split at hz
 have hav:s=.slice none 0 0:=hav;subst hav;rcases a0i hz with⟨-,g⟩|⟨hdm,hz⟩;cases g;have hdm:d≠m:=by simpa using hdm
 obtain⟨Γ1,σ1,k1,k2,k3,k4,k5,k6⟩:=h.fresh hz (fun _ _=>rfl) (a07 _) (s:=.one (.slice none 0 0)) (O:=[]) (by simp) (by simp) (by simp) ⟨[],[],rfl,by simp,.inr ⟨rfl,⟨_,rfl⟩,⟨e,rfl⟩,rfl⟩⟩;have hm1:Γ1.rt m=some ⟨false,.list true e,ys⟩:=by
  have e1:(m==d)=false:=by simpa using Ne.symm hdm
  rw[k6];unfold AE.newRt
  split<;>simp[AE.setRt,AE.mapv,e1,hm]
 have hx1:=k2.opd hyo;rw[k6,d3A hy hdm,←k6]at hx1;exact c4P hes I h0 hu h1 k2 hN k4 (k2.top1 hm1 rfl hx1) hm1 k1;rename_i n;have hx:=h.opd hyo;rw[hy]at hx;have hn:∃l,Γ.rt n=some ⟨false,.list true e,l⟩:=by
  unfold AE.gathN at hz
  split at hz
  rename_i e' l hl
  split at hz
  rename_i hee;subst hee;exact⟨l,(a0N hl).2⟩;cases hz;cases hz
 obtain⟨l,hn⟩:=hn;exact c4P hes I h0 hu h1 h hN (h.top1 hn rfl hav) (h.top1 hm rfl hx) hm hz;simp_all
end
end Go.Ab
namespace Go.Ab
section
variable {P:Program} {B:Base} {N:Nat} {ρ:Type} {Γ:AE} {a:Act} {w:World} {σ:Gh}
theorem b1u.news{m Sh}{e:Ty}{l:List e.den}{v:Value}(h:b1u w m Sh e l v):Nonempty (News P w m Sh e l v):=by
 obtain⟨A,n,c,cs,hv,hn,hlen,hone,⟨R,hcol,hR⟩,hc,hnone,-⟩:=h;have f1:=b2k (P:=P) (w:=w) (w2:=w) (e:=e) hv (fun _=>rfl) hlen hc hnone n (a07 _);have f2:=b2k (P:=P) (w:=w) (w2:=w.drew) (e:=e) hv (fun _=>rfl) hlen hc hnone n (a07 _);rw[←hlen,a50]at f1 f2;refine⟨⟨cs,?_,by simp_all,hone,R,by simp_all,hR,by simp_all,by simp_all⟩⟩;rw[hv,←hn];rfl
theorem d4J{m Sh}(s:ByteArray){l:List (Ty.int .u8).den}(hl:l=(s.data.toList.map fun b=>(b.toNat:Int):List Int)):Nonempty (News P w m Sh (.int .u8) l (.string s)):=by
 have hlen:(s.data.toList.map fun b=>(b.toNat:Int)).length=s.size:=by simp
 have hlen':l.length=s.size:=(congrArg a21 hl).trans hlen;have hfirst:∀w:World,(Builtin.firstCells (Ty.int .u8).cells s.size (.string s)).run P w=.ok (s.data.toList.map fun b=>Value.int .u8 (b.toNat:Int)).toArray w:=fun w=>by
  have hx:s.extract 0 s.size=s:=by simp
  simp only[Builtin.firstCells,hx,Sem.run_pure];congr 1
  grind
 refine⟨⟨s.data.toList.map fun b=>Value.int .u8 (b.toNat:Int),?_,?_,?_,[],?_,by simp,?_,?_⟩⟩;rw[hlen'];rfl;rw[hlen',a55];show s.data.toList.length=s.size*1
 simp
 intro u hu;obtain⟨b,-,rfl⟩:=a06.1 hu;rfl
 ·have key:∀(l:List UInt8)(pre:List Value)(i:Nat),pre.length=i→a0g (fun i=>dec m (.int .u8) fun j=>(pre++l.map fun b=>Value.int .u8 (b.toNat:Int))[i*(Ty.int .u8).cells+j]?) l.length i =
    some ((l.map fun b=>(b.toNat:Int):List Int),[],[]):=by
   intro l
   induction l with
   |nil=>intro pre i _;rfl
   |cons b l ih=>
    intro pre i hp;have h1:=ih (pre++[Value.int .u8 (b.toNat:Int)]) (i+1) (by grind);simp at h1;have hcell:(pre++(b::l).map fun b=>Value.int .u8 (b.toNat:Int))[i*(Ty.int .u8).cells+0]?=some (.int .u8 (b.toNat:Int)):=by
     show(pre++_)[i*1+0]?=_;simp_all
    simp only[lC,a0g];rw[show dec m (.int .u8) (fun j=>(pre++(b::l).map fun b=>Value.int .u8 (b.toNat:Int))[i*(Ty.int .u8).cells+j]?)=some ((b.toNat:Int),[],[])from by
     simp only[dec];rw[hcell];rfl]
    simp only[a09];rw[h1];rfl
  have:=key s.data.toList [] 0 rfl
  rw[hlen'];rw[show s.data.toList.length=s.size from rfl]at this;rw[hl];exact this
 all_goals simp_all
theorem d0g{o:Oper}{c:Call}{d:Nat}{cx:Cx}{q:Bool}{K:AE→Rs ρ}{z:ρ}(hcx:CxTy P cx)(ho:o.op=.call c)(hb:c.callee=.builtin .append)(hd:o.dst=some d)
  (h:Rel B Γ N (a0p a) w σ)(hN:a.tmps.size=N)(hf:fits N o=true)(hz:aop cx q o Γ K=some z):a0w P B N o a w K z:=by
 obtain⟨cs,hrun⟩:=b8P (P:=P) (a:=a) (w:=w) ho hb;have hl:∃x y,c.args.toList=[x,y]:=by
  cases hl:c.args.toList with
  |nil=>simp_all[aop,AE.blt]
  |cons x l=>
   cases l with
   |nil=>simp_all[aop,AE.blt]
   |cons y l=>
    cases l with
    |nil=>simp
    |cons u l=>simp_all[aop,AE.blt]
 obtain⟨x,y,hxy⟩:=hl;have hargs:c.args=#[x,y]:=by grind
 have hops:=b7p ho hb hf;rw[hxy]at hops;have hx:=h.opd (hops x (by simp));have hy:=h.opd (hops y (by simp));simp[aop,ho,hd,hb,hxy,AE.blt]at hz;obtain⟨hni,hz⟩:=(a0i hz).elim id fun h=>by grind
 have h1:=d0f hcx hni
 split at hz
 ·rename_i o' e hT;obtain⟨t,ht,hT⟩:=a31.1 hT;have ht0:c.argTypes[0]?=some t:=by
   rw[←a19];cases hl:c.argTypes.toList with
   |nil=>simp_all
   |cons y l=>simp_all
  obtain⟨hsh,hty⟩:=hcx.T t _ hT;obtain⟨t',hu,hte,hpos⟩:=a1X hty;obtain⟨I⟩:=a0E (a0L hte);have he:e.sh=e:=by
   simp_all[Ty.sh]
  have fin:∀ys,Nonempty (News P w (a0a w σ.ov) (Shr B w σ) e ys (a.eval y))→Γ.apnd q d e (Γ.opd x) ys K=some z→a0w P B N o a w K z:=by
   rintro ys ⟨Y⟩ hz
   obtain⟨v,w',Γ',σ',k1,k2,k3⟩:=d3z (ty:=o.type) he I ht0 hu h1 h hN hx Y hz;refine⟨v,w',Γ',σ',.inl (hrun.trans ?_),by simp_all,k3⟩;simp_all[builtin]
  split at hz
  grind[a0j.str,d4J]
  ·split at hz
   ·rename_i m e' ys hown;have hz1:=hz;cases q with
    |true=>simp_all
    |false=>
     cases hel:e.isList with
     |false=>simp_all
     |true=>
      rw[hel]at hown;have hown:Γ.ownB e (Γ.opd y)=some (m,⟨e',ys⟩):=hown;have key:Γ.opd y=.sref m []∧Γ.look m=some ⟨false,.list true e',ys⟩∧e'.sh=e:=by
       revert hown
       cases Γ.opd y with
       |sref k p=>
        cases p with
        |cons=>simp_all[AE.ownB]
        |nil=>
         intro hown;simp[AE.ownB]at hown
         grind
       |_=>intro hown;simp[AE.ownB]at hown
      obtain⟨k1,k2,k3⟩:=key;obtain⟨v,w',Γ',σ',j1,j2,j3⟩:=d3B (ty:=o.type) k3 I ht0 hu h1 h hN hx (hops y (by simp)) k1 k2 hz1;exact⟨v,w',Γ',σ',.inl (hrun.trans (by simp_all[builtin])),by simp_all,j3⟩
   obtain⟨l,hz,hE⟩:=h.elems he hy hz;exact fin l hE.news hz
 simp_all
end
end Go.Ab
namespace Go.Ab
theorem d4K(n:Nat)(av:AV):AV.kill n [] av=.dead∨(AV.kill n [] av=av∧∀k q,(av=.ptr k q∨av=.sref k q∨∃o l,av=.swin k q o l)→k=n→av=.ptr n []):=by
 cases av with
 |ptr m q=>
  simp only[AV.kill]
  by_cases hm:m=n
  ·subst hm;cases q with
   |nil=>simp
   |cons=>left;simp[a4O]
  simp_all
 |sref m q=>
  grind[AV.kill,a4O]
 |swin m q o k=>
  grind[AV.kill,a4O]
 |_=>exact .inr ⟨rfl,fun k q h1 _=>by rcases h1 with h1|h1|⟨_,_,h1⟩<;>cases h1⟩
section
variable {P:Program} {B:Base} {N:Nat} {ρ:Type} {Γ:AE} {a:Act} {w:World} {σ:Gh}
theorem d0h{o:Oper}{x:Operand}{d:Nat}{cx:Cx}{q:Bool}{K:AE→Rs ρ}{z:ρ}(ho:o.op=.assign x)(hd:o.dst=some d)
  (h:Rel B Γ N (a0p a) w σ)(hN:a.tmps.size=N)(hf:fits N o=true)(hz:aop cx q o Γ K=some z):a0w P B N o a w K z:=by
 have hx:=h.opd (a0X hf x (by simp[ho,Op.operands]));have hrun:(execOp a.eval o).run P w=.ok (.value (a.eval x)) w:=by simp[execOp,ho]
 simp[aop,ho,hd]at hz;have same:∀av,Γ.opd x=av→K (Γ.set d av)=some z→a0w P B N o a w K z:=fun av hav hz=>a0w.set hd hN hrun h (hav▸hx) hz
 split at hz
 case h_2=>
  rename_i c vs hs;cases x with
  |tmp t=>
   have hs:Γ.sl t=.cmp c vs:=hs;have ht:t<N:=by have:=a0X hf (.tmp t) (by simp[ho,Op.operands]);simpa[a1u]using this
   have hsl:=h.slots t ht;rw[hs]at hsl;exact⟨_,w,_,σ,.inl hrun,by rw[hd];exact h.putd hN (fun _=>hsl),hz⟩
  |_=>cases hs
 rename_i vx hvx;have hvx:vx=Γ.opd x:=by
  cases x with
  |tmp t=>
   have hvx:Γ.sl t=.one vx:=hvx;simp_all[AE.opd,AE.get]
  |_=>exact(SV.one.inj hvx).symm
 subst hvx;unfold AE.asg at hz
 split at hz
 rename_i r hav
 split at hz
 rename_i t x0 hl;obtain⟨hpd,hr⟩:=a0N hl;rcases a0i hz with⟨-,hz⟩|⟨hrd,hz⟩;simp_all;rcases a0i hz with⟨-,hz⟩|⟨-,hz⟩;simp_all;obtain⟨hdp,hz⟩:=(a0i hz).elim id fun h=>by grind
 have hdp:d<pinned:=by simp_all
 have hne:r≠d:=by
  simp_all
 have h1:=h.drop (n:=d) (by simp_all);have hr1:((Γ.mapv (AV.drop d)).setRt d none).rt r=some ⟨false,t,x0⟩:=by
  grind[AE.setRt,AE.mapv]
 have h2:=h1.rename hr1 (d:=d) (b0l _) (fun i b e _=>by omega) (by simp_all[AE.setRt,AE.mapv]);have hΓ:((((Γ.mapv (AV.drop d)).setRt d none).mapv (AV.ren r d)).setRt r none).setRt d (some ⟨false,t,x0⟩)=(((Γ.mapv (AV.drop d)).mapv (AV.ren r d)).setRt r none).setRt d (some ⟨false,t,x0⟩):=by
  simp only[AE.setRt,AE.mapv]
  grind
 rw[hΓ]at h2;rw[hav]at hx;obtain⟨r',e',s',g1,g2,g3⟩:=hx;rw[hr]at g1;simp at g1;subst g1;simp[a0V]at g2;have hloc:loc (a0a w σ.ov) t (if d=d then σ.g r else σ.g d) []=some (.list true e',s'):=by
  show some (t,if d=d then σ.g r else _)=_
  simp_all
 have h3:=h2.putd (sv:=.one (.sref d [])) (v:=a.eval x) (d:=d) hN (fun _=>⟨⟨false,t,x0⟩,e',s',b0l _,hloc,g3⟩);exact⟨_,w,_,_,.inl hrun,by rw[hd];exact h3,hz⟩;simp_all
 ·rename_i r k hav
  split at hz
  ·rename_i e l hl;obtain⟨hpd,hr⟩:=a0N hl;rcases a0i hz with⟨hrd,hz⟩|⟨-,hz⟩
   ·simp only[bA,beq_iff_eq]at hrd;obtain⟨rfl,-⟩:=hrd;obtain⟨hkl,hz⟩:=(a0i hz).elim id fun h=>by grind
    simp at hkl;replace hkl:=hkl.symm;rw[hav]at hx;obtain⟨s,O',R',a0,n0,c,f1,f2,f3,f4,f5,f6,a',hv,f7,f8⟩:=h.window hx hr (show a1p (.list true e) l []=⟨.list true e,l⟩from rfl);rw[a18]at f6;rw[Nat.sub_zero]at hv;have hov:=h.ov_none hpd;simp[a0V]at f1;obtain⟨O1,R1,k1,k2,k3,k4,k5,k6⟩:=h.sep hr;rw[f1]at k1;have hd0:dec (a0a w σ.ov) (.list true e) (s.rd (a0a w σ.ov))=some (l,O',R'):=a0x _ f3 (fun j hj=>by
     have hj0:j=0:=by simp_all[Ty.cells]
     subst hj0;rw[f2];rfl) (fun _ _ _=>rfl)
    rw[hd0]at k1;simp at k1;obtain⟨rfl,rfl⟩:=k1;have key:∃O2 R2,dec (a0a w σ.ov) (.list true e) ((Src.one (.slice a' k c)).rd (a0a w σ.ov))=some (a38 k l,O2,R2)∧(∀p∈O2,p∈O')∧(O2.map (·.1)).Nodup∧(∀c∈R2,c∈R'):=by
     rcases a1W f3 with⟨hs,hl0,-,-⟩|⟨A,n1,c1,os,hs,hA,hn,hx',ho⟩
     ·simp[Src.rd]at hs;obtain⟨rfl,rfl,rfl⟩:=hs;have hk:k=0:=by omega
      subst hk;refine⟨[],[],?_,by simp,by simp,by simp⟩;show a1j (a0a w σ.ov) true e.cells (dec (a0a w σ.ov) e) (some (.slice a' 0 0))=some (([]:List e.den),[],[]);cases a' with
      |none=>rfl
      |some b=>rfl
     ·simp[Src.rd]at hs;obtain⟨rfl,rfl,rfl⟩:=hs;rw[show n0=k+(n0-k)from by omega]at hx';obtain⟨os1,rs1,os2,rs2,j1,-,rfl,rfl⟩:=a4W k _ 0 hx';have hnd:=k3.nodup
      by_cases hc:c=0
      ·subst hc;have hk:k=0:=by omega
       subst hk;refine⟨[],[],?_,by simp,by simp,by simp⟩;show a1j (a0a w σ.ov) true e.cells (dec (a0a w σ.ov) e) (some (.slice a' 0 0))=some (([]:List e.den),[],[]);cases a' with
       |none=>rfl
       |some b=>rfl
      ·rcases ho with⟨h0,-⟩|⟨-,ho⟩;omega
       ·have ha':a'=some ⟨A.block,A.off,none⟩:=by
         simp_all[a3R]
        subst ha';refine⟨(A.block,A.off+c*e.cells)::os1,rs1,c4G (a:=⟨A.block,A.off,none⟩) rfl rfl (by omega) hc j1,?_,?_,fun c hc=>a26 _ hc⟩
        all_goals grind
    obtain⟨O2,R2,j1,j2,j3,j4⟩:=key;have hsub:∀p∈O2,p∈σ.ow r:=fun p hp=>by
     simp_all
    have hsubc:∀c∈O2.map (·.1),c∈(σ.ow r).map (·.1):=fun c hc=>by
     grind
    have hrel:=h.top hr hkl.2 hpd (w':=w) (v':=.slice a' k c) (l':=a38 k l) j1 (fun _ _ _ _=>rfl) (fun c hc=>.inl (hsubc c hc)) j3 (fun p hp=>h.live r p (hsub p hp)) (fun _ _ hf _=>hf) (a07 _) h.frame
     (fun c hc=>by
      have hs:=f4 c (j4 c hc);exact⟨hs.1,hs.2.1,hs.2.2,fun g=>hs.2.2 ⟨r,hsubc c g⟩⟩) (f:=AV.kill r []) (d4K r)
    have hloc:loc (a0a w σ.ov) (.list true e) (if r=r then Src.one (.slice a' k c)else σ.g r) []=some (.list true e,.one (.slice a' k c)):=by
     show some (_,if r=r then Src.one _ else _)=_
     simp
    have h3:=hrel.putd (sv:=.one (.sref r [])) (v:=a.eval x) (d:=r) hN (fun _=>⟨⟨false,.list true e,a38 k l⟩,e,.one (.slice a' k c),b0l _,hloc,by rw[hv];rfl⟩);exact⟨_,w,_,_,.inl hrun,by rw[hd];exact h3,hz⟩
   simp_all
  simp_all
 simp_all
end
end Go.Ab
namespace Go.Ab
theorem Rel.move{B Γ N tm w σ}(h:Rel B Γ N tm w σ){n r p ε b o y O1 R1}(hr:Γ.rt n=some r)(hl:loc (a0a w σ.ov) r.t (σ.g n) p=some ((.list true ε),.at b o))
  (hy:dec (a0a w σ.ov) (.list true ε) ((Src.at b o).rd (a0a w σ.ov))=some (y,O1,R1)){m0:Nat}{y':List ε.den}{v:Value}(hm0:Γ.rt m0=some ⟨false,(.list true ε),y'⟩)(hg0:σ.g m0=.one v)(hne0:m0≠n)(hpd:Γ.pd=none)
  {f:AV→AV}(hf:∀a,f a=.dead∨(f a=a∧c8m n p (.list true ε) a∧∀k q,(a=.ptr k q∨a=.sref k q∨∃o l,a=.swin k q o l)→k≠m0)):
  ∃ow',Rel B (((Γ.mapv f).setRt m0 none).setRt n (some ⟨r.bx,r.t,a1U r.t r.x p (.list true ε) y'⟩)) N tm (w.setCell ⟨b,o,none⟩ v) ⟨σ.g,ow',none⟩:=by
 have hov:σ.ov=none:=h.ov_none hpd;obtain⟨O2,R2,i1,i2,i3,i4,i5,i6⟩:=h.sep hm0;have i6:σ.ow m0=O2:=by
  simp_all
 rw[hg0]at i1;obtain⟨w',hw'⟩:∃w',w'=w.setCell ⟨b,o,none⟩ v:=⟨_,rfl⟩;rw[←hw'];have hb0:b∈(σ.ow n).map (·.1):=h.place hr hl;have hroom:=h.room hr hl;have hcells1:(Ty.list true ε).cells=1:=rfl;have hmem0:∀c j,a0a w' none c j=if c=b∧j=o then some v else a0a w σ.ov c j:=fun c j=>by
  rw[hov,hw'];simp[a0a]
  by_cases e1:c=b∧j=o
  obtain⟨rfl,rfl⟩:=e1
  have:=(hroom.cell (o:=j) (by omega)).1
  grind[a42,World.cell?_setCell_same]
  rw[if_neg e1,World.cell?_setCell_other]
  grind
 have hchg:∀c j,a0a w' none c j=a0a w σ.ov c j∨(c=b∧o≤j∧j<o+(Ty.list true ε).cells)∨c∈O1.map (·.1)∨w.heap.size≤c:=fun c j=>by
  grind
 have hy':dec (a0a w' none) (.list true ε) ((Src.at b o).rd (a0a w' none))=some (y',O2,R2):=by
  refine a0x _ i1 (fun j hj=>?_) (fun c j hc=>?_);simp_all[Src.rd];rw[hmem0,if_neg]
  rintro⟨rfl,-⟩
  rcases hc with hc|hc;exact h.disj n m0 (Ne.symm hne0) c hb0 (i4 c hc);exact(i2 c hc).2.2 ⟨n,hb0⟩
 have hO2:∀c∈O2.map (·.1),c∈(σ.ow m0).map (·.1):=i4;have hn2:(O2.map (·.1)).Nodup:=i3.nodup;have hfree:∀c k,a0Z w c k→a0P σ c→a0Z w' c k:=fun c k hf _=>by rw[hw'];exact hf.setCell _ _
 have hlive:∀p∈O2,a0Z w' p.1 p.2:=fun p hp=>by
  rw[←i6]at hp;exact hfree _ _ (h.live m0 p hp) ⟨m0,a00 hp⟩
 have hsz:w.heap.size≤w'.heap.size:=by simp_all
 have hfr:∀b,b<B.size→¬ B.F b→w'.heap[b]?=B.hp b:=fun c hc hF=>by
  rw[hw',a9J,if_neg];exact h.frame c hc hF
  ·rintro rfl
   rcases h.mine c ⟨n,hb0⟩with g|g
   all_goals grind
 obtain⟨O',R,h1,h2,h3,h4,h5,h6⟩:=h.sep hr;obtain⟨y1,O1',R1',A1,B1,A1',B1',hd,hg,e1,e2⟩:=a1G p r.t _ h1 hl;rw[hy]at hd;simp at hd;obtain⟨rfl,rfl,rfl⟩:=hd;have hO1:∀c,c∈O1.map (·.1)→c∈(σ.ow n).map (·.1):=fun c hc=>h4 c (by grind);have hb:b∈(σ.ow n).map (·.1):=h.place hr hl;have hc1:Chg (a0a w σ.ov) (a0a w' none) (σ.g n) O' R b o (Ty.list true ε).cells O1:=fun c j=>by
  grind
 obtain⟨A,B',R',e3,h7,h8⟩:=c3P p r.t (σ.g n) h1 hl hy hy' h3 hc1

 have hother:∀c j,c∉(σ.ow n).map (·.1)→c<w.heap.size→a0a w' none c j=a0a w σ.ov c j:=fun c j hc hlt=>by
  grind
 have hoth:∀m,m≠n→∀c j,c∈(σ.ow m).map (·.1)→a0a w' none c j=a0a w σ.ov c j:=fun m hm c j hc=>
  hother c j (h.disj m n hm c hc) (h.lt ⟨m,hc⟩)
 have hshm:∀c j,Shr B w σ c→a0a w' none c j=a0a w σ.ov c j:=fun c j hc=>hother c j (fun g=>hc.2.2 ⟨n,g⟩) hc.1

 let on:a1g:=match r.bx with|true=>(match σ.g n with|.at b0 _=>[(b0,r.t.cells)]|_=>[])++(A++(O2++B'))|false=>A++(O2++B')
 let ow':Nat→a1g:=fun m=>if m=n then on else if m=m0 then[]else σ.ow m
 have hon:ow' n=on:=by grind
 have hom:∀m,m≠n→m≠m0→ow' m=σ.ow m:=fun m hm hm'=>by grind
 have hom0:ow' m0=[]:=by grind
 have hon1:∀c,c∈on.map (·.1)→c∈(σ.ow n).map (·.1)∨c∈O2.map (·.1):=by
  grind
 have hOwned:∀c,(∃m,c∈(ow' m).map (·.1))→a0P σ c:=by
  rintro c ⟨m,hm⟩
  by_cases e:m=n
  subst e;rw[hon]at hm;rcases hon1 c hm with g|g;exact⟨m,g⟩;exact⟨m0,hO2 c g⟩
  by_cases e':m=m0
  grind
  rw[hom m e e']at hm;exact⟨m,hm⟩
 have hsh:∀c,Shr B w σ c→Shr B w' ⟨σ.g,ow',none⟩ c:=fun c ⟨g1,g2,g3⟩=>⟨a16 g1 hsz,g2,fun g4=>g3 (hOwned c g4)⟩;have hshR2:∀c∈R2,Shr B w' ⟨σ.g,ow',none⟩ c:=fun c hc=>hsh c (i2 c hc)

 have hplace:∀m q rm tq s,Γ.rt m=some rm→loc (a0a w σ.ov) rm.t (σ.g m) q=some (tq,s)→(m=n→∀rest,q=p++rest→rest=[]∨(Ty.list true ε).shn=(Ty.list true ε))→
   loc (a0a w' none) rm.t (σ.g m) q=some (tq,s)∧∀e,tq=.list true e→(m=n→∀rest,q=p++rest→(Ty.list true ε).shn=(Ty.list true ε))→s.rd (a0a w' none) 0=s.rd (a0a w σ.ov) 0:=by
  intro m q rm tq s hrm hlq hq
  by_cases e:m=n
  subst e;rw[hr]at hrm;simp at hrm;subst hrm
  have:=b5Y p q r.t (σ.g m) h1 hl hy h3 hc1 (hq rfl) hlq
  refine⟨this.1,fun e ht hne=>this.2 e s (by grind) (fun rest he=>?_)⟩;have hp:=hne rfl rest he
  grind[Ty.shn]
  ·obtain⟨Om,Rm,g1,g2,g3,g4,g5,-⟩:=h.sep hrm;have hcell:∀j,j<rm.t.cells→(σ.g m).rd (a0a w' none) j=(σ.g m).rd (a0a w σ.ov) j:=fun j _=>by
    cases es:σ.g m with
    |one v=>rfl
    |_=>rename_i b' o';exact hoth m e b' _ (g5 _ _ es)
   refine⟨a2E q rm.t _ g1 hlq hcell (fun c j hc=>hoth m e c j (g4 c hc)),fun e' ht _=>?_⟩;rw[ht]at hlq;exact b2i g1 hlq hcell (fun c j hc=>hoth m e c j (g4 c hc))
 have hkeep:∀a v,a0j (a0a w σ.ov) σ.g Γ.rt (Shr B w σ) a v→a0j (a0a w' none) σ.g (fun j=>bif j==n then some ⟨r.bx,r.t,a1U r.t r.x p (Ty.list true ε) y'⟩else bif j==m0 then none else Γ.rt j) (Shr B w' ⟨σ.g,ow',none⟩) (f a) v:=by
  intro a v ha;rcases hf a with g|⟨g,hk,hk0⟩;rw[g];trivial
  ·rw[g];refine ha.frame hshm hsh fun m q rm tq s hcase hrm hlq=>?_
   have hq:m=n→∀rest,q=p++rest→rest=[]∨(Ty.list true ε).shn=(Ty.list true ε):=by
    intro e rest he;rcases hcase with rfl|rfl|⟨o',l',rfl⟩;exact hk e rest he;exact .inr (hk e rest he);exact .inr (hk e rest he)
   have hp:=hplace m q rm tq s hrm hlq hq;refine⟨if m=n then⟨r.bx,r.t,a1U r.t r.x p (Ty.list true ε) y'⟩else rm,?_,?_,?_⟩
   grind
   ·by_cases e:m=n
    all_goals grind
   intro u hne hu;rcases hcase with rfl|rfl|⟨o',l',rfl⟩
   grind
   obtain⟨r0,e0,s0,k1,k2,k3⟩:=ha;rw[hrm]at k1;simp at k1;subst k1;rw[hlq]at k2;simp at k2;rw[hp.2 e0 k2.1 (fun e rest he=>hk e rest he)];omega;obtain⟨r0,e0,s0,a0,l0,c0,k1,k2,k3⟩:=ha;rw[hrm]at k1;simp at k1;subst k1;rw[hlq]at k2;simp at k2;rw[hp.2 e0 k2.1 (fun e rest he=>hk e rest he)];omega
 have hpins:∀i b,B.pin i=some b→(bif pinned+i==n then some (Root.mk r.bx r.t (a1U r.t r.x p (Ty.list true ε) y'))else bif pinned+i==m0 then none else Γ.rt (pinned+i))≠none→σ.g (pinned+i)=b:=fun i b hb hne=>by
  refine h.pins i b hb fun e=>hne ?_
  by_cases e':pinned+i=n
  grind
  have e'':(pinned+i==n)=false:=by grind
  rw[e'',e];simp
 refine⟨ow',?_,?_,?_,?_,?_,?_,?_,a30 h.size hsz,hfr,?_,hpins,by rw[hw'];exact h.still⟩
 ·intro m rm hrm
  by_cases e:m=n
  subst e;simp[AE.setRt]at hrm;subst hrm;refine⟨_,R',h7,fun c hc=>?_,?_⟩
  grind
  rcases h6 with⟨hbx,b0,hs,ho⟩|⟨hbx,hs,ht,ho⟩
  grind
  grind
  ·have e1:m≠m0:=by
    rintro rfl
    have e':(m==n)=false:=by grind
    simp[AE.setRt,e',AE.mapv]at hrm
   have hrm':Γ.rt m=some rm:=by
    have e':(m==n)=false:=by grind
    have e1':(m==m0)=false:=by grind
    simpa[AE.setRt,e',e1',AE.mapv]using hrm
   obtain⟨Om,Rm,g1,g2,g3,g4,g5,g6⟩:=h.sep hrm';refine⟨Om,Rm,a0x rm.t g1 (fun j _=>?_) (fun c j hc=>?_),fun c hc=>hsh c (g2 c hc),?_⟩
   ·cases es:σ.g m with
    |one v=>rfl
    |_=>rename_i b' o';exact hoth m e b' _ (g5 _ _ es)
   grind
   show(rm.bx=true∧∃b,σ.g m=.at b 0∧ow' m=(b,rm.t.cells)::Om)∨(rm.bx=false∧(∃v,σ.g m=.one v)∧(∃e,rm.t=.list true e)∧ow' m=Om);rw[hom m e e1];omega
 intro m hm
 by_cases e:m=n
 grind[AE.setRt]
 by_cases e1:m=m0
 grind
 have e':(m==n)=false:=by grind
 have e1':(m==m0)=false:=by grind
 show ow' m=[];rw[hom m e e1];exact h.norm m (by simpa[AE.setRt,e',e1',AE.mapv]using hm);intro m;show((ow' m).map (·.1)).Nodup
 by_cases e:m=n
 subst e;rw[hon];have hnd:=h.nodup m;have key:((A++(O2++B')).map (·.1)).Nodup:=by
  have hO'n:=h3.nodup;rw[e3]at hO'n;simp only[pA,a17,mA]at hO'n⊢;obtain⟨k1,⟨k2,k3,k4⟩,k5⟩:=hO'n;refine⟨k1,⟨hn2,k3,fun a ha c hc e=>?_⟩,fun a ha c hc e=>?_⟩;subst e;exact h.disj m m0 (Ne.symm hne0) a (h4 a (by grind)) (hO2 a ha);subst e;rcases hc with hc|hc;exact h.disj m m0 (Ne.symm hne0) a (h4 a (by grind)) (hO2 a hc)
  grind
 rcases h6 with⟨hbx,b0,hs,ho⟩|⟨hbx,-,-,ho⟩;simp only[on,hbx,hs,List.singleton_append,a09,a04];refine⟨fun g=>?_,key⟩;rw[ho]at hnd;simp only[a09,a04]at hnd;simp only[pA,mA]at g;rcases g with g|g|g
 grind
 exact h.disj m m0 (Ne.symm hne0) b0 (by grind) (hO2 b0 g);exact hnd.1 (by rw[e3];simp only[pA,mA];grind)
 grind
 by_cases e1:m=m0
 grind
 rw[hom m e e1];exact h.nodup m;have one:∀m m',m≠m'→m=n→∀c,c∈(ow' m).map (·.1)→c∉(ow' m').map (·.1):=by
  intro m m' hmm e c hc hc';subst e
  by_cases e1:m'=m0
  grind
  rw[hon]at hc;rw[hom m' (Ne.symm hmm) e1]at hc';rcases hon1 c hc with g|g;exact h.disj m m' hmm c g hc';exact h.disj m0 m' (Ne.symm e1) c (hO2 c g) hc'
 intro m m' hmm c hc hc'
 by_cases e:m=n
 exact one m m' hmm e c hc hc'
 by_cases e':m'=n
 exact one m' m (Ne.symm hmm) e' c hc' hc
 by_cases e1:m=m0
 grind
 by_cases e2:m'=m0
 grind
 rw[show(Gh.mk σ.g ow' none).ow m=ow' m from rfl,hom m e e1]at hc;rw[show(Gh.mk σ.g ow' none).ow m'=ow' m' from rfl,hom m' e' e2]at hc';exact h.disj m m' hmm c hc hc';intro m q hq;rw[show(Gh.mk σ.g ow' none).ow m=ow' m from rfl]at hq
 by_cases e:m=n
 subst e;rw[hon]at hq;have hold:q∈σ.ow m→a0Z w' q.1 q.2:=fun g=>hfree _ _ (h.live m q g) ⟨m,a00 g⟩;have key:q∈A++(O2++B')→a0Z w' q.1 q.2:=by
  grind
 rcases h6 with⟨hbx,b0,hs,ho⟩|⟨hbx,-,-,ho⟩
 grind
 grind
 by_cases e1:m=m0
 grind
 rw[hom m e e1]at hq;exact hfree _ _ (h.live m q hq) ⟨m,a00 hq⟩;intro i hi;exact(h.slots i hi).mapv hkeep;show b2x _ _ _ Γ.pd none;rw[hpd];trivial
 rintro c ⟨m,hm⟩
 exact h.mine c (hOwned c ⟨m,hm⟩)
end Go.Ab
namespace Go.Ab
section
variable {P:Program} {B:Base} {N:Nat} {ρ:Type} {Γ:AE} {a:Act} {w:World} {σ:Gh}
theorem b9H{τ:Ty}{t:TypeId}{A:Option Addr}{n c b o k:Nat}(ht:a0u P τ (.inl t)=true)(h1:τ.cells=1)(hf:a0Z w b k)(hk:o+1≤k):
  (Instr.storeAt t (.pointer (some ⟨b,o,none⟩)) (.slice A n c)).run P w=.ok () (w.setCell ⟨b,o,none⟩ (.slice A n c)):=by
 obtain⟨I⟩:=a0E (a0L ht);have hcs:(Value.slice A n c).cells=#[Value.slice A n c]:=rfl
 have:=run_storeCells_cells (P:=P) b o [Value.slice A n c] 0 w (fun j hj=>(hf.cell (o:=o+0+j) (by grind)).1) (fun j hj=>(hf.cell (o:=o+0+j) (by grind)).2) (fun u hu=>by
  simp at hu;subst hu;rfl)
 have hsz:(Value.slice A n c).cells.size=τ.cells:=by simp_all
 simp[Instr.storeAt,Instr.sureAddr,storeVar,I.sizeOf,hsz];rw[hcs];simp at this;exact this
theorem c8I{b o k:Nat}(hf:a0Z w b k)(hk:o<k)(v:Value)(c j:Nat):a0a (w.setCell ⟨b,o,none⟩ v) none c j=if c=b∧j=o then some v else a0a w none c j:=by
 simp[a0a]
 by_cases e1:c=b∧j=o
 obtain⟨rfl,rfl⟩:=e1;obtain⟨u,hu⟩:=a42.1 (hf.cell hk).1;simp_all[World.cell?_setCell_same];rw[if_neg e1,World.cell?_setCell_other]
 grind
theorem d6G(Γ:AE):Γ.mapv id=Γ:=by
 have:∀s:SV,s.mapv id=s:=fun s=>by cases s<;>simp[SV.mapv]
 simp_all[AE.mapv]
theorem a0w.skip{o:Oper}{K:AE→Rs ρ}{z:ρ}{w':World}{Γ':AE}{σ':Gh}(hN:a.tmps.size=N)(hrun:(execOp a.eval o).run P w=.ok .skip w')(h:Rel B Γ' N (a0p a) w' σ')(hK:K (Γ'.setD o.dst .dead)=some z):a0w P B N o a w K z:=by
 cases hd:o.dst with
 |none=>exact⟨undef,w',Γ',σ',.inr ⟨hrun,rfl⟩,by rw[hd];exact h,by rw[hd]at hK;exact hK⟩
 |some d=>exact⟨undef,w',Γ'.set d .dead,σ',.inr ⟨hrun,rfl⟩,by rw[hd];exact h.putd hN (fun _=>trivial),by rw[hd]at hK;exact hK⟩
theorem b2z{t:Ty}(h:t.isList=true):t.cells=1:=by cases t<;>first|rfl|cases h
theorem a8s:∀(p q:a0R),b1b p q=true→p=q
 | [],[],_=>rfl
 |.fst::p,.fst::q,h=>by rw[a8s p q h]
 |.snd::p,.snd::q,h=>by rw[a8s p q h]
 |.idx i::p,.idx j::q,h=>by
  simp[b1b]at h;rw[h.1,a8s p q h.2]
 | [],_::_,h=>by cases h
 |.fst::_,[],h=>by cases h
 |.fst::_,.snd::_,h=>by cases h
 |.fst::_,.idx _::_,h=>by cases h
 |.snd::_,[],h=>by cases h
 |.snd::_,.fst::_,h=>by cases h
 |.snd::_,.idx _::_,h=>by cases h
 |.idx _::_,[],h=>by cases h
 |.idx _::_,.fst::_,h=>by cases h
 |.idx _::_,.snd::_,h=>by cases h
theorem d0i(n:Nat)(Γ:AE)(r r':Option Root):(((Γ.mapv (AV.deeps [n] [])).setRt n r).mapv (AV.deeps [n] [])).setRt n r'=(Γ.mapv (AV.deeps [n] [])).setRt n r':=by
 have h1:∀a:AV,(a.deeps [n] []).deeps [n] []=a.deeps [n] []:=fun a=>by
  cases a with
  |sref m q=>
   by_cases hm:m=n
   subst hm;cases q<;>simp[AV.deeps];simp[AV.deeps,hm]
  |swin m q o l=>
   grind[AV.deeps]
  |ptr m q=>
   by_cases hm:m=n
   subst hm;cases q<;>simp[AV.deeps];simp[AV.deeps,hm]
  |_=>rfl
 simp only[AE.setRt,AE.mapv];congr 1
 ·funext i;cases Γ.sl i with
  |one v=>simp[SV.mapv,h1]
  |cmp c vs=>simp[SV.mapv,h1]
 grind
theorem Rel.setBox{tm:Nat→Value}(h:Rel B Γ N tm w σ){n b:Nat}{r:Root}(hr:Γ.rt n=some r)(hg:σ.g n=.at b 0)(ho:σ.ow n=[(b,r.t.cells)])(hpd:Γ.pd=none){t2:Ty}{z:t2.den}{R2}{w':World}(hc:t2.cells=r.t.cells)
  (hd:dec (a0a w' none) t2 ((Src.at b 0).rd (a0a w' none))=some (z,[],R2))(hR:∀c∈R2,Shr B w σ c)(hsame:∀c,c≠b→w'.heap[c]?=w.heap[c]?)(hfree:∀c k,a0Z w c k→a0Z w' c k)(hsz:w.heap.size≤w'.heap.size)(hio:a2n w'=a2n w):
  Rel B ((Γ.mapv (AV.deeps [n] [])).setRt n (some ⟨true,t2,z⟩)) N tm w' σ:=by
 have hov:=h.ov_none hpd;have hbn:b∈(σ.ow n).map (·.1):=by simp_all
 have hsh:∀c,Shr B w σ c→Shr B w' σ c:=fun c hc=>⟨a16 hc.1 hsz,hc.2⟩;have hm:∀c j,c≠b→a0a w' σ.ov c j=a0a w σ.ov c j:=fun c j hcb=>a1s _ (hsame c hcb) j;have hms:∀c j,Shr B w σ c→a0a w' σ.ov c j=a0a w σ.ov c j:=fun c j hcs=>hm c j fun e=>hcs.2.2 ⟨n,e▸hbn⟩;have hmo:∀m c j,m≠n→c∈(σ.ow m).map (·.1)→a0a w' σ.ov c j=a0a w σ.ov c j:=fun m c j hmn hcm=>hm c j fun e=>h.disj n m (Ne.symm hmn) c (e▸hbn) hcm;have hrt:∀k,k≠n→((Γ.mapv (AV.deeps [n] [])).setRt n (some ⟨true,t2,z⟩)).rt k=Γ.rt k:=fun k hk=>c2E hk _;have hrn:((Γ.mapv (AV.deeps [n] [])).setRt n (some ⟨true,t2,z⟩)).rt n=some ⟨true,t2,z⟩:=by simp[AE.setRt]
 have a1v:∀m:Nat,[n].contains m=(m==n):=fun m=>by grind
 refine⟨fun m r' hr'=>?_,fun m hm=>?_,h.nodup,h.disj,fun m p hp=>hfree _ _ (h.live m p hp),fun i hi=>(h.slots i hi).mapv fun a v ha=>?_,?_,a30 h.size hsz,fun c hc' hF=>?_,h.mine,fun i b' hb hne=>h.pins i b' hb fun e=>?_,hio.trans h.still⟩
 ·by_cases hmn:m=n
  subst hmn;rw[hrn]at hr';simp at hr';subst hr';refine⟨[],R2,?_,fun c hc=>hsh c (hR c hc),.inl ⟨rfl,b,hg,by simp_all⟩⟩;simp_all
  ·rw[hrt m hmn]at hr';obtain⟨O1,R1,l1,l2,l3,l4,l5,l6⟩:=h.sep hr';refine⟨O1,R1,a0x _ l1 (fun j _=>?_) (fun c j hc=>?_),fun c hc=>hsh c (l2 c hc),l6⟩
   ·cases es:σ.g m with
    |one v=>rfl
    |_=>rename_i b' o;exact hmo m b' _ hmn (l5 _ _ es)
   grind
 by_cases hmn:m=n
 simp_all;rw[hrt m hmn]at hm;exact h.norm m hm
 ·have other:(∀k q,(a=.ptr k q∨a=.sref k q∨∃o l,a=.swin k q o l)→k≠n)→a0j (a0a w' σ.ov) σ.g ((Γ.mapv (AV.deeps [n] [])).setRt n (some ⟨true,t2,z⟩)).rt (Shr B w' σ) a v:=fun hk=>by
   refine ha.frame hms hsh fun k q rk t s hcase hrk hl=>?_
   have hkn:=hk k q hcase;obtain⟨O1,R1,l1,l2,l3,l4,l5,l6⟩:=h.sep hrk;have hcell:∀j,(σ.g k).rd (a0a w' σ.ov) j=(σ.g k).rd (a0a w σ.ov) j:=fun j=>by
    cases es:σ.g k with
    |one v=>rfl
    |_=>rename_i b' o;exact hmo k b' _ hkn (l5 _ _ es)
   refine⟨rk,by simp_all,a2E q rk.t _ l1 hl (fun j _=>hcell j) (fun c j hc=>hmo k c j hkn (l4 c hc)),fun u _ hu=>?_⟩;rw[←hu];cases s with
   |one v=>rfl
   |_=>rename_i b' o;exact hmo k b' _ hkn (h.place hrk hl)
  cases a with
  |ptr m q=>
   simp only[AV.deeps,a1v];split
   ·rename_i hmn;have hmn:m=n:=by simp_all
    subst hmn;cases q with
    |cons=>trivial
    |nil=>
     obtain⟨r',t',b',o',p1,p2,p3⟩:=ha;simp[a0V]at p2;exact⟨⟨true,t2,z⟩,t2,b',o',hrn,by show some (t2,σ.g m)=_;grind,p3⟩
   simp_all
  |sref m q=>
   simp only[AV.deeps,a1v];split;cases q<;>exact True.intro;simp_all
  |swin m q o l=>
   simp only[AV.deeps,a1v];split;trivial;simp_all
  |_=>exact other (by rintro k q' (g|g|⟨o,l,g⟩)<;>cases g)
 have:=h.pend
 rw[hpd]at this;show b2x _ _ _ Γ.pd σ.ov;rw[hpd,hov];trivial
 ·rw[hsame c fun e=>?_];exact h.frame c hc' hF
  ·subst e;rcases h.mine c ⟨n,hbn⟩with g|g
   all_goals grind
 grind
theorem Rel.overR{tm:Nat→Value}{ty:Ty}{t:TypeId}{n:Nat}{r:Root}{yv:AV}{vx vy:Value}{K:AE→Rs ρ}{z:ρ}(hty:a0u P ty (.inl t)=true)(h:Rel B Γ N tm w σ)(hr:Γ.rt n=some r)
  (hx:a0j (a0a w σ.ov) σ.g Γ.rt (Shr B w σ) (.ptr n []) vx)(hy:a0j (a0a w σ.ov) σ.g Γ.rt (Shr B w σ) yv vy)(hz:Γ.over ty n r yv K=some z):
  ∃w' Γ' σ' b o,vx=.pointer (some ⟨b,o,none⟩)∧w'=w.setCells b o vy.cells.toList∧(Instr.storeAt t vx vy).run P w=.ok () w'∧Rel B Γ' N tm w' σ'∧K Γ'=some z:=by
 unfold AE.over at hz
 split at hz
 rename_i t' y rr hl;obtain⟨hpd,-⟩:=a0N hl;have hov:=h.ov_none hpd
 split at hz
 rename_i hc;obtain⟨hbx,hrt,hp',hsh'⟩:=hc;have hy:VOk (a0a w σ.ov) (Shr B w σ) t' y vy:=hy;have hct:t'.cells=r.t.cells:=by grind[Ty.cells_sh]
 obtain⟨b,hg,hfr⟩:=h.frzBox hr hbx hpd;obtain⟨r',t1,b1,o1,q1,q2,q3⟩:=hx;simp[a0V,hg]at q2;obtain⟨-,rfl,rfl⟩:=q2;have hroom:a0Z w b (0+r.t.cells):=by
  have:=h.room (p:=[]) (t:=r.t) (b:=b) (o:=0) hr (by rw[hg];rfl)
  omega
 have hty':a0u P t' (.inl t)=true:=by grind[a3C]
 have hrun:=c2U hty' hy (b:=b) (o:=0) (by rw[hct];omega) (a07 _);rw[←q3]at hrun;obtain⟨hvs,-⟩:=hy.cells;have hvl:vy.cells.toList.length=r.t.cells:=by simp_all
 obtain⟨-,-,R6,hv3,hv4⟩:=id hy;obtain⟨w',hw'⟩:∃w',w'=w.setCells b 0 vy.cells.toList:=⟨_,rfl⟩;have hm:∀c j,a0a w' none c j=if c=b∧0≤j∧j<0+r.t.cells then vy.cells.toList[j-0]? else a0a w none c j:=fun c j=>by
  have:=a8N b vy.cells.toList 0 w _ hroom (by omega) c j
  rw[hvl]at this;rw[hw'];exact this
 have hbown:a0P σ b:=⟨n,h.place (p:=[]) (t:=r.t) (b:=b) (o:=0) hr (by rw[hg];rfl)⟩;have hd1:dec (a0a w' none) t' ((Src.at b 0).rd (a0a w' none))=some (y,[],R6):=a0x t' hv3 (fun j hj=>by
  show a0a w' none b (0+j)=_;simp_all) (fun c j hcc=>by
  rcases hcc with hcc|hcc;simp_all;rw[hm,if_neg,hov]
  rintro⟨rfl,-⟩
  exact(hv4 c hcc).2.2 hbown)
 have fin:∀(t2:Ty)(z2:t2.den),castTo t' t2 y=some z2→t2.cells=r.t.cells→K ((Γ.mapv (AV.deeps [n] [])).setRt n (some ⟨true,t2,z2⟩))=some z→
   ∃w' Γ' σ' b o,vx=.pointer (some ⟨b,o,none⟩)∧w'=w.setCells b o vy.cells.toList∧(Instr.storeAt t vx vy).run P w=.ok () w'∧Rel B Γ' N tm w' σ'∧K Γ'=some z:=fun t2 z2 hcast hc2 hK=>by
  have hsub:∀c,Shr B w σ c→Shr B w ⟨σ.g,fun m=>if m=n then[(b,r.t.cells)]else σ.ow m,σ.ov⟩ c:=fun c ⟨g1,g2,g3⟩=>⟨g1,g2,fun⟨m,hmm⟩=>g3 ⟨m,by
   grind⟩⟩
  have:=hfr.setBox (w':=w') (b:=b) (r:=⟨true,r.t.shn,Ty.shnx r.t r.x⟩) (by simp[AE.setRt]) hg (by simp[Ty.cells_shn]) (by simp_all[AE.setRt,AE.mapv]) (t2:=t2) (z:=z2) (R2:=R6) (by simp_all[Ty.cells_shn]) (b9E hcast hd1) (fun c hc=>hsub c (hv4 c hc))
   (fun c hcb=>by simp_all[a4x]) (fun _ _ hf=>by rw[hw'];exact hf.setCells _ _ _) (by simp_all[a6K]) (by simp_all[a8O])
  grind[d0i]
 split at hz
 grind
 grind[Ty.cells_shn,c2T]
 simp_all;simp_all
theorem Rel.storR{tm:Nat→Value}{ty:Ty}{t:TypeId}{n:Nat}{p:a0R}{yv:AV}{vx vy:Value}{K:AE→Rs ρ}{z:ρ}(_hsh:ty.sh=ty)(hty:a0u P ty (.inl t)=true)(h:Rel B Γ N tm w σ)
  (hx:a0j (a0a w σ.ov) σ.g Γ.rt (Shr B w σ) (.ptr n p) vx)(hy:a0j (a0a w σ.ov) σ.g Γ.rt (Shr B w σ) yv vy)(hz:Γ.stor ty n p yv K=some z):
  ∃w' Γ' σ' b o,vx=.pointer (some ⟨b,o,none⟩)∧w'=w.setCells b o vy.cells.toList∧(Instr.storeAt t vx vy).run P w=.ok () w'∧Rel B Γ' N tm w' σ'∧K Γ'=some z:=by
 obtain⟨yw,hyw⟩:∃f:AV→AV,f yv=yv:=⟨fun v=>v,rfl⟩;rw[←hyw]at hy hz;clear hyw;obtain⟨r,t0,b,off,hr,hl,hxv⟩:=id hx;obtain⟨O1,R1,k1,k2,k3,k4,k5,k6⟩:=h.sep hr;obtain⟨y0,O',R',A1,B1,A1',B1',hd,hg,e1,e2⟩:=a1G p r.t _ k1 hl;unfold AE.stor at hz;rw[hr]at hz;simp only at hz
 split at hz
 ·rename_i e l hge
  split at hz
  ·rename_i hlist;have ht0:t0=.list true e:=by
    simp_all
   subst ht0;have hroom:=h.room hr hl;have hbown:a0P σ b:=⟨n,h.place hr hl⟩
   split at hz
   ·
    rename_i hye;rw[hye]at hy;have hy:vy=.slice none 0 0:=hy
    split at hz
    grind
    ·rename_i r2 hlk;obtain⟨hpd,-⟩:=a0N hlk;have hov:=h.ov_none hpd;have hrun:=b9H (A:=none) (n:=0) (c:=0) hty (b2z hlist) hroom (o:=off) (a07 _);rw[←hxv,←hy]at hrun;have hm:=c8I (v:=vy) hroom (o:=off) (Nat.lt_succ_self _);obtain⟨ow',-,hrel⟩:=h.chg hr hl hd (w':=w.setCell ⟨b,off,none⟩ vy) (ov':=σ.ov) (pd':=Γ.pd) (y':=([]:List e.den)) (O2:=[]) (R2:=[]) (.same (by simp_all)) (by
       rw[hov];show a1j _ true e.cells _ (a0a _ none b (off+0))=_;rw[hm,if_pos ⟨rfl,rfl⟩,hy];rfl) (fun c j=>by
       rw[hov,hm]
       by_cases e1:c=b∧j=off
       simp_all[Ty.cells];simp_all) (by simp) (by simp) (by simp) (fun c k hf _=>hf.setCell _ _) (by simp) (fun c hc hF=>by
       rw[a9J,if_neg];exact h.frame c hc hF
       ·rintro rfl
        rcases h.mine _ hbown with g|g
        all_goals grind) (by simp) (f:=AV.kill n p) (fun av=>b9D n p _ av)
     exact⟨_,_,_,b,off,hxv,by rw[hy];rfl,hrun,hrel,hz⟩
   ·
    rename_i m p' hye;rw[hye]at hy;rcases a0i hz with⟨hc,hz1⟩|⟨-,hz1⟩<;>clear hz
    ·simp at hc;obtain⟨rfl,hc⟩:=hc;have hpp:=a8s _ _ hc;subst hpp
     split at hz1
     ·rename_i m2 p2 d2 hpd;rcases a0i hz1 with⟨hc2,hz2⟩|⟨-,hz2⟩<;>clear hz1
      ·simp at hc2;obtain⟨rfl,hc2⟩:=hc2;have hpp:=a8s _ _ hc2;subst hpp;have hp:=h.pend;rw[hpd]at hp;cases hov:σ.ov with
       |none=>rw[hov]at hp;exact hp.elim
       |some ov=>
        obtain⟨b2,o2,v2⟩:=ov;rw[hov]at hp;obtain⟨r2,e2,q1,q2⟩:=hp;rw[hr]at q1;simp at q1;subst q1;rw[←hov,hl]at q2;simp only[sj,pJ,Src.at.injEq]at q2;obtain⟨-,rfl,rfl⟩:=q2;obtain⟨r3,e3,s3,q3,q4,q5⟩:=hy;rw[hr]at q3;simp at q3;subst q3;rw[hl]at q4;simp only[sj,pJ]at q4;obtain⟨-,rfl⟩:=q4;have hv:v2=vy:=by
         simp_all[Src.rd,a0a]
        have hsl:∃A n' c',vy=.slice A n' c':=by
         rcases a1W hd with⟨g,-⟩|⟨A,n',c',os,g,-⟩
         all_goals simp_all
        obtain⟨A,n',c',hsl⟩:=hsl;have hrun:=b9H (A:=A) (n:=n') (c:=c') hty (b2z hlist) hroom (o:=off) (a07 _);rw[←hxv,←hsl,←hv]at hrun
        have:=h.done hpd hov
        refine⟨_,_,_,b,off,hxv,?_,?_,this,hz2⟩;rw[hv,hsl];rfl;simp_all
      simp_all
     simp_all
    ·split at hz1
     ·rename_i r2 e' l' hl1 hl2
      split at hz1
      ·rename_i hee;subst hee;rcases a0i hz1 with⟨-,hz2⟩|⟨hmn,hz2⟩<;>clear hz1
       grind
       ·have hmn:m≠n:=by simp_all
        obtain⟨hpd,hrm⟩:=a0N hl2;obtain⟨r3,e3,s3,q3,q4,q5⟩:=hy;rw[hrm]at q3;simp at q3;subst q3;simp only[loc,a0V,sj,pJ]at q4;obtain⟨q4,rfl⟩:=q4;obtain⟨O3,R3,i1,-,-,-,-,i6⟩:=h.sep hrm;have hg0:σ.g m=.one vy:=by
         rcases i6 with⟨hbx,-⟩|⟨-,⟨v,hs⟩,-⟩
         all_goals simp_all[Src.rd]
        have hsl:∃A n' c',vy=.slice A n' c':=by
         rcases a1W i1 with⟨g,-⟩|⟨A,n',c',os,g,-⟩
         all_goals simp_all
        obtain⟨A,n',c',hsl⟩:=hsl;have hrun:=b9H (A:=A) (n:=n') (c:=c') hty (b2z hlist) hroom (o:=off) (a07 _);rw[←hxv,←hsl]at hrun;obtain⟨ow',hrel⟩:=h.move hr hl hd hrm hg0 hmn hpd (f:=fun av=>AV.drop m (AV.kill n p av)) (fun av=>by
         rcases b9D n p (.list true e') av with g|⟨g,g2⟩;left;rw[g];rfl
         ·rw[g];cases av with
          |ptr m2 q2=>
           grind[AV.drop]
          |sref m2 q2=>
           grind[AV.drop]
          |swin m2 q2 o2 k2=>
           grind[AV.drop]
          |_=>exact .inr ⟨rfl,g2,fun k q hh=>by rcases hh with hh|hh|⟨_,_,hh⟩<;>cases hh⟩)
        have hmm:(Γ.mapv (AV.kill n p)).mapv (AV.drop m)=Γ.mapv fun av=>AV.drop m (AV.kill n p av):=by
         have:∀s:SV,(s.mapv (AV.kill n p)).mapv (AV.drop m)=s.mapv fun av=>AV.drop m (AV.kill n p av):=fun s=>by
          cases s<;>simp[SV.mapv]
         simp_all[AE.mapv]
        rw[hmm]at hz2;exact⟨_,_,_,b,off,hxv,by rw[hsl];rfl,hrun,hrel,hz2⟩
      simp_all
     simp_all
   simp_all
  simp_all
 ·rename_i t1 y1 hnl hge
  split at hz
  ·rename_i hpt;obtain⟨hpure,hteq⟩:=hpt;have hty:a0u P t1 (.inl t)=true:=by grind[a3C]
   obtain⟨yv,Γ1,σ1,hz,h1,hv,hev,-⟩:=h.asV (.inl hy) hz
   split at hz
   ·rename_i r1 hlk;obtain⟨hpd,hr1⟩:=a0N hlk;have hov:=h1.ov_none hpd
    split at hz
    ·rename_i hgt;have hx1:a0j (a0a w σ1.ov) σ1.g Γ1.rt (Shr B w σ1) (.ptr n p) vx:=by
      rcases hev.live (.inl hx)with g|⟨k,q,g1,g2⟩
      all_goals grind
     obtain⟨r3,t3,b3,o3,q1,q2,q3⟩:=hx1;rw[hr1]at q1;simp at q1;subst q1;obtain⟨O4,R4,j1,j2,j3,j4,j5,j6⟩:=h1.sep hr1;obtain⟨y4,O5,R5,A5,B5,A5',B5',hd5,hg5,-,-⟩:=a1G p r1.t _ j1 q2;have ht3:t3=t1:=by
      simp_all
     subst ht3;have hO5:=b1T hpure hd5;subst hO5;have hroom:=h1.room hr1 q2;have hbown:a0P σ1 b3:=⟨n,h1.place hr1 q2⟩;have hrun:=c2U hty hv hroom (o:=o3) (a07 _);rw[←q3]at hrun;obtain⟨hvs,-⟩:=hv.cells;obtain⟨-,-,R6,hv3,hv4⟩:=id hv;have hvl:vy.cells.toList.length=t3.cells:=by omega
     have hm:∀c j,a0a (w.setCells b3 o3 vy.cells.toList) none c j=if c=b3∧o3≤j∧j<o3+t3.cells then vy.cells.toList[j-o3]? else a0a w none c j:=fun c j=>by
      have:=a8N b3 vy.cells.toList o3 w _ hroom (by omega) c j
      rw[hvl]at this;exact this
     obtain⟨ow',-,hrel⟩:=h1.chg hr1 q2 hd5 (w':=w.setCells b3 o3 vy.cells.toList) (ov':=σ1.ov) (pd':=Γ1.pd) (y':=yv) (O2:=[]) (R2:=R6) (.same (by simp_all)) (by
       rw[hov];refine a0x t3 hv3 (fun j hj=>?_) (fun c j hc=>?_);show a0a _ none b3 (o3+j)=_;simp_all;rcases hc with hc|hc;simp_all;rw[hm,if_neg,hov]
       rintro⟨rfl,-⟩
       exact(hv4 c hc).2.2 hbown) (fun c j=>by
       grind) (by simp) (by simp) (by simp) (fun c k hf _=>hf.setCells _ _ _) (by simp_all[a6K]) (fun c hc hF=>by
       rw[a4x];exact h1.frame c hc hF
       ·rintro rfl
        rcases h1.mine _ hbown with g|g
        all_goals grind) (fun c hc=>⟨by rw[a6K];exact(hv4 c hc).1,(hv4 c hc).2.1,(hv4 c hc).2.2,by simp⟩) (f:=id) (fun av=>.inr ⟨rfl,d1w n p hpure av⟩) (hio:=a8O _ _ _ _)
     rw[d6G]at hrel;exact⟨_,_,_,b3,o3,q3,rfl,hrun,hrel,hz⟩
    simp_all
   simp_all
  ·cases p with
   |nil=>exact h.overR (hty:=hty) hr hx hy hz
   |cons=>cases hz
theorem c4Q{o:Oper}{t:TypeId}{x y:Operand}{cx:Cx}{q:Bool}{K:AE→Rs ρ}{z:ρ}(hcx:CxTy P cx)(ho:o.op=.store t x y)(hag:Γ.aggOf y=none)
  (h:Rel B Γ N (a0p a) w σ)(hN:a.tmps.size=N)(hf:fits N o=true)(hz:aop cx q o Γ K=some z):a0w P B N o a w K z:=by
 have hx:=h.opd (a0X hf x (by simp[ho,Op.operands]));have hy:=h.opd (a0X hf y (by simp[ho,Op.operands]));have hz:(if q then none else match Γ.opd x with
  |.ptr n p=>match cx.T t with
   |some t=>Γ.stor t n p (Γ.opd y) fun Γ=>K (Γ.setD o.dst .dead)
   |none=>none
  |_=>none)=some z:=by
  simp only[aop,ho,hag]at hz;omega
 split at hz
 grind
 split at hz
 rename_i n p hxe;rw[hxe]at hx
 split at hz
 rename_i ty hT;obtain⟨hsh,hty⟩:=hcx.T t _ hT;obtain⟨w',Γ',σ',b,off,-,-,hrun,hrel,hK⟩:=Rel.storR hsh hty h hx hy hz;exact a0w.skip hN (by simp[execOp,ho,hrun]) hrel hK;simp_all;simp_all
theorem c0z(w:World)(cs:Array Value)(t:TypeId)(k:Nat)(u:Value):
  (w.alloc (.cells cs t)).setCell ⟨w.heap.size,k,none⟩ u=w.alloc (.cells (cs.setIfInBounds k u) t):=by
 have:(w.heap.push (.cells cs t)).modify w.heap.size (fun
   |.cells c elem frozen=>.cells (if(none:Option Nat).isSome then c else c.setIfInBounds k u) elem frozen
   |o=>o)=w.heap.push (.cells (cs.setIfInBounds k u) t):=by
  grind
 simp only[World.setCell,World.alloc]
 grind
theorem sh_sh:∀τ:Ty,τ.sh.sh=τ.sh
 |.int _|.bool|.str|.unit=>rfl
 |.list _ e=>by simp only[Ty.sh,sh_sh e]
 |.nl e=>by simp only[Ty.sh,sh_sh e]
 |.arr _ e=>by simp only[Ty.sh,sh_sh e]
 |.pair a b=>by simp only[Ty.sh,sh_sh a,sh_sh b]
def b2A:Nat→Ty→Option Ty
 |0,τ=>some τ
 |k+1,.pair a b=>if a.cells=1 then b2A k b else none
 |_+1,_=>none
theorem c2Y:∀(k:Nat)(τ:Ty){a b:Ty},b2A k τ=some (.pair a b)→a2J τ k=true∧(a.cells=1→b2A (k+1) τ=some b)∧∀(m:Mem) bl o,loc m τ (.at bl o) (a1A k)=some (a,.at bl (o+k))
 |0,τ,a,b,h=>by
  simp[b2A]at h;subst h;exact⟨rfl,fun h=>by simp[b2A,h],fun m bl o=>rfl⟩
 |k+1,τ,a,b,h=>by
  cases τ with
  |pair u v=>
   simp only[b2A]at h
   split at h
   rename_i hu;obtain⟨h1,h2,h3⟩:=c2Y k v h;refine⟨h1,fun ha=>by simp_all[b2A],fun m bl o=>?_⟩
   have:=h3 m bl (o+u.cells)
   rw[hu]at this;show loc m v (.at bl (o+u.cells)) (a1A k)=_
   grind
   simp_all
  |_=>simp[b2A]at h
theorem c3S{τ0:Ty}{t:TypeId}(hty:a0u P τ0 (.inl t)=true){i d b0:Nat}(hi:i<N)(hdN:d<N){us:Array Value}{tm:Nat→Value}(htm:tm i=.agg us)(htd:tm d=.pointer (some ⟨b0,0,none⟩)){z:ρ}{K:AE→Rs ρ}:
  ∀(τ:Ty)(k:Nat){Γ:AE}{σ:Gh}{w:World},Rel B Γ N tm w σ→b2A k τ0=some τ→
   AE.stors (.tmp i) d τ0 k τ Γ K=some z→us.size=k+τ.cells∧∃Γ' σ',Rel B Γ' N tm (w.setCells b0 k (us.toList.drop k)) σ'∧K Γ'=some z
 |.unit,k,Γ,σ,w,h,_,hz=>by
  simp[AE.stors]at hz
  split at hz
  rename_i vs hag;obtain⟨hk,hz'⟩:=(a0i hz).elim id fun h=>by grind
  have hsl:=h.slots i hi;simp[AE.aggOf]at hag
  split at hag
  rename_i vs' hs;simp at hag;subst hag;rw[hs]at hsl;obtain⟨us',⟨h1,h2,h3⟩,h4⟩:=hsl;rw[htm]at h2;cases h2;have hk:vs'.length=k:=by simp_all
  refine⟨by simp_all[Ty.cells],Γ,σ,?_,hz'⟩;rw[List.drop_of_length_le (by simp_all)];exact h;simp_all;simp_all
 |.pair a b,k,Γ,σ,w,h,htl,hz=>by
  simp[AE.stors]at hz
  split at hz
  rename_i r n v hr hg hv
  split at hz
  rename_i hc;obtain⟨hrt,rfl,ha⟩:=hc;obtain⟨h1,h2,h3⟩:=c2Y k τ0 htl;have hsd:=h.slots n hdN;rw[htd]at hsd;have hgp:a0j (a0a w σ.ov) σ.g Γ.rt (Shr B w σ) (.ptr n []) (.pointer (some ⟨b0,0,none⟩)):=by
   simp[AE.get]at hg
   split at hg
   rename_i v' hs';subst hg;rw[hs']at hsd;exact hsd;simp_all
  obtain⟨r',t',b',o',p1,p2,p3⟩:=hgp;rw[hr]at p1;simp at p1;subst p1;simp[a0V]at p2;obtain⟨rfl,p2⟩:=p2;simp at p3;obtain⟨rfl,rfl⟩:=p3;have hx:a0j (a0a w σ.ov) σ.g Γ.rt (Shr B w σ) (.ptr n (a1A k)) (.pointer (some ⟨b0,k,none⟩)):=by
   refine⟨r,a,b0,0+k,hr,?_,by simp⟩;simp_all
  have hsl:=h.slots i hi;have hag:∃vs,Γ.sl i=.cmp .agg vs∧vs[k]?=some v:=by
   grind[AE.aggOf]
  obtain⟨vs,hs,hvk⟩:=hag;rw[hs]at hsl;obtain⟨us',⟨g1,g2,g3⟩,g4⟩:=hsl;rw[htm]at g2;cases g2;obtain⟨u,huk,hu⟩:=g4 k v hvk;obtain⟨fs,hut,hs'⟩:∃fs,P.underlying t=some (.struct fs)∧a0u P τ0 (.inr (fs.toList,0))=true:=by
   grind[b4i]
  obtain⟨fl,τ',k',q1,q2,q3,q4,q5⟩:=b5H k τ0 _ 0 hs' h1;have e:=(q5 (a0a w none) 0 0).symm.trans (h3 (a0a w none) 0 0);simp only[sj,pJ]at e;obtain⟨rfl,-⟩:=e;have hta:a0u P τ'.sh (.inl fl.type)=true:=by rw[a3C];omega
  have hshsh:τ'.sh.sh=τ'.sh:=sh_sh τ';obtain⟨w',Γ',σ',b2,o2,s1,s2,s3,s4,s5⟩:=Rel.storR hshsh hta h hx hu hz;simp at s1;obtain⟨rfl,rfl⟩:=s1;rw[c1i (g3 k u huk)]at s2;subst s2;obtain⟨c1,Γ2,σ2,c2,c3⟩:=c3S hty hi hdN htm htd b (k+1) s4 (h2 ha) s5;refine⟨by grind[Ty.cells],Γ2,σ2,?_,c3⟩;have hdr:us.toList.drop k=u::us.toList.drop (k+1):=by
   grind[a28]
  rw[hdr];exact c2;simp_all;simp_all
 |.int _,k,Γ,σ,w,_,_,hz=>by simp[AE.stors]at hz
 |.bool,k,Γ,σ,w,_,_,hz=>by simp[AE.stors]at hz
 |.str,k,Γ,σ,w,_,_,hz=>by simp[AE.stors]at hz
 |.list _ _,k,Γ,σ,w,_,_,hz=>by simp[AE.stors]at hz
 |.arr _ _,k,Γ,σ,w,_,_,hz=>by simp[AE.stors]at hz
theorem b8Q(w:World)(t:TypeId):∀(l:List Value)(k:Nat)(cs:Array Value),k+l.length=cs.size→
  (w.alloc (.cells cs t)).setCells w.heap.size k l=w.alloc (.cells (cs.toList.take k++l).toArray t)
 | [],k,cs,h=>by
  simp_all[World.setCells,List.take_of_length_le]
 |u::l,k,cs,h=>by
  simp only[World.setCells,lC]at h⊢;rw[c0z,b8Q w t l (k+1) _ (by simp;omega)];congr 2;have hk:k<cs.toList.length:=by simp;omega
  simp only[Array.toList_setIfInBounds];rw[a35 (by simpa using hk)];simp[a46]
theorem d0j{o:Oper}{t:TypeId}{x:Operand}{d:Nat}{cx:Cx}{q:Bool}{K:AE→Rs ρ}{z:ρ}{vs:List AV}(hcx:CxTy P cx)(ho:o.op=.box t x)(hd:o.dst=some d)(hag:(bif q then none else Γ.aggOf x)=some vs)
  (h:Rel B Γ N (a0p a) w σ)(hN:a.tmps.size=N)(hf:fits N o=true)(hz:aop cx q o Γ K=some z):a0w P B N o a w K z:=by
 have hag':Γ.aggOf x=some vs:=by
  grind
 have hxo:=a0X hf x (by simp[ho,Op.operands]);have hdN:d<N:=by
  simp_all[fits]
 simp[aop,ho,hd,hag]at hz
 ·split at hz
  ·rename_i τ hrd hO
   split at hz
   ·rename_i hT;have hty:a0u P τ (.inl t)=true:=by rw[←a3C];exact(hcx.T t _ hT).2
    obtain⟨I⟩:=a0E (a0L hty);cases x with
    |tmp i=>
     have hi:i<N:=by simpa[a1u]using hxo
     have hsl:=h.slots i hi;have hs:Γ.sl i=.cmp .agg vs:=by
      grind[AE.aggOf]
     rw[hs]at hsl;obtain⟨us,⟨h1,h2,h3⟩,h4⟩:=hsl;have hev:a.eval (.tmp i)=.agg us:=h2;have hrun:(execOp a.eval o).run P w=.ok (.value (.pointer (some ⟨w.heap.size,0,none⟩))) (w.alloc (.cells us t)):=by
      simp_all[execOp,Instr.box,newVar,newRow,Value.cells]
     obtain⟨Γ1,σ1,g1,g2,g3⟩:=h.newBox hz (fun c hc=>a2j _ c hc) (a2O _) (a2k (w:=w) (.cells I.z.cells t)) I.zsize (a6Y _ I.zok) (by simp);have hne:i≠d:=by
      rintro rfl
      cases τ<;>simp[AE.stors,AE.aggOf,AE.set,AE.put]at g1
     have g4:=g2.putd (sv:=.one (.ptr d [])) (v:=.pointer (some ⟨w.heap.size,0,none⟩)) (d:=d) hN (fun _=>g3);obtain⟨g0,Γ',σ',g5,g6⟩:=c3S hty hi hdN (us:=us) (tm:=a0p (a.put (some d) (.pointer (some ⟨w.heap.size,0,none⟩)))) (by simp_all[b6f]) (by rw[b6f d (by omega),if_pos rfl]) τ 0 g4 rfl g1;rw[a57,b8Q w t us.toList 0 I.z.cells (by rw[I.zsize,a40];omega)]at g5;simp at g5;exact⟨_,_,Γ',σ',.inl hrun,by simp_all,g6⟩
    |_=>simp[AE.aggOf]at hag'
   simp_all
  simp_all
theorem c0A{o:Oper}{t:TypeId}{x y:Operand}{cx:Cx}{q:Bool}{K:AE→Rs ρ}{z:ρ}{vs:List AV}(hcx:CxTy P cx)(ho:o.op=.store t y x)(hag:Γ.aggOf x=some vs)
  (h:Rel B Γ N (a0p a) w σ)(hN:a.tmps.size=N)(hf:fits N o=true)(hz:aop cx q o Γ K=some z):a0w P B N o a w K z:=by
 have hxo:=a0X hf x (by simp[ho,Op.operands]);have hyo:=a0X hf y (by simp[ho,Op.operands]);have hz:(if q then none else match y with
   |.tmp s=>match Γ.rt s with
    |some r=>if cx.T t=some r.t.sh∧0<r.t.cells then AE.stors x s r.t 0 r.t Γ fun Γ=>K (Γ.setD o.dst .dead)else none
    |none=>none
   |_=>none)=some z:=by
  simp only[aop,ho,hag]at hz;omega
 split at hz
 grind
 ·cases y with
  |tmp d=>
   simp at hz;have hdN:d<N:=by simpa[a1u]using hyo
   split at hz
   ·rename_i r hr
    split at hz
    ·rename_i hT;obtain⟨hT,hpos⟩:=hT;have hty:a0u P r.t (.inl t)=true:=by rw[←a3C];exact(hcx.T t _ hT).2
     cases x with
     |tmp i=>
      have hi:i<N:=by simpa[a1u]using hxo
      have hsl:=h.slots i hi;have hs:Γ.sl i=.cmp .agg vs:=by
       grind[AE.aggOf]
      rw[hs]at hsl;obtain⟨us,⟨h1,h2,h3⟩,h4⟩:=hsl;have hev:a.eval (.tmp i)=.agg us:=h2

      have hptr:∃b0,a0p a d=.pointer (some ⟨b0,0,none⟩)∧loc (a0a w σ.ov) r.t (σ.g d) []=some (r.t,.at b0 0):=by
       have hgd:Γ.get d=.ptr d []:=by
        revert hz hpos
        cases r.t with
        |pair u v=>
         grind[AE.stors]
        |unit=>simp_all[Ty.cells]
        |_=>intro hpos hz;simp[AE.stors]at hz
       have hsd:a0j (a0a w σ.ov) σ.g Γ.rt (Shr B w σ) (.ptr d []) (a0p a d):=by
        have hsd:=h.slots d hdN;simp[AE.get]at hgd
        split at hgd
        rename_i v' hs';subst hgd;rw[hs']at hsd;exact hsd;simp_all
       obtain⟨r',t',b',o',p1,p2,p3⟩:=hsd;rw[hr]at p1;simp at p1;subst p1;simp[a0V]at p2;obtain⟨rfl,p2⟩:=p2;obtain⟨O',R',-,-,hb⟩:=(h.roots d r hr).rd;rcases hb with⟨-,b0,q1,-⟩|⟨-,⟨v,q1⟩,-⟩;rw[q1]at p2;simp at p2;obtain⟨rfl,rfl⟩:=p2;simp_all[a0V];simp_all
      obtain⟨b0,htd,hloc⟩:=hptr;have hroom:=h.room hr hloc;obtain⟨g0,Γ',σ',g5,g6⟩:=c3S hty hi hdN (us:=us) h2 htd r.t 0 h rfl hz;rw[a57]at g5;have hrun:(Instr.storeAt t (.pointer (some ⟨b0,0,none⟩)) (.agg us)).run P w=.ok () (w.setCells b0 0 us.toList):=
       c1f hty (by simp_all[Value.cells]) (fun u hu=>by
        obtain⟨k,hk⟩:=a37.1 hu;exact h3 k u (by rw[←a19];exact hk)) hroom (a07 _)
      have htd':a.eval (.tmp d)=.pointer (some ⟨b0,0,none⟩):=htd;exact a0w.skip hN (by simp_all[execOp]) g5 g6
     |_=>simp[AE.aggOf]at hag
    simp_all
   simp_all
  |_=>grind
end
end Go.Ab
namespace Go.Ab
theorem b3J:∀(p q:a0R)(t:Ty)(x:t.den),a1L (p++q) t x=a1L q (a1L p t x).1 (a1L p t x).2
 | [],_,_,_=>rfl
 |.fst::p,q,t,x=>by
  cases t with
  |pair a b=>exact b3J p q a x.1
  |_=>cases q with
   |nil=>rfl
   |cons s q=>cases s<;>rfl
 |.snd::p,q,t,x=>by
  cases t with
  |pair a b=>exact b3J p q b x.2
  |_=>cases q with
   |nil=>rfl
   |cons s q=>cases s<;>rfl
 |.idx i::p,q,t,x=>by
  cases t with
  |arr n e=>exact b3J p q e _
  |list o e=>cases o with
   |true=>exact b3J p q e _
   |false=>cases q with
    |nil=>rfl
    |cons s q=>cases s<;>rfl
  |_=>cases q with
   |nil=>rfl
   |cons s q=>cases s<;>rfl
theorem b6j(t:Ty)(x y:t.den):a2b [] t x t y=y:=c3O t x y
theorem b6k:∀(p q:a0R)(t:Ty)(x:t.den)(t':Ty)(y:t'.den),a2b (p++q) t x t' y=a2b p t x (a1L p t x).1 (a2b q (a1L p t x).1 (a1L p t x).2 t' y)
 | [],q,t,x,t',y=>(b6j t x (a2b q t x t' y)).symm
 |.fst::p,q,t,x,t',y=>by
  cases t with
  |pair a b=>
   show(a2b (p++q) a x.1 t' y,x.2)=(a2b p a x.1 (a1L p a x.1).1 (a2b q (a1L p a x.1).1 (a1L p a x.1).2 t' y),x.2);simp_all[b6k]
  |_=>rfl
 |.snd::p,q,t,x,t',y=>by
  cases t with
  |pair a b=>
   show(x.1,a2b (p++q) b x.2 t' y)=(x.1,a2b p b x.2 (a1L p b x.2).1 (a2b q (a1L p b x.2).1 (a1L p b x.2).2 t' y));simp_all[b6k]
  |_=>rfl
 |.idx i::p,q,t,x,t',y=>by
  cases t with
  |arr n e=>
   show a56 x i (a2b (p++q) e (a25 x i e.dflt) t' y)=a56 x i (a2b p e (a25 x i e.dflt) (a1L p e (a25 x i e.dflt)).1 (a2b q (a1L p e (a25 x i e.dflt)).1 (a1L p e (a25 x i e.dflt)).2 t' y));simp_all[b6k]
  |list o e=>cases o with
   |true=>
    show a56 x i (a2b (p++q) e (a25 x i e.dflt) t' y)=a56 x i (a2b p e (a25 x i e.dflt) (a1L p e (a25 x i e.dflt)).1 (a2b q (a1L p e (a25 x i e.dflt)).1 (a1L p e (a25 x i e.dflt)).2 t' y));simp_all[b6k]
   |false=>rfl
  |_=>rfl
theorem c1l:∀(p:a0R)(t:Ty)(x:t.den)(t':Ty)(y:t'.den),b6c p=true→(a1L p t x).1=t'→a1L p t (a2b p t x t' y)=⟨t',y⟩
 | [],t,x,t',y,_,h=>by
  have h:t=t':=h;subst h;exact congrArg (Sigma.mk t) (b6j t x y)
 |.fst::p,t,x,t',y,hp,h=>by
  cases t with
  |pair a b=>exact c1l p a x.1 t' y hp h
  |_=>
   have h:Ty.unit=t':=h;subst h;rfl
 |.snd::p,t,x,t',y,hp,h=>by
  cases t with
  |pair a b=>exact c1l p b x.2 t' y hp h
  |_=>
   have h:Ty.unit=t':=h;subst h;rfl
 |.idx _::_,_,_,_,_,hp,_=>by cases hp
theorem c1m:∀(p:a0R)(t:Ty)(x:t.den)(t':Ty)(y z:t'.den),b6c p=true→(a1L p t x).1=t'→a2b p t (a2b p t x t' y) t' z=a2b p t x t' z
 | [],t,x,t',y,z,_,h=>by
  have h:t=t':=h
  grind[b6j]
 |.fst::p,t,x,t',y,z,hp,h=>by
  cases t with
  |pair a b=>
   show(a2b p a (a2b p a x.1 t' y) t' z,x.2)=(a2b p a x.1 t' z,x.2);rw[c1m p a x.1 t' y z hp h]
  |_=>rfl
 |.snd::p,t,x,t',y,z,hp,h=>by
  cases t with
  |pair a b=>
   show(x.1,a2b p b (a2b p b x.2 t' y) t' z)=(x.1,a2b p b x.2 t' z);rw[c1m p b x.2 t' y z hp h]
  |_=>rfl
 |.idx _::_,_,_,_,_,_,hp,_=>by cases hp
theorem b7q:∀(p:a0R)(t:Ty)(x:t.den),b6c p=true→a2b p t x (a1L p t x).1 (a1L p t x).2=x
 | [],t,x,_=>b6j t x x
 |.fst::p,t,x,hp=>by
  cases t with
  |pair a b=>
   show(a2b p a x.1 (a1L p a x.1).1 (a1L p a x.1).2,x.2)=x;rw[b7q p a x.1 hp];rfl
  |_=>rfl
 |.snd::p,t,x,hp=>by
  cases t with
  |pair a b=>
   show(x.1,a2b p b x.2 (a1L p b x.2).1 (a1L p b x.2).2)=x;rw[b7q p b x.2 hp];rfl
  |_=>rfl
 |.idx _::_,_,_,hp=>by cases hp
section
variable {P:Program} {B:Base} {N:Nat} {ρ:Type} {Γ:AE} {a:Act} {w:World} {σ:Gh}
theorem c6P{tm:Nat→Value}(h:Rel B Γ N tm w σ){n p v r k}{l:List Int}(ha:a0j (a0a w σ.ov) σ.g Γ.rt (Shr B w σ) (.sref n p) v)(hr:Γ.rt n=some r)(hg:a1p r.t r.x p=⟨.list true (.int k),l⟩):
  ∃A c,v=.slice A l.length c∧∀j,j<l.length→∃A0,A=some A0∧A0.spot=none∧a0j (a0a w σ.ov) σ.g Γ.rt (Shr B w σ) (.ptr n (p++[.idx (0+j)])) (.pointer (some ⟨A0.block,A0.off+j,none⟩)):=by
 obtain⟨s,O',R',g1,g2,g3,g4,-,-⟩:=h.slice ha hr hg;rcases a1W g4 with⟨hv,hl⟩|⟨A0,n0,c,os,hv,hsp,hnc,hc,-⟩;simp[Src.rd]at hv;obtain⟨hl,-⟩:=hl;subst hl;exact⟨none,0,hv,fun j hj=>absurd hj (Nat.not_lt_zero j)⟩;simp[Src.rd]at hv;have hlen:l.length=n0:=a0W _ _ hc;refine⟨some A0,c,by simp_all,fun j hj=>⟨A0,rfl,hsp.resolve_left (by omega),r,.int k,A0.block,A0.off+j,hr,?_,rfl⟩⟩;rw[a3P p _ _ _ g1];simp_all[a0V,Ty.cells]
theorem c6Q{tm:Nat→Value}(h:Rel B Γ N tm w σ){n p v r k off len}{l:List Int}(ha:a0j (a0a w σ.ov) σ.g Γ.rt (Shr B w σ) (.swin n p off len) v)(hr:Γ.rt n=some r)(hg:a1p r.t r.x p=⟨.list true (.int k),l⟩):
  off+len≤l.length∧∃A c,v=.slice A len c∧∀j,j<len→∃A0,A=some A0∧A0.spot=none∧a0j (a0a w σ.ov) σ.g Γ.rt (Shr B w σ) (.ptr n (p++[.idx (off+j)])) (.pointer (some ⟨A0.block,A0.off+j,none⟩)):=by
 obtain⟨s,O',R',A,n0,c,g1,g2,g3,g4,g5,g6,A',hv,g7,g8⟩:=h.window ha hr hg;rcases a1W g3 with⟨hv0,hl⟩|⟨A0,nn,c',os,hv0,hA0,hn0,hc,-⟩;simp[Src.rd]at hv0;simp_all;simp[Src.rd]at hv0;obtain⟨rfl,rfl,rfl⟩:=hv0;have hlen:l.length=n0:=a0W _ _ hc;refine⟨by omega,A',_,hv,fun j hj=>?_⟩;rcases g8 with g8|g8;omega;simp[a3R (hA0.resolve_left (by omega))]at g8;refine⟨_,g8,rfl,r,.int k,A0.block,A0.off+off*1+j,hr,?_,rfl⟩;rw[a3P p _ _ _ g1];have hjl:off+j<n0:=by omega
 simp_all[a0V,Ty.cells,Nat.add_assoc]
theorem c4R{Γ:AE}{n:Nat}{r:Root}(h:Γ.rt n=some r):Γ.setRt n (some r)=Γ:=by
 have:(fun j=>bif j==n then some r else Γ.rt j)=Γ.rt:=by
  grind
 simp_all[AE.setRt]
theorem d0k{Γ:AE}{n:Nat}{r r':Option Root}:(Γ.setRt n r).setRt n r'=Γ.setRt n r':=by
 simp only[AE.setRt]
 grind
theorem c8J{k:IntKind}(l:List Int)(i:Nat):a1L [.idx i] (.list true (.int k)) l=⟨.int k,l.getD i 0⟩:=rfl
theorem d4L{k:IntKind}(l:List Int)(i:Nat)(y:Int):a2b [.idx i] (.list true (.int k)) l (.int k) y=l.set i y:=by
 show l.set i (a2b [] (.int k) (l.getD i 0) (.int k) y)=_;exact congrArg _ (b6j (.int k) _ y)
theorem d4M{n:Nat}{p:a0R}{r:Root}{k:IntKind}{l:List Int}{i:Nat}{y:Int}(hpd:Γ.pd=none)(hr:Γ.rt n=some r)(hg:a1p r.t r.x p=⟨.list true (.int k),l⟩):
  Γ.stor (.int k) n (p++[.idx i]) (.val (.int k) y) some=some (Γ.setRt n (some ⟨r.bx,r.t,a1U r.t r.x p (.list true (.int k)) (l.set i y)⟩)):=by
 have hg:a1L p r.t r.x=⟨.list true (.int k),l⟩:=hg;have h1:a1L (p++[.idx i]) r.t r.x=⟨.int k,l.getD i 0⟩:=by rw[b3J,hg,c8J]
 have h2:a2b (p++[.idx i]) r.t r.x (.int k) y=a2b p r.t r.x (.list true (.int k)) (l.set i y):=by
  have h0:=b6k p [.idx i] r.t r.x (.int k) y;rw[hg]at h0;exact h0.trans (congrArg (fun z:List Int=>a2b p r.t r.x (.list true (.int k)) z) (d4L l i y))
 have h3:a1p r.t r.x (p++[.idx i])=⟨.int k,l.getD i 0⟩:=h1;have h4:a1U r.t r.x (p++[.idx i]) (.int k) y=a1U r.t r.x p (.list true (.int k)) (l.set i y):=h2;simp_all[AE.stor,Ty.sh,Ty.shn,AE.asV,AE.look,castTo]
theorem d3C{n:Nat}{p:a0R}{k:IntKind}{t0:TypeId}{i:Nat}{av:AV}{tm:Nat→Value}{b o off m L:Nat}(hp:b6c p=true)(hty:a0u P (.int k) (.inl t0)=true)
  (hptr:∀{Γ:AE}{σ:Gh}{w:World}{r:Root}{l:List Int},Rel B Γ N tm w σ→Γ.sl i=.one av→Γ.rt n=some r→a1p r.t r.x p=⟨.list true (.int k),l⟩→l.length=L→∀j,j<m→
   a0j (a0a w σ.ov) σ.g Γ.rt (Shr B w σ) (.ptr n (p++[.idx (off+j)])) (.pointer (some ⟨b,o+j,none⟩)))(hoff:off+m≤L):
  ∀(ys:List Int)(s:Nat){Γ:AE}{σ:Gh}{w:World}{r:Root}{l:List Int},s+ys.length≤m→Rel B Γ N tm w σ→Γ.pd=none→Γ.sl i=.one av→Γ.rt n=some r→a1p r.t r.x p=⟨.list true (.int k),l⟩→l.length=L→
   ∃σ',Rel B (Γ.setRt n (some ⟨r.bx,r.t,a1U r.t r.x p (.list true (.int k)) (l.take (off+s)++(ys++l.drop (off+s+ys.length)))⟩)) N tm (w.setCells b (o+s) (ys.map (Value.int k))) σ'
 | [],s,Γ,σ,w,r,l,_,h,_,_,hr,hg,_=>by
  refine⟨σ,?_⟩;have hg:a1L p r.t r.x=⟨.list true (.int k),l⟩:=hg;have e:a1U r.t r.x p (.list true (.int k)) (l.take (off+s)++([]++l.drop (off+s+([]:List Int).length)))=r.x:=by
   have h1:=b7q p r.t r.x hp;rw[hg]at h1;have hl':l.take (off+s)++([]++l.drop (off+s+([]:List Int).length))=l:=by
    simp
   exact(congrArg (fun z:List Int=>a2b p r.t r.x (.list true (.int k)) z) hl').trans h1
  have hR:Rel B (Γ.setRt n (some ⟨r.bx,r.t,r.x⟩)) N tm w σ:=by
   rw[show(⟨r.bx,r.t,r.x⟩:Root)=r from rfl,c4R hr];omega
  exact(congrArg (fun z=>Rel B (Γ.setRt n (some ⟨r.bx,r.t,z⟩)) N tm w σ) e).mpr hR
 |y::ys,s,Γ,σ,w,r,l,hs,h,hpd,hsl,hr,hg,hl=>by
  simp at hs;have hx:=hptr h hsl hr hg hl s (by omega);have hz:=d4M (i:=off+s) (y:=y) hpd hr hg;obtain⟨w',Γ',σ',b',o',s1,s2,-,s4,s5⟩:=Rel.storR rfl hty h hx (a0j.mk_int (k:=k) y) hz;simp at s1 s5;obtain⟨rfl,rfl⟩:=s1;subst s5;have s2:w'=w.setCell ⟨b,o+s,none⟩ (.int k y):=s2;subst s2;have hg0:a1L p r.t r.x=⟨.list true (.int k),l⟩:=hg;have hgs:=c1l p r.t r.x (.list true (.int k)) (l.set (off+s) y) hp (by grind);obtain⟨σ2,h2⟩:=d3C hp hty hptr hoff ys (s+1) (r:=⟨r.bx,r.t,a1U r.t r.x p (.list true (.int k)) (l.set (off+s) y)⟩) (l:=l.set (off+s) y) (by omega) s4 hpd hsl (b0l _) hgs (by simp_all);refine⟨σ2,?_⟩;rw[d0k]at h2;have e1:a1U r.t (a1U r.t r.x p (.list true (.int k)) (l.set (off+s) y)) p (.list true (.int k)) ((l.set (off+s) y).take (off+(s+1))++(ys++(l.set (off+s) y).drop (off+(s+1)+ys.length))) =
    a1U r.t r.x p (.list true (.int k)) (l.take (off+s)++(y::ys++l.drop (off+s+(y::ys).length))):=by
   refine(c1m p r.t r.x (.list true (.int k)) _ _ hp (by grind)).trans (congrArg _ ?_);have hlt:off+s<l.length:=by omega
   rw[show off+(s+1)=off+s+1 from rfl,a35 (by simp_all)];rw[List.drop_set_of_lt (by omega)];simp only[List.getElem_set_self,a46 (a07 _),aA,lC,List.cons_append,a43]
   grind
  rw[e1]at h2;exact h2
theorem d4N{n:Nat}{p:a0R}{k:IntKind}{t0:TypeId}{i:Nat}{av:AV}{A:Option Addr}{off Lc c:Nat}{r:Root}{l ys:List Int}{vy:Value}(hty:a0u P (.int k) (.inl t0)=true)
  (h:Rel B Γ N (a0p a) w σ)(hpd:Γ.pd=none)(hp:b6c p=true)(hsl:Γ.sl i=.one av)(hr:Γ.rt n=some r)(hg:a1p r.t r.x p=⟨.list true (.int k),l⟩)(hoff:off+Lc≤l.length)
  (hel:∀{Γ:AE}{σ:Gh}{w:World}{r:Root}{l':List Int},Rel B Γ N (a0p a) w σ→Γ.sl i=.one av→Γ.rt n=some r→a1p r.t r.x p=⟨.list true (.int k),l'⟩→l'.length=l.length→∀j,j<Lc→
   ∃A0,A=some A0∧A0.spot=none∧a0j (a0a w σ.ov) σ.g Γ.rt (Shr B w σ) (.ptr n (p++[.idx (off+j)])) (.pointer (some ⟨A0.block,A0.off+j,none⟩)))
  (hE:b1u w (a0a w σ.ov) (Shr B w σ) (.int k) ys vy){t t' ty:TypeId}{ts:Array TypeId}(h0:ts[0]?=some t)(hu:P.underlying t=some (.slice t'))(I:Info P (.int k) t'):
  ∃w' σ',(Builtin.copy_ ts ty #[.slice A Lc c,vy]).run P w=.ok (goInt ((min Lc ys.length:Nat):Int)) w'∧
   Rel B (Γ.setRt n (some ⟨r.bx,r.t,a1U r.t r.x p (.list true (.int k)) (b5D l off Lc ys)⟩)) N (a0p a) w' σ':=by
 obtain⟨Y,ny,cy,cs,rfl,hn,hlen,hone,⟨R,hcol,hR⟩,hc,hnone,hsp⟩:=hE;have hcs:cs=ys.map (Value.int k):=by
  have:=b9G ys ny 0 (by simp_all[Ty.cells]) hcol
  simp_all
 obtain⟨m,hm⟩:∃m,m=min Lc ys.length:=⟨_,rfl⟩;have hmn:m≤ny:=by rw[hn,hm];exact Nat.min_le_right _ _
 have hfirst:=b2k (P:=P) (w:=w) (w2:=w) (e:=.int k) rfl (fun _=>rfl) hlen hc hnone m hmn (c:=cy);simp[Ty.cells]at hfirst;have htake:cs.take m=(ys.take m).map (Value.int k):=by simp_all
 have hgc:b5D l off Lc ys=l.take (off+0)++(ys.take m++l.drop (off+0+(ys.take m).length)):=by
  simp_all[b5D]
 have hmin:Nat.min ny Lc=m:=by rw[hm,hn];exact Nat.min_comm _ _
 have hsize:(sizeOf t').run P w=.ok 1 w:=by have:=I.sizeOf (w:=w);simp_all[Ty.cells]
 by_cases hm0:m=0
 refine⟨w,σ,?_,?_⟩;rw[←hm];simp only[Builtin.copy_,h0];have hf0:(Builtin.firstCells 1 0 (.slice Y ny cy)).run P w=.ok #[] w:=by
  simp_all
 simp[run_underlying hu,Builtin.lenOf,hmin,hm0,hsize,hf0];cases A<;>simp[storeCells];have e:b5D l off Lc ys=l:=by
  rw[hgc,hm0];simp
 have h1:=b7q p r.t r.x hp;have hg':a1L p r.t r.x=⟨.list true (.int k),l⟩:=hg;rw[hg']at h1;have hR':Rel B (Γ.setRt n (some ⟨r.bx,r.t,r.x⟩)) N (a0p a) w σ:=by
  rw[show(⟨r.bx,r.t,r.x⟩:Root)=r from rfl,c4R hr];omega
 exact(congrArg (fun z:List Int=>Rel B (Γ.setRt n (some ⟨r.bx,r.t,a1U r.t r.x p (.list true (.int k)) z⟩)) N (a0p a) w σ) e).mpr ((congrArg (fun z=>Rel B (Γ.setRt n (some ⟨r.bx,r.t,z⟩)) N (a0p a) w σ) h1).mpr hR');obtain⟨A0,rfl,hA0,-⟩:=hel h hsl hr hg rfl 0 (by omega);obtain⟨σ',h2⟩:=d3C (b:=A0.block) (o:=A0.off) (off:=off) (m:=m) (L:=l.length) hp hty (fun hR hs hr' hg' hl' j hj=>by
   obtain⟨A1,e1,-,g⟩:=hel hR hs hr' hg' hl' j (by omega);simp_all) (by omega) (ys.take m) 0 (by simp_all) h hpd hsl hr hg rfl
 refine⟨_,σ',?_,(congrArg (fun z=>Rel B (Γ.setRt n (some ⟨r.bx,r.t,a1U r.t r.x p (.list true (.int k)) z⟩)) N (a0p a) (w.setCells A0.block (A0.off+0) ((ys.take m).map (Value.int k))) σ') hgc).mpr h2⟩;have hfree:∀j,j<m→∃kk,a0Z w A0.block kk∧A0.off+j<kk:=fun j hj=>by
  obtain⟨A1,e1,-,r1,t1,b1,o1,q1,q2,q3⟩:=hel h hsl hr hg rfl j (by omega);simp at e1;subst e1;simp at q3;obtain⟨rfl,rfl⟩:=q3;have hroom:=h.room q1 q2;refine⟨_,hroom,?_⟩;have hR1:t1=.int k:=by
   rw[hr]at q1;simp at q1;subst q1;obtain⟨O1,R1,k1,-⟩:=h.sep hr;obtain⟨y,O',R',_,_,_,_,-,g4,-⟩:=a1G _ r.t _ k1 q2;have g5:a1L (p++[.idx (off+j)]) r.t r.x=⟨t1,y⟩:=g4;have hg':a1L p r.t r.x=⟨.list true (.int k),l⟩:=hg;rw[b3J,hg',c8J]at g5
   grind
  grind
 have hst:=run_storeCells_cells (P:=P) A0.block A0.off (cs.take m) 0 w (fun j hj=>by
   obtain⟨kk,q1,q2⟩:=hfree j (by simp_all);exact(q1.cell (o:=A0.off+0+j) (by omega)).1) (fun j hj=>by
   obtain⟨kk,q1,q2⟩:=hfree j (by simp_all);exact(q1.cell (o:=A0.off+0+j) (by omega)).2) (fun u hu=>a9v (hone u (List.mem_of_mem_take hu)))
 have hA1:A0=⟨A0.block,A0.off,none⟩:=by cases A0;grind
 rw[←hA1,hcs]at hst;rw[←hm];simp only[Builtin.copy_,h0];simp only[a22]at *;simp[run_underlying hu,Builtin.lenOf,hmin,hsize,hfirst,hst,htake]
theorem d3D{o:Oper}{c:Call}{d:Nat}{cx:Cx}{q:Bool}{K:AE→Rs ρ}{z:ρ}(hcx:CxTy P cx)(ho:o.op=.call c)(hb:c.callee=.builtin .copy)(hd:o.dst=some d)
  (h:Rel B Γ N (a0p a) w σ)(hN:a.tmps.size=N)(hf:fits N o=true)(hz:aop cx q o Γ K=some z):a0w P B N o a w K z:=by
 obtain⟨cs,hrun⟩:=b8P (P:=P) (a:=a) (w:=w) ho hb;have hl:∃x y,c.args.toList=[x,y]:=by
  cases hl:c.args.toList with
  |nil=>simp_all[aop,AE.blt]
  |cons x l=>
   cases l with
   |nil=>simp_all[aop,AE.blt]
   |cons y l=>
    cases l with
    |nil=>simp
    |cons u l=>simp_all[aop,AE.blt]
 obtain⟨x,y,hxy⟩:=hl;have hargs:c.args=#[x,y]:=by grind
 have hops:=b7p ho hb hf;rw[hxy]at hops;have hx:=h.opd (hops x (by simp));have hy:=h.opd (hops y (by simp));simp only[aop,ho,hd,hb,hxy,a09,List.map_nil,AE.blt]at hz
 split at hz
 grind
 ·split at hz
  ·rename_i o' k hT;obtain⟨t,ht,hT⟩:=a31.1 hT;have ht0:c.argTypes[0]?=some t:=by
    rw[←a19];cases hl:c.argTypes.toList with
    |nil=>simp_all
    |cons y l=>simp_all
   obtain⟨hsh,hty⟩:=hcx.T t _ hT;obtain⟨t',hu,hte,hpos⟩:=a1X hty;obtain⟨I⟩:=a0E (a0L hte);obtain⟨ys,hz,hE⟩:=h.elems rfl hy hz;have fin:∀(n:Nat)(p:a0R)(off:Nat)(len:Option Nat),(Γ.opd x=.sref n p∧off=0∧len=none∨∃Lc,Γ.opd x=.swin n p off Lc∧len=some Lc)→
     Γ.copTo n p off len k ys (fun m Γ'=>K (Γ'.set d (.val (.int .i64) (m:Int))))=some z→a0w P B N o a w K z:=by
    intro n p off len hav hz;unfold AE.copTo at hz
    split at hz
    ·rename_i r hlk;obtain⟨hpd,hr⟩:=a0N hlk
     split at hz
     ·rename_i k' l hg;obtain⟨hc,hz5⟩:=(a0i hz).elim id fun h=>by grind
      simp at hc;obtain⟨rfl,hp⟩:=hc;have hxt:∃i,x=.tmp i∧Γ.sl i=.one (Γ.opd x):=by
       cases x with
       |tmp i=>
        refine⟨i,rfl,?_⟩
        grind[AE.opd,AE.get]
       |const v=>
        exfalso
        simp[AE.opd]at hav;unfold b8I at hav
        grind
       |global g=>rcases hav with⟨h1,-⟩|⟨_,h1,-⟩<;>cases h1
       |func f=>rcases hav with⟨h1,-⟩|⟨_,h1,-⟩<;>cases h1
      obtain⟨i,rfl,hsl⟩:=hxt;have hi:i<N:=by simp_all[a1u]
      have done:∀(A:Option Addr)(Lc c':Nat),a.eval (.tmp i)=.slice A Lc c'→len.getD (a21 l)=Lc→off+Lc≤a21 l→
        (∀{Γ':AE}{σ:Gh}{w:World}{r:Root}{l':List Int},Rel B Γ' N (a0p a) w σ→Γ'.sl i=.one (Γ.opd (.tmp i))→Γ'.rt n=some r→a1p r.t r.x p=⟨.list true (.int k'),l'⟩→l'.length=a21 l→∀j,j<Lc→
         ∃A0,A=some A0∧A0.spot=none∧a0j (a0a w σ.ov) σ.g Γ'.rt (Shr B w σ) (.ptr n (p++[.idx (off+j)])) (.pointer (some ⟨A0.block,A0.off+j,none⟩)))→a0w P B N o a w K z:=by
       intro A Lc c' hv hLc hoff hel;obtain⟨w',σ',k1,k2⟩:=d4N (ty:=o.type) hte h hpd hp hsl hr hg hoff hel hE ht0 hu I (c:=c');rw[hLc]at hz5;refine a0w.set hd hN (w':=w') (σ':=σ') (hrun.trans ?_) k2 (a0j.mk_int _) hz5;rw[hargs];have hv':a.eval (.tmp i)=.slice A Lc c':=hv;simp[builtin,hv',k1];rfl
      rcases hav with⟨he,rfl,rfl⟩|⟨Lc,he,rfl⟩;rw[he]at hx;obtain⟨A,c',hv,-⟩:=c6P h hx hr hg;refine done A (a21 l) c' hv rfl (by omega) fun {Γ' σ w r l'} hR hs hr' hg' hl' j hj=>?_
      have hsl':=hR.slots i hi;rw[hs,he]at hsl';obtain⟨A2,c2,hv2,hel⟩:=c6P hR hsl' hr' hg';have e:=hv2.symm.trans hv;simp_all;rw[he]at hx;obtain⟨hoff,A,c',hv,-⟩:=c6Q h hx hr hg;refine done A Lc c' hv rfl hoff fun {Γ' σ w r l'} hR hs hr' hg' hl' j hj=>?_
      have hsl':=hR.slots i hi;rw[hs,he]at hsl';obtain⟨-,A2,c2,hv2,hel⟩:=c6Q hR hsl' hr' hg';have e:=hv2.symm.trans hv;simp_all
     simp_all
    simp_all
   unfold AE.copK at hz
   grind
  simp_all
theorem c7J{o:Oper}{f:Nat}{first caps:Array Operand}{d:Nat}{cx:Cx}{q:Bool}{K:AE→Rs ρ}{z:ρ}(ho:o.op=.makeFunc (.func f) first caps)(hd:o.dst=some d)
  (h:Rel B Γ N (a0p a) w σ)(hN:a.tmps.size=N)(hf:fits N o=true)(hz:aop cx q o Γ K=some z):a0w P B N o a w K z:=by
 have hops:=a0X hf;rw[ho]at hops;simp[aop,ho,hd]at hz;obtain⟨hfe,hz⟩:=(a0i hz).elim id fun h=>by grind
 have hfe:first=#[]:=by simp_all
 subst hfe;have hrun:(execOp a.eval o).run P w=.ok (.value (.func (.func f) #[] (caps.map a.eval))) w:=by
  simp_all[execOp,Instr.makeFunc]
 refine⟨_,w,_,σ,.inl hrun,?_,hz⟩;rw[hd];refine h.putd hN (fun _=>⟨caps.map a.eval,⟨by simp,rfl⟩,fun k av hk=>?_⟩);rw[a33]at hk;cases hp:caps.toList[k]? with
 |none=>simp_all
 |some x=>
  rw[hp]at hk;simp at hk;subst hk;refine⟨a.eval x,?_,h.opd (hops x (by grind[Op.operands]))⟩;simp_all
end
end Go.Ab
namespace Go.Ab
section
variable {P:Program} {B:Base} {N:Nat} {ρ:Type} {Γ:AE} {a:Act} {w:World} {σ:Gh}
theorem c7K{o:Oper}{t:TypeId}{n:Nat}{ps:Array (Nat×Operand)}{d:Nat}{cx:Cx}{q:Bool}{K:AE→Rs ρ}{z:ρ}{o':Bool}{e t0:Ty}(hcx:CxTy P cx)(ho:o.op=.buildSlice t n ps)(hd:o.dst=some d)
  (hT:cx.T t=some (.list o' e))(hO:(bif q || !e.isList then none else cx.O d)=some t0)
  (h:Rel B Γ N (a0p a) w σ)(hN:a.tmps.size=N)(hf:fits N o=true)(hz:aop cx q o Γ K=some z):a0w P B N o a w K z:=by
 have hops:∀y∈(o.op.operands.toList),a1u N y=true:=a0X hf;rw[ho]at hops;simp[aop,ho,hd,hT,hO]at hz
 split at hz
 ·rename_i e' x hl
  split at hz
  ·rename_i hc;obtain⟨hes,rfl⟩:=hc;have hel:e.isList=true:=by
    grind
   have hps:ps=#[(0,x)]:=by grind
   obtain⟨hsh,hty⟩:=hcx.T t _ hT;obtain⟨t',hu,hte,hpos⟩:=a1X hty;obtain⟨I⟩:=a0E (a0L hte);have he:e.sh=e:=by
    simp_all[Ty.sh]
   have hc1:e.cells=1:=b2z hel;have hc1':e'.cells=1:=by grind[Ty.cells_sh]
   have hxo:a1u N x=true:=hops x (by simp[Op.operands,hps]);obtain⟨z0,hz0⟩:∃z0,I.z.cells=#[z0]:=by
    have:=I.zsize
    rw[hc1]at this;obtain⟨z0,hz0⟩:=a44.1 (show I.z.cells.toList.length=1 by omega)
    grind
   have hd0:a0g (fun i=>dec (a0a w σ.ov) e' fun j=>(#[z0]:Array Value)[i*e'.cells+j]?) 1 0=some ([e'.dflt],[],[]):=by
    have:=a6Y (m:=a0a w σ.ov) e' (rd:=fun j=>I.z.cells[j]?) (by rw[←c8w,hes];exact I.zok)
    simp_all[a0g]
   obtain⟨Γ1,σ1,k1,k2,k3,-,k5⟩:=h.newSlice (c:=1) hz (fun c hc=>a2j _ c hc) (a2O _) (a2k (Obj.cells #[z0] t')) (.inl rfl) (by simp_all) (by simp) hd0 (by simp);have hrt:Γ1.rt d=some ⟨false,.list true e',[e'.dflt]⟩:=by
    grind[AE.newRt,AE.setRt]
   have hgd:=k2.top1 hrt rfl k3;have hptr:a0j (a0a (w.alloc (.cells #[z0] t')) σ1.ov) σ1.g Γ1.rt (Shr B (w.alloc (.cells #[z0] t')) σ1) (.ptr d [.idx 0]) (.pointer (some ⟨w.heap.size,0,none⟩)):=
    ⟨_,e',w.heap.size,0,hrt,by simp_all[a0V,Src.rd],rfl⟩
   have hyv:=k2.opd hxo
   split at k1
   ·rename_i m hy;rw[hy]at hyv;have hvs:∃A n c,a.eval x=.slice A n c:=by
     obtain⟨r,e2,s2,q1,q2,q3⟩:=hyv;obtain⟨O',R,q4,-⟩:=(k2.roots m r q1).rd;simp[a0V]at q2;obtain⟨bx,tr,xr⟩:=r;obtain⟨rfl,rfl⟩:tr=.list true e2∧_=s2:=q2;rcases a1W q4 with⟨q5,-⟩|⟨A,n,c,os,q5,-⟩
     all_goals grind
    obtain⟨A,nA,cA,hv⟩:=hvs;have k6:=k2.putd (sv:=.one (.sref d [])) (v:=.slice (some ⟨w.heap.size,0,none⟩) 1 1) (d:=d) hN (fun _=>k3);obtain⟨w',Γ',σ',b,off,j1,j2,-,j4,j5⟩:=k6.storR he hte hptr hyv k1;simp at j1;obtain⟨rfl,rfl⟩:=j1;have hw':w'=w.alloc (.cells #[a.eval x] t'):=by
     simp_all[Value.cells,World.setCells,c0z]
    have hrun:(execOp a.eval o).run P w=.ok (.value (.slice (some ⟨w.heap.size,0,none⟩) 1 1)) (w.alloc (.cells #[a.eval x] t')):=by
     have hfill:Instr.fill (fun i=>some (i*1,1)) ((a51 (1*1)).map (I.z.cells[·%I.z.cells.size]!)) [(0,a.eval x)]=some #[a.eval x]:=by
      have hr:(a51 (1*1)).map (I.z.cells[·%I.z.cells.size]!)=#[z0]:=by rw[hz0];simp[Array.range_succ,show a51 0=#[]from rfl]
      rw[hr,hv];rfl
     have hle:¬ (1*1 > 2^24):=by simp
     have h10:¬ (1*1=0):=by simp
     have hpm:(ps.map fun(i,x)=>(i,a.eval x)).toList=[(0,a.eval x)]:=by simp_all
     simp only[execOp,ho,Instr.buildSlice,Sem.run_bind,run_underlying hu,Result.andThen_ok,I.sizeOf,hc1,if_neg hle,if_neg h10,Sem.run_pure,I.zeroValue,hpm,hfill,newRow]
     simp
    rw[hw']at j4;exact⟨_,_,Γ',σ',.inl hrun,by simp_all,j5⟩
   simp_all
  simp_all
 simp_all
end
end Go.Ab
namespace Go.Ab
section
variable {P:Program} {B:Base} {N:Nat} {ρ:Type} {Γ:AE} {a:Act} {w:World} {σ:Gh}
theorem d3E{o:Oper}{cx:Cx}{q:Bool}{K:AE→Rs ρ}{z:ρ}(hcx:CxTy P cx)(hG:GOk cx.G B)(hnc:∀c v,o.op=.call c→c.callee≠.value v)
  (h:Rel B Γ N (a0p a) w σ)(hN:a.tmps.size=N)(hf:fits N o=true)(hz:aop cx q o Γ K=some z):a0w P B N o a w K z:=by
 cases hd:o.dst with
 |none=>
  cases ho:o.op
  case store t x y=>
   cases hag:Γ.aggOf y with
   |none=>grind[c4Q]
   |some vs=>grind[c0A]
  case call c=>
   cases hc:c.callee with
   |value v=>simp_all
   |builtin b=>simp_all[aop]
   |invoke r n=>simp_all[aop]
  all_goals (simp only[aop,ho,hd]at hz;cases hz)
 |some d=>
  cases ho:o.op
  case store t x y=>
   cases hag:Γ.aggOf y with
   |none=>grind[c4Q]
   |some vs=>grind[c0A]
  case call c=>
   cases hc:c.callee with
   |value v=>simp_all
   |builtin b=>
    cases b
    case len=>grind[d4G]
    case max=>grind[d4H]
    case min=>grind[d4I]
    case append=>grind[d0g]
    case copy=>grind[d3D]
    all_goals (simp only[aop,ho,hd,hc]at hz;unfold AE.blt at hz;first|(cases hz;done)|(split at hz<;>first|(cases hz;done)|(rename_i h1;cases h1;done)|(rename_i h1 _;cases h1;done)))
   |invoke r n=>simp_all[aop]
  case move x=>grind[d3o]
  case assign x=>grind[d0h]
  case pick x y u=>grind[d3p]
  case alloc t=>grind[d1D]
  case box t x=>
   cases hag:(bif q then none else Γ.aggOf x)with
   |none=>exact d4E ho hd hag h hN hf hz
   |some vs=>grind[d0j]
  case build t x=>
   cases hnl:cx.nlT d t with
   |some τ=>grind[c4N]
   |none=>
    cases hO:(bif q then none else cx.O d)with
    |none=>grind[c4N]
    |some τ=>grind[c7I]
  case makeFunc fn first caps=>
   cases fn with
   |func f=>grind[c7J]
   |_=>simp_all[aop]
  case buildSlice t n x=>
   by_cases hO:∃o' e t0,cx.T t=some (.list o' e)∧(bif q || !e.isList then none else cx.O d)=some t0
   grind[c7K]
   ·refine c4M hcx ho hd (fun o' e hT=>?_) h hN hf hz;cases h1:(bif q || !e.isList then none else cx.O d)with
    |none=>rfl
    |some t0=>simp_all
  case load t x=>grind[d3t]
  case nilCheck x=>grind[c7G]
  case binOp op t x y s=>grind[d1z]
  case unOp op t x=>grind[d3q]
  case convert s t x=>grind[c8H]
  case makeSlice t x y=>grind[c6j]
  case slice t x u v m=>grind[d1A]
  case fieldAddr s x f=>grind[c6i]
  case field s x f=>grind[d1B]
  case indexAddr t x i=>grind[c6h]
  case index t x i=>grind[d1C]
  case extract x i=>
   cases x with
   |tmp t=>grind[c8x]
   |_=>simp_all[aop]
  all_goals (simp only[aop,ho,hd]at hz;cases hz)
end
end Go.Ab
namespace Go.Ab
def cells(w:World):Mem:=fun b o=>w.cell? ⟨b,o,none⟩
structure Ent1 where
 r:Root
 s:Src
 O:a1g
def a9K(Γ:AE)(f:AV→AV)(E:Nat→Option Ent1):AE:=
 ⟨(Γ.mapv f).sl,fun n=>match E n with|some e=>some e.r|none=>Γ.rt n,none⟩
def a4D(σ:Gh)(E:Nat→Option Ent1):Gh:=
 ⟨fun n=>match E n with|some e=>e.s|none=>σ.g n,fun n=>match E n with|some e=>e.O|none=>σ.ow n,none⟩
theorem b0m{Γ f E n}(h:E n=none):(a9K Γ f E).rt n=Γ.rt n:=by simp[a9K,h]
theorem a5Z{Γ f E n e}(h:E n=some e):(a9K Γ f E).rt n=some e.r:=by simp[a9K,h]
theorem b3K{σ E n}(h:E n=none):(a4D σ E).g n=σ.g n:=by simp[a4D,h]
theorem a6a{σ E n e}(h:E n=some e):(a4D σ E).g n=e.s:=by simp[a4D,h]
theorem a3e{σ E n}(h:E n=none):(a4D σ E).ow n=σ.ow n:=by simp[a4D,h]
theorem a3S{σ E n e}(h:E n=some e):(a4D σ E).ow n=e.O:=by simp[a4D,h]
structure Work (w w':World) (σ:Gh) (F':Nat→Prop) (E:Nat→Option Ent1):Prop where
 own:∀c,F' c→∃n e,E n=some e∧c∈(σ.ow n).map (·.1)
 size:w.heap.size≤w'.heap.size
 same:∀b,b<w.heap.size→¬ F' b→w'.heap[b]?=w.heap[b]?
 mine:∀n e c,E n=some e→c∈e.O.map (·.1)→(F' c∨c∈(σ.ow n).map (·.1))∨w.heap.size≤c
 nodup:∀n e,E n=some e→(e.O.map (·.1)).Nodup
 disj:∀n e n' e',E n=some e→E n'=some e'→n≠n'→∀c,c∈e.O.map (·.1)→c∉e'.O.map (·.1)
 live:∀n e p,E n=some e→p∈e.O→a0Z w' p.1 p.2
 still:a2n w'=a2n w
theorem Rel.merge{B Γ N tm w σ}(h:Rel B Γ N tm w σ)(hov:σ.ov=none){w':World}{F':Nat→Prop}{E:Nat→Option Ent1}(W:Work w w' σ F' E)
  (hroot:∀n e,E n=some e→RootOk (cells w') (fun c=>c<w'.heap.size∧(Shr B w σ c∨F' c∨w.heap.size≤c)∧∀n e,E n=some e→c∉e.O.map (·.1)) e.r e.s e.O)
  (hpin:∀i b e,B.pin i=some b→E (pinned+i)=some e→e.s=b){f:AV→AV}
  (hf:∀a v,a0j (a0a w σ.ov) σ.g Γ.rt (Shr B w σ) a v→f a=.dead∨(f a=a∧∀k q,(a=.ptr k q∨a=.sref k q∨∃o l,a=.swin k q o l)→E k=none∨(a=.ptr k []∧∃e b,E k=some e∧e.s=.at b 0∧σ.g k=.at b 0)∨
   (a=.sref k []∧∃e v ε,E k=some e∧e.s=.one v∧σ.g k=.one v∧e.r.t=.list true ε))):
  Rel B (a9K Γ f E) N tm w' (a4D σ E)∧
   (∀c,c<w'.heap.size∧(Shr B w σ c∨F' c∨w.heap.size≤c)∧(∀n e,E n=some e→c∉e.O.map (·.1))→Shr B w' (a4D σ E) c):=by
 have hFo:∀c,F' c→a0P σ c:=fun c hc=>by obtain⟨n,e,-,hn⟩:=W.own c hc;exact⟨n,hn⟩
 have hFlt:∀c,F' c→c<w.heap.size:=fun c hc=>h.lt (hFo c hc)

 have hoth:∀n c,E n=none→c∈(σ.ow n).map (·.1)→¬ F' c:=fun n c hn hc hF=>by
  obtain⟨n',e',h1,h2⟩:=W.own c hF;have hne:n≠n':=by grind
  exact h.disj n n' hne c hc h2
 have hOw:∀c,a0P (a4D σ E) c→(∃n,E n=none∧c∈(σ.ow n).map (·.1))∨∃n e,E n=some e∧c∈e.O.map (·.1):=by
  rintro c ⟨n,hn⟩
  cases hE:E n with
  |none=>grind[a3e]
  |some e=>grind[a3S]
 have hsh:∀c,c<w'.heap.size∧(Shr B w σ c∨F' c∨w.heap.size≤c)∧(∀n e,E n=some e→c∉e.O.map (·.1))→Shr B w' (a4D σ E) c:=by
  rintro c ⟨h1,h2,h3⟩
  refine⟨h1,?_,fun ho=>?_⟩;rcases h2 with h2|h2|h2;exact h2.2.1;exact .inr (h.mine c (hFo c h2));exact .inr (.inr (a30 h.size h2));rcases hOw c ho with⟨n,hE,hn⟩|⟨n,e,hE,hn⟩;rcases h2 with h2|h2|h2;exact h2.2.2 ⟨n,hn⟩
  grind
  have:=h.lt ⟨n,hn⟩;omega
  grind
 have hshO:∀c,Shr B w σ c→Shr B w' (a4D σ E) c:=fun c hc=>hsh c ⟨a16 hc.1 W.size,.inl hc,fun n e hE hn=>by
  rcases W.mine n e c hE hn with(g|g)|g;exact hc.2.2 (hFo c g);exact hc.2.2 ⟨n,g⟩
  have:=hc.1;omega⟩
 have hmem:∀c j,c<w.heap.size→¬ F' c→a0a w' none c j=a0a w σ.ov c j:=fun c j hc hF=>by
  rw[hov];exact a1s none (W.same c hc hF) j
 have hmemo:∀n c j,E n=none→c∈(σ.ow n).map (·.1)→a0a w' none c j=a0a w σ.ov c j:=fun n c j hn hc=>hmem c j (h.lt ⟨n,hc⟩) (hoth n c hn hc);have hmems:∀c j,Shr B w σ c→a0a w' none c j=a0a w σ.ov c j:=fun c j hc=>hmem c j hc.1 fun hF=>hc.2.2 (hFo c hF);have hplace:∀n q r t s,E n=none→Γ.rt n=some r→loc (a0a w σ.ov) r.t (σ.g n) q=some (t,s)→loc (a0a w' none) r.t (σ.g n) q=some (t,s)∧s.rd (a0a w' none) 0=s.rd (a0a w σ.ov) 0:=by
  intro n q r t s hE hr hl;obtain⟨O1,R1,l1,l2,l3,l4,l5,l6⟩:=h.sep hr;refine⟨a2E q r.t _ l1 hl (fun j _=>?_) (fun c j hc=>hmemo n c j hE (l4 c hc)),?_⟩
  ·cases es:σ.g n with
   |one v=>rfl
   |_=>rename_i b o;exact hmemo n b _ hE (l5 _ _ es)
  ·cases s with
   |one v=>rfl
   |_=>rename_i b o;exact hmemo n b _ hE (h.place hr hl)
 refine⟨⟨fun n r hr=>?_,fun n hn=>?_,fun n=>?_,fun n n' hne c hc hc'=>?_,fun n p hp=>?_,fun i hi=>?_,trivial,a30 h.size W.size,fun b hb hF=>?_,fun c hc=>?_,fun i b hb hne=>?_,W.still.trans h.still⟩,hsh⟩
 ·cases hE:E n with
  |none=>
   rw[b0m hE]at hr;rw[b3K hE,a3e hE];obtain⟨O1,R1,l1,l2,l3,l4,l5,l6⟩:=h.sep hr;refine⟨O1,R1,?_,fun c hc=>hshO c (l2 c hc),l6⟩;show dec (a0a w' none) r.t ((σ.g n).rd (a0a w' none))=_;refine a0x r.t l1 (fun j _=>?_) (fun c j hc=>?_)
   ·cases es:σ.g n with
    |one v=>rfl
    |_=>rename_i b o;exact hmemo n b _ hE (l5 _ _ es)
   grind
  |some e=>
   rw[a5Z hE]at hr;rw[a6a hE,a3S hE];simp at hr;subst hr;exact(hroot n e hE).mono hsh
 ·cases hE:E n with
  |none=>rw[b0m hE]at hn;rw[a3e hE];exact h.norm n hn
  |some e=>grind[a5Z]
 ·cases hE:E n with
  |none=>rw[a3e hE];exact h.nodup n
  |some e=>rw[a3S hE];exact W.nodup n e hE
 ·have cross:∀n n',E n=none→∀e',E n'=some e'→c∈(σ.ow n).map (·.1)→c∈e'.O.map (·.1)→False:=fun n n' hE e' hE' hc hc'=>by
   rcases W.mine n' e' c hE' hc' with(g|g)|g
   grind
   exact h.disj n n' (by grind) c hc g
   have:=h.lt ⟨n,hc⟩;omega
  cases hE:E n with
  |none=>
   rw[a3e hE]at hc;cases hE':E n' with
   |none=>rw[a3e hE']at hc';exact h.disj n n' hne c hc hc'
   |some e'=>grind[a3S]
  |some e=>
   rw[a3S hE]at hc;cases hE':E n' with
   |none=>grind[a3e]
   |some e'=>rw[a3S hE']at hc';exact W.disj n e n' e' hE hE' hne c hc hc'
 ·cases hE:E n with
  |none=>
   rw[a3e hE]at hp;obtain⟨c,e,lo,hi,h1,h2,h3⟩:=h.live n p hp;have hc:=a00 (f:=(·.1)) hp;exact⟨c,e,lo,hi,by rw[W.same p.1 (h.lt ⟨n,hc⟩) (hoth n p.1 hE hc)];omega,h2,h3⟩
  |some e=>rw[a3S hE]at hp;exact W.live n e p hE hp
 refine(h.slots i hi).mapv fun a v ha=>?_
 rcases hf a v ha with g|⟨g,hk⟩;rw[g];trivial;rw[g]
 by_cases hz:∃k e b,a=.ptr k []∧E k=some e∧e.s=.at b 0∧σ.g k=.at b 0
 obtain⟨k,e,b,rfl,hE,hs,hg⟩:=hz;obtain⟨r,t,b',o,h1,h2,h3⟩:=ha;simp[a0V,hg]at h2;obtain⟨rfl,rfl,rfl⟩:=h2;refine⟨e.r,e.r.t,b,0,a5Z hE,?_,h3⟩;rw[a6a hE,hs];rfl
 by_cases hy:∃k e u ε,a=.sref k []∧E k=some e∧e.s=.one u∧σ.g k=.one u∧e.r.t=.list true ε
 obtain⟨k,e,u,ε,rfl,hE,hs,hg,ht⟩:=hy;obtain⟨r,e',s,h1,h2,h3⟩:=ha;simp[a0V,hg]at h2;obtain⟨-,rfl⟩:=h2;refine⟨e.r,ε,.one u,a5Z hE,?_,h3⟩;rw[a6a hE,hs,ht];rfl;refine ha.frame hmems hshO fun k q r t s hcase hr hl=>?_
 have hE:E k=none:=by
  grind
 have hp:=hplace k q r t s hE hr hl;refine⟨r,by grind[b0m],by rw[b3K hE];exact hp.1,fun u _ hu=>by rw[←hu];exact hp.2⟩
 ·rw[W.same b (a16 hb h.size) ?_];exact h.frame b hb hF
  ·intro g;rcases h.mine b (hFo b g)with g|g
   all_goals grind
 rcases hOw c hc with⟨n,hE,hn⟩|⟨n,e,hE,hn⟩;exact h.mine c ⟨n,hn⟩;rcases W.mine n e c hE hn with(g|g)|g;exact h.mine c (hFo c g);exact h.mine c ⟨n,g⟩;exact .inr (a30 h.size g)
 ·cases hE:E (pinned+i)with
  |none=>rw[b0m hE]at hne;rw[b3K hE];exact h.pins i b hb hne
  |some e=>grind[a6a]
end Go.Ab
namespace Go.Ab
def c1n:Src→Value→Prop
 |.at b o,v=>o=0∧v=.pointer (some ⟨b,0,none⟩)
 |.one u,v=>v=u
theorem c1n.uniq:∀{s:Src}{u v:Value},c1n s u→c1n s v→u=v
 |.at _ _,_,_,h,h'=>h.2.trans h'.2.symm
 |.one _,_,_,h,h'=>h.trans (show _=_ from h').symm
def lg(w:World)(σ:Gh)(n:Nat)(bx:Bool):Src:=match bx,σ.g n with
 |false,.at b _=>.one ((w.cell? ⟨b,0,none⟩).getD undef)
 |_,s=>s
def lo(σ:Gh)(n:Nat)(bx:Bool):a1g:=match bx,σ.g n with
 |false,.at _ _=>(σ.ow n).tail
 |_,_=>σ.ow n
theorem d7i{σ:Gh}{n:Nat}{bx:Bool}{p}(h:p∈lo σ n bx):p∈σ.ow n:=by
 unfold lo at h
 grind[List.mem_of_mem_tail]
def c1o(w:World)(Γ:AE)(σ:Gh)(n:Nat)(r:Root)(v:Value):Prop:=
 (Γ.rt n=some r∧c1n (σ.g n) v)∨∃b,(r.bx=false∧∃e,r.t=.list true e)∧Γ.rt n=some ⟨true,r.t,r.x⟩∧σ.g n=.at b 0∧w.cell? ⟨b,0,none⟩=some v
theorem c1o.keep{w:World}{Γ Γ':AE}{σ σ':Gh}{n:Nat}{r:Root}{v:Value}(h:c1o w Γ σ n r v)(hk:∀r,Γ.rt n=some r→Γ'.rt n=some r∧σ'.g n=σ.g n):c1o w Γ' σ' n r v:=by
 rcases h with⟨h1,h2⟩|⟨b,h1,h2,h3,h4⟩;obtain⟨k1,k2⟩:=hk _ h1;exact .inl ⟨k1,by simp_all⟩;obtain⟨k1,k2⟩:=hk _ h2;exact .inr ⟨b,h1,k1,k2.trans h3,h4⟩
structure ArgsOk (fz:Bool) (B:Base) (w:World) (Γ':AE) (σ':Gh) (ps:List PA) (x:(a2g (ps.map PA.ty)).den) (vs:List Value) (used us:List Nat) (i0:Nat):Prop where
 vals:∀(i:Nat)(t:Ty)(y:t.den)(v:Value),(a0Y ps x)[i]?=some ⟨.v t,y⟩→vs[i]?=some v→
  VOk (a0a w σ'.ov) (fun c=>Shr B w σ' c∨(fz=false∧∃n,n∉used∧n∉us∧c∈(σ'.ow n).map (·.1))) t y v
 refs:∀(k n:Nat),us[k]?=some n→∃(i:Nat)(c:Bool)(a:RA)(y:a.ty.den)(v:Value)(r:Root),(a0I ps i0)[k]?=some (i0+i)∧(a0Y ps x)[i]?=some ⟨.r c a,y⟩∧vs[i]?=some v∧
  a0M ⟨a,y⟩=some r∧c1o w Γ' σ' n r v∧(c=true→Γ'.rt n=some r∧r.bx=false∧n<pinned)
 len:us.length=(a0I ps i0).length
 nodup:us.Nodup
 apart:∀n∈us,n∉used
section
variable {B:Base} {N:Nat} {tm:Nat→Value} {w:World} {Γ:AE} {σ:Gh}
theorem Rel.src_of{n:Nat}{r:Root}(h:Rel B Γ N tm w σ)(hr:Γ.rt n=some r):(r.bx=true∧∃b,σ.g n=.at b 0)∨(r.bx=false∧∃v e,σ.g n=.one v∧r.t=.list true e):=by
 obtain⟨O',R,-,-,hc⟩:=(h.roots n r hr).rd
 grind
theorem Rel.lent(h:Rel B Γ N tm w σ)(hov:σ.ov=none){n:Nat}{r:Root}{v:Value}(hL:c1o w Γ σ n r v):
  RootOk (a0a w σ.ov) (Shr B w σ) r (lg w σ n r.bx) (lo σ n r.bx)∧c1n (lg w σ n r.bx) v∧(∀p∈lo σ n r.bx,p∈σ.ow n)∧((lo σ n r.bx).map (·.1)).Nodup∧
   ((r.bx=true∧∃b,lg w σ n r.bx=.at b 0)∨(r.bx=false∧∃u e,lg w σ n r.bx=.one u∧r.t=.list true e)):=by
 rcases hL with⟨h1,h2⟩|⟨b,h1,h2,h3,h4⟩
 ·have hg:lg w σ n r.bx=σ.g n∧lo σ n r.bx=σ.ow n:=by
   rcases h.src_of h1 with⟨e1,b,e2⟩|⟨e1,u,e,e2,-⟩
   all_goals simp_all[lg,lo]
  rw[hg.1,hg.2];exact⟨h.roots n r h1,h2,fun _ g=>g,h.nodup n,h.src_of h1⟩
 obtain⟨h1,hlt⟩:=h1;obtain⟨O',R,k1,k2,k3⟩:=(h.roots n _ h2).rd;have hg:lg w σ n r.bx=.one v∧lo σ n r.bx=(σ.ow n).tail:=by simp_all[lg,lo]
 rcases k3 with⟨-,b',e1,e2⟩|⟨e1,-⟩;rw[hg.1,hg.2,e2];have hnd:=h.nodup n;rw[e2,a09]at hnd;obtain⟨e,ht⟩:=hlt;refine⟨⟨O',R,?_,k2,.inr ⟨h1,⟨v,rfl⟩,⟨e,ht⟩,rfl⟩⟩,rfl,fun p hp=>a01 _ hp,(a04.1 hnd).2,.inr ⟨h1,v,e,rfl,ht⟩⟩;refine a0x r.t k1 (fun j hj=>?_) (fun _ _ _=>rfl);simp_all[Ty.cells,Src.rd,a0a];simp_all
end
section
variable {ρ:Type} {B:Base} {N:Nat} {tm:Nat→Value} {w:World}
theorem Rel.arg{Γ:AE}{σ:Gh}(h:Rel B Γ N tm w σ){fz q:Bool}{used seen:List Nat}{p:PA}{a:AV}{v:Value}{K:p.ty.den→AE→List Nat→List Nat→Rs ρ}{z:ρ}
  (ha:a0j (a0a w σ.ov) σ.g Γ.rt (Shr B w σ) a v∨b2y Γ a)(hK:Γ.arg fz q used seen p a K=some z):
  ∃x Γ' σ' used' seen',K x Γ' used' seen'=some z∧Rel B Γ' N tm w σ'∧Ev B w Γ σ Γ' σ'∧a3Q (·∉used) Γ σ Γ' σ'∧(fz=false∨q=true→Γ'=Γ∧σ'=σ)∧(∀n∈seen,n∈seen')∧
   match p,x with
   |.v t,x=>used'=used∧VOk (a0a w σ'.ov) (fun c=>Shr B w σ' c∨(fz=false∧∃n,n∉used∧n∈seen'∧c∈(σ'.ow n).map (·.1))) t x v
   |.r c b,x=>∃n r,used'=n::used∧n∉used∧n∉seen∧seen'=seen∧a0M ⟨b,x⟩=some r∧c1o w Γ' σ' n r v∧(c=true→Γ'.rt n=some r∧r.bx=false∧n<pinned):=by
 cases p with
 |v t=>
  simp only[AE.arg]at hK;obtain⟨hv,hK⟩:(a.viewed.any fun n=>used.contains n)=false∧_:=by
   rcases a0i hK with⟨-,g⟩|⟨g1,g2⟩;cases g;exact⟨g1,g2⟩
  have hvu:∀n∈a.viewed,n∉used:=fun n hn hu=>by
   simp_all
  cases fz with
  |true=>
   simp at hK;obtain⟨x,Γ',σ',h1,h2,h3,h4,h5,h6⟩:=h.asVB ha hK;exact⟨x,Γ',σ',used,seen,h1,h2,h4,h6.mono hvu,fun g=>h5 (g.resolve_left (by simp)),fun _ g=>g,rfl,h3.frame (fun _ _ _=>rfl) (fun c hc=>.inl hc)⟩
  |false=>
   simp at hK;obtain⟨x,h1,h2⟩:=h.viewR ha hK;exact⟨x,Γ,σ,used,a.viewed++seen,h1,h,Ev.refl,a3Q.refl,fun _=>⟨rfl,rfl⟩,fun _ g=>a36 _ g,rfl,
    h2.frame (fun _ _ _=>rfl) (fun c hc=>hc.imp id fun⟨n,hn,hc⟩=>⟨rfl,n,hvu n hn,a26 _ hn,hc⟩)⟩
 |r c b=>
  cases b with
  |v t=>cases a<;>simp only[AE.arg]at hK<;>cases hK
  |b t=>
   cases a with
   |ptr n p=>
    cases p with
    |cons=>simp only[AE.arg]at hK;cases hK
    |nil=>
     simp only[AE.arg]at hK
     split at hK
     grind
     rename_i hq;simp at hq
     split at hK
     rename_i t' x hl;obtain⟨hpd,hr⟩:=a0N hl
     split at hK
     rename_i ht;subst ht;rcases ha with⟨r',t1,b,o,g1,g2,g3⟩|⟨k,q',hc,hk⟩;rw[hr]at g1;simp at g1;subst g1;obtain⟨O',R,-,-,hc⟩:=(h.roots n _ hr).rd;rcases hc with⟨-,b',hs,-⟩|⟨hb,-⟩;simp[a0V,hs]at g2;obtain⟨-,rfl,rfl⟩:=g2;exact⟨x,Γ,σ,n::used,seen,hK,h,Ev.refl,a3Q.refl,fun _=>⟨rfl,rfl⟩,fun _ g=>g,n,_,rfl,hq.1.2,hq.2,rfl,rfl,.inl ⟨hr,by rw[hs];exact⟨rfl,g3⟩⟩,fun g=>by simp_all⟩;simp_all;simp_all;simp_all;simp_all
   |_=>simp only[AE.arg]at hK;cases hK
  |o e=>
   cases a with
   |sref n p=>
    cases p with
    |cons=>simp only[AE.arg]at hK;cases hK
    |nil=>
     simp only[AE.arg]at hK
     split at hK
     grind
     ·rename_i hq;simp only[Bool.or_eq_true,bA,List.contains_iff_mem,not_or,a52,dT,not_and]at hq
      split at hK
      ·rename_i bx e' x hl;obtain⟨hpd,hr⟩:=a0N hl
       split at hK
       ·rename_i ht;subst ht;rcases ha with ha|⟨k,q',hc,hk⟩
        ·obtain⟨hbc,hK⟩:=(a0i hK).elim (fun h=>by grind) id;refine⟨x,Γ,σ,n::used,seen,hK,h,Ev.refl,a3Q.refl,fun _=>⟨rfl,rfl⟩,fun _ g=>g,n,_,rfl,hq.1.2,hq.2,rfl,rfl,?_,fun g=>⟨?_,rfl,by simp_all⟩⟩
         ·cases bx with
          |false=>exact .inl ⟨hr,by rw[h.top1 hr rfl ha];rfl⟩
          |true=>
           rcases h.src_of hr with⟨-,b,hs⟩|⟨g,-⟩;refine .inr ⟨b,⟨rfl,_,rfl⟩,hr,hs,?_⟩;obtain⟨r',e2,s2,g1,g2,g3⟩:=ha;simp[a0V]at g2;rw[←g2.2,hs,h.ov_none hpd]at g3;exact g3;simp_all
         simp_all
        simp_all
       simp_all
      simp_all
   |_=>simp only[AE.arg]at hK;cases hK
theorem Rel.args:∀(ps:List PA) (as:List AV)(vs:List Value){Γ:AE}{σ:Gh}(_:Rel B Γ N tm w σ){fz q:Bool}{used seen:List Nat}{i0:Nat}{K:(a2g (ps.map PA.ty)).den→AE→List Nat→Rs ρ} {z:ρ}
  (_:∀(i:Nat)(a:AV)(v:Value),as[i]?=some a→vs[i]?=some v→a0j (a0a w σ.ov) σ.g Γ.rt (Shr B w σ) a v∨b2y Γ a) (_:vs.length=as.length) (_:Γ.args fz q used seen ps as K=some z),
  ps.length=as.length∧∃x Γ' σ' us,K x Γ' (us.reverse++used)=some z∧Rel B Γ' N tm w σ'∧Ev B w Γ σ Γ' σ'∧a3Q (·∉used) Γ σ Γ' σ'∧(fz=false∨q=true→Γ'=Γ∧σ'=σ)∧(∀n∈seen,n∉us)∧
   ArgsOk fz B w Γ' σ' ps x vs used us i0
 | [],as,vs,Γ,σ,h,fz,q,used,seen,i0,K,z,has,hlen,hK=>by
  cases as with
  |nil=>exact⟨rfl,(),Γ,σ,[],hK,h,Ev.refl,a3Q.refl,fun _=>⟨rfl,rfl⟩,by simp,⟨fun i t y v hi=>by simp_all,by simp,rfl,by simp,by simp⟩⟩
  |cons=>simp_all[AE.args]
 | [p],as,vs,Γ,σ,h,fz,q,used,seen,i0,K,z,has,hlen,hK=>by
  match as,vs,hlen with
  | [a],[v],_=>
   simp[AE.args]at hK;obtain⟨x,Γ',σ',used',seen',h1,h2,h3,h4,h5,h6,h7⟩:=h.arg (has 0 a v rfl rfl) hK;cases p with
   |v t=>
    obtain⟨rfl,h7⟩:=h7;refine⟨rfl,x,Γ',σ',[],h1,h2,h3,h4,h5,by simp,⟨fun i t' y v' hi hv=>?_,by simp,rfl,by simp,by simp⟩⟩;cases i with
    |zero=>
     simp[a0Y]at hi hv;cases hi;cases hv;exact h7.frame (fun _ _ _=>rfl) (fun c hc=>hc.imp id fun⟨e,n,g1,g2,g3⟩=>⟨e,n,g1,by simp,g3⟩)
    |succ i=>simp_all
   |r c b=>
    obtain⟨n,r,rfl,g1,g2,g3,g4,g5,g7⟩:=h7;refine⟨rfl,x,Γ',σ',[n],h1,h2,h3,h4,h5,fun m hm=>by grind,⟨fun i t' y v' hi hv=>?_,fun k m hk=>?_,rfl,by simp,by simp_all⟩⟩
    grind[a0Y]
    ·cases k with
     |zero=>
      simp at hk;subst hk;exact⟨0,c,b,x,v,r,rfl,rfl,rfl,g4,g5,g7⟩
     |succ k=>simp_all
  | [],_,_=>simp_all[AE.args]
  |_::_::_,_,_=>simp_all[AE.args]
 |p::p'::ps,as,vs,Γ,σ,h,fz,q,used,seen,i0,K,z,has,hlen,hK=>by
  match as,vs,hlen with
  | [],_,_=>simp_all[AE.args]
  |a::as,v::vs,hlen=>
   simp[AE.args]at hK;obtain⟨x,Γ1,σ1,used1,seen1,h1,h2,h3,h4,h5,h6,h7⟩:=h.arg (has 0 a v rfl rfl) hK;have ⟨hl,y,Γ',σ',us,k1,k2,k3,k4,k5,k6,k7⟩:=Rel.args (p'::ps) as vs (i0:=i0+1) h2 (fun i a' v' hi hv=>h3.live (has (i+1) a' v' (by simp_all) (by simp_all))) (by simp_all) h1;refine⟨by simp_all,?_⟩;have hboth:fz=false∨q=true→Γ'=Γ∧σ'=σ:=fun g=>⟨(k5 g).1.trans (h5 g).1,(k5 g).2.trans (h5 g).2⟩;cases p with
   |v t=>
    obtain⟨rfl,h7⟩:=h7;refine⟨(x,y),Γ',σ',us,k1,k2,h3.trans k3,h4.trans k4,hboth,fun n hn=>k6 n (h6 n hn),⟨fun i t' y' v' hi hv=>?_,fun k n hk=>?_,k7.len,k7.nodup,k7.apart⟩⟩
    ·cases i with
     |zero=>
      simp[a0Y]at hi hv;cases hi;cases hv;cases fz with
      |false=>
       obtain⟨rfl,rfl⟩:=k5 (.inl rfl);exact h7.frame (fun _ _ _=>rfl) (fun c hc=>hc.imp id fun⟨e,n,g1,g2,g3⟩=>⟨e,n,g1,k6 n g2,g3⟩)
      |true=>
       have h70:VOk (a0a w σ1.ov) (Shr B w σ1) t x v:=h7.frame (fun _ _ _=>rfl) (fun c hc=>hc.resolve_right (by simp));have h71:=k3.vok h70;simp_all
     |succ i=>exact k7.vals i t' y' v' (by simpa[a0Y]using hi) (by simp_all)
    obtain⟨i,c',a',y',v',r',j1,j2,j3,j4⟩:=k7.refs k n hk;exact⟨i+1,c',a',y',v',r',by grind[a0I],by simpa[a0Y]using j2,by simp_all,j4⟩
   |r c b=>
    obtain⟨n,r,rfl,g1,g2,rfl,g4,g5,g7⟩:=h7;have hn:=fun r0 h0=>k4.1 n r0 (.inr (by simp)) h0;refine⟨(x,y),Γ',σ',n::us,by simp_all,k2,h3.trans k3,h4.trans (k4.mono fun m hm g=>hm (a01 _ g)),hboth,fun m hm=>?_,⟨fun i t' y' v' hi hv=>?_,fun k m hk=>?_,by simp[a0I,k7.len],?_,?_⟩⟩
    grind
    ·cases i with
     |zero=>grind[a0Y]
     |succ i=>
      exact(k7.vals i t' y' v' (by simpa[a0Y]using hi) (by simp_all)).frame (fun _ _ _=>rfl) (fun c hc=>hc.imp id fun⟨e,m,g1,g2,g3⟩=>
       ⟨e,m,fun g=>g1 (a01 _ g),by simp_all,g3⟩)
    ·cases k with
     |zero=>
      simp at hk;subst hk;exact⟨0,c,b,x,v,r,rfl,rfl,rfl,g4,g5.keep fun r0 h0=>⟨(hn r0 h0).1,(hn r0 h0).2.1⟩,fun g=>⟨(hn r (g7 g).1).1,(g7 g).2⟩⟩
     |succ k=>
      obtain⟨i,c',a',y',v',r',j1,j2,j3,j4⟩:=k7.refs k m (by simp_all);exact⟨i+1,c',a',y',v',r',by grind[a0I],by simpa[a0Y]using j2,by simp_all,j4⟩
    simp
    exact⟨fun g=>k7.apart n g (by simp),k7.nodup⟩;intro m hm;rcases mC.1 hm with rfl|hm;omega;exact fun g=>k7.apart m hm (a01 _ g)
end
end Go.Ab
namespace Go.Ab
def c4S(m:Mem)(Sh:Nat→Prop):((r:RA)×r.ty.den)→Value→Src×a1g→Prop
 |⟨.v t,x⟩,v,L=>VOk m Sh t x v∧L.2=[]
 |⟨.o e,x⟩,v,L=>L.1=.one v∧RootOk m Sh ⟨false,.list true e,x⟩ L.1 L.2
 |⟨.b t,x⟩,v,L=>RootOk m Sh ⟨true,t,x⟩ L.1 L.2∧∃b,L.1=.at b 0∧v=.pointer (some ⟨b,0,none⟩)
structure Back (B:Base) (w':World) (its:List ((r:RA)×r.ty.den)) (vs:List Value) (Ls:List (Src×a1g)):Prop where
 lv:vs.length=its.length
 ll:Ls.length=its.length
 ok:∀(k:Nat)(it:(r:RA)×r.ty.den) (v:Value) (L:Src×a1g),its[k]?=some it→vs[k]?=some v→Ls[k]?=some L→
  c4S (cells w') (fun c=>c<w'.heap.size∧(B.S c∨B.F c∨B.size≤c)∧∀L∈Ls,c∉L.2.map (·.1)) it v L
 nodup:∀L∈Ls,(L.2.map (·.1)).Nodup
 disj:∀(k k':Nat)(L L':Src×a1g),Ls[k]?=some L→Ls[k']?=some L'→k≠k'→∀c,c∈L.2.map (·.1)→c∉L'.2.map (·.1)
 live:∀L∈Ls,∀p∈L.2,a0Z w' p.1 p.2
 mine:∀L∈Ls,∀c∈L.2.map (·.1),B.F c∨B.size≤c
 size:B.size≤w'.heap.size
 frame:∀b,b<B.size→¬ B.F b→w'.heap[b]?=B.hp b
 still:a2n w'=B.io
def b9I:List Value→Value
 | [v]=>v
 |vs=>.tuple vs.toArray
def a5i(ps:List PA)(args:Array Value)(i:Nat):Value:=match b5b ps i with
 |some true=>.slice none 0 0
 |_=>args.getD i undef
def c8n(B:Base)(ps:List PA)(args:Array Value):Prop:=∀i∈a0I ps 0,b5b ps i=some false→∃s,B.pin i=some s∧c1n s (args.getD i undef)
def a4X(P:Program)(G:c1g)(f:FuncId)(s:FSem):Prop:=
 ∀(w:World)(B:Base)(σ:Gh)(args:Array Value) x y,GOk G B→s.F x=some y→B.size=w.heap.size→(∀b,B.hp b=w.heap[b]?)→σ.ov=none→args.size=s.ps.length→
  Rel B (ini s.ps x) s.ps.length (fun i=>args.getD i undef) w σ→c8n B s.ps args→
  Calls P f args w fun e w'=>∃vr Ls,e=.returned (b9I vr)∧vr.length=s.rs.length∧Back B w' (a2A (RA.all s.ps s.rs) y) (vr++(a0I s.ps 0).map (a5i s.ps args)) Ls
def b2B (P : Program) (f : FuncId) : Prop := ∃ fn c, P.funcs[f]? = some fn ∧ fn.body = some c ∧ (fn.name == "runtime.NumGoroutine") = false
theorem a9L:∀(rs:List RA)(x:(a2g (rs.map RA.ty)).den),(a2A rs x).length=rs.length
 | [],_=>rfl
 | [_],_=>rfl
 |_::r'::rs,x=>by simp only[a2A,lC];rw[a9L (r'::rs) x.2];rfl
theorem b4K:∀(rs:List RA)(x:(a2g (rs.map RA.ty)).den) (k:Nat) it,(a2A rs x)[k]?=some it→rs[k]?=some it.1
 | [],_,k,it,h=>by simp[a2A]at h
 | [r],x,0,it,h=>by grind[a2A]
 | [r],x,k+1,it,h=>by simp[a2A]at h
 |r::r'::rs,x,0,it,h=>by grind[a2A]
 |r::r'::rs,x,k+1,it,h=>by simpa using b4K (r'::rs) x.2 k it (by simpa[a2A]using h)
theorem a6L:∀(ps:List PA)(x:(a2g (ps.map PA.ty)).den),(a0Y ps x).length=ps.length
 | [],_=>rfl
 | [_],_=>rfl
 |_::p'::ps,x=>by simp only[a0Y,lC];rw[a6L (p'::ps) x.2];rfl
theorem a7a:∀(ps:List PA)(x:(a2g (ps.map PA.ty)).den) (k:Nat) it,(a0Y ps x)[k]?=some it→ps[k]?=some it.1
 | [],_,k,it,h=>by simp[a0Y]at h
 | [r],x,0,it,h=>by grind[a0Y]
 | [r],x,k+1,it,h=>by simp[a0Y]at h
 |r::r'::ps,x,0,it,h=>by grind[a0Y]
 |r::r'::ps,x,k+1,it,h=>by simpa using a7a (r'::ps) x.2 k it (by simpa[a0Y]using h)
theorem c1p:∀(ps:List PA)(i0 i:Nat){c a},ps[i]?=some (.r c a)→∃k:Nat,(a0I ps i0)[k]?=some (i0+i)∧(a5y ps)[k]?=some a
 | [],_,i,c,a,h=>by grind
 |p::ps,i0,0,c,a,h=>by
  simp at h;subst h;exact⟨0,rfl,rfl⟩
 |p::ps,i0,i+1,c,a,h=>by
  obtain⟨k,hk,ha⟩:=c1p ps (i0+1) i (by simpa using h);have hk:(a0I ps (i0+1))[k]?=some (i0+(i+1)):=by rw[hk];congr 1;omega
  cases p with
  |v t'=>exact⟨k,hk,ha⟩
  |r c t'=>exact⟨k+1,by simpa[a0I]using hk,by simpa[a5y]using ha⟩
theorem b4L:∀(ps:List PA)(i0:Nat),(a0I ps i0).Pairwise (·<·)∧∀i∈a0I ps i0,i0≤i
 | [],_=>⟨List.Pairwise.nil,by simp[a0I]⟩
 |.v _::ps,i0=>by
  obtain⟨h1,h2⟩:=b4L ps (i0+1);exact⟨h1,fun i hi=>by have:=h2 i hi;omega⟩
 |.r _ _::ps,i0=>by
  obtain⟨h1,h2⟩:=b4L ps (i0+1);refine⟨List.Pairwise.cons (fun i hi=>by grind) h1,fun i hi=>?_⟩;rcases mC.1 hi with rfl|hi
  all_goals grind
theorem c4T(ps:List PA){i0 k k' i:Nat}(h:(a0I ps i0)[k]?=some i)(h':(a0I ps i0)[k']?=some i):k=k':=by
 have hp:=(b4L ps i0).1;obtain⟨hk,rfl⟩:=lS.1 h
 grind[a24]
theorem b1v(ps:List PA):∀i0,(a0I ps i0).length=(a5y ps).length:=by
 induction ps with
 |nil=>intro i0;rfl
 |cons p ps ih=>intro i0;cases p<;>simp[a0I,a5y,ih]
def a7F:List Nat→List Nat→Nat→Option Nat
 |i::is,n::ns,j=>if j=i then some n else a7F is ns j
 |_,_,_=>none
theorem b2l:∀(is ns:List Nat)(j n:Nat),a7F is ns j=some n→∃k:Nat,is[k]?=some j∧ns[k]?=some n
 | [],ns,j,n,h=>by simp[a7F]at h
 |i::is,[],j,n,h=>by simp[a7F]at h
 |i::is,m::ns,j,n,h=>by
  simp only[a7F]at h
  split at h
  rename_i e;simp only[sj]at h;exact⟨0,by simp[e],by simp[h]⟩;obtain⟨k,h1,h2⟩:=b2l is ns j n h;exact⟨k+1,by simpa using h1,by simpa using h2⟩
theorem c6l:∀(is ns:List Nat)(k j n:Nat),is[k]?=some j→ns[k]?=some n→(∀k',is[k']?=some j→k'=k)→a7F is ns j=some n
 | [],ns,k,j,n,h,_,_=>by grind
 |i::is,[],k,j,n,_,h,_=>by grind
 |i::is,m::ns,0,j,n,h,h',_=>by
  simp_all[a7F]
 |i::is,m::ns,k+1,j,n,h,h',hu=>by
  have hne:j≠i:=fun e=>by have:=hu 0 (by grind);omega
  simp[a7F,if_neg hne];exact c6l is ns k j n (by simp_all) (by simp_all) (fun k' hk'=>by have:=hu (k'+1) (by simp_all);omega)
section
variable {B:Base} {N:Nat} {tm:Nat→Value} {w:World} {Γ:AE} {σ:Gh}
def a9M(ps:List PA)(i:Nat):Bool:=match ps[i]? with
 |some (.r _ (.b _))=>true
 |_=>false
def a1b(fz:Bool)(B:Base)(w:World)(σ:Gh)(ps:List PA)(us:List Nat):Base where
 size:=w.heap.size
 hp:=fun b=>w.heap[b]?
 F:=fun c=>∃i n,a7F (a0I ps 0) us i=some n∧c∈(lo σ n (a9M ps i)).map (·.1)
 S:=fun c=>Shr B w σ c∨(fz=false∧a0P σ c)
 io:=a2n w
 pin:=fun i=>match b5b ps i with
  |some false=>(a7F (a0I ps 0) us i).map fun n=>lg w σ n (a9M ps i)
  |_=>none
def a4E(w:World)(σ:Gh)(ps:List PA)(us:List Nat):Gh where
 g:=fun m=>match b3H ps m with
  |some i=>(match a7F (a0I ps 0) us i with
   |some n=>lg w σ n (a9M ps i)
   |none=>.one undef)
  |none=>.one undef
 ow:=fun m=>match b3H ps m with
  |some i=>(match a7F (a0I ps 0) us i with
   |some n=>lo σ n (a9M ps i)
   |none=>[])
  |none=>[]
 ov:=none
theorem c6R{ps:List PA}{m i:Nat}(h:b3H ps m=some i):∃c,b5b ps i=some c∧m=rnm c i∧(c=true→i<pinned):=by
 unfold b3H at h;rcases a0i h with⟨hm,h⟩|⟨hm,h⟩
 split at h
 rename_i hk;cases h;exact⟨true,hk,rfl,fun _=>by simp_all⟩;simp_all;obtain⟨k,rfl⟩:=Nat.exists_eq_add_of_le (show pinned≤m by simp_all);rw[a32]at h
 split at h
 rename_i hk;obtain rfl:=Option.some.inj h;exact⟨false,hk,rfl,fun g=>by grind⟩;simp_all
theorem d1a{ps:List PA}{c:Bool}{i:Nat}(hk:b5b ps i=some c)(hi:c=true→i<pinned):b3H ps (rnm c i)=some i:=by
 unfold b3H;cases c with
 |true=>
  have:decide (rnm true i<pinned)=true:=decide_eq_true (show rnm true i<pinned from hi rfl)
  simp_all[rnm]
 |false=>
  have:decide (rnm false i<pinned)=false:=decide_eq_false (by show ¬ pinned+i<pinned;omega)
  simp_all[rnm]
theorem b2m{ps:List PA}{i:Nat}{c a}(h:ps[i]?=some (.r c a)):b5b ps i=some c:=by simp[b5b,h]
theorem d3F{ps:List PA}{x:(a2g (ps.map PA.ty)).den}{m:Nat}{r:Root}(h:(ini ps x).rt m=some r):∃i c a y,b3H ps m=some i∧(a0Y ps x)[i]?=some ⟨.r c a,y⟩∧a0M ⟨a,y⟩=some r:=by
 simp[ini]at h;rcases a0i h with⟨hm,h⟩|⟨hm,h⟩
 grind[b2m,a7a,b3H]
 split at h
 rename_i a y hi;have hk:=b2m (a7a _ _ _ _ hi);exact⟨m-pinned,false,a,y,by simp[b3H,hm,hk],hi,h⟩;simp_all
theorem d3G{ps:List PA}{x:(a2g (ps.map PA.ty)).den}{i:Nat}{c a y}(h:(a0Y ps x)[i]?=some ⟨.r c a,y⟩)(hi:c=true→i<pinned):(ini ps x).rt (rnm c i)=a0M ⟨a,y⟩:=by
 cases c with
 |true=>
  have:decide (rnm true i<pinned)=true:=decide_eq_true (show rnm true i<pinned from hi rfl)
  simp[ini,this];show(match (a0Y ps x)[i]? with|some ⟨.r true a,y⟩=>a0M ⟨a,y⟩|_=>none)=_;rw[h]
 |false=>
  have:decide (rnm false i<pinned)=false:=decide_eq_false (by show ¬ pinned+i<pinned;omega)
  have e:rnm false i-pinned=i:=by simp[rnm]
  simp only[ini,this,cF,e,h]
theorem b7r{ps:List PA}{x:(a2g (ps.map PA.ty)).den}{i:Nat}{c a y r}(h:(a0Y ps x)[i]?=some ⟨.r c a,y⟩)(hr:a0M ⟨a,y⟩=some r):a9M ps i=r.bx:=by
 have h:=a7a _ _ _ _ h;cases a with
 |v t=>simp[a0M]at hr
 |o e=>grind[a0M,a9M]
 |b t=>grind[a0M,a9M]
theorem Rel.enter(h:Rel B Γ N tm w σ)(hov:σ.ov=none){fz:Bool}{ps:List PA}{x:(a2g (ps.map PA.ty)).den}{vs:List Value}{us:List Nat}(ha:ArgsOk fz B w Γ σ ps x vs [] us 0)(hl:vs.length=ps.length):
  Rel (a1b fz B w σ ps us) (ini ps x) ps.length (fun i=>vs.toArray.getD i undef) w (a4E w σ ps us)∧c8n (a1b fz B w σ ps us) ps vs.toArray:=by
 have huniq:∀k i,(a0I ps 0)[k]?=some i→∀k',(a0I ps 0)[k']?=some i→k'=k:=fun k i h1 k' h2=>c4T ps h2 h1;have hget:∀(i:Nat) v,vs[i]?=some v→vs.toArray.getD i undef=v:=fun i v hv=>by simp_all

 have href:∀(i:Nat) c a y,(a0Y ps x)[i]?=some ⟨.r c a,y⟩→∃n v r,a7F (a0I ps 0) us i=some n∧n∈us∧vs[i]?=some v∧a0M ⟨a,y⟩=some r∧c1o w Γ σ n r v∧a9M ps i=r.bx:=by
  intro i c a y hi;obtain⟨k,hk,-⟩:=c1p ps 0 i (a7a _ _ _ _ hi);rw[a18]at hk;have hlt:k<us.length:=by rw[ha.len];grind
  have hn:us[k]?=some us[k]:=lG hlt;obtain⟨i',c',a',y',v,r,j1,j2,j3,j4,j5,-⟩:=ha.refs k _ hn;rw[hk]at j1;simp at j1
  grind[c6l,b7r]
 have hnm:∀i n,a7F (a0I ps 0) us i=some n→n∈us∧∃c a y v r,(a0Y ps x)[i]?=some ⟨.r c a,y⟩∧vs[i]?=some v∧a0M ⟨a,y⟩=some r∧c1o w Γ σ n r v∧a9M ps i=r.bx:=by
  intro i n hi;obtain⟨k,h1,h2⟩:=b2l _ _ _ _ hi;obtain⟨i',c,a,y,v,r,j1,j2,j3,j4,j5,-⟩:=ha.refs k n h2
  grind
 have hinj:∀i i' n,a7F (a0I ps 0) us i=some n→a7F (a0I ps 0) us i'=some n→i=i':=by
  intro i i' n h1 h2;obtain⟨k,h1,h3⟩:=b2l _ _ _ _ h1;obtain⟨k',h2,h4⟩:=b2l _ _ _ _ h2;obtain⟨a1,b1⟩:=lS.1 h3;obtain⟨a2,b2⟩:=lS.1 h4
  have:k=k':=by
   have hp:=a24.1 ha.nodup
   grind
  grind
 have how:∀m p,p∈(a4E w σ ps us).ow m→∃i n,b3H ps m=some i∧a7F (a0I ps 0) us i=some n∧p∈lo σ n (a9M ps i)∧p∈σ.ow n:=by
  intro m p hp;cases hi:b3H ps m with
  |none=>grind[a4E]
  |some i=>
   cases hn:a7F (a0I ps 0) us i with
   |none=>grind[a4E]
   |some n=>
    have e:(a4E w σ ps us).ow m=lo σ n (a9M ps i):=by simp[a4E,hi,hn]
    rw[e]at hp;obtain⟨-,c,a,y,v,r,-,-,-,hL,hb⟩:=hnm _ _ hn;exact⟨i,n,rfl,hn,hp,(h.lent hov hL).2.2.1 p (hb▸hp)⟩
 have hown:∀c,a0P (a4E w σ ps us) c→(a1b fz B w σ ps us).F c∧∃n∈us,c∈(σ.ow n).map (·.1):=by
  rintro c ⟨m,hm⟩
  obtain⟨p,hp,rfl⟩:=a06.1 hm;obtain⟨i,n,-,h1,h2,h3⟩:=how m p hp;exact⟨⟨i,n,h1,a00 h2⟩,n,(hnm _ _ h1).1,a00 h3⟩
 have hsh:∀c,Shr B w σ c→Shr (a1b fz B w σ ps us) w (a4E w σ ps us) c:=fun c hc=>⟨hc.1,.inl (.inl hc),fun g=>by
  obtain⟨-,n,-,h2⟩:=hown c g;exact hc.2.2 ⟨n,h2⟩⟩
 have hmemo:a0a w σ.ov=a0a w (a4E w σ ps us).ov:=by rw[hov];rfl
 have hgs:∀m i n,b3H ps m=some i→a7F (a0I ps 0) us i=some n→(a4E w σ ps us).g m=lg w σ n (a9M ps i)∧(a4E w σ ps us).ow m=lo σ n (a9M ps i):=fun m i n h1 h2=>by
  simp[a4E,h1,h2]
 have hpin:∀i b,(a1b fz B w σ ps us).pin i=some b→b5b ps i=some false∧∃n,a7F (a0I ps 0) us i=some n∧b=lg w σ n (a9M ps i):=fun i b hb=>by
  simp[a1b]at hb
  split at hb
  rename_i hk;obtain⟨n,hn,rfl⟩:=a34.1 hb
  grind
  grind
 refine⟨⟨fun m r hr=>?_,fun m hm=>?_,fun m=>?_,fun m m' hne c hc hc'=>?_,fun m p hp=>?_,fun i hi=>?_,trivial,a07 _,fun b _ _=>rfl,fun c hc=>.inl (hown c hc).1,fun i b hb _=>?_,rfl⟩,fun i hi hk=>?_⟩;obtain⟨i,c,a,y,h1,h2,h3⟩:=d3F hr;obtain⟨n,v,r',k1,k2,k3,k4,k5,k6⟩:=href i c a y h2;rw[h3]at k4;cases k4;rw[←hmemo,(hgs m i n h1 k1).1,(hgs m i n h1 k1).2,k6];exact(h.lent hov k5).1.mono hsh
 ·cases ho:(a4E w σ ps us).ow m with
  |nil=>rfl
  |cons p l=>
   obtain⟨i,n,h1,h2,-⟩:=how m p (by grind);obtain⟨-,c,a,y,v,r,h5,-,h6,-⟩:=hnm _ _ h2;obtain⟨c',h7,rfl,h8⟩:=c6R h1
   have:=b2m (a7a _ _ _ _ h5)
   grind[d3G]
 ·cases hi:b3H ps m with
  |none=>grind
  |some i=>
   cases hn:a7F (a0I ps 0) us i with
   |none=>grind
   |some n=>
    obtain⟨-,c,a,y,v,r,-,-,-,hL,hb⟩:=hnm _ _ hn;rw[(hgs m i n hi hn).2,hb];exact(h.lent hov hL).2.2.2.1
 obtain⟨p,hp,rfl⟩:=a06.1 hc;obtain⟨p',hp',e'⟩:=a06.1 hc';obtain⟨i,n,h1,h2,-,h4⟩:=how m p hp;obtain⟨i',n',h1',h2',-,h4'⟩:=how m' p' hp'
 by_cases e:n=n'
 grind[c6R]
 exact h.disj n n' e p.1 (a00 h4) (by grind);obtain⟨i,n,h1,h2,h3,h4⟩:=how m p hp;exact h.live n p h4
 ·have hlt:i<(a0Y ps x).length:=by grind[a6L]
  have hvl:i<vs.length:=by omega
  have hv:vs[i]?=some vs[i]:=lG hvl;have hit:(a0Y ps x)[i]?=some (a0Y ps x)[i]:=lG hlt;show b1R _ _ _ _ ((ini ps x).sl i) (vs.toArray.getD i undef);rw[hget i _ hv]
  revert hit
  generalize (a0Y ps x)[i]=it;intro hit;obtain⟨p,y⟩:=it;cases p with
  |v t=>
   have e:(ini ps x).sl i=.one (.val t y):=by simp only[ini,hit]
   rw[e]
   have:=ha.vals i t y _ hit hv
   refine this.frame (fun c j _=>by rw[hmemo]) (fun c hc=>?_);rcases hc with hc|⟨hf,n,-,hn,hc⟩
   grind
   refine⟨h.lt ⟨n,hc⟩,.inl (.inr ⟨hf,n,hc⟩),fun g=>?_⟩;obtain⟨-,n',h1,h2⟩:=hown c g;exact h.disj n n' (fun e=>hn (e▸h1)) c hc h2
  |r c b=>
   have e:(ini ps x).sl i=bif c&&decide (pinned≤i)then .one .dead else .one (c6e (rnm c i) ⟨b,y⟩):=by simp only[ini,hit]
   rw[e];cases hcp:c&&decide (pinned≤i)with
   |true=>trivial
   |false=>
    have hci:c=true→i<pinned:=fun g=>by
     grind
    obtain⟨n,v,r,h1,h2,h3,h4,h5,h5b⟩:=href i c b y hit;rw[hv]at h3;simp at h3;rw[h3];have hk:=b2m (a7a _ _ _ _ hit);have hrt:=d3G hit hci;rw[h4]at hrt;obtain⟨hg,-⟩:=hgs _ i n (d1a hk hci) h1;obtain⟨-,h6,-,-,h7⟩:=h.lent hov h5;rw[←h5b]at h6 h7;show a0j _ _ _ _ (c6e (rnm c i) ⟨b,y⟩) v;cases b with
    |v t=>simp[a0M]at h4
    |o e0=>
     simp[a0M]at h4;subst h4;rcases h7 with⟨g,-⟩|⟨-,u,e2,g,-⟩
     grind
     rw[g]at h6;have h6:v=u:=h6;refine⟨_,e0,.one u,hrt,?_,by rw[h6];rfl⟩;rw[hg,g];rfl
    |b t=>
     simp[a0M]at h4;subst h4;rcases h7 with⟨-,bb,g⟩|⟨g,-⟩;rw[g]at h6;refine⟨_,t,bb,0,hrt,?_,h6.2⟩;rw[hg,g];rfl
     grind
 obtain⟨hk,n,h1,rfl⟩:=hpin i b hb;exact(hgs _ i n (d1a (c:=false) hk (fun g=>by grind)) h1).1;obtain⟨k,hk'⟩:=a37.1 hi;have hlt:k<us.length:=by rw[ha.len];grind
 obtain⟨i',c',a',y',v,r,j1,j2,j3,j4,j5,-⟩:=ha.refs k _ (lG hlt);rw[hk']at j1;simp at j1;subst j1;refine⟨lg w σ us[k] (a9M ps i),?_,by rw[hget _ _ j3,b7r j2 j4];exact(h.lent hov j5).2.1⟩
 grind[a1b,c6l]
end
end Go.Ab
namespace Go.Ab
theorem b8i{α:Type}{f:Nat→Option (α×a1g×List Nat)}:∀(n i:Nat){xs os rs},a0g f n i=some (xs,os,rs)→(∀j x o r,f j=some (x,o,r)→o=[]∧r=[])→os=[]∧rs=[]
 |0,i,xs,os,rs,h,_=>by simp_all[a0g]
 |n+1,i,xs,os,rs,h,hf=>by
  simp[a0g]at h
  split at h
  grind
  rename_i x o r h1
  split at h
  grind
  rename_i xs' os' rs' h2;simp at h;obtain⟨rfl,rfl,rfl⟩:=h;obtain⟨rfl,rfl⟩:=hf _ _ _ _ h1;obtain⟨rfl,rfl⟩:=b8i n (i+1) h2 hf
  simp
theorem b0n{m:Mem}:∀(t:Ty){rd:Nat→Option Value}{x O R},t.hasList=false→dec m t rd=some (x,O,R)→O=[]∧R=[]
 |.int k,rd,x,O,R,_,h=>by
  simp[dec]at h
  grind
 |.bool,rd,x,O,R,_,h=>by
  simp[dec]at h
  grind
 |.str,rd,x,O,R,_,h=>by
  simp[dec]at h
  grind
 |.unit,rd,x,O,R,_,h=>by
  simp only[dec]at h;grind
 |.pair a b,rd,x,O,R,ht,h=>by
  simp[Ty.hasList]at ht;obtain⟨x1,o1,r1,x2,o2,r2,h1,h2,-,rfl,rfl⟩:=a2s h;obtain⟨rfl,rfl⟩:=b0n a ht.1 h1;obtain⟨rfl,rfl⟩:=b0n b ht.2 h2
  simp
 |.arr n t,rd,x,O,R,ht,h=>b8i n 0 h fun j x o r hj=>b0n t ht hj
 |.list o t,rd,x,O,R,ht,h=>by simp[Ty.hasList]at ht
 |.nl t,rd,x,O,R,ht,h=>by
  grind[c1d]
theorem d0l{m:Mem}{e:Ty}{rd:Nat→Option Value}{x O R}(he:e.hasList=false)(h:dec m (.list true e) rd=some (x,O,R)):R=[]:=by
 rcases a1W h with⟨-,-,-,hr⟩|⟨A,n,c,os,hs,hA,hn,hx,ho⟩
 all_goals grind[b8i,b0n]
theorem RootOk.anySh{m:Mem}{Sh Sh':Nat→Prop}{r:Root}{s O}(h:RootOk m Sh r s O)(hn:(r.bx=true∧r.t.hasList=false)∨∃e,r.t=.list true e∧e.hasList=false):RootOk m Sh' r s O:=by
 obtain⟨O',R,h1,h2,h3⟩:=h.rd;have hR:R=[]:=by
  rcases hn with⟨-,hn⟩|⟨e,he,hn⟩
  grind[b0n]
  obtain⟨bx,t,x⟩:=r;obtain rfl:t=.list true e:=he;exact d0l hn h1
 subst hR;exact⟨O',[],h1,by simp,h3⟩
theorem VOk.anySh{m:Mem}{Sh Sh':Nat→Prop}{t:Ty}{x:t.den}{v:Value}(h:VOk m Sh t x v)(hn:t.hasList=false):VOk m Sh' t x v:=by
 obtain⟨h1,h2,R,h3,h4⟩:=h;obtain⟨-,rfl⟩:=b0n t hn h3;exact⟨h1,h2,[],h3,by simp⟩
theorem c1q:∀(rs:List RA)(n k m:Nat),(a1i rs n)[k]?=some m→m=n+1000*k∧k<rs.length
 | [],_,k,m,h=>by simp[a1i]at h
 |_::rs,n,0,m,h=>by simp_all[a1i]
 |_::rs,n,k+1,m,h=>by
  obtain⟨h1,h2⟩:=c1q rs (n+1000) k m (by simpa[a1i]using h)
  grind
theorem b2C:∀(rs:List RA)(n:Nat),(a1i rs n).length=rs.length
 | [],_=>rfl
 |_::rs,n=>by simp[a1i,b2C rs]
theorem c1r:∀(rs:List RA)(n k m:Nat)(r:RA),(a1i rs n)[k]?=some m→rs[k]?=some r→(∀t,r≠.v t)→m∈a2K rs n
 | [],_,k,m,r,h,_,_=>by simp_all
 |r'::rs,n,0,m,r,h,hr,hv=>by
  simp[a1i]at h hr;subst h;subst hr;cases r' with
  |v t=>simp_all
  |o e=>simp[a2K]
  |b t=>simp[a2K]
 |r'::rs,n,k+1,m,r,h,hr,hv=>by
  have:=c1r rs (n+1000) k m r (by simpa[a1i]using h) (by simpa using hr) hv
  cases r'<;>simp[a2K,this]
section
variable {ρ:Type} {B:Base} {N:Nat} {tm:Nat→Value} {w:World}
theorem Rel.dropAll:∀(ns:List Nat) {Γ:AE}{σ:Gh}(_:Rel B Γ N tm w σ)(_:Γ.pd=none){q:Bool}{us:List Nat}{K:AE→Rs ρ}{z:ρ}(_:Γ.dropAll q us ns K=some z),
  (∀n∈ns,n<pinned∧n∉us)∧∃Γ' σ',K Γ'=some z∧Rel B Γ' N tm w σ'∧Γ'.pd=none∧σ'.ov=σ.ov∧(∀c,Shr B w σ c→Shr B w σ' c)∧(∀n∈ns,Γ'.rt n=none)∧
   ((∀n,n∉ns→Γ'.rt n=Γ.rt n∧σ'.ow n=σ.ow n)∧σ'.g=σ.g)∧(∀n,Γ.rt n=none→Γ'.rt n=none)
 | [],Γ,σ,h,hpd,q,us,K,z,hz=>⟨by simp,Γ,σ,hz,h,hpd,rfl,fun _ g=>g,by simp,⟨fun _ _=>⟨rfl,rfl⟩,rfl⟩,fun _ g=>g⟩
 |n::ns,Γ,σ,h,hpd,q,us,K,z,hz=>by
  simp only[AE.dropAll]at hz;obtain⟨hn,hz⟩:=(a0i hz).elim id fun h=>by grind
  simp at hn
  split at hz
  rename_i hr;have ⟨k1,Γ',σ',h1,h2,h3,h4,h5,h6,⟨h7,h8⟩,h9⟩:=Rel.dropAll ns h hpd hz
  grind
  rename_i r hr;rcases a0i hz with⟨-,g⟩|⟨-,hz⟩
  grind
  have hd:=h.drop (n:=n) (by simp_all);have ⟨k1,Γ',σ',h1,h2,h3,h4,h5,h6,⟨h7,h8⟩,h9⟩:=Rel.dropAll ns hd (by simp_all[AE.setRt,AE.mapv]) hz;have hnone:((Γ.mapv (AV.drop n)).setRt n none).rt n=none:=by simp[AE.setRt]
  refine⟨fun m hm=>?_,Γ',σ',h1,h2,h3,h4,fun c hc=>h5 c (Rel.shr_gone c hc),fun m hm=>?_,⟨fun m hm=>?_,h8⟩,fun m hm=>h9 m ?_⟩
  grind
  grind
  have hmn:m≠n:=fun e=>hm (by grind);have hmns:m∉ns:=fun g=>hm (a01 _ g);obtain⟨a1,a2⟩:=h7 m hmns;have e:(m==n)=false:=by simp_all
  exact⟨a1.trans (by simp[AE.setRt,AE.mapv,e]),a2.trans (by simp_all)⟩;simp_all[AE.setRt,AE.mapv]
end
def b1X:List Nat→List ((r:RA)×r.ty.den)→List (Src×a1g)→Nat→Option Ent1
 |k::ns,it::its,L::Ls,n=>match a0M it with
  |some r=>bif n==k then some ⟨r,L.1,L.2⟩else b1X ns its Ls n
  |none=>b1X ns its Ls n
 |_,_,_,_=>none
theorem c6S:∀(ns:List Nat) its (Ls:List (Src×a1g)) (n:Nat) (e:Ent1),b1X ns its Ls n=some e→
  ∃(k:Nat)(it:(r:RA)×r.ty.den) (L:Src×a1g),ns[k]?=some n∧its[k]?=some it∧Ls[k]?=some L∧a0M it=some e.r∧e.s=L.1∧e.O=L.2
 | [],its,Ls,n,e,h=>by simp[b1X]at h
 |k::ns,[],Ls,n,e,h=>by simp[b1X]at h
 |k::ns,it::its,[],n,e,h=>by simp[b1X]at h
 |k::ns,it::its,L::Ls,n,e,h=>by
  have rest:b1X ns its Ls n=some e→∃(j:Nat)(it':(r:RA)×r.ty.den) (L':Src×a1g),(k::ns)[j]?=some n∧(it::its)[j]?=some it'∧(L::Ls)[j]?=some L'∧a0M it'=some e.r∧e.s=L'.1∧e.O=L'.2:=fun h=>by
   obtain⟨j,it',L',h1,h2,h3,h4⟩:=c6S ns its Ls n e h;exact⟨j+1,it',L',by simpa using h1,by simpa using h2,by simpa using h3,h4⟩
  simp[b1X]at h
  split at h
  rename_i r hr;rcases a0i h with⟨hk,h⟩|⟨-,h⟩;simp at h;subst h;exact⟨0,it,L,by simp_all,rfl,rfl,hr,rfl,rfl⟩;simp_all;simp_all
theorem c6m:∀(ns:List Nat) its (Ls:List (Src×a1g)) (k n:Nat) it L r,ns[k]?=some n→its[k]?=some it→Ls[k]?=some L→a0M it=some r→
  (∀(k':Nat) it',ns[k']?=some n→its[k']?=some it'→a0M it'≠none→k'=k)→b1X ns its Ls n=some ⟨r,L.1,L.2⟩
 | [],its,Ls,k,n,it,L,r,h,_,_,_,_=>by grind
 |m::ns,[],Ls,k,n,it,L,r,_,h,_,_,_=>by grind
 |m::ns,it'::its,[],k,n,it,L,r,_,_,h,_,_=>by grind
 |m::ns,it'::its,L'::Ls,0,n,it,L,r,h1,h2,h3,h4,_=>by
  simp_all[b1X]
 |m::ns,it'::its,L'::Ls,k+1,n,it,L,r,h1,h2,h3,h4,hu=>by
  simp at h1 h2 h3;have ih:=c6m ns its Ls k n it L r h1 h2 h3 h4 fun k' it2 g1 g2 g3=>by
   have:=hu (k'+1) it2 (by simp_all) (by grind) g3
   omega
  simp[b1X];cases hr:a0M it' with
  |none=>omega
  |some r'=>
   have hne:n≠m:=fun e=>by
    have:=hu 0 it' (by grind) rfl (by simp_all)
    omega
   grind
theorem c0B:∀(ns:List Nat) its (Ls:List (Src×a1g)) (n:Nat),Ls.length=its.length→a2r ns its n=(b1X ns its Ls n).map (·.r)
 | [],its,Ls,n,h=>by rfl
 |k::ns,[],Ls,n,h=>by rfl
 |k::ns,it::its,[],n,h=>by grind
 |k::ns,it::its,L::Ls,n,h=>by
  have ih:=c0B ns its Ls n (by simpa using h);simp only[a2r,b1X];cases a0M it with
  |none=>exact ih
  |some r=>cases hk:(n==k)<;>simp[ih]
theorem c6T:∀(ns:List Nat) its (k:Nat) av,(a4P ns its)[k]?=some av→∃(n:Nat)(it:(r:RA)×r.ty.den),ns[k]?=some n∧its[k]?=some it∧av=c6e n it
 | [],its,k,av,h=>by simp[a4P]at h
 |_::_,[],k,av,h=>by simp[a4P]at h
 |n::ns,it::its,0,av,h=>by simp[a4P]at h;simp_all
 |n::ns,it::its,k+1,av,h=>by
  obtain⟨m,it',h1,h2,h3⟩:=c6T ns its k av (by simpa[a4P]using h);exact⟨m,it',by simpa using h1,by simpa using h2,h3⟩
theorem c1s:∀(ns:List Nat)(its:List ((r:RA)×r.ty.den)),ns.length≤its.length→(a4P ns its).length=ns.length
 | [],its,h=>by rfl
 |_::_,[],h=>by grind
 |_::ns,_::its,h=>by simp only[a4P,lC];rw[c1s ns its (by simpa using h)]
theorem d0m:∀{it:(r:RA)×r.ty.den} {r:Root},a0M it=some r→it.1.hasList=false→(r.bx=true∧r.t.hasList=false)∨∃e,r.t=.list true e∧e.hasList=false
 |⟨.v t,x⟩,r,h,_=>by simp[a0M]at h
 |⟨.o e,x⟩,r,h,hl=>by simp[a0M]at h;subst h;exact .inr ⟨e,rfl,hl⟩
 |⟨.b t,x⟩,r,h,hl=>by simp[a0M]at h;subst h;exact .inl ⟨rfl,hl⟩
theorem c4S.root{m Sh}:∀{it:(r:RA)×r.ty.den} {v L r},c4S m Sh it v L→a0M it=some r→RootOk m Sh r L.1 L.2
 |⟨.v t,x⟩,v,L,r,h,hr=>by simp[a0M]at hr
 |⟨.o e,x⟩,v,L,r,h,hr=>by simp[a0M]at hr;subst hr;exact h.2
 |⟨.b t,x⟩,v,L,r,h,hr=>by simp[a0M]at hr;subst hr;exact h.1
end Go.Ab
namespace Go.Ab
@[reducible] def Fr(ro:Option Nat):Fence:={ fn:=fun _=>True,depth:=none,alive:=false,round:=ro }
theorem c8K{ro:Option Nat}{n:Nat}{P:Program}{f:FuncId}{args:Array Value}{w:World}{R:Ending→World→Prop}(h:Calls P f args w R):CallsIn (Fr ro) n P f args w R:=
 (callsIn_wide (n:=n)).2 h
theorem c8L{ro:Option Nat}{P:Program}{o:Oper}{a:Act}{w:World}{next:Act→World→Prop}{Q:Exit→Act→World→Prop}(hnd:∀c,o.op≠.defer c)(h:o.uponIn (Fr ro) 0 P a next Q ((execOp a.eval o).run P w)):
  o.wpIn (Fr ro) 0 P a w next Q:=
 ⟨fun _ _=>trivial,by rw[Oper.semAt_eq _ _ _ hnd];exact h⟩
theorem c8M {P:Program} {f:FuncId} (hb:b2B P f) {o:Oper} {c:Call} (ho:o.op=.call c) (hc:c.callee=.value (.func f)) (a:Act) (w:World):
  (execOp a.eval o).run P w=.ok (.enter f (c.args.map a.eval)) w:=by
 obtain ⟨fn,c',h1,h2,h3⟩:=hb;have h4 : ¬ fn.name = "runtime.NumGoroutine" := by simpa using h3
 simp [execOp,ho,resolve,hc,Act.eval,Deferred.ofValue,invoke,callFunc,program,Sem.run,h1,h2,h4,Result.andThen]
theorem d0n {P:Program} {f:FuncId} (hb:b2B P f) {o:Oper} {c:Call} {t:Nat} (ho:o.op=.call c) (hc:c.callee=.value (.tmp t)) (a:Act) (w:World) {us:Array Value} (hv:a.eval (.tmp t)=.func (.func f) #[] us):
  (execOp a.eval o).run P w=.ok (.enter f (c.args.map a.eval++us)) w:=by
 obtain ⟨fn,c',h1,h2,h3⟩:=hb;have h4 : ¬ fn.name = "runtime.NumGoroutine" := by simpa using h3
 simp [execOp,ho,resolve,hc,hv,Deferred.ofValue,invoke,callFunc,program,Sem.run,h1,h2,h4,Result.andThen]
section
variable {P:Program} {B:Base} {N:Nat} {ρ:Type} {Γ:AE} {a:Act} {w:World} {σ:Gh} {ro:Option Nat}
theorem GOk.callee{G:c1g}(hG:GOk G B){tm:Nat→Value}(h:Rel B Γ N tm w σ)(fz:Bool)(ps:List PA)(us:List Nat):GOk G (a1b fz B w σ ps us):=by
 intro g t x hg;obtain⟨h1,h2,h3,w0,h4,h5⟩:=hG g t x hg;have hno:¬ a0P σ g:=fun ho=>by
  rcases h.mine _ ho with q|q;exact h3 q;omega
 have hsz:=h.size;exact⟨a16 h1 hsz,.inl ⟨a16 h1 hsz,.inl h2,hno⟩,fun⟨i,n,_,hn⟩=>by obtain⟨p,hp,rfl⟩:=a06.1 hn;exact hno ⟨n,a00 (d7i hp)⟩,w0,h4.trans (h.frame g h1 h3).symm,h5⟩
theorem c2G:∀(ps:List PA)(us:List Nat)(i0 n:Nat),n∈brw ps us→∃(k i:Nat)(e:Ty),us[k]?=some n∧(a0I ps i0)[k]?=some (i0+i)∧ps[i]?=some (.r false (.o e))
 | [],us,i0,n,h=>by simp[brw]at h
 |.v _::ps,us,i0,n,h=>by
  obtain⟨k,i,e,h1,h2,h3⟩:=c2G ps us (i0+1) n (by simpa[brw]using h);exact⟨k,i+1,e,h1,by simp only[a0I];rw[h2];congr 1;omega,by simpa using h3⟩
 |.r c a::ps,[],i0,n,h=>by cases c<;>cases a<;>simp[brw]at h
 |.r c a::ps,u::us,i0,n,h=>by
  have rest:n∈brw ps us→∃(k i:Nat)(e:Ty),(u::us)[k]?=some n∧(a0I (.r c a::ps) i0)[k]?=some (i0+i)∧(PA.r c a::ps)[i]?=some (.r false (.o e)):=fun h=>by
   obtain⟨k,i,e,h1,h2,h3⟩:=c2G ps us (i0+1) n h;exact⟨k+1,i+1,e,by simpa using h1,by simp only[a0I,List.getElem?_cons_succ];rw[h2];congr 1;omega,by simpa using h3⟩
  cases c with
  |true=>exact rest (by cases a<;>simpa[brw]using h)
  |false=>
   cases a with
   |o e=>
    rcases mC.1 (show n∈u::brw ps us from h)with rfl|h;exact⟨0,0,e,rfl,rfl,rfl⟩;exact rest h
   |_=>exact rest (by simpa[brw]using h)
def b6l(o:Option Root)(s:Src)(e:Ent1):Ent1:=match o,s with
 |some ⟨true,_,_⟩,.at b _=>if e.r.bx=true then e else⟨⟨true,e.r.t,e.r.x⟩,s,(b,1)::e.O⟩
 |_,_=>e
theorem c6U{o:Oper}{avs:List AV}{vals:List Value}{f:FuncId}{s:FSem}{q:Bool}{K:AE→Rs ρ}{z:ρ}{next:Act→World→Prop}{Q:Exit→Act→World→Prop}{G:c1g}
  (hnd:∀c,o.op≠.defer c)(hrun:(execOp a.eval o).run P w=.ok (.enter f vals.toArray) w)(hlen:avs.length=vals.length)(havs:∀(i:Nat) av v,avs[i]?=some av→vals[i]?=some v→a0j (a0a w σ.ov) σ.g Γ.rt (Shr B w σ) av v)(hG:GOk G B)(hF:a4X P G f s)
  (h:Rel B Γ N (a0p a) w σ)(hN:a.tmps.size=N)(hz:Γ.call q o.dst s avs K=some z)
  (hnext:∀v w' Γ' σ',Rel B Γ' N (a0p (a.put o.dst v)) w' σ'→K Γ'=some z→next (a.put o.dst v) w'):o.wpIn (Fr ro) 0 P a w next Q:=by
 refine c8L hnd ?_
 rw[hrun,Oper.uponIn_enter];refine⟨fun h=>(by cases h),c8K ?_⟩;unfold AE.call at hz
 split at hz
 cases hz;rename_i hpd;have hov:=h.ov_none hpd;obtain⟨hl,x,Γ',σ',us,hz1,h',ev,bx,hsame,-,ha⟩:=Rel.args s.ps avs vals (i0:=0) h (fun i av v h1 h2=>.inl (havs i av v h1 h2)) (by omega) hz;clear hz;obtain⟨fz,hfz⟩:∃fz,(s.rs.any RA.hasList || (a5y s.ps).any RA.hasList)=fz:=⟨_,rfl⟩;rw[hfz]at ha hsame;have hpd':Γ'.pd=none:=ev.pd.trans hpd;have hov':σ'.ov=none:=ev.ov.trans hov;obtain⟨hnames,Γ1,σ1,hz2,h1,hpd1,hov1,hshr,hnone,⟨hkeep,hg1⟩,hnone'⟩:=Rel.dropAll _ h' hpd' hz1;clear hz1;obtain⟨y,hy,hz3⟩:=a31.1 hz2;clear hz2;obtain⟨hrel0,hpins0⟩:=h'.enter hov' ha (by omega);obtain⟨ns,hns⟩:∃ns,a1i s.rs (o.dst.getD 0+1000)=ns:=⟨_,rfl⟩;have hus:(us.reverse++[]).reverse=us:=by simp
 obtain⟨rn,hrn⟩:∃rn,a2K s.rs (o.dst.getD 0+1000)=rn:=⟨_,rfl⟩;rw[hrn]at hnames hnone hkeep;refine(hF w _ _ _ x y (hG.callee h' _ _ _) hy rfl (fun _=>rfl) rfl (by rw[a48];omega) hrel0 hpins0).mono ?_
 rintro e w' ⟨vr,Ls,rfl,hvr,bk⟩
 simp only[];obtain⟨its,hits⟩:∃its,a2A (RA.all s.ps s.rs) y=its:=⟨_,rfl⟩;obtain⟨vs,hvs⟩:∃vs,vr++(a0I s.ps 0).map (a5i s.ps vals.toArray)=vs:=⟨_,rfl⟩;rw[hits,hvs]at bk;have hitl:its.length=s.rs.length+us.length:=by
  rw[←hits,a9L,RA.all,lN,ha.len,b1v]
 have hnsl:ns.length=s.rs.length:=by rw[←hns,b2C]
 have hnotus:∀n∈rn,n<pinned∧n∉us:=fun n hn=>by
  have:=hnames n hn
  simpa using this

 have hrooted:∀(k n:Nat) it,(ns++us)[k]?=some n→its[k]?=some it→a0M it≠none→(k<ns.length∧n∈rn∧n=o.dst.getD 0+1000+1000*k)∨(ns.length≤k∧us[k-ns.length]?=some n):=by
  intro k n it h1 h2 h3
  by_cases hk:k<ns.length
  rw[a03 hk]at h1;have hf:=b4K (RA.all s.ps s.rs) y k it (by rw[hits];exact h2);rw[RA.all,a03 (by omega)]at hf;refine .inl ⟨hk,?_,?_⟩;rw[←hrn];exact c1r s.rs _ k n it.1 (by rw[hns];exact h1) hf fun t ht=>h3 (by
   obtain⟨r,xx⟩:=it;obtain rfl:r=.v t:=ht;rfl)
  exact(c1q s.rs _ k n (by rw[hns];exact h1)).1;rw[a08 (by omega)]at h1;exact .inr ⟨by omega,h1⟩
 have huniq:∀(k k' n:Nat) it it',(ns++us)[k]?=some n→its[k]?=some it→a0M it≠none→(ns++us)[k']?=some n→its[k']?=some it'→a0M it'≠none→k'=k:=by
  intro k k' n it it' h1 h2 h3 h4 h5 h6;rcases hrooted k n it h1 h2 h3 with⟨a1,a2,a3⟩|⟨a1,a2⟩;rcases hrooted k' n it' h4 h5 h6 with⟨b1,b2,b3⟩|⟨b1,b2⟩;omega;exact absurd (a05 b2) (hnotus n a2).2;rcases hrooted k' n it' h4 h5 h6 with⟨b1,b2,b3⟩|⟨b1,b2⟩;exact absurd (a05 a2) (hnotus n b2).2;obtain⟨c1,c2⟩:=lS.1 a2;obtain⟨c3,c4⟩:=lS.1 b2;have hp:=a24.1 ha.nodup;rcases a49 (k-ns.length) (k'-ns.length)with g|g|g;exact absurd (c2.trans c4.symm) (hp _ _ c1 c3 g);omega;exact absurd (c4.trans c2.symm) (hp _ _ c3 c1 g)
 let E0:Nat→Option Ent1:=b1X (ns++us) its Ls
 have hous:∀n∈us,Γ1.rt n=Γ'.rt n∧σ1.ow n=σ'.ow n:=fun n hn=>hkeep n fun g=>(hnotus n g).2 hn;have hFown:∀c,(a1b fz B w σ' s.ps us).F c→∃n∈us,c∈(σ'.ow n).map (·.1):=by
  rintro c ⟨i,n,h1,h2⟩
  obtain⟨k,q1,q2⟩:=b2l _ _ _ _ h1;obtain⟨i',c',ra,y',v,r,j1,j2,j3,j4,j5,-⟩:=ha.refs k n q2;rw[q1]at j1;simp only[a18,sj]at j1;subst j1;obtain⟨p,hp,rfl⟩:=a06.1 h2;rw[b7r j2 j4]at hp;exact⟨n,a05 q2,a00 ((h'.lent hov' j5).2.2.1 p hp)⟩
 have hEu0:∀n∈us,∃e0 r0,E0 n=some e0∧Γ'.rt n=some r0∧
   ((e0.r.bx=r0.bx∧(e0.s=σ'.g n∨(r0.bx=false∧n<pinned∧n∉brw s.ps us))∧(r0.bx=false→∃ε,e0.r.t=.list true ε))∨
    ∃b v ε,r0.bx=true∧e0.r.bx=false∧e0.r.t=.list true ε∧σ'.g n=.at b 0∧w.cell? ⟨b,0,none⟩=some v∧e0.s=.one v∧b∈(σ'.ow n).map (·.1)∧a0Z w b 1∧¬ (a1b fz B w σ' s.ps us).F b):=by
  intro n hn;obtain⟨k,hk⟩:=a37.1 hn;obtain⟨i,c,ra,y',v,r,j1,j2,j3,j4,j5,j7⟩:=ha.refs k n hk;rw[a18]at j1;have hps:=a7a _ _ _ _ j2;have hklt:k<us.length:=(lS.1 hk).1;have hit:(ns.length+k)<its.length:=by omega
  have hitk:=lG hit;have hkL:ns.length+k<Ls.length:=by rw[bk.ll];exact hit
  have hLk:=lG hkL;have hfst:=b4K (RA.all s.ps s.rs) y (ns.length+k) _ (by rw[hits];exact hitk);have hnk:(ns++us)[ns.length+k]?=some n:=by rw[a08 (by omega)];simpa using hk
  have hall:(RA.all s.ps s.rs)[ns.length+k]?=some ra:=by
   rw[RA.all,a08 (by omega),hnsl,a32];obtain⟨k2,q1,q2⟩:=c1p s.ps 0 i hps;rw[a18]at q1;rw[c4T s.ps j1 q1];exact q2
  rw[hall]at hfst;simp only[sj]at hfst;have hvk:vs[ns.length+k]?=some (a5i s.ps vals.toArray i):=by
   rw[←hvs,a08 (by omega),hvr,hnsl,a32,a33,j1];rfl
  have hval:vals.toArray.getD i undef=v:=by simp only[Array.getD_eq_getD_getElem?,a22,j3,Option.getD_some]
  have hsame:∀k3,us[k3]?=some n→k=k3:=fun k3 q1=>by
   obtain⟨c1,c2⟩:=lS.1 hk;obtain⟨c3,c4⟩:=lS.1 q1;have hp:=a24.1 ha.nodup;rcases a49 k k3 with g|g|g;exact absurd (c2.trans c4.symm) (hp _ _ c1 c3 g);exact g;exact absurd (c4.trans c2.symm) (hp _ _ c3 c1 g)
  have hok:=bk.ok _ _ _ _ hitk hvk hLk
  revert hfst hok hitk
  generalize its[ns.length+k]=it;obtain⟨r0,xx⟩:=it;intro hitk hfst hok;obtain rfl:ra=r0:=hfst;have hEn:∀r',a0M ⟨ra,xx⟩=some r'→E0 n=some ⟨r',Ls[ns.length+k].1,Ls[ns.length+k].2⟩:=fun r' hr'=>
   c6m (ns++us) its Ls (ns.length+k) n _ _ _ hnk hitk hLk hr' (fun k' it' g1 g2 g3=>huniq _ k' n _ it' hnk hitk (by rw[hr'];simp) g1 g2 g3)
  cases ra with
  |v t=>simp[a0M]at j4
  |b t=>
   simp only[a0M,sj]at j4;subst j4;cases c with
   |true=>have:=(j7 rfl).2.1;cases this
   |false=>
    have hbv:a5i s.ps vals.toArray i=v:=by simp only[a5i,b2m hps,hval]
    rw[hbv]at hok;obtain⟨hr,b',hs,hv⟩:=hok;rcases j5 with⟨j5,j6⟩|⟨_,⟨g,-⟩,-⟩;refine⟨_,_,hEn _ rfl,j5,.inl ⟨rfl,.inl ?_,fun g=>by cases g⟩⟩;rcases h'.src_of j5 with⟨-,b,g⟩|⟨g,-⟩;rw[g]at j6⊢
    have:=j6.2.symm.trans hv
    simp only[Value.pointer.injEq,sj,Addr.mk.injEq,and_true]at this;rw[this];exact hs;cases g;cases g
  |o e0=>
   simp only[a0M,sj]at j4;subst j4;obtain⟨hs,hr⟩:=hok;have hbx0:a9M s.ps i=false:=by simp[a9M,hps]
   rcases j5 with⟨j5,j6⟩|⟨b,-,j5,hg,hcell⟩
   ·refine⟨_,_,hEn _ rfl,j5,.inl ⟨rfl,?_,fun _=>⟨e0,rfl⟩⟩⟩;cases c with
    |true=>
     refine .inr ⟨rfl,(j7 rfl).2.2,fun hb=>?_⟩;obtain⟨k3,i3,e3,q1,q2,q3⟩:=c2G s.ps us 0 n hb;obtain rfl:=hsame k3 q1;rw[j1]at q2;simp only[a18,sj]at q2;subst q2;rw[hps]at q3;cases q3
    |false=>
     have hbv:a5i s.ps vals.toArray i=v:=by simp only[a5i,b2m hps,hval]
     rw[hbv]at hs;left;rcases h'.src_of j5 with⟨g,-⟩|⟨-,u,e2,g,-⟩;cases g;rw[g]at j6⊢;have j6:v=u:=j6;rw[←j6];exact hs
   ·have hcf:c=false:=by
     cases c with
     |false=>rfl
     |true=>have:=(j7 rfl).1;rw[j5]at this;cases this
    subst hcf;have hbv:a5i s.ps vals.toArray i=v:=by simp only[a5i,b2m hps,hval]
    rw[hbv]at hs;have how:σ'.ow n=(b,1)::(σ'.ow n).tail∧b∉((σ'.ow n).tail).map (·.1):=by
     obtain⟨O',R,-,-,q3⟩:=(h'.roots n _ j5).rd;rcases q3 with⟨-,b',q4,q5⟩|⟨q4,-⟩;rw[hg]at q4;simp only[Src.at.injEq,and_true]at q4;subst q4;have hnd:=h'.nodup n;rw[q5,a09]at hnd;rw[q5];exact⟨rfl,(a04.1 hnd).1⟩;cases q4
    have hbo:b∈(σ'.ow n).map (·.1):=by rw[how.1];simp
    refine⟨_,_,hEn _ rfl,j5,.inr ⟨b,v,e0,rfl,rfl,rfl,hg,hcell,hs,hbo,h'.live n (b,1) (by rw[how.1];simp),?_⟩⟩
    rintro⟨i',n',q1,q2⟩
    obtain⟨k',q3,q4⟩:=b2l _ _ _ _ q1
    by_cases hnn:n'=n
    subst hnn;obtain rfl:=hsame k' q4;rw[j1]at q3;simp only[sj]at q3;subst q3;rw[hbx0]at q2;simp only[lo,hg]at q2;exact how.2 q2;obtain⟨i2,c2,a2,y2,v2,r2,z1,z2,z3,z4,z5,-⟩:=ha.refs k' n' q4;rw[q3]at z1;simp only[a18,sj]at z1;subst z1;obtain⟨p,hp,hpb⟩:=a06.1 q2;rw[b7r z2 z4]at hp;exact h'.disj n n' (Ne.symm hnn) b hbo (by rw[←hpb];exact a00 ((h'.lent hov' z5).2.2.1 p hp))
 let E:Nat→Option Ent1:=fun n=>(E0 n).map fun e=>bif us.contains n then b6l (Γ1.rt n) (σ1.g n) e else e
 have hEE:∀n e,E n=some e→∃e0,E0 n=some e0∧(e=e0∨(n∈us∧∃b v ε,e0.r.bx=false∧e0.r.t=.list true ε∧σ'.g n=.at b 0∧w.cell? ⟨b,0,none⟩=some v∧e0.s=.one v∧b∈(σ'.ow n).map (·.1)∧a0Z w b 1∧
   ¬ (a1b fz B w σ' s.ps us).F b∧e=⟨⟨true,e0.r.t,e0.r.x⟩,.at b 0,(b,1)::e0.O⟩)):=by
  intro n e he;obtain⟨e0,he0,rfl⟩:=a34.1 he;refine⟨e0,he0,?_⟩;cases hc:us.contains n with
  |false=>exact .inl rfl
  |true=>
   have hn:n∈us:=by simpa using hc
   obtain⟨e1,r0,q1,q2,q3⟩:=hEu0 n hn;rw[he0]at q1;cases q1;simp only[cT];rw[(hous n hn).1,q2,hg1];obtain⟨bx,t0,x0⟩:=r0;rcases q3 with⟨q3,-⟩|⟨b,v,ε,q3,q4,q5,q6,q7⟩
   ·left;cases bx with
    |false=>rfl
    |true=>
     rcases σ'.g n with⟨b,o⟩|u;simp only[b6l];rw[if_pos q3];rfl
   right;have q3:bx=true:=q3;subst q3;refine⟨hn,b,v,ε,q4,q5,q6,q7.1,q7.2.1,q7.2.2.1,q7.2.2.2.1,q7.2.2.2.2,?_⟩;rw[q6];simp only[b6l];rw[if_neg (by rw[q4];simp)]
 have hEu:∀n∈us,∃e r,E n=some e∧Γ'.rt n=some r∧(e.s=σ'.g n∨(r.bx=false∧n<pinned∧n∉brw s.ps us))∧(r.bx=false→∃ε,e.r.t=.list true ε):=by
  intro n hn;obtain⟨e0,r0,q1,q2,q3⟩:=hEu0 n hn;have hE:∃e,E n=some e:=⟨_,by simp only[E,q1,a29];rfl⟩;obtain⟨e,he⟩:=hE;obtain⟨e1,z1,z2⟩:=hEE n e he;rw[q1]at z1;cases z1;refine⟨e,r0,he,q2,?_⟩;rcases q3 with⟨q3,q4,q5⟩|⟨b,v,ε,q3,q4,q5,q6,q7⟩;rcases z2 with rfl|⟨-,b,v,ε,z3,z4,z5,z6,z7,z8,z9,z10,rfl⟩;exact⟨q4,q5⟩;rw[z3]at q3;rcases h'.src_of q2 with⟨g,-⟩|⟨-,u,_,g,-⟩;rw[g]at q3;cases q3;rw[g]at z5;cases z5;refine⟨.inl ?_,fun g=>by rw[q3]at g;cases g⟩;rcases z2 with rfl|⟨-,b',v',ε',z3,z4,z5,z6,z7,z8,z9,z10,rfl⟩
  exfalso
  obtain⟨e2,he2,he3⟩:=a34.1 he;rw[q1]at he2;cases he2;have hc:us.contains n=true:=by simpa using hn
  rw[hc]at he3;simp only[cT]at he3;rw[(hous n hn).1,q2,hg1,q6]at he3;obtain⟨bx,t0,x0⟩:=r0;have q3:bx=true:=q3;subst q3;simp only[b6l]at he3;rw[if_neg (by rw[q4];simp)]at he3
  have:=congrArg (fun e=>e.r.bx) he3
  rw[q4]at this;cases this;exact z5.symm
 have hEsome:∀n e,E0 n=some e→∃(k:Nat)(it:(r:RA)×r.ty.den) (v:Value) (L:Src×a1g),(ns++us)[k]?=some n∧its[k]?=some it∧vs[k]?=some v∧Ls[k]?=some L∧a0M it=some e.r∧e.s=L.1∧e.O=L.2∧
   c4S (cells w') (fun c=>c<w'.heap.size∧((a1b fz B w σ' s.ps us).S c∨(a1b fz B w σ' s.ps us).F c∨(a1b fz B w σ' s.ps us).size≤c)∧∀L∈Ls,c∉L.2.map (·.1)) it v L:=by
  intro n e he;obtain⟨k,it,L,j1,j2,j3,j4⟩:=c6S _ _ _ _ _ he;have hlt:k<vs.length:=by rw[bk.lv];exact(lS.1 j2).1
  have hv:=lG hlt;exact⟨k,it,vs[k],L,j1,j2,hv,j3,j4.1,j4.2.1,j4.2.2,bk.ok _ _ _ _ j2 hv j3⟩
 have hbase:∀n e0 c,E0 n=some e0→c∈e0.O.map (·.1)→(a1b fz B w σ' s.ps us).F c∨w.heap.size≤c:=fun n e0 c he hc=>by
  obtain⟨k,it,v,L,j1,j2,jv,j3,j4,j5,j6,j7⟩:=hEsome n e0 he;rw[j6]at hc;exact bk.mine L (a05 j3) c hc
 have hmemE:∀n e,E n=some e→n∈rn∨n∈us:=fun n e he=>by
  obtain⟨e0,he0,-⟩:=hEE n e he;obtain⟨k,it,v,L,j1,j2,-,-,j4,-⟩:=hEsome n e0 he0;rcases hrooted k n it j1 j2 (by rw[j4];simp)with⟨-,g,-⟩|⟨-,g⟩;exact .inl g;exact .inr (a05 g)
 have hold:∀n b,b∈(σ'.ow n).map (·.1)→¬ (a1b fz B w σ' s.ps us).F b→∀n' e0,E0 n'=some e0→b∉e0.O.map (·.1):=fun n b hb hF n' e0 he hc=>by
  rcases hbase n' e0 b he hc with g|g;exact hF g
  have:=h'.lt ⟨n,hb⟩;omega
 have hW:Work w w' σ1 (a1b fz B w σ' s.ps us).F E:={
  own:=fun c hF=>by
   obtain⟨n,hn,hc⟩:=hFown c hF;obtain⟨e,r,he,-⟩:=hEu n hn;exact⟨n,e,he,by rw[(hous n hn).2];exact hc⟩
  size:=bk.size
  still:=bk.still
  same:=fun b hb hF'=>bk.frame b hb hF'
  mine:=fun n e c he hc=>by
   obtain⟨e0,he0,z⟩:=hEE n e he;rcases z with rfl|⟨hn,b,v,ε,z3,z4,z5,z6,z7,z8,z9,z10,rfl⟩;exact(hbase n e c he0 hc).imp .inl id;rcases mC.1 (show c∈b::e0.O.map (·.1)from hc)with rfl|hc;exact .inl (.inr (by rw[(hous n hn).2];exact z8));exact(hbase n e0 c he0 hc).imp .inl id
  nodup:=fun n e he=>by
   obtain⟨e0,he0,z⟩:=hEE n e he;have h0:(e0.O.map (·.1)).Nodup:=by
    obtain⟨k,it,v,L,j1,j2,jv,j3,j4,j5,j6,j7⟩:=hEsome n e0 he0;rw[j6];exact bk.nodup L (a05 j3)
   rcases z with rfl|⟨hn,b,v,ε,z3,z4,z5,z6,z7,z8,z9,z10,rfl⟩;exact h0;exact a04.2 ⟨hold n b z8 z10 n e0 he0,h0⟩
  disj:=fun n e n' e' he he' hne c hc hc'=>by
   obtain⟨e0,he0,z⟩:=hEE n e he;obtain⟨e0',he0',z'⟩:=hEE n' e' he';have base:c∈e0.O.map (·.1)→c∈e0'.O.map (·.1)→False:=fun hc hc'=>by
    obtain⟨k,it,v,L,j1,j2,jv,j3,j4,j5,j6,j7⟩:=hEsome n e0 he0;obtain⟨k',it',v',L',i1,i2,iv,i3,i4,i5,i6,i7⟩:=hEsome n' e0' he0';rw[j6]at hc;rw[i6]at hc';exact bk.disj k k' L L' j3 i3 (fun g=>by subst g;rw[j1]at i1;exact hne (Option.some.inj i1)) c hc hc'
   rcases z with rfl|⟨hn,b,v,ε,z3,z4,z5,z6,z7,z8,z9,z10,rfl⟩;rcases z' with rfl|⟨hn',b',v',ε',y3,y4,y5,y6,y7,y8,y9,y10,rfl⟩;exact base hc hc';rcases mC.1 (show c∈b'::e0'.O.map (·.1)from hc')with rfl|hc';exact hold n' c y8 y10 n e he0 hc;exact base hc hc';rcases mC.1 (show c∈b::e0.O.map (·.1)from hc)with rfl|hc;rcases z' with rfl|⟨hn',b',v',ε',y3,y4,y5,y6,y7,y8,y9,y10,rfl⟩;exact hold n c z8 z10 n' e' he0' hc';rcases mC.1 (show c∈b'::e0'.O.map (·.1)from hc')with rfl|hc';exact h'.disj n n' hne c z8 y8;exact hold n c z8 z10 n' e0' he0' hc';rcases z' with rfl|⟨hn',b',v',ε',y3,y4,y5,y6,y7,y8,y9,y10,rfl⟩;exact base hc hc';rcases mC.1 (show c∈b'::e0'.O.map (·.1)from hc')with rfl|hc';exact hold n' c y8 y10 n e0 he0 hc;exact base hc hc'
  live:=fun n e p he hp=>by
   obtain⟨e0,he0,z⟩:=hEE n e he;have h0:p∈e0.O→a0Z w' p.1 p.2:=fun hp=>by
    obtain⟨k,it,v,L,j1,j2,jv,j3,j4,j5,j6,j7⟩:=hEsome n e0 he0;rw[j6]at hp;exact bk.live L (a05 j3) p hp
   rcases z with rfl|⟨hn,b,v,ε,z3,z4,z5,z6,z7,z8,z9,z10,rfl⟩;exact h0 hp;rcases mC.1 hp with rfl|hp;obtain⟨c,e,lo,hi,q1,q2⟩:=z9;exact⟨c,e,lo,hi,by rw[bk.frame b (h'.lt ⟨n,z8⟩) z10];exact q1,q2⟩;exact h0 hp }

 have hShB:∀c,(c<w'.heap.size∧((a1b fz B w σ' s.ps us).S c∨(a1b fz B w σ' s.ps us).F c∨(a1b fz B w σ' s.ps us).size≤c)∧∀L∈Ls,c∉L.2.map (·.1))→fz=true→
   (c<w'.heap.size∧(Shr B w σ1 c∨(a1b fz B w σ' s.ps us).F c∨w.heap.size≤c)∧∀n e,E n=some e→c∉e.O.map (·.1)):=by
  rintro c ⟨g1,g2,g3⟩ hfzt
  refine⟨g1,?_,fun n e he hce=>?_⟩;rcases g2 with(g2|⟨g2,-⟩)|g2|g2;exact .inl (hshr c g2);rw[hfzt]at g2;cases g2;exact .inr (.inl g2);exact .inr (.inr g2);obtain⟨e0,he0,z⟩:=hEE n e he;have h0:c∉e0.O.map (·.1):=by
   obtain⟨k,it,v,L,j1,j2,jv,j3,j4,j5,j6,j7⟩:=hEsome n e0 he0;rw[j6];exact g3 L (a05 j3)
  rcases z with rfl|⟨hn,b,v,ε,z3,z4,z5,z6,z7,z8,z9,z10,rfl⟩;exact h0 hce;rcases mC.1 (show c∈b::e0.O.map (·.1)from hce)with rfl|hce;rcases g2 with(g2|⟨g2,-⟩)|g2|g2;exact g2.2.2 ⟨n,z8⟩;rw[hfzt]at g2;cases g2;exact z10 g2
  have:=h'.lt ⟨n,z8⟩
  have g2:w.heap.size≤c:=g2;omega;exact h0 hce
 have hnoList:fz=false→∀(k:Nat) it,its[k]?=some it→it.1.hasList=false:=by
  intro hf0 k it hk;have h1:=b4K (RA.all s.ps s.rs) y k it (by rw[hits];exact hk);rw[←hfz]at hf0;simp only[Bool.or_eq_false_iff,List.any_eq_false,a52]at hf0;have hm:=a05 h1;simp only[RA.all,mA]at hm;rcases hm with hm|hm;exact hf0.1 _ hm;exact hf0.2 _ hm
 have hroot:∀n e,E n=some e→RootOk (cells w') (fun c=>c<w'.heap.size∧(Shr B w σ1 c∨(a1b fz B w σ' s.ps us).F c∨w.heap.size≤c)∧∀n e,E n=some e→c∉e.O.map (·.1)) e.r e.s e.O:=by
  intro n e he;obtain⟨e0,he0,z⟩:=hEE n e he;have h0:RootOk (cells w') (fun c=>c<w'.heap.size∧(Shr B w σ1 c∨(a1b fz B w σ' s.ps us).F c∨w.heap.size≤c)∧∀n e,E n=some e→c∉e.O.map (·.1)) e0.r e0.s e0.O:=by
   obtain⟨k,it,v,L,j1,j2,jv,j3,j4,j5,j6,j7⟩:=hEsome n e0 he0;have hr:=j7.root j4;rw[j5,j6];cases hfz':fz with
   |true=>
    rw[hfz']at hr hShB;exact hr.mono fun c hc=>hShB c hc rfl
   |false=>exact hr.anySh (d0m j4 (hnoList hfz' k it j2))
  rcases z with rfl|⟨hn,b,v,ε,z3,z4,z5,z6,z7,z8,z9,z10,rfl⟩;exact h0;obtain⟨O',R,k1,k2,k3⟩:=h0.rd;rcases k3 with⟨k3,-⟩|⟨-,-,-,k3⟩;rw[z3]at k3;cases k3;refine⟨O',R,a0x _ k1 (fun j hj=>?_) (fun _ _ _=>rfl),k2,.inl ⟨rfl,b,rfl,?_⟩⟩;have hj:j<e0.r.t.cells:=hj;rw[z4]at hj;have hj0:j=0:=by simp only[Ty.cells]at hj;omega
  subst hj0;rw[z7];show cells w' b (0+0)=some v
  have:=a1s (w':=w') (w:=w) (c:=b) none (bk.frame b (h'.lt ⟨n,z8⟩) z10) 0
  exact this.trans z6;show(b,1)::e0.O=(b,e0.r.t.cells)::O';rw[z4,k3];rfl
 obtain⟨hM,hMsh⟩:=h1.merge (hov1.trans hov') hW hroot (fun i b e hb he=>by
   rcases hmemE _ e he with g|g;exact absurd (hnotus _ g).1 (by omega);obtain⟨e',r',he',hrt,hs,-⟩:=hEu _ g;rw[he]at he';simp only[sj]at he';subst he';rcases hs with hs|⟨-,hs,-⟩;rw[hs];exact h'.pins i b hb (by rw[hrt];simp);omega) (f:=AV.deeps us (Γ1.unbx (brw s.ps us))) (fun av v hav=>by
   have key:∀k q,(av=.ptr k q∨av=.sref k q∨∃o l,av=.swin k q o l)→k∉us→E k=none:=fun k q hk hku=>by
    cases he:E k with
    |none=>rfl
    |some e=>
     rcases hmemE k e he with g|g;have hn:=hnone k g;rcases hk with rfl|rfl|⟨o,l,rfl⟩;obtain⟨r,t,b,o,g1,-⟩:=hav;rw[hn]at g1;cases g1;obtain⟨r,e,s,g1,-⟩:=hav;rw[hn]at g1;cases g1;obtain⟨r,e,s,_,_,_,g1,-⟩:=hav;rw[hn]at g1;cases g1;exact absurd g hku
   cases av with
   |sref m p=>
    simp only[AV.deeps];split
    ·rename_i hm;cases p with
     |cons=>exact .inl rfl
     |nil=>
      simp only[];split;rename_i hb;refine .inr ⟨rfl,fun k p' hk=>.inr (.inr ?_)⟩;rcases hk with g|g|⟨o,l,g⟩<;>cases g;obtain⟨e,r,he,hrt,hs,ht⟩:=hEu m (by simpa using hm);have hrm:=(hous m (by simpa using hm)).1.trans hrt;have hb:m∈Γ1.unbx (brw s.ps us):=by simpa using hb
      simp only[AE.unbx,List.mem_filter,a41]at hb;obtain⟨hb,hbx0⟩:=hb;rcases hs with hs|⟨-,-,hs⟩;obtain⟨r2,e2,s2,g1,g2,g3⟩:=hav;rw[hrm]at g1;cases g1;simp only[loc,a0V,sj,pJ]at g2;rcases h1.src_of hrm with⟨hbx,b,hg⟩|⟨hbx,u,e3,hg,-⟩;rw[hrm]at hbx0;simp only[c0Z]at hbx0;rw[hbx]at hbx0;cases hbx0;obtain⟨ε,ht⟩:=ht hbx;exact⟨rfl,e,u,ε,he,by rw[hs,←hg1];exact hg,hg,ht⟩;exact absurd hb hs;exact .inl rfl
    rename_i hm;refine .inr ⟨rfl,fun k p' hk=>.inl (key k p' hk ?_)⟩;rcases hk with g|g|⟨o,l,g⟩<;>cases g;simpa using hm
   |swin m p o l=>
    simp only[AV.deeps];split;exact .inl rfl;rename_i hm;refine .inr ⟨rfl,fun k p' hk=>.inl (key k p' hk ?_)⟩;rcases hk with g|g|⟨o,l,g⟩<;>cases g;simpa using hm
   |ptr m p=>
    simp only[AV.deeps];split
    ·rename_i hm;cases p with
     |cons=>exact .inl rfl
     |nil=>
      refine .inr ⟨rfl,fun k p' hk=>.inr (.inl ?_)⟩;rcases hk with g|g|⟨o,l,g⟩<;>cases g;obtain⟨e,r,he,hrt,hs,ht⟩:=hEu m (by simpa using hm);have hrm:=(hous m (by simpa using hm)).1.trans hrt;obtain⟨r2,t2,b2,o2,g1,g2,-⟩:=hav;rw[hrm]at g1;cases g1;simp only[loc,a0V,sj,pJ]at g2;rcases h1.src_of hrm with⟨hbx,b,hg⟩|⟨hbx,u,e3,hg,-⟩;rcases hs with hs|⟨hs,-⟩;exact⟨rfl,e,b,he,by rw[hs,←hg1];exact hg,hg⟩;rw[hbx]at hs;cases hs;rw[hg]at g2;cases g2.2
    rename_i hm;refine .inr ⟨rfl,fun k p' hk=>.inl (key k p' hk ?_)⟩;rcases hk with g|g|⟨o,l,g⟩<;>cases g;simpa using hm
   |_=>exact .inr ⟨rfl,fun k p' hk=>by rcases hk with g|g|⟨o,l,g⟩<;>cases g⟩)

 have hres:∀(k:Nat) av,(a4P ns its)[k]?=some av→∃u,vr[k]?=some u∧a0j (a0a w' none) (a4D σ1 E).g (a9K Γ1 (AV.deeps us (Γ1.unbx (brw s.ps us))) E).rt (Shr B w' (a4D σ1 E)) av u:=by
  intro k av hk;obtain⟨n,it,g1,g2,rfl⟩:=c6T _ _ _ _ hk;have hkl:k<vr.length:=by rw[hvr,←hnsl];exact(lS.1 g1).1
  have hvk:=lG hkl;have hvsk:vs[k]?=some vr[k]:=by rw[←hvs,a03 hkl];exact hvk
  have hkL:k<Ls.length:=by rw[bk.ll];exact(lS.1 g2).1
  have hLk:=lG hkL;have hok:=bk.ok _ _ _ _ g2 hvsk hLk;have hnk:(ns++us)[k]?=some n:=by rw[a03 (by omega)];exact g1
  refine⟨vr[k],hvk,?_⟩;have hents:∀r,a0M it=some r→E n=some ⟨r,Ls[k].1,Ls[k].2⟩:=fun r hr=>by
   have h0:E0 n=some ⟨r,Ls[k].1,Ls[k].2⟩:=c6m (ns++us) its Ls k n it _ r hnk g2 hLk hr (fun k' it' a1 a2 a3=>huniq _ k' n _ it' hnk g2 (by rw[hr];simp) a1 a2 a3);have hnu:us.contains n=false:=by
    rcases hrooted k n it hnk g2 (by rw[hr];simp)with⟨-,g,-⟩|⟨g,-⟩;simpa using(hnotus n g).2
    have:=(lS.1 g1).1
    omega
   simp only[E,h0,a29,hnu,cF]
  obtain⟨r,xx⟩:=it;cases r with
  |v t=>
   obtain⟨hv,-⟩:=hok;cases hfz':fz with
   |true=>
    rw[hfz']at hv hShB hMsh;exact hv.frame (fun _ _ _=>rfl) fun c hc=>hMsh c (hShB c hc rfl)
   |false=>exact hv.anySh (hnoList hfz' k _ g2)
  |o e=>
   obtain⟨hs,-⟩:=hok;have he:=hents _ rfl;refine⟨_,e,.one vr[k],a5Z he,?_,rfl⟩;rw[a6a he];show some (_,Ls[k].1)=_;rw[hs]
  |b t=>
   obtain⟨-,b,hs,hv⟩:=hok;have he:=hents _ rfl;refine⟨_,t,b,0,a5Z he,?_,hv⟩;rw[a6a he];show some (_,Ls[k].1)=_;rw[hs]
 have hΓ2:(⟨fun i=>(Γ1.sl i).mapv (AV.deeps (us.reverse++[]) (Γ1.unbx (brw s.ps us))),fun n=>match a2r (ns++us) its n with
    |some r=>some (bif (us.reverse++[]).contains n then b2v (Γ1.rt n) r else r)
    |none=>Γ1.rt n,none⟩:AE)=a9K Γ1 (AV.deeps us (Γ1.unbx (brw s.ps us))) E:=by
  have e1:AV.deeps (us.reverse++[]) (Γ1.unbx (brw s.ps us))=AV.deeps us (Γ1.unbx (brw s.ps us)):=by
   funext av;cases av<;>simp[AV.deeps]
  have e2:∀n,(us.reverse++[]).contains n=us.contains n:=fun n=>by simp
  rw[e1];simp only[a9K,AE.mapv,E,E0,e2];congr 1;funext n;rw[c0B _ _ Ls n bk.ll];cases b1X (ns++us) its Ls n with
  |none=>rfl
  |some e=>
   simp only[a29];cases us.contains n with
   |false=>rfl
   |true=>
    simp only[cT,sj];cases hrt:Γ1.rt n with
    |none=>simp[b2v,b6l]
    |some r0=>
     rcases h1.src_of hrt with⟨hb,b,hg⟩|⟨hb,u,e0,hg,-⟩;obtain⟨bx,t0,x0⟩:=r0;have hb:bx=true:=hb;subst hb;rw[hg];simp only[b2v,b6l];split;rename_i he;obtain⟨⟨bx,t1,x1⟩,s1,O1⟩:=e;have he:bx=true:=he;subst he;rfl;rfl;obtain⟨bx,t0,x0⟩:=r0;have hb:bx=false:=hb;subst hb;simp[b2v,b6l]
 have hz:(match o.dst with
   |none=>K (a9K Γ1 (AV.deeps us (Γ1.unbx (brw s.ps us))) E)
   |some d=>match a4P (a1i s.rs (d+1000)) its with
    | [v]=>K ((a9K Γ1 (AV.deeps us (Γ1.unbx (brw s.ps us))) E).set d v)
    |vs=>K ((a9K Γ1 (AV.deeps us (Γ1.unbx (brw s.ps us))) E).put d (.cmp .tup vs)))=some z:=by
  rw[hus,hns,hits]at hz3;rw[←hΓ2];exact hz3
 cases hd:o.dst with
 |none=>
  rw[hd]at hz hnext;simp only[]at hz;exact hnext _ w' _ _ hM hz
 |some d=>
  have hns':a1i s.rs (d+1000)=ns:=by rw[←hns,hd];rfl
  rw[hd]at hz hnext;simp only[hns']at hz;have hlen:(a4P ns its).length=vr.length:=by rw[c1s _ _ (by omega),hnsl,hvr]
  split at hz
  ·rename_i av hav;rw[hav]at hlen hres;obtain⟨u,hu,hok⟩:=hres 0 av rfl;have hvr1:vr=[u]:=by
    match vr,hlen,hu with
    | [u'],_,hu=>simp only[List.getElem?_cons_zero,sj]at hu;rw[hu]
   refine hnext _ w' _ _ (hM.putd (sv:=.one av) (v:=b9I vr) (d:=d) hN (fun _=>?_)) hz;rw[hvr1];exact hok
  ·rename_i hne;refine hnext _ w' _ _ (hM.putd (sv:=.cmp .tup (a4P ns its)) (v:=b9I vr) (d:=d) hN (fun _=>?_)) hz;refine⟨vr.toArray,?_,fun k av hk=>?_⟩
   ·match vr,hlen with
    | [],_=>rfl
    | [u],hlen=>
     obtain⟨av,hav⟩:=a44.1 (hlen.trans rfl);exact absurd hav (hne av)
    |_::_::_,_=>rfl
   obtain⟨u,hu,hok⟩:=hres k av hk;exact⟨u,by simpa using hu,hok⟩
theorem d1G{o:Oper}{c:Call}{f:FuncId}{s:FSem}{q:Bool}{K:AE→Rs ρ}{z:ρ}{next:Act→World→Prop}{Q:Exit→Act→World→Prop}{G:c1g}(ho:o.op=.call c)(hc:c.callee=.value (.func f))(hG:GOk G B)(hF:a4X P G f s)(hB:b2B P f)
  (h:Rel B Γ N (a0p a) w σ)(hN:a.tmps.size=N)(hf:fits N o=true)(hz:Γ.call q o.dst s (c.args.toList.map Γ.opd) K=some z)
  (hnext:∀v w' Γ' σ',Rel B Γ' N (a0p (a.put o.dst v)) w' σ'→K Γ'=some z→next (a.put o.dst v) w'):o.wpIn (Fr ro) 0 P a w next Q:=by
 have hopd:∀x∈c.args.toList,a1u N x=true:=fun x hx=>a0X hf x (by simp only[ho,Op.operands,Call.operands,hc];simp;exact .inr (by simpa using hx));refine c6U (vals:=c.args.toList.map a.eval) (fun c' h'=>by rw[ho]at h';cases h') (by rw[c8M hB ho hc,←Array.toList_map]) (by simp) (fun i av v h1 h2=>?_) hG hF h hN hz hnext;rw[a33]at h1 h2;cases hi:c.args.toList[i]? with
 |none=>rw[hi]at h1;cases h1
 |some o'=>
  rw[hi]at h1 h2;simp only[a29,sj]at h1 h2;subst h1;subst h2;exact h.opd (hopd o' (a05 hi))
theorem d3H{o:Oper}{c:Call}{t:Nat}{vs:List AV}{f:FuncId}{s:FSem}{q:Bool}{K:AE→Rs ρ}{z:ρ}{next:Act→World→Prop}{Q:Exit→Act→World→Prop}{G:c1g}(ho:o.op=.call c)(hc:c.callee=.value (.tmp t))(hs:Γ.sl t=.cmp (.clo f) vs)
  (hG:GOk G B)(hF:a4X P G f s)(hB:b2B P f)
  (h:Rel B Γ N (a0p a) w σ)(hN:a.tmps.size=N)(hf:fits N o=true)(hz:Γ.call q o.dst s (c.args.toList.map Γ.opd++vs) K=some z)
  (hnext:∀v w' Γ' σ',Rel B Γ' N (a0p (a.put o.dst v)) w' σ'→K Γ'=some z→next (a.put o.dst v) w'):o.wpIn (Fr ro) 0 P a w next Q:=by
 have hopd:∀x∈c.args.toList,a1u N x=true:=fun x hx=>a0X hf x (by simp only[ho,Op.operands,Call.operands,hc];simp;exact .inr (by simpa using hx));have ht:t<N:=by
  have:=a0X hf (.tmp t) (by simp only[ho,Op.operands,Call.operands,hc];simp)
  simpa[a1u]using this
 have hsl:=h.slots t ht;rw[hs]at hsl;obtain⟨us,⟨h1,h2⟩,h3⟩:=hsl;have h2:a.eval (.tmp t)=.func (.func f) #[] us:=h2;refine c6U (vals:=c.args.toList.map a.eval++us.toList) (fun c' h'=>by rw[ho]at h';cases h') (by rw[d0n hB ho hc a w h2];simp) (by simp[h1]) (fun i av v g1 g2=>?_) hG hF h hN hz hnext
 by_cases hi:i<c.args.toList.length
 ·rw[a03 (by simpa using hi),a33]at g1 g2;cases hi':c.args.toList[i]? with
  |none=>rw[hi']at g1;cases g1
  |some o'=>
   rw[hi']at g1 g2;simp only[a29,sj]at g1 g2;subst g1;subst g2;exact h.opd (hopd o' (a05 hi'))
 rw[a08 (by simpa using hi),a55]at g1 g2;obtain⟨u,h4,h5⟩:=h3 _ av g1;rw[a19,h4]at g2;simp only[sj]at g2;subst g2;exact h5
end
end Go.Ab
namespace Go.Ab
theorem c2Z:∀(l:List Nat),c8l l=true→l.Nodup
 | [],_=>List.nodup_nil
 |a::l,h=>by
  simp only[c8l,bA,a41,List.contains_eq_mem,decide_eq_false_iff_not]at h;exact a04.2 ⟨h.1,c2Z l h.2⟩
section
variable {ρ:Type}
inductive SlOk (nm:List Nat) (Γ:AE) (es:a0f) (i:Nat):SV→Prop
 |dead:SlOk nm Γ es i (.one .dead)
 |same (av:AV):Γ.get i=av→av≠.dead→(∀k q,(av=.ptr k q∨av=.sref k q∨∃o l,av=.swin k q o l)→k∈nm)→SlOk nm Γ es i (.one av)
 |made (n:Nat) (e:Ty):Ent.own i n e∈es→Γ.rt n=none→n∈nm→(Γ.get i=.nils∨Γ.get i=.empt)→SlOk nm Γ es i (.one (.sref n []))
 |clo (f:Nat) (ns:List Nat):Γ.sl i=.cmp (.clo f) (b1c ns)→(∀k∈ns,k∈nm)→SlOk nm Γ es i (.cmp (.clo f) (b1c ns))
theorem c6V:∀(vs:List AV)(ns:List Nat),b4G vs ns=true→vs=b1c ns
 | [],[],_=>rfl
 |v::vs,[],h=>by simp_all[b4G]
 | [],_::_,h=>by simp[b4G]at h
 |v::vs,m::ns,h=>by
  cases v with
  |ptr n p=>
   cases p with
   |nil=>
    simp[b4G]at h;rw[h.1,c6V vs ns h.2];rfl
   |cons=>simp[b4G]at h
  |_=>simp[b4G]at h
theorem c4U:∀(ns:List Nat)(k:Nat)(av:AV),(b1c ns)[k]?=some av→∃n∈ns,av=.ptr n []
 | [],k,av,h=>by simp[b1c]at h
 |n::ns,0,av,h=>by
  simp_all[b1c]
 |n::ns,k+1,av,h=>by
  obtain⟨m,hm,e⟩:=c4U ns k av (by simpa[b1c]using h);exact⟨m,by simp[hm],e⟩
theorem SlOk.cons{nm Γ es i v}(h:SlOk nm Γ es i v)(e:Ent):SlOk nm Γ (e::es) i v:=by
 cases h with
 |dead=>exact .dead
 |same av g1 g2 g3=>exact .same av g1 g2 g3
 |made n e' g1 g2 g3 g4=>exact .made n e' (a01 _ g1) g2 g3 g4
 |clo f ns g1 g2=>exact .clo f ns g1 g2
def b4M(r' r:Root):Prop:=r'=r∨(r'.bx=true∧r.bx=true∧r'.t.shn=r'.t∧castTo r'.t r.t r'.x=some r.x)
theorem c8N{m:Mem}:∀(q:a0R)(a b:Ty)(s:Src){t1 s1},a.le b=true→loc m a s q=some (t1,s1)→∃t2,loc m b s q=some (t2,s1)
 | [],a,b,s,t1,s1,h,hl=>by
  simp[a0V]at hl;obtain⟨-,rfl⟩:=hl;exact⟨b,rfl⟩
 |.fst::p,a,b,s,t1,s1,h,hl=>by
  obtain⟨a1,a2,bl,o,rfl,rfl,hl⟩:=a9f hl;cases b with
  |pair b1 b2=>
   simp[Ty.le]at h;exact c8N p a1 b1 _ h.1 hl
  |_=>simp[Ty.le]at h
 |.snd::p,a,b,s,t1,s1,h,hl=>by
  obtain⟨a1,a2,bl,o,rfl,rfl,hl⟩:=a9g hl;cases b with
  |pair b1 b2=>
   simp[Ty.le]at h;obtain⟨t2,h2⟩:=c8N p a2 b2 _ h.2 hl;rw[Ty.le_cells _ _ h.1]at h2;exact⟨t2,h2⟩
  |_=>simp[Ty.le]at h
 |.idx i::p,a,b,s,t1,s1,h,hl=>by
  have hab:a=b:=by
   rcases a6J hl with⟨n,t,bl,o,rfl,rfl,hi,hl⟩|⟨t,a',n,c,rfl,hv,hi,hl⟩<;>simpa[Ty.le]using h
  simp_all
theorem b4M.loc{m:Mem}{r' r:Root}(h:b4M r' r){p:a0R}{s:Src}{t1 s1}(hl:loc m r'.t s p=some (t1,s1)):∃t2,Ab.loc m r.t s p=some (t2,s1):=by
 rcases h with rfl|⟨-,-,-,h⟩
 all_goals grind[castTo,c8N]
theorem b4M.locL{m:Mem}{r' r:Root}(h:b4M r' r){p:a0R}{s:Src}{e s1}(hl:Ab.loc m r'.t s p=some (.list true e,s1)):Ab.loc m r.t s p=some (.list true e,s1):=by
 rcases h with rfl|⟨-,-,h,-⟩;omega
 have:=a9I p _ _ h hl
 simp[Ty.shn]at this
theorem a0j.recast{m:Mem}{g g':Nat→Src}{rt rt':Nat→Option Root}{Sh Sh':Nat→Prop}{a:AV}{v:Value}(h:a0j m g rt Sh a v)(hs:∀c,Sh c→Sh' c)
  (hr:∀n p r,(a=.ptr n p∨a=.sref n p∨∃o l,a=.swin n p o l)→rt n=some r→g' n=g n∧∃r',rt' n=some r'∧b4M r r'):a0j m g' rt' Sh' a v:=by
 cases a with
 |ptr n p=>
  obtain⟨r,t,b,o,h1,h2,h3⟩:=h;obtain⟨hg,r',h4,h5⟩:=hr n p r (.inl rfl) h1;obtain⟨t2,h6⟩:=h5.loc h2;exact⟨r',t2,b,o,h4,by simp_all,h3⟩
 |sref n p=>
  obtain⟨r,e,s,h1,h2,h3⟩:=h;obtain⟨hg,r',h4,h5⟩:=hr n p r (.inr (.inl rfl)) h1;exact⟨r',e,s,h4,by rw[hg];exact h5.locL h2,h3⟩
 |swin n p o l=>
  obtain⟨r,e,s,a,l',c,h1,h2,h3,h4,h5⟩:=h;obtain⟨hg,r',h6,h7⟩:=hr n p r (.inr (.inr ⟨_,_,rfl⟩)) h1;exact⟨r',e,s,a,l',c,h6,by rw[hg];exact h7.locL h2,h3,h4,h5⟩
 |_=>exact h.frame (fun _ _ _=>rfl) hs (by rintro n p r t s (g|g|⟨_,_,g⟩)<;>cases g)
inductive RtOk (Γ:AE) (es:a0f) (n:Nat):Option Root→Prop
 |none:n∉es.names→RtOk Γ es n none
 |same (r r':Root):n∈es.names→Γ.rt n=some r'→b4M r' r→RtOk Γ es n (some r)
 |made (i:Nat) (e:Ty):n∈es.names→n<pinned→Ent.own i n e∈es→Γ.rt n=Option.none→(Γ.get i=.nils∨Γ.get i=.empt)→RtOk Γ es n (some ⟨false,.list true e,[]⟩)
theorem a2I(Γ:AE)(i j:Nat)(v:AV):(Γ.set i v).sl j=if j=i then .one v else Γ.sl j:=by
 simp_all[AE.set,AE.put]
theorem b3L(Γ:AE)(n m:Nat)(r:Option Root):(Γ.setRt n r).rt m=if m=n then r else Γ.rt m:=by
 simp_all[AE.setRt]
theorem a1N(nm:List Nat)(Γ:AE):∀(es:a0f){K:es.ty.den→Rs ρ}{z:ρ},(∀n∈es.names,n∈nm)→es.names.Nodup→a0f.rest nm Γ es K=some z→
  ∃x,K x=some z∧(es.enc x).pd=none∧(∀i,SlOk nm Γ es i ((es.enc x).sl i))∧∀n,RtOk Γ es n ((es.enc x).rt n)
 | [],K,z,_,_,h=>⟨(),h,rfl,fun i=>.dead,fun n=>.none (by simp[a0f.names])⟩
 |.sv i t::r,K,z,hnm,hnd,h=>by
  simp only[a0f.rest]at h
  split at h
  rename_i t' x hx
  split at h
  rename_i ht;subst ht;obtain⟨y,h1,h2,h3,h4⟩:=a1N nm Γ r hnm hnd h;refine⟨(x,y),h1,h2,fun j=>?_,fun n=>?_⟩;show SlOk nm Γ _ j (((a0f.enc r y).set i (.val t' x)).sl j);rw[a2I];split;rename_i e;subst e;exact .same _ hx (by simp) (by rintro k q (g|g|⟨o,l,g⟩)<;>cases g);exact(h3 j).cons _;show RtOk Γ _ n ((a0f.enc r y).rt n);cases hrt:(a0f.enc r y).rt n<;>have:=h4 n<;>rw[hrt]at this<;>cases this;exact .none (by assumption);exact .same _ _ (by assumption) (by assumption) (by assumption);rename_i i' e' g1 g1' g2 g3 g4;exact .made i' e' g1 g1' (a01 _ g2) g3 g4;cases h;cases h
 |.own i n e::r,K,z,hnm,hnd,h=>by
  simp[a0f.names]at hnd;have hnm':∀m∈a0f.names r,m∈nm:=fun m hm=>hnm m (by simp[a0f.names,hm]);have hn:n∈nm:=hnm n (by simp[a0f.names]);have fin:∀(l:List e.den)(K':(a0f.ty r).den→Rs ρ),a0f.rest nm Γ r K'=some z→(∀y,K' y=K (l,y))→
    SlOk nm Γ (.own i n e::r) i (.one (.sref n []))→RtOk Γ (.own i n e::r) n (some ⟨false,.list true e,l⟩)→
    ∃x,K x=some z∧(a0f.enc (.own i n e::r) x).pd=none∧(∀j,SlOk nm Γ (.own i n e::r) j ((a0f.enc (.own i n e::r) x).sl j))∧∀m,RtOk Γ (.own i n e::r) m ((a0f.enc (.own i n e::r) x).rt m):=by
   intro l K' h hK hs hr;obtain⟨y,h1,h2,h3,h4⟩:=a1N nm Γ r hnm' hnd.2 h;refine⟨(l,y),by simp_all,h2,fun j=>?_,fun m=>?_⟩;show SlOk nm Γ _ j ((((a0f.enc r y).setRt n (some ⟨false,.list true e,l⟩)).set i (.sref n [])).sl j);rw[a2I];split;simp_all;exact(h3 j).cons _
   ·show RtOk Γ _ m (((a0f.enc r y).setRt n (some ⟨false,.list true e,l⟩)).rt m);rw[b3L];split;simp_all
    ·rename_i hmn;cases hrt:(a0f.enc r y).rt m with
     |none=>
      have:=h4 m
      rw[hrt]at this;cases this with
      |none g=>exact .none (by simp_all[a0f.names])
     |some rr=>
      have:=h4 m
      rw[hrt]at this;cases this with
      |same _ r5 g1 g2 g5=>exact .same rr r5 (by simp[a0f.names,g1]) g2 g5
      |made i' e' g1 g1' g2 g3 g4=>exact .made i' e' (by simp[a0f.names,g1]) g1' (a01 _ g2) g3 g4
  simp[a0f.rest]at h
  split at h
  rename_i m hm;rcases a0i h with⟨hmn,h⟩|⟨-,g⟩;obtain rfl:m=n:=by simp_all
  split at h
  rename_i e' l hr
  split at h
  rename_i he;subst he;exact fin l _ h (fun _=>rfl) (.same _ hm (by simp) (by simp_all)) (.same _ _ (by simp[a0f.names]) hr (.inl rfl));simp_all;simp_all;simp_all;rename_i hi
  split at h
  rename_i hr;obtain⟨hp,h⟩:=(a0i h).elim id fun h=>by grind
  exact fin [] _ h (fun _=>rfl) (.made n e (by simp) hr hn (.inl hi)) (.made i e (by simp[a0f.names]) (by simp_all) (by simp) hr (.inl hi));simp_all;rename_i hi
  split at h
  rename_i hr;obtain⟨hp,h⟩:=(a0i h).elim id fun h=>by grind
  exact fin [] _ h (fun _=>rfl) (.made n e (by simp) hr hn (.inr hi)) (.made i e (by simp[a0f.names]) (by simp_all) (by simp) hr (.inr hi));simp_all;simp_all
 |.box n t::r,K,z,hnm,hnd,h=>by
  simp[a0f.names]at hnd;have hnm':∀m∈a0f.names r,m∈nm:=fun m hm=>hnm m (by simp[a0f.names,hm]);simp[a0f.rest]at h;have fin:∀(x':t.den)(K':(a0f.ty r).den→Rs ρ),a0f.rest nm Γ r K'=some z→(∀y,K' y=K (x',y))→(∃r5,Γ.rt n=some r5∧b4M r5 ⟨true,t,x'⟩)→
    ∃x,K x=some z∧(a0f.enc (.box n t::r) x).pd=none∧(∀j,SlOk nm Γ (.box n t::r) j ((a0f.enc (.box n t::r) x).sl j))∧∀m,RtOk Γ (.box n t::r) m ((a0f.enc (.box n t::r) x).rt m):=by
   intro x' K' h hK ⟨r5,hr,hc⟩;obtain⟨y,h1,h2,h3,h4⟩:=a1N nm Γ r hnm' hnd.2 h;refine⟨(x',y),by simp_all,h2,fun j=>(h3 j).cons _,fun m=>?_⟩;show RtOk Γ _ m (((a0f.enc r y).setRt n (some ⟨true,t,x'⟩)).rt m);rw[b3L];split;rename_i e;subst e;exact .same _ _ (by simp[a0f.names]) hr hc
   ·rename_i hmn;cases hrt:(a0f.enc r y).rt m with
    |none=>
     have:=h4 m
     rw[hrt]at this;cases this with
     |none g=>exact .none (by simp_all[a0f.names])
    |some rr=>
     have:=h4 m
     rw[hrt]at this;cases this with
     |same _ r5 g1 g2 g5=>exact .same rr r5 (by simp[a0f.names,g1]) g2 g5
     |made i' e' g1 g1' g2 g3 g4=>exact .made i' e' (by simp[a0f.names,g1]) g1' (a01 _ g2) g3 g4
  split at h
  rename_i t' x hr
  split at h
  rename_i ht;subst ht;exact fin x _ h (fun _=>rfl) ⟨_,hr,.inl rfl⟩
  split at h
  rename_i hshn
  split at h
  rename_i z' hz';exact fin z' _ h (fun _=>rfl) ⟨_,hr,.inr ⟨rfl,rfl,hshn,hz'⟩⟩;simp_all;simp_all;simp_all
 |.ptr i n p::r,K,z,hnm,hnd,h=>by
  simp only[a0f.rest]at h
  split at h
  rename_i m q hi;obtain⟨hc,h⟩:=(a0i h).elim id fun h=>by grind
  simp at hc;obtain⟨hn,rfl,hp⟩:=hc;obtain rfl:=a8s _ _ hp;obtain⟨y,h1,h2,h3,h4⟩:=a1N nm Γ r hnm hnd h;refine⟨y,h1,h2,fun j=>?_,fun n'=>?_⟩;show SlOk nm Γ _ j (((a0f.enc r y).set i (.ptr m q)).sl j);rw[a2I];split;rename_i e;subst e;exact .same _ hi (by simp) (by simp_all);exact(h3 j).cons _;show RtOk Γ _ n' ((a0f.enc r y).rt n');cases hrt:(a0f.enc r y).rt n'<;>have:=h4 n'<;>rw[hrt]at this<;>cases this;exact .none (by assumption);exact .same _ _ (by assumption) (by omega) (by omega);rename_i i' e' g1 g1' g2 g3 g4;exact .made i' e' g1 g1' (a01 _ g2) g3 g4;simp_all
 |.vp i t::r,K,z,hnm,hnd,h=>by
  simp only[a0f.rest]at h
  split at h
  rename_i t' x hx
  split at h
  rename_i ht;subst ht;obtain⟨y,h1,h2,h3,h4⟩:=a1N nm Γ r hnm hnd h;refine⟨(x,y),h1,h2,fun j=>?_,fun n=>?_⟩;show SlOk nm Γ _ j (((a0f.enc r y).set i (.vptr t' x)).sl j);rw[a2I];split;rename_i e;subst e;exact .same _ hx (by simp) (by rintro k q (g|g|⟨o,l,g⟩)<;>cases g);exact(h3 j).cons _;show RtOk Γ _ n ((a0f.enc r y).rt n);cases hrt:(a0f.enc r y).rt n<;>have:=h4 n<;>rw[hrt]at this<;>cases this;exact .none (by assumption);exact .same _ _ (by assumption) (by assumption) (by assumption);rename_i i' e' g1 g1' g2 g3 g4;exact .made i' e' g1 g1' (a01 _ g2) g3 g4;cases h;cases h
 |.ref i n p::r,K,z,hnm,hnd,h=>by
  simp only[a0f.rest]at h
  split at h
  rename_i m q hi;obtain⟨hc,h⟩:=(a0i h).elim id fun h=>by grind
  simp at hc;obtain⟨hn,rfl,hp⟩:=hc;obtain rfl:=a8s _ _ hp;obtain⟨y,h1,h2,h3,h4⟩:=a1N nm Γ r hnm hnd h;refine⟨y,h1,h2,fun j=>?_,fun n'=>?_⟩;show SlOk nm Γ _ j (((a0f.enc r y).set i (.sref m q)).sl j);rw[a2I];split;rename_i e;subst e;exact .same _ hi (by simp) (by simp_all);exact(h3 j).cons _;show RtOk Γ _ n' ((a0f.enc r y).rt n');cases hrt:(a0f.enc r y).rt n'<;>have:=h4 n'<;>rw[hrt]at this<;>cases this;exact .none (by assumption);exact .same _ _ (by assumption) (by omega) (by omega);rename_i i' e' g1 g1' g2 g3 g4;exact .made i' e' g1 g1' (a01 _ g2) g3 g4;simp_all
 |.rfi i n::r,K,z,hnm,hnd,h=>by
  simp only[a0f.rest]at h
  split at h
  rename_i m k hi;obtain⟨hc,h⟩:=(a0i h).elim id fun h=>by grind
  simp at hc;obtain⟨hn,rfl⟩:=hc;obtain⟨y,h1,h2,h3,h4⟩:=a1N nm Γ r hnm hnd h;refine⟨((k:Int),y),h1,h2,fun j=>?_,fun n'=>?_⟩;show SlOk nm Γ _ j (((a0f.enc r y).set i (.sref m [.idx (k:Int).toNat])).sl j);rw[a2I];split;rename_i e;subst e;exact .same _ (by simp_all) (by simp) (by simp_all);exact(h3 j).cons _;show RtOk Γ _ n' ((a0f.enc r y).rt n');cases hrt:(a0f.enc r y).rt n'<;>have:=h4 n'<;>rw[hrt]at this<;>cases this;exact .none (by assumption);exact .same _ _ (by assumption) (by omega) (by omega);rename_i i' e' g1 g1' g2 g3 g4;exact .made i' e' g1 g1' (a01 _ g2) g3 g4;simp_all
 |.win i n p::r,K,z,hnm,hnd,h=>by
  simp only[a0f.rest]at h
  split at h
  rename_i m q o k hi;obtain⟨hc,h⟩:=(a0i h).elim id fun h=>by grind
  simp at hc;obtain⟨hn,rfl,hp⟩:=hc;obtain rfl:=a8s _ _ hp;obtain⟨y,h1,h2,h3,h4⟩:=a1N nm Γ r hnm hnd h;refine⟨((o:Int),(k:Int),y),h1,h2,fun j=>?_,fun n'=>?_⟩;show SlOk nm Γ _ j (((a0f.enc r y).set i (.swin m q (o:Int).toNat (k:Int).toNat)).sl j);rw[a2I];split;rename_i e;subst e;exact .same _ (by simp_all) (by simp) (by simp_all);exact(h3 j).cons _;show RtOk Γ _ n' ((a0f.enc r y).rt n');cases hrt:(a0f.enc r y).rt n'<;>have:=h4 n'<;>rw[hrt]at this<;>cases this;exact .none (by assumption);exact .same _ _ (by assumption) (by omega) (by omega);rename_i i' e' g1 g1' g2 g3 g4;exact .made i' e' g1 g1' (a01 _ g2) g3 g4;simp_all
 |.clo i f ns::r,K,z,hnm,hnd,h=>by
  simp[a0f.rest]at h
  split at h
  rename_i f' vs hi;obtain⟨hc,h5⟩:=(a0i h).elim id fun h=>by grind
  simp at hc;obtain⟨rfl,hn,hp⟩:=hc;obtain rfl:=c6V _ _ hp;obtain⟨y,h1,h2,h3,h4⟩:=a1N nm Γ r hnm hnd h5;refine⟨y,h1,h2,fun j=>?_,fun n'=>?_⟩;show SlOk nm Γ _ j (bif j==i then(SV.cmp (.clo f') (b1c ns))else(a0f.enc r y).sl j)
  by_cases e:j=i
  subst e
  simp
  exact .clo f' ns hi hn;have e':(j==i)=false:=by simp_all
  simp[e'];exact(h3 j).cons _;show RtOk Γ _ n' ((a0f.enc r y).rt n');cases hrt:(a0f.enc r y).rt n'<;>have:=h4 n'<;>rw[hrt]at this<;>cases this;exact .none (by assumption);exact .same _ _ (by assumption) (by omega) (by omega);rename_i i' e' g1 g1' g2 g3 g4;exact .made i' e' g1 g1' (a01 _ g2) g3 g4;simp_all
end
def Ent.fits(N:Nat):Ent→Bool
 |.sv i _|.own i _ _|.ptr i _ _|.ref i _ _|.rfi i _|.win i _ _|.vp i _|.clo i _ _=>decide (i<N)
 |.box _ _=>true
def a0f.fits(N:Nat)(es:a0f):Bool:=es.all (Ent.fits N)
section
variable {ρ:Type} {B:Base} {N:Nat} {tm:Nat→Value} {w:World}
theorem a3T{Γ:AE}{σ:Gh}(h:Rel B Γ N tm w σ){i:Nat}(hi:i<N):a0j (a0a w σ.ov) σ.g Γ.rt (Shr B w σ) (Γ.get i) (tm i):=by
 have:=h.slots i hi
 simp[AE.get]
 revert this
 cases Γ.sl i with
 |one v=>exact fun h=>h
 |cmp c vs=>exact fun _=>trivial
theorem Rel.vals{nm:List Nat}:∀(es:a0f) {Γ:AE} {σ:Gh}(_:Rel B Γ N tm w σ)(_:Γ.pd=none){K:es.ty.den→Rs ρ}{z:ρ}(_:es.fits N=true)(_:∀n∈es.names,n∈nm)(_:es.names.Nodup)(_:a0f.vals nm es Γ K=some z),
  ∃x Γf σf,K x=some z∧Rel B Γf N tm w σf∧Γf.pd=none∧(∀(j:Nat) t y,Γ.get j=.val t y→Γf.get j=.val t y)∧(es.enc x).pd=none∧(∀i,SlOk nm Γf es i ((es.enc x).sl i))∧∀n,RtOk Γf es n ((es.enc x).rt n):=by
 intro es
 induction es with
 |nil=>
  intro Γ σ h hpd K z hf hnm hnd hz;obtain⟨x,h1,h2,h3,h4⟩:=a1N nm Γ [] hnm hnd hz
  grind
 |cons e r ih=>
  intro Γ σ h hpd K z hf hnm hnd hz;cases e with
  |sv i t=>
   simp only[a0f.fits,List.all_cons,bA,Ent.fits,dT]at hf;simp[a0f.vals]at hz;obtain⟨hex,hz⟩:=(a0i hz).resolve_right (fun g=>by grind);have key:∃x Γ1 σ1,a0f.vals nm r (Γ1.set i (.val t x)) (fun y=>K (x,y))=some z∧Rel B Γ1 N tm w σ1∧Γ1.pd=none∧VOk (a0a w σ1.ov) (Shr B w σ1) t x (tm i)∧
     ∀(j:Nat) t' y,Γ.get j=.val t' y→(Γ1.set i (.val t x)).get j=.val t' y:=by
    have ha:=a3T h hf.1;have other:(∀t' y,Γ.get i≠.val t' y)→∃x Γ1 σ1,a0f.vals nm r (Γ1.set i (.val t x)) (fun y=>K (x,y))=some z∧Rel B Γ1 N tm w σ1∧Γ1.pd=none∧VOk (a0a w σ1.ov) (Shr B w σ1) t x (tm i)∧
     ∀(j:Nat) t' y,Γ.get j=.val t' y→(Γ1.set i (.val t x)).get j=.val t' y:=fun hne=>by
     obtain⟨x,Γ1,σ1,h1,h2,h3,h4,-,h5⟩:=h.asVB (.inl ha) hz;refine⟨x,Γ1,σ1,h1,h2,h4.pd.trans hpd,h3,fun j t' y hj=>?_⟩;have hji:j≠i:=fun e=>hne t' y (e▸hj)
     have:=h5.2 j t' y hj
     simp_all[AE.get,a2I]
    cases hg:Γ.get i with
    |val t' x=>
     rw[hg]at hz ha;simp[AE.asV]at hz
     split at hz
     rename_i x2 hx2;rw[hg]at hex;simp[AV.exact]at hex;subst hex;rw[c2T]at hx2;cases hx2;refine⟨x,Γ,σ,hz,h,hpd,ha,fun j t2 y hj=>?_⟩
     by_cases e:j=i
     subst e;rw[hg]at hj;simp[AE.get];rw[a2I,if_pos rfl];omega;simp_all[AE.get,a2I];simp_all
    |_=>exact other (by rw[hg];intro t' y e;cases e)
   obtain⟨x,Γ1,σ1,k1,k2,k3,k4,k5⟩:=key;have k6:Rel B (Γ1.set i (.val t x)) N tm w σ1:=k2.put (v:=tm i) (fun _=>k4) (fun j _=>by simp_all);obtain⟨y,Γf,σf,j1,j2,j3,j4,j5,j6,j7⟩:=ih k6 k3 (by simp_all[a0f.fits]) hnm hnd k1;have hx:Γf.get i=.val t x:=j4 i t x (by simp[AE.get];rw[a2I,if_pos rfl]);refine⟨(x,y),Γf,σf,j1,j2,j3,fun j t' y' hj=>j4 j t' y' (k5 j t' y' hj),j5,fun j=>?_,fun n=>?_⟩;show SlOk nm Γf _ j (((a0f.enc r y).set i (.val t x)).sl j);rw[a2I];split;rename_i e;subst e;exact .same _ hx (by simp) (by simp);exact(j6 j).cons _;show RtOk Γf _ n ((a0f.enc r y).rt n);cases hrt:(a0f.enc r y).rt n<;>have:=j7 n<;>rw[hrt]at this<;>cases this;exact .none (by assumption);exact .same _ _ (by assumption) (by omega) (by omega);rename_i i' e' g1 g1' g2 g3 g4;exact .made i' e' g1 g1' (a01 _ g2) g3 g4
  |own i n e=>exact(fun⟨x,h1,h2,h3,h4⟩=>⟨x,Γ,σ,h1,h,hpd,fun _ _ _ g=>g,h2,h3,h4⟩) (a1N nm Γ _ hnm hnd hz)
  |box n t=>exact(fun⟨x,h1,h2,h3,h4⟩=>⟨x,Γ,σ,h1,h,hpd,fun _ _ _ g=>g,h2,h3,h4⟩) (a1N nm Γ _ hnm hnd hz)
  |ptr i n p=>exact(fun⟨x,h1,h2,h3,h4⟩=>⟨x,Γ,σ,h1,h,hpd,fun _ _ _ g=>g,h2,h3,h4⟩) (a1N nm Γ _ hnm hnd hz)
  |vp i n=>exact(fun⟨x,h1,h2,h3,h4⟩=>⟨x,Γ,σ,h1,h,hpd,fun _ _ _ g=>g,h2,h3,h4⟩) (a1N nm Γ _ hnm hnd hz)
  |ref i n p=>exact(fun⟨x,h1,h2,h3,h4⟩=>⟨x,Γ,σ,h1,h,hpd,fun _ _ _ g=>g,h2,h3,h4⟩) (a1N nm Γ _ hnm hnd hz)
  |rfi i n=>exact(fun⟨x,h1,h2,h3,h4⟩=>⟨x,Γ,σ,h1,h,hpd,fun _ _ _ g=>g,h2,h3,h4⟩) (a1N nm Γ _ hnm hnd hz)
  |clo i f ns=>exact(fun⟨x,h1,h2,h3,h4⟩=>⟨x,Γ,σ,h1,h,hpd,fun _ _ _ g=>g,h2,h3,h4⟩) (a1N nm Γ _ hnm hnd hz)
  |win i n p=>exact(fun⟨x,h1,h2,h3,h4⟩=>⟨x,Γ,σ,h1,h,hpd,fun _ _ _ g=>g,h2,h3,h4⟩) (a1N nm Γ _ hnm hnd hz)
theorem c6W:∀(r:a0f){i n e},Ent.own i n e∈r→n∈r.names
 |a::r,i,n,e,h=>by
  rcases mC.1 h with h|h;subst h;simp[a0f.names]
  have:=c6W r h
  cases a<;>simp[a0f.names,this]
def b5Z:a0f→Nat→Nat
 | [],_=>0
 |.own i m _::r,n=>if m=n then i else b5Z r n
 |_::r,n=>b5Z r n
theorem a3U:∀(es:a0f){i n e},es.names.Nodup→Ent.own i n e∈es→b5Z es n=i
 |.own j m e'::r,i,n,e,hnd,h=>by
  simp only[a0f.names,a04]at hnd;simp only[b5Z];rcases mC.1 h with h|h;cases h;simp
  have:=c6W r h
  rw[if_neg (fun g=>hnd.1 (by rw[g];exact this))];exact a3U r hnd.2 h
 |.sv j t::r,i,n,e,hnd,h=>by
  rcases mC.1 h with h|h;cases h;exact a3U r hnd h
 |.box m t::r,i,n,e,hnd,h=>by
  simp only[a0f.names,a04]at hnd;rcases mC.1 h with h|h;cases h;exact a3U r hnd.2 h
 |.ptr j m p::r,i,n,e,hnd,h=>by
  rcases mC.1 h with h|h;cases h;exact a3U r hnd h
 |.vp j m::r,i,n,e,hnd,h=>by
  rcases mC.1 h with h|h;cases h;exact a3U r hnd h
 |.ref j m p::r,i,n,e,hnd,h=>by
  rcases mC.1 h with h|h;cases h;exact a3U r hnd h
 |.rfi j m::r,i,n,e,hnd,h=>by
  rcases mC.1 h with h|h;cases h;exact a3U r hnd h
 |.clo j m p::r,i,n,e,hnd,h=>by
  rcases mC.1 h with h|h;cases h;exact a3U r hnd h
 |.win j m p::r,i,n,e,hnd,h=>by
  rcases mC.1 h with h|h;cases h;exact a3U r hnd h
theorem Rel.cut{Γ:AE}{σ:Gh}(h:Rel B Γ N tm w σ)(hpd:Γ.pd=none){es:a0f}(hf:es.fits N=true)(hnd:es.names.Nodup){X:AE}(hX:X.pd=none)(hs:∀i,SlOk es.names Γ es i (X.sl i))(hr:∀n,RtOk Γ es n (X.rt n)):
  ∃σ',Rel B X N tm w σ':=by
 have hov:=h.ov_none hpd
 let σ':Gh:=⟨fun n=>match Γ.rt n with|some _=>σ.g n|none=>.one (tm (b5Z es n)),fun n=>match X.rt n with|some _=>σ.ow n|none=>[],none⟩
 have hg:∀n r,Γ.rt n=some r→σ'.g n=σ.g n:=fun n r e=>by grind
 have hg':∀n,Γ.rt n=none→σ'.g n=.one (tm (b5Z es n)):=fun n e=>by grind
 have ho:∀n r,X.rt n=some r→σ'.ow n=σ.ow n:=fun n r e=>by grind
 have ho':∀n,X.rt n=none→σ'.ow n=[]:=fun n e=>by grind
 have hsub:∀n p,p∈σ'.ow n→p∈σ.ow n:=fun n p hp=>by
  grind
 have hsubc:∀n c,c∈(σ'.ow n).map (·.1)→c∈(σ.ow n).map (·.1):=fun n c hc=>by
  grind
 have hsh:∀c,Shr B w σ c→Shr B w σ' c:=fun c hc=>⟨hc.1,hc.2.1,fun⟨n,hn⟩=>hc.2.2 ⟨n,hsubc n c hn⟩⟩;have hmem:a0a w σ'.ov=a0a w σ.ov:=by grind
 have hin:∀n,n∈es.names→∃r,X.rt n=some r:=fun n hn=>by
  cases hrt:X.rt n<;>have:=hr n<;>rw[hrt]at this<;>cases this
  all_goals simp_all
 have hsame:∀n r,n∈es.names→Γ.rt n=some r→∃r2,X.rt n=some r2∧b4M r r2:=fun n r hn hg=>by
  cases hrt:X.rt n<;>have:=hr n<;>rw[hrt]at this<;>cases this
  all_goals simp_all
 have hslot:∀i e n,Ent.own i n e∈es→i<N:=fun i e n hm=>by
  have:=lA.1 hf _ hm
  simp_all[Ent.fits]
 refine⟨σ',fun n r hn=>?_,fun n hn=>ho' n hn,fun n=>?_,fun n m hne c hc hc'=>h.disj n m hne c (hsubc n c hc) (hsubc m c hc'),fun n p hp=>h.live n p (hsub n p hp),fun i hi=>?_,?_,h.size,h.frame,fun c ⟨n,hn⟩=>h.mine c ⟨n,hsubc n c hn⟩,fun i b hb hne=>?_,h.still⟩
 ·have:=hr n
  rw[hn]at this;rw[hmem,ho n r hn];cases this with
  |same _ r5 g1 g2 g5=>
   rw[hg n r5 g2];rcases g5 with rfl|⟨e1,e2,e3,e4⟩;exact(h.roots n _ g2).mono hsh;obtain⟨O',R,k1,k2,k3⟩:=(h.roots n r5 g2).rd;have hO:=b1T e3 k1;subst hO;refine⟨[],R,b9E e4 k1,fun c hc=>hsh c (k2 c hc),?_⟩;rcases k3 with⟨-,b,k4,k5⟩|⟨k4,-⟩;exact .inl ⟨e2,b,k4,by rw[k5,(c6M e4).2]⟩;simp_all
  |made i e g1 g1' g2 g3 g4=>
   rw[hg' n g3,a3U es hnd g2,h.norm n g3];have hi:=hslot i e n g2;have ha:=a3T h hi;refine⟨[],[],?_,by simp,.inr ⟨rfl,⟨_,rfl⟩,⟨e,rfl⟩,rfl⟩⟩;show a1j _ true e.cells (dec _ e) (some (tm i))=some (([]:List e.den),[],[]);rcases g4 with g4|g4;rw[g4]at ha;have ha:tm i=.slice none 0 0:=ha;rw[ha];rfl
   ·rw[g4]at ha;obtain⟨A,ha⟩:=ha;rw[ha];cases A with
    |none=>rfl
    |some A=>rfl
 ·cases e:X.rt n with
  |none=>simp_all
  |some r=>rw[ho n r e];exact h.nodup n
 ·have hsl:=hs i
  revert hsl
  generalize X.sl i=sv;intro hsl;have ha:=a3T h hi;cases hsl with
  |dead=>trivial
  |clo f ns g1 g2=>
   have hb:=h.slots i hi;rw[g1]at hb;obtain⟨us,k1,k2⟩:=hb;refine⟨us,k1,fun k av hk=>?_⟩;obtain⟨u,k3,k4⟩:=k2 k av hk;obtain⟨m,hm,rfl⟩:=c4U ns k av hk;refine⟨u,k3,?_⟩;rw[hmem];refine k4.recast hsh fun n p r hc hr'=>?_
   simp_all
  |same av g1 g2 g3=>
   rw[g1]at ha;show a0j _ _ _ _ av _;rw[hmem];exact ha.recast hsh fun n p r hc hr'=>⟨hg n r hr',hsame n r (g3 n p hc) hr'⟩
  |made n e g1 g2 g3 g4=>
   obtain⟨r,hrn⟩:=hin n g3
   have:=hr n
   rw[hrn]at this;cases this with
   |same _ _ k1 k2=>simp_all
   |made i' e' k1 k1' k2 k3 k4=>
    refine⟨_,e',.one (tm i),hrn,?_,rfl⟩;rw[hg' n g2,a3U es hnd g1];rfl
 show b2x _ _ _ X.pd none;rw[hX];trivial
 ·obtain⟨r,hn⟩:=Option.ne_none_iff_exists'.1 hne
  have:=hr (pinned+i)
  rw[hn]at this;cases this with
  |same _ _ g1 g2=>rw[hg _ _ g2];exact h.pins i b hb (by simp_all)
  |made i' e g1 g1'=>omega
theorem Rel.dcd{Γ:AE}{σ:Gh}(h:Rel B Γ N tm w σ){es:a0f}(hf:es.fits N=true){K:es.ty.den→Rs ρ}{z:ρ}(hz:es.dcd Γ K=some z):∃x σ',K x=some z∧Rel B (es.enc x) N tm w σ':=by
 unfold a0f.dcd at hz
 split at hz
 rename_i hpd;obtain⟨hnd,hz⟩:=(a0i hz).elim id fun h=>by grind
 have hnd:=c2Z _ hnd;obtain⟨x,Γf,σf,h1,h2,h3,-,h5,h6,h7⟩:=Rel.vals es h hpd hf (fun _ g=>g) hnd hz;obtain⟨σ',h8⟩:=h2.cut h3 hf hnd h5 h6 h7
 grind
 simp_all
end
end Go.Ab
namespace Go.Ab
structure CxOk (P:Program) (cx:Cx):Prop extends CxTy P cx where
 C:∀f s,cx.C f=some s→a4X P cx.G f s∧b2B P f
section
variable {P:Program} {B:Base} {N:Nat} {ρ:Type} {Γ:AE} {a:Act} {w:World} {σ:Gh} {cx:Cx} {ro:Option Nat}
theorem a0w.wp{o:Oper}{K:AE→Rs ρ}{z:ρ}(hnd:∀c,o.op≠.defer c)(h:a0w P B N o a w K z){next:Act→World→Prop}{Q:Exit→Act→World→Prop}
  (hnext:∀v w' Γ' σ',Rel B Γ' N (a0p (a.put o.dst v)) w' σ'→K Γ'=some z→next (a.put o.dst v) w'):o.wpIn (Fr ro) 0 P a w next Q:=by
 obtain⟨v,w',Γ',σ',hrun,hrel,hK⟩:=h;refine c8L hnd ?_
 rcases hrun with h|⟨h,rfl⟩
 all_goals grind[Oper.uponIn_value,Oper.uponIn_skip]
theorem b2D(hcx:CxOk P cx)(hG:GOk cx.G B){o:Oper}{q:Bool}{K:AE→Rs ρ}{z:ρ}{next:Act→World→Prop}{Q:Exit→Act→World→Prop}
  (h:Rel B Γ N (a0p a) w σ)(hN:a.tmps.size=N)(hf:fits N o=true)(hz:aop cx q o Γ K=some z)
  (hnext:∀v w' Γ' σ',Rel B Γ' N (a0p (a.put o.dst v)) w' σ'→K Γ'=some z→next (a.put o.dst v) w'):o.wpIn (Fr ro) 0 P a w next Q:=by
 by_cases hc:∃c v,o.op=.call c∧c.callee=.value v
 ·obtain⟨c,v,ho,hc⟩:=hc;have hz':(match v with|.func f=>(match cx.C f with|some s=>Γ.call q o.dst s (c.args.toList.map Γ.opd) K|none=>none)|.tmp t=>(if q then none else match Γ.sl t with|.cmp (.clo f) vs=>(match cx.C f with|some s=>Γ.call q o.dst s (c.args.toList.map Γ.opd++vs) K|none=>none)|_=>none)|_=>none)=some z:=by
   cases hd:o.dst<;>simp only[aop,ho,hd,hc]at hz<;>rw[←hz]<;>cases v<;>rfl
  cases v with
  |func f=>
   simp at hz'
   split at hz'
   rename_i s hs;obtain⟨hF,hB⟩:=hcx.C f s hs
   grind[d1G]
   simp_all
  |tmp t=>
   simp only[]at hz'
   split at hz'
   grind
   split at hz'
   rename_i f vs hs
   split at hz'
   rename_i s hC;obtain⟨hF,hB⟩:=hcx.C f s hC
   grind[d3H]
   simp_all;simp_all
  |_=>simp_all
 refine(d3E hcx.toCxTy hG (fun c v ho hc'=>hc ⟨c,v,ho,hc'⟩) h hN hf hz).wp (fun c' hc'=>?_) hnext;simp_all[aop]
theorem c4V{Γ:AE}{x:Operand}{n:Nat}(h:c4D Γ x=some n):∃t,x=.tmp t∧Γ.sl t=.one (.ptr n [])∧pinned≤n:=by
 unfold c4D at h
 grind
theorem b9J{o:Oper}{Γ:AE}{n:Nat}(h:b4f o Γ=some n):∃t,(o.op=.move (.tmp t)∨o.op=.nilCheck (.tmp t))∧Γ.sl t=.one (.ptr n [])∧pinned≤n:=by
 unfold b4f at h
 split at h
 rename_i x hx;obtain⟨t,rfl,h1,h2⟩:=c4V h;simp_all;rename_i x hx;obtain⟨t,rfl,h1,h2⟩:=c4V h;simp_all;simp_all
theorem c6X{ρ:Type}{cx:Cx}{o:Oper}{Γ:AE}{n d:Nat}(h:b4f o Γ=some n)(hd:o.dst=some d){q:Bool}(K:AE→Rs ρ):aop cx q o Γ K=K (Γ.put d (.one (.ptr n []))):=by
 obtain⟨t,ho|ho,hs,-⟩:=b9J h;simp_all[aop];simp[aop,ho,hd,AE.opd,AE.get,hs];rfl
theorem c6n(hcx:CxOk P cx)(hG:GOk cx.G B){o:Oper}{md:Md}{K:AE→Rs ρ}{z:ρ}{next:Act→World→Prop}{Q:Exit→Act→World→Prop}
  (h:Rel B Γ N (a0p a) w σ)(hN:a.tmps.size=N)(hf:fits N o=true)(hz:a5q cx md o Γ K=some z)
  (hnext:∀v w' Γ' σ',Rel B Γ' N (a0p (a.put o.dst v)) w' σ'→K Γ'=some z→next (a.put o.dst v) w'):o.wpIn (Fr ro) 0 P a w next Q:=by
 cases md with
 |x=>exact b2D hcx hG h hN hf hz hnext
 |w ws=>
  simp[a5q]at hz
  split at hz
  obtain⟨-,hz⟩:=(a0i hz).elim id fun h=>by grind
  grind[b2D]
  simp_all
 |r ns=>
  simp only[a5q]at hz;obtain⟨-,hz⟩:=(a0i hz).elim id fun h=>by grind
  split at hz
  refine b2D hcx hG h hN hf hz fun v w' Γ' σ' hr hK=>hnext v w' Γ' σ' hr ?_
  grind
  simp_all
 |p=>
  simp[a5q]at hz
  split at hz
  rename_i n d hp hd;refine b2D (q:=true) hcx hG h hN hf (z:=z) (K:=K) ?_ hnext;simp_all[c6X];simp_all
 |a ws=>
  simp[a5q]at hz
  split at hz
  obtain⟨-,hz⟩:=(a0i hz).elim id fun h=>by grind
  grind[b2D]
  simp_all
 |q=>
  simp only[a5q]at hz;obtain⟨-,hz⟩:=(a0i hz).elim id fun h=>by grind
  grind[b2D]
 |v=>
  simp only[a5q]at hz
  split at hz
  rename_i n hp
  split at hz
  rename_i d hd;refine b2D (q:=true) hcx hG h hN hf (z:=z) (K:=K) ?_ hnext;simp_all[c6X];simp_all;obtain⟨-,hz⟩:=(a0i hz).elim id fun h=>by grind
  split at hz
  refine b2D hcx hG h hN hf hz fun v w' Γ' σ' hr hK=>hnext v w' Γ' σ' hr ?_
  grind
  simp_all
def a9N(N:Nat)(ops:List Oper)(o:Oper):Bool:=fits N o&&(match o.guard with
 |some (j,_)=>(match b1r ops j with
  |some g=>decide (g<N)
  |none=>true)
 |none=>true)
theorem b8j{ops:List Oper}{o:Oper}(h:a9N N ops o=true):fits N o=true:=by
 simp_all[a9N]
theorem Rel.skip(h:Rel B Γ N (a0p a) w σ)(hN:a.tmps.size=N)(d:Option Nat):Rel B (Γ.setD d .skp) N (a0p (a.put d undef)) w σ:=by
 cases d with
 |none=>exact h
 |some d=>exact h.putd hN fun _=>rfl
theorem Rel.same(h:Rel B Γ N (a0p a) w σ){g:Nat}{av:AV}(hg:Γ.get g=av):Rel B (Γ.set g av) N (a0p a) w σ:=by
 refine h.put (v:=a0p a g) (fun hlt=>?_) (fun i _=>by simp_all)
 have:=a3T h hlt
 rw[hg]at this;exact this
theorem d1H{ops:Array Oper}{j g:Nat}(hg:b1r ops.toList j=some g)(hlt:g<a.tmps.size):yielded ops a.tmps j=match a0p a g with|.bool b=>some b|_=>none:=by
 have hg:(ops[j]?).bind (·.dst)=some g:=by simpa[b1r]using hg
 simp[yielded,hg,a0p,Array.getElem?_eq_getElem hlt]
 grind
theorem d1b(hcx:CxOk P cx)(hG:GOk cx.G B){ops:Array Oper}{o:Oper}{md:Md}{K:AE→Rs ρ}{z:ρ}{next:Act→World→Prop}{Q:Exit→Act→World→Prop}
  (h:Rel B Γ N (a0p a) w σ)(hN:a.tmps.size=N)(hf:a9N N ops.toList o=true)(hz:a0S cx md ops.toList o Γ K=some z)
  (hnext:∀v w' Γ' σ',Rel B Γ' N (a0p (a.put o.dst v)) w' σ'→K Γ'=some z→next (a.put o.dst v) w'):
  if Region.wanted o (yielded ops a.tmps)then o.wpIn (Fr ro) 0 P a w next Q else((∀f,o.about P w a.eval=some f→(Fr ro).fn f)∧next (a.put o.dst undef) w):=by
 have hfo:=b8j hf;unfold a0S at hz
 split at hz
 rename_i hg;rw[if_pos (by simp[Region.wanted,hg])]
 grind[c6n]
 rename_i j want hg
 split at hz
 grind
 rename_i g hdg;have hlt:g<N:=by
  simp_all[a9N]
 have hy:=d1H (a:=a) hdg (by omega);have hsl:=a3T h hlt
 split at hz
 rename_i b hgv;rw[hgv]at hsl;have hb:=a0j.bool hsl;rw[hb]at hy;simp at hy;cases b<;>cases want<;>simp only[cT,cF]at hz;rw[if_pos (by simp_all[Region.wanted])];exact c6n hcx hG (h.same hgv) hN hfo hz hnext;rw[if_neg (by simp_all[Region.wanted])];exact⟨fun _ _=>trivial,hnext _ w _ _ ((h.same hgv).skip hN o.dst) hz⟩;rw[if_neg (by simp_all[Region.wanted])];exact⟨fun _ _=>trivial,hnext _ w _ _ ((h.same hgv).skip hN o.dst) hz⟩;rw[if_pos (by simp_all[Region.wanted])];exact c6n hcx hG (h.same hgv) hN hfo hz hnext;rename_i hgv;rw[hgv]at hsl;have hsl:a0p a g=undef:=hsl;rw[hsl]at hy;simp[undef]at hy;rw[if_neg (by simp_all[Region.wanted])];exact⟨fun _ _=>trivial,hnext _ w _ _ (h.skip hN o.dst) hz⟩;simp_all
theorem d1c(hcx:CxOk P cx)(hG:GOk cx.G B){ops:Array Oper}{Q:Exit→Act→World→Prop}{D:List Deferred}{z:ρ}:∀(l:List (Md×Oper)) {Γ:AE} {a:Act} {w:World} {σ:Gh} {K:AE→Rs ρ} (_:Rel B Γ N (a0p a) w σ) (_:a.tmps.size=N) (_:a.defers=D)
  (_:∀p∈l,a9N N ops.toList p.2=true) (_:a7E cx ops.toList l Γ K=some z) (_:∀a' w' Γ' σ',Rel B Γ' N (a0p a') w' σ'→a'.tmps.size=N→a'.defers=D→K Γ'=some z→Q .normal a' w'),
  wpListIn (Fr ro) 0 P ops Q (l.map (·.2)) a w
 | [],Γ,a,w,σ,K,h,hN,hD,_,hz,hQ=>hQ a w Γ σ h hN hD hz
 |(md,o)::l,Γ,a,w,σ,K,h,hN,hD,hf,hz,hQ=>by
  simp[a7E]at hz
  have:=d1b (ro:=ro) (next:=wpListIn (Fr ro) 0 P ops Q (l.map (·.2))) (Q:=Q) hcx hG h hN (hf (md,o) (by simp)) hz fun v w' Γ' σ' hr hK=>
   d1c hcx hG l hr (by rw[b6g];omega) (by simp_all[b5I]) (fun p hp=>hf p (by grind)) hK hQ
  simp only[a09,wpListIn];omega
end
theorem b0o{B:Base}{N:Nat}{tm:Nat→Value}{w:World}{ρ:Type}:∀(os:b0T){Γ:AE}{σ:Gh}(_:Rel B Γ N tm w σ){e:Ex}{K:os.den→Rs ρ}{z:ρ}(_:os.all (fun p=>p.2.fits N)=true) (_:os.pack e Γ K=some z),
  ∃y X σ',K y=some z∧Rel B X N tm w σ'∧∀{ρ':Type}(K2:Ex→AE→Rs ρ'),os.open y K2=K2 e X
 | [],Γ,σ,h,e,K,z,hf,hz=>by simp_all[b0T.pack]
 | [(e',s)],Γ,σ,h,e,K,z,hf,hz=>by
  simp only[b0T.pack]at hz
  split at hz
  rename_i he;subst he;obtain⟨x,σ',h1,h2⟩:=h.dcd (by simp_all) hz;exact⟨x,_,σ',h1,h2,fun K2=>rfl⟩;simp_all
 |(e',s)::x::r,Γ,σ,h,e,K,z,hf,hz=>by
  simp[b0T.pack]at hz
  split at hz
  rename_i he;subst he;obtain⟨y,σ',h1,h2⟩:=h.dcd (by simp_all) hz;exact⟨.inl y,_,σ',h1,h2,fun K2=>rfl⟩;obtain⟨y,X,σ',h1,h2,h3⟩:=b0o (x::r) h (by
   grind) hz
  exact⟨.inr y,X,σ',h1,h2,fun K2=>h3 K2⟩
theorem d1I{σ β:Type}{f:σ→Option (σ ⊕ β)}{s:σ}{b:β}(h:b9A f s=some b):∃n,a3N f n s=some b:=by
 unfold b9A at h
 split at h
 all_goals grind
theorem d3I{σ β:Type}{f:σ→Option (σ ⊕ β)}{s:σ}{b:β}(h:a0e f s=some b):∃n,a3N f n s=some b:=by
 grind[a0e,d1I]
end Go.Ab
namespace Go.Ab
structure Dl where
 rs:List (Nat×Root)
 sv:SV
def Dl.app(δ:Dl)(d:Nat)(Γ:AE):AE:=⟨fun i=>bif i==d then δ.sv else Γ.sl i,fun n=>match find δ.rs n with|some r=>some r|none=>Γ.rt n,Γ.pd⟩
def a0y(o:Oper):List Nat:=o.op.operands.toList.filterMap fun x=>match x with|.tmp t=>some t|_=>none
def a2m(T:List Nat)(Γ Γ2:AE):Prop:=Γ2.pd=Γ.pd∧∀t∈T,Γ2.sl t=Γ.sl t∧∀n∈(Γ.sl t).refs,Γ2.rt n=Γ.rt n
theorem a2m.refl{T Γ}:a2m T Γ Γ:=⟨rfl,fun _ _=>⟨rfl,fun _ _=>rfl⟩⟩
theorem a3V{o:Oper}{t:Nat}(h:Operand.tmp t∈o.op.operands.toList):t∈a0y o:=List.mem_filterMap.2 ⟨_,h,rfl⟩
theorem a2m.opd{o:Oper}{Γ Γ2:AE}(hA:a2m (a0y o) Γ Γ2){x:Operand}(hx:x∈o.op.operands.toList):Γ2.opd x=Γ.opd x:=by
 cases x with
 |tmp t=>simp[AE.opd,AE.get];rw[(hA.2 t (a3V hx)).1]
 |_=>rfl
theorem a2m.rt{o:Oper}{Γ Γ2:AE}(hA:a2m (a0y o) Γ Γ2){x:Operand}(hx:x∈o.op.operands.toList){n:Nat}(hn:n∈(Γ.opd x).refs):Γ2.rt n=Γ.rt n:=by
 cases x with
 |tmp t=>
  refine(hA.2 t (a3V hx)).2 n ?_
  simp[AE.opd,AE.get]at hn
  revert hn
  cases Γ.sl t with
  |one v=>exact id
  |cmp c vs=>exact fun h=>by cases h
 |const v=>
  simp[AE.opd]at hn;unfold b8I at hn
  split at hn<;>cases hn
 |global g=>cases hn
 |func f=>cases hn
theorem a2m.look{o:Oper}{Γ Γ2:AE}(hA:a2m (a0y o) Γ Γ2){x:Operand}(hx:x∈o.op.operands.toList){n:Nat}(hn:n∈(Γ.opd x).refs):Γ2.look n=Γ.look n:=by
 simp only[AE.look,hA.1,hA.rt hx hn]
def c1t{ρ:Type}(r:Option Dl)(d:Nat)(Γ2:AE)(K:AE→Rs ρ):Rs ρ:=match r with
 |none=>none
 |some δ=>bif δ.rs.all fun p=>decide (p.1<pinned)&&(Γ2.rt p.1).isNone then K (δ.app d Γ2)else none
def Uni(cx:Cx)(o:Oper)(d:Nat)(Γ:AE):Prop:=
 ∃r:Option Dl,(∀δ,r=some δ→(δ.sv.firm=true→δ.rs=[])∧∀n,find δ.rs n≠none→n∈a9d cx o d)∧∀Γ2,a2m (a0y o) Γ Γ2→∀{ρ:Type}(K:AE→Rs ρ),aop cx true o Γ2 K=c1t r d Γ2 K
theorem Uni.none{cx o d Γ}(h:∀Γ2,a2m (a0y o) Γ Γ2→∀{ρ:Type}(K:AE→Rs ρ),aop cx true o Γ2 K=none):Uni cx o d Γ:=
 ⟨.none,by simp,fun Γ2 hA ρ K=>h Γ2 hA K⟩
theorem Uni.put{cx o d Γ}(sv:SV)(h:∀Γ2,a2m (a0y o) Γ Γ2→∀{ρ:Type}(K:AE→Rs ρ),aop cx true o Γ2 K=K (Γ2.put d sv)):Uni cx o d Γ:=
 ⟨some ⟨[],sv⟩,fun δ e=>by cases e;exact⟨fun _=>rfl,fun n hn=>absurd rfl hn⟩,fun Γ2 hA ρ K=>by rw[h Γ2 hA K];rfl⟩
theorem Uni.of{cx o d Γ}(r:Option AV)(h:∀Γ2,a2m (a0y o) Γ Γ2→∀{ρ:Type}(K:AE→Rs ρ),aop cx true o Γ2 K=r.elim .none fun v=>K (Γ2.set d v)):Uni cx o d Γ:=by
 cases r with
 |none=>exact Uni.none h
 |some v=>exact Uni.put (.one v) h
theorem d6H{ρ:Type}{Γ2:AE}{d:Nat}{r:Root}{v:AV}{K:AE→Rs ρ}:(Γ2.fresh true d r fun Γ=>K (Γ.set d v))=c1t (some ⟨[(d,r)],.one v⟩) d Γ2 K:=by
 unfold AE.fresh c1t;cases hd:decide (d<pinned)
 grind
 ·simp[hd];cases hr:Γ2.rt d with
  |some r0=>simp
  |none=>
   simp
   congr 1;simp only[AE.newRt,hr,AE.setRt,AE.set,AE.put,Dl.app];congr 1;funext n;simp[find]
   grind
theorem Uni.ofFresh{cx o d Γ}(r:Root)(v:AV)(hv:v.firm=false)(h:∀Γ2,a2m (a0y o) Γ Γ2→∀{ρ:Type}(K:AE→Rs ρ),aop cx true o Γ2 K=Γ2.fresh true d r fun Γ=>K (Γ.set d v)):Uni cx o d Γ:=
 ⟨some ⟨[(d,r)],.one v⟩,(fun δ e=>by
  cases e;refine⟨fun hf=>?_,fun n hn=>?_⟩;simp_all[SV.firm];simp only[find]at hn
  by_cases e:d=n
  subst e;exact List.mem_cons_self
  grind),fun Γ2 hA ρ K=>by simp_all[d6H]⟩
def a7X(t:Ty)(a:AV):Option t.den:=match a with
 |.val t' x=>castTo t' t x
 |.nils|.empt=>match t with
  |.list false _=>some []
  |_=>none
 |_=>none
theorem c2H{ρ:Type}(Γ:AE)(t:Ty)(a:AV)(K:t.den→AE→Rs ρ):Γ.asV true t a K=(a7X t a).elim none fun x=>K x Γ:=by
 cases a with
 |val t' x=>grind[AE.asV,a7X]
 |nils=>cases t with
  |list o e=>cases o<;>rfl
  |_=>rfl
 |empt=>cases t with
  |list o e=>cases o<;>rfl
  |_=>rfl
 |sref n p=>cases p<;>simp[AE.asV,a7X]
 |swin n p o k=>cases p<;>simp[AE.asV,a7X]
 |_=>rfl
def b1d(f:Operand→AV)(t:Ty):List (Nat×Operand)→t.den→Option t.den
 | [],x=>some x
 |(i,o)::r,x=>bif AE.pathOk t i then(match a1p t x (AE.pathOf t i)with
  |⟨t',_⟩=>(a7X t' (f o)).elim none fun y=>b1d f t r (a1U t x (AE.pathOf t i) t' y))else none
theorem c6o{ρ:Type}(Γ:AE)(t:Ty):∀(ps:List (Nat×Operand)) (x:t.den) (K:t.den→AE→Rs ρ),Γ.fills true t ps x K=(b1d Γ.opd t ps x).elim none fun y=>K y Γ
 | [],x,K=>rfl
 |(i,o)::r,x,K=>by
  simp[AE.fills,b1d];cases AE.pathOk t i;rfl
  ·simp
   rw[c2H];cases a7X _ (Γ.opd o)with
   |none=>rfl
   |some y=>exact c6o Γ t r _ K
theorem b6m(f g:Operand→AV)(t:Ty):∀(ps:List (Nat×Operand)) (x:t.den),(∀p∈ps,f p.2=g p.2)→b1d f t ps x=b1d g t ps x
 | [],x,_=>rfl
 |(i,o)::r,x,h=>by
  simp[b1d];rw[h (i,o) (by simp)];cases AE.pathOk t i;rfl
  ·simp
   cases a7X _ (g o)with
   |none=>rfl
   |some y=>exact b6m f g t r _ fun p hp=>h p (by simp[hp])
def c3T(f:Operand→AV)(e:Ty)(n:Nat):List (Nat×Operand)→List e.den→Option (List e.den)
 | [],x=>some x
 |(i,o)::r,x=>bif decide (i<n)then(a7X e (f o)).elim none fun y=>c3T f e n r (x.set i y)else none
theorem d1J{ρ:Type}(Γ:AE)(e:Ty)(n:Nat):∀(ps:List (Nat×Operand)) (x:List e.den) (K:List e.den→AE→Rs ρ),Γ.lit true e n ps x K=(c3T Γ.opd e n ps x).elim none fun y=>K y Γ
 | [],x,K=>rfl
 |(i,o)::r,x,K=>by
  simp[AE.lit,c3T];cases decide (i<n);rfl
  ·simp
   rw[c2H];cases a7X _ (Γ.opd o)with
   |none=>rfl
   |some y=>exact d1J Γ e n r _ K
theorem b9K(f g:Operand→AV)(e:Ty)(n:Nat):∀(ps:List (Nat×Operand)) (x:List e.den),(∀p∈ps,f p.2=g p.2)→c3T f e n ps x=c3T g e n ps x
 | [],x,_=>rfl
 |(i,o)::r,x,h=>by
  simp[c3T];rw[h (i,o) (by simp)];cases decide (i<n);rfl
  ·simp
   cases a7X _ (g o)with
   |none=>rfl
   |some y=>exact b9K f g e n r _ fun p hp=>h p (by simp[hp])
def a7b(lk:Nat→Option Root)(n:Nat)(p:a0R):Option ((e:Ty)×List e.den):=match lk n with
 |some r=>match a1p r.t r.x p with
  |⟨.list true e,l⟩=>some ⟨e,l⟩
  |_=>none
 |none=>none
theorem a5z{ρ:Type}(Γ:AE)(n:Nat)(p:a0R)(K:(e:Ty)→List e.den→Rs ρ):Γ.body n p K=(a7b Γ.look n p).elim none fun x=>K x.1 x.2:=by
 unfold AE.body a7b
 grind
def b1w(lk:Nat→Option Root)(t:Ty)(a:AV):Option t.den:=match a with
 |.val t' x=>castTo t' t x
 |.nils|.empt=>match t with
  |.list false _=>some []
  |_=>none
 |.sref n p=>(a7b lk n p).elim none fun x=>if h:Ty.list false x.1.sh=t then some (h▸Ty.shx (.list false x.1) x.2)else none
 |.swin n p o k=>(a7b lk n p).elim none fun x=>if h:Ty.list false x.1.sh=t then some (h▸Ty.shx (.list false x.1) ((x.2.drop o).take k))else none
 |_=>none
theorem d3J{ρ:Type}(Γ:AE)(t:Ty)(a:AV)(K:t.den→Rs ρ):Γ.view t a K=(b1w Γ.look t a).elim none K:=by
 cases a with
 |val t' x=>grind[AE.view,b1w]
 |nils=>cases t with
  |list o e=>cases o<;>rfl
  |_=>rfl
 |empt=>cases t with
  |list o e=>cases o<;>rfl
  |_=>rfl
 |sref n p=>
  simp[AE.view,b1w,a7b]
  grind
 |swin n p o k=>
  simp[AE.view,b1w,a7b]
  grind
 |_=>rfl
theorem a5W{lk lk':Nat→Option Root}{n:Nat}(h:lk' n=lk n)(p:a0R):a7b lk' n p=a7b lk n p:=by simp only[a7b,h]
theorem c3a{lk lk':Nat→Option Root}{t:Ty}{a:AV}(h:∀n∈a.refs,lk' n=lk n):b1w lk' t a=b1w lk t a:=by
 cases a with
 |sref n p=>simp_all[b1w,a5W,AV.refs]
 |swin n p o k=>simp_all[b1w,a5W,AV.refs]
 |_=>rfl
def a9O(lk:Nat→Option Root)(e:Ty)(a:AV):Option (List e.den):=match a with
 |.val (.list false t') x=>if h:t'=e then some (h▸(show List t'.den from x))else none
 |.nils|.empt=>some []
 |.sref n p=>(a7b lk n p).elim none fun x=>if h:x.1=e then some (h▸x.2)else none
 |.swin n p o k=>(a7b lk n p).elim none fun x=>if h:x.1=e then some (a38 k (a47 o (h▸x.2)))else none
 |_=>none
theorem b8R{ρ:Type}(Γ:AE)(e:Ty)(a:AV)(K:List e.den→Rs ρ):Γ.elems e a K=(a9O Γ.look e a).elim none K:=by
 cases a with
 |val t' x=>cases t' with
  |list o t'=>
   cases o
   all_goals grind[AE.elems,a9O]
  |_=>rfl
 |sref n p=>
  simp[AE.elems,a9O,a7b]
  grind
 |swin n p o k=>
  simp[AE.elems,a9O,a7b]
  grind
 |_=>rfl
theorem b6n{lk lk':Nat→Option Root}{e:Ty}{a:AV}(h:∀n∈a.refs,lk' n=lk n):a9O lk' e a=a9O lk e a:=by
 cases a with
 |sref n p=>simp_all[a9O,a5W,AV.refs]
 |swin n p o k=>simp_all[a9O,a5W,AV.refs]
 |val t' x=>cases t' with
  |list o t'=>cases o<;>rfl
  |_=>rfl
 |_=>rfl
end Go.Ab
namespace Go.Ab
section
variable {cx:Cx} {o:Oper} {d:Nat} {Γ:AE}
theorem d4O{x:Operand}(ho:o.op=.move x)(hd:o.dst=some d):Uni cx o d Γ:=by
 have hx:x∈o.op.operands.toList:=by simp[ho,Op.operands]
 cases x with
 |tmp t=>exact Uni.put (Γ.sl t) fun Γ2 hA ρ K=>by simp[aop,ho,hd];rw[(hA.2 t (a3V hx)).1]
 |const v=>exact Uni.put (.one (Γ.opd (.const v))) fun Γ2 hA ρ K=>by simp[aop,ho,hd];rfl
 |global g=>exact Uni.put (.one (.glob g)) fun Γ2 hA ρ K=>by simp[aop,ho,hd];rfl
 |func f=>exact Uni.put (.one .dead) fun Γ2 hA ρ K=>by simp[aop,ho,hd];rfl
theorem d5R{ρ:Type}(Γ:AE)(v:AV)(K:AE→Rs ρ):Γ.asg true cx d v K=K (Γ.set d v):=by
 unfold AE.asg
 grind
theorem d1K{x:Operand}(ho:o.op=.assign x)(hd:o.dst=some d):Uni cx o d Γ:=by
 have hx:x∈o.op.operands.toList:=by simp[ho,Op.operands]
 cases x with
 |tmp t=>
  have hs:∀Γ2,a2m (a0y o) Γ Γ2→Γ2.sl t=Γ.sl t:=fun Γ2 hA=>(hA.2 t (a3V hx)).1;cases hv:Γ.sl t with
  |one v=>exact Uni.put (.one v) fun Γ2 hA ρ K=>by simp[aop,ho,hd,AE.sopd,hs Γ2 hA,hv];rw[d5R];rfl
  |cmp c vs=>exact Uni.put (.cmp c vs) fun Γ2 hA ρ K=>by simp_all[aop,AE.sopd]
 |_=>exact Uni.put (.one (Γ.opd _)) fun Γ2 hA ρ K=>by simp only[aop,ho,hd,AE.sopd];rw[d5R,hA.opd hx];rfl
theorem c8O{fn:Fn}{first caps:Array Operand}(ho:o.op=.makeFunc fn first caps)(hd:o.dst=some d):Uni cx o d Γ:=by
 cases fn with
 |func f=>
  cases hf:first.isEmpty with
  |false=>exact Uni.none fun Γ2 hA ρ K=>by simp only[aop,ho,hd,hf,cF]
  |true=>
   refine Uni.put (.cmp (.clo f) (caps.toList.map Γ.opd)) fun Γ2 hA ρ K=>?_
   simp[aop,ho,hd,hf]
   have:caps.toList.map Γ2.opd=caps.toList.map Γ.opd:=List.map_congr_left fun x hx=>hA.opd (by
    simp_all[Op.operands])
   grind
 |_=>simp_all[Uni.none,aop]
theorem d7j{ρ:Type}(c x y:AV)(K:AV→Rs ρ):c2D c x y K=(c2D c x y some).elim none K:=by
 unfold c2D
 grind
theorem d4P{c x y:Operand}(ho:o.op=.pick c x y)(hd:o.dst=some d):Uni cx o d Γ:=by
 have hc:c∈o.op.operands.toList:=by simp[ho,Op.operands]
 have hx:x∈o.op.operands.toList:=by simp[ho,Op.operands]
 have hy:y∈o.op.operands.toList:=by simp[ho,Op.operands]
 refine Uni.of (c2D (Γ.opd c) (Γ.opd x) (Γ.opd y) some) fun Γ2 hA ρ K=>?_
 simp[aop,ho,hd,hA.opd hc,hA.opd hx,hA.opd hy];exact d7j _ _ _ _
theorem d3K{t:TypeId}(ho:o.op=.alloc t)(hd:o.dst=some d):Uni cx o d Γ:=by
 cases ht:cx.own d t with
 |none=>simp_all[Uni.none,aop]
 |some t'=>exact Uni.ofFresh ⟨true,t',t'.dflt⟩ (.ptr d []) rfl fun Γ2 hA ρ K=>by simp_all[aop]
theorem d6I{t:TypeId}{x:Operand}(ho:o.op=.box t x)(hd:o.dst=some d):Uni cx o d Γ:=by
 have hx:x∈o.op.operands.toList:=by simp[ho,Op.operands]
 cases ht:cx.T t with
 |none=>simp_all[Uni.none,aop]
 |some t'=>
  cases ha:a7X t' (Γ.opd x)with
  |none=>exact Uni.none fun Γ2 hA ρ K=>by simp[aop,ho,hd,ht];rw[c2H,hA.opd hx,ha];rfl
  |some y=>
   cases hk:cx.K d with
   |true=>exact Uni.put (.one (.vptr t' y)) fun Γ2 hA ρ K=>by simp[aop,ho,hd,ht];rw[c2H,hA.opd hx,ha];simp[hk,AE.set]
   |false=>exact Uni.ofFresh ⟨true,t',y⟩ (.ptr d []) rfl fun Γ2 hA ρ K=>by simp[aop,ho,hd,ht];rw[c2H,hA.opd hx,ha];grind
theorem b7s{t:TypeId}{ps:Array (Nat×Operand)}(ho:o.op=.build t ps∨∃n,o.op=.buildSlice t n ps):∀p∈ps.toList,p.2∈o.op.operands.toList:=by
 intro p hp;rcases ho with ho|⟨n,ho⟩<;>rw[ho]<;>simp only[Op.operands]<;>exact a06.2 ⟨p,hp,rfl⟩
theorem d3L{t:TypeId}{ps:Array (Nat×Operand)}(ho:o.op=.build t ps)(hd:o.dst=some d):Uni cx o d Γ:=by
 cases hn:cx.nlT d t with
 |some t'=>
  cases hagg:t'.isAgg with
  |false=>simp_all[Uni.none,aop]
  |true=>
   refine Uni.of ((b1d Γ.opd t' ps.toList t'.dflt).map fun y=>.val t' y) fun Γ2 hA ρ K=>?_
   simp only[aop,ho,hd,hn,hagg,cT];rw[c6o,b6m Γ2.opd Γ.opd t' _ _ fun p hp=>hA.opd (b7s (.inl ho) p hp)];cases b1d Γ.opd t' ps.toList t'.dflt<;>rfl
 |none=>
 cases ht:cx.T t with
 |none=>simp_all[Uni.none,aop]
 |some t'=>
  cases hagg:t'.isAgg with
  |false=>simp_all[Uni.none,aop]
  |true=>
   refine Uni.of ((b1d Γ.opd t' ps.toList t'.dflt).map fun y=>.val t' y) fun Γ2 hA ρ K=>?_
   simp only[aop,ho,hd,hn,ht,hagg,cT];rw[c6o,b6m Γ2.opd Γ.opd t' _ _ fun p hp=>hA.opd (b7s (.inl ho) p hp)];cases b1d Γ.opd t' ps.toList t'.dflt<;>rfl
theorem c6p{t:TypeId}{n:Nat}{ps:Array (Nat×Operand)}(ho:o.op=.buildSlice t n ps)(hd:o.dst=some d):Uni cx o d Γ:=by
 cases ht:cx.T t with
 |none=>simp_all[Uni.none,aop]
 |some t'=>
  cases t' with
  |list o' e=>
   cases hc:(lim n&&decide (n*e.cells≤16777216))with
   |false=>exact Uni.none fun Γ2 hA ρ K=>by simp only[aop,ho,hd,ht,hc,cF,cT,Bool.true_or]
   |true=>
    cases hl:c3T Γ.opd e n ps.toList (a45 n e.dflt)with
    |none=>
     exact Uni.none fun Γ2 hA ρ K=>by
      simp[aop,ho,hd,ht,hc];rw[d1J,b9K Γ2.opd Γ.opd e n _ _ (fun p hp=>hA.opd (b7s (.inr ⟨n,ho⟩) p hp)),hl];rfl
    |some y=>
     exact Uni.ofFresh ⟨false,.list true e,y⟩ (.sref d []) rfl fun Γ2 hA ρ K=>by
      simp[aop,ho,hd,ht,hc];rw[d1J,b9K Γ2.opd Γ.opd e n _ _ (fun p hp=>hA.opd (b7s (.inr ⟨n,ho⟩) p hp)),hl];rfl
  |_=>exact Uni.none fun Γ2 hA ρ K=>by simp only[aop,ho,hd,ht]
def c3U(lk:Nat→Option Root)(ty:Ty)(a:AV):Option AV:=match a with
 |.vptr t x=>if t=ty then some (.val t x)else none
 |.ptr n p=>match lk n with
  |some r=>match a1p r.t r.x p with
   |⟨.list true _,_⟩=>if ty.isList then some (.sref n p)else none
   |⟨t,y⟩=>if t.sh=ty∧t.shn=t then some (.val t y)else none
  |none=>none
 |_=>none
theorem d8f{ρ:Type}(Γ:AE)(ty:Ty)(a:AV)(K:AV→AE→Rs ρ):Γ.lodK true ty a K=(c3U Γ.look ty a).elim none fun v=>K v Γ:=by
 cases a with
 |vptr t x=>grind[AE.lodK,c3U]
 |ptr n p=>
  simp[AE.lodK,c3U]
  grind
 |_=>rfl
theorem d4Q{t:TypeId}{x:Operand}(ho:o.op=.load t x)(hd:o.dst=some d):Uni cx o d Γ:=by
 have hx:x∈o.op.operands.toList:=by simp[ho,Op.operands]
 cases ht:cx.T t with
 |none=>simp_all[Uni.none,aop]
 |some ty=>
  refine Uni.of (c3U Γ.look ty (cx.glob (Γ.opd x))) fun Γ2 hA ρ K=>?_
  simp[aop,ho,hd,ht];rw[d8f,hA.opd hx]
  have:c3U Γ2.look ty (cx.glob (Γ.opd x))=c3U Γ.look ty (cx.glob (Γ.opd x)):=by
   have hl:=fun n hn=>hA.look (n:=n) hx hn
   revert hl
   cases Γ.opd x with
   |ptr n p=>simp_all[Cx.glob,c3U,AV.refs]
   |glob g=>
    intro _;simp[Cx.glob]
    split<;>rfl
   |_=>intro _;rfl
  grind
theorem c8P{x:Operand}(ho:o.op=.nilCheck x)(hd:o.dst=some d):Uni cx o d Γ:=by
 have hx:x∈o.op.operands.toList:=by simp[ho,Op.operands]
 refine Uni.of (match Γ.opd x with|.ptr n p=>some (.ptr n p)|.vptr t y=>some (.vptr t y)|_=>none) fun Γ2 hA ρ K=>?_
 simp[aop,ho,hd,hA.opd hx]
 grind
theorem d4R{ρ:Type}(op:BinOp)(k:IntKind)(x y:Int)(K:AV→Rs ρ):b4F op k x y K=(b4F op k x y some).elim none K:=by
 cases op<;>simp only[b4F]<;>first|rfl|(cases (y==0)<;>rfl)|grind
theorem d4S{ρ:Type}(op:BinOp)(ty:Nat)(t:Ty)(x:t.den)(t':Ty)(y:t'.den)(K:AV→Rs ρ):b8K cx op ty t x t' y K=(b8K cx op ty t x t' y some).elim none K:=by
 grind[b8K]
theorem d7k{ρ:Type}(op:BinOp)(ty:Nat)(a b:AV)(K:AV→Rs ρ):b2u cx op ty a b K=(b2u cx op ty a b some).elim none K:=by
 unfold b2u;split
 grind[d4R]
 grind
 grind
 all_goals grind[d4S]
theorem d3M{op:BinOp}{t s:TypeId}{x y:Operand}(ho:o.op=.binOp op t x y s)(hd:o.dst=some d):Uni cx o d Γ:=by
 have hx:x∈o.op.operands.toList:=by simp[ho,Op.operands]
 have hy:y∈o.op.operands.toList:=by simp[ho,Op.operands]
 cases hl:d0V (cx.T t)with
 |true=>
  cases hn:c8u (cx.T t) (Γ.opd x) (Γ.opd y)with
  |some e=>exact Uni.none fun Γ2 hA ρ K=>by simp only[aop,ho,hd,hA.opd hx,hA.opd hy,hl,hn,cT,if_true]
  |none=>exact Uni.none fun Γ2 hA ρ K=>by simp only[aop,ho,hd,hA.opd hx,hA.opd hy,hl,hn,cT]
 |false=>
  refine Uni.of (b2u cx op t (Γ.opd x) (Γ.opd y) some) fun Γ2 hA ρ K=>?_
  simp[aop,ho,hd,hA.opd hx,hA.opd hy,hl];exact d7k _ _ _ _ _
theorem d9f{ρ:Type}(op:UnOp)(a:AV)(K:AV→Rs ρ):AE.un op a K=(AE.un op a some).elim none K:=by
 unfold AE.un
 grind
theorem d4T{op:UnOp}{t:TypeId}{x:Operand}(ho:o.op=.unOp op t x)(hd:o.dst=some d):Uni cx o d Γ:=by
 have hx:x∈o.op.operands.toList:=by simp[ho,Op.operands]
 refine Uni.of (AE.un op (Γ.opd x) some) fun Γ2 hA ρ K=>?_
 simp[aop,ho,hd,hA.opd hx];exact d9f _ _ _
theorem d7l{ρ:Type}(Γ:AE)(s t:Nat)(ts tt:Option Ty)(a:AV)(K:AV→Rs ρ)(Kr:Root→Rs ρ):Γ.convK s t ts tt a K Kr=(Γ.convK s t ts tt a (fun v=>some (Sum.inl v)) (fun r=>some (Sum.inr r)):Option (AV ⊕ Root)).elim none fun y=>match y with
  |.inl v=>K v
  |.inr r=>Kr r:=by
 unfold AE.convK;split;rfl
 grind
 rfl
 grind
 rw[b8R,b8R (ρ:=AV ⊕ Root)];generalize a9O Γ.look (.int .u8) _=r;cases r<;>rfl;rfl
theorem d1L{ρ:Type}{Γ Γ2:AE}(s t:Nat)(ts tt:Option Ty){a:AV}(h:∀n∈a.refs,Γ2.look n=Γ.look n)(K:AV→Rs ρ)(Kr:Root→Rs ρ):Γ2.convK s t ts tt a K Kr=Γ.convK s t ts tt a K Kr:=by
 unfold AE.convK
 grind[AV.refs,b8R,b6n]
theorem d0o{s t:TypeId}{x:Operand}(ho:o.op=.convert s t x)(hd:o.dst=some d):Uni cx o d Γ:=by
 have hx:x∈o.op.operands.toList:=by simp[ho,Op.operands]
 have run:∀Γ2,a2m (a0y o) Γ Γ2→∀{ρ:Type}(K:AE→Rs ρ),aop cx true o Γ2 K=(Γ.convK s t (cx.T s) (cx.T t) (Γ.opd x) (fun v=>some (Sum.inl v)) (fun r=>some (Sum.inr r)):Option (AV ⊕ Root)).elim none fun y=>match y with
   |.inl v=>K (Γ2.set d v)
   |.inr r=>Γ2.fresh true d r fun Γ=>K (Γ.set d (.sref d [])):=fun Γ2 hA ρ K=>by
  simp[aop,ho,hd,hA.opd hx,AE.conv];rw[d7l,d1L s t _ _ fun n hn=>hA.look hx hn]
 revert run
 generalize (Γ.convK s t (cx.T s) (cx.T t) (Γ.opd x) (fun v=>some (Sum.inl v)) (fun r=>some (Sum.inr r)):Option (AV ⊕ Root))=r;cases r with
 |none=>simp_all[Uni.none]
 |some y=>
  cases y with
  |inl v=>exact fun run=>Uni.put (.one v) run
  |inr r=>exact fun run=>Uni.ofFresh r (.sref d []) rfl run
end
end Go.Ab
namespace Go.Ab
section
variable {cx:Cx} {o:Oper} {d:Nat} {Γ:AE}
theorem d1d{ρ:Type}(a:AV)(t:Ty)(K:t.den→Rs ρ):a.isVal t K=(a.isVal t some).elim none K:=by
 cases a with
 |val t' x=>grind[AV.isVal]
 |_=>rfl
theorem c7L{t:TypeId}{n c:Operand}(ho:o.op=.makeSlice t n c)(hd:o.dst=some d):Uni cx o d Γ:=by
 have hn:n∈o.op.operands.toList:=by simp[ho,Op.operands]
 have hc:c∈o.op.operands.toList:=by simp[ho,Op.operands]
 cases ht:cx.own d t with
 |none=>simp_all[Uni.none,aop]
 |some t'=>
  cases t' with
  |list o' e=>
   have run:∀Γ2,a2m (a0y o) Γ Γ2→∀{ρ:Type}(K:AE→Rs ρ),aop cx true o Γ2 K=((Γ.opd n).isVal (.int .i64) some).elim none fun(x:Int)=>((Γ.opd c).isVal (.int .i64) some).elim none fun(y:Int)=>
     bif decide (0≤x)&&(decide (x≤y)&&lim y.toNat)then Γ2.fresh true d ⟨false,.list true e,a45 x.toNat e.dflt⟩ fun Γ=>K (Γ.set d (.sref d []))else none:=fun Γ2 hA ρ K=>by
    simp[aop,ho,hd,ht,hA.opd hn,hA.opd hc];refine(d1d _ (.int .i64) _).trans ?_
    grind[d1d]
   revert run
   generalize (Γ.opd n).isVal (.int .i64) some=rx;generalize (Γ.opd c).isVal (.int .i64) some=ry;intro run;cases rx with
   |none=>exact Uni.none run
   |some x=>
    cases ry with
    |none=>exact Uni.none run
    |some y=>
     cases hb:(decide (0≤(show Int from x))&&(decide ((show Int from x)≤(show Int from y))&&lim (show Int from y).toNat))with
     |false=>
      grind[Uni.none]
     |true=>
      refine Uni.ofFresh ⟨false,.list true e,a45 (show Int from x).toNat e.dflt⟩ (.sref d []) rfl fun Γ2 hA ρ K=>(run Γ2 hA K).trans ?_
      grind
  |_=>exact Uni.none fun Γ2 hA ρ K=>by simp only[aop,ho,hd,ht]
theorem c8o{ρ:Type}(Γ:AE)(len dv:Nat)(x:Option Operand)(K:Nat→Rs ρ):Γ.bnd len dv x K=(Γ.bnd len dv x some).elim none K:=by
 cases x with
 |none=>rfl
 |some x=>
  simp[AE.bnd]
  grind
theorem a8P{ρ:Type}(Γ:AE)(len:Nat)(lo hi:Option Operand)(K:Nat→Nat→Rs ρ):Γ.bnds len lo hi K=(Γ.bnds len lo hi fun x y=>some (x,y)).elim none fun p=>K p.1 p.2:=by
 unfold AE.bnds;rw[c8o,c8o (ρ:=Nat×Nat)];cases Γ.bnd len len hi some with
 |none=>rfl
 |some h=>
  simp[a53];rw[c8o,c8o (ρ:=Nat×Nat)];cases Γ.bnd h 0 lo some<;>rfl
theorem d1M{ρ:Type}{Γ Γ2:AE}{lo hi:Option Operand}(hlo:∀x,lo=some x→Γ2.opd x=Γ.opd x)(hhi:∀x,hi=some x→Γ2.opd x=Γ.opd x)(len:Nat)(K:Nat→Nat→Rs ρ):Γ2.bnds len lo hi K=Γ.bnds len lo hi K:=by
 have one:∀(x:Option Operand),(∀y,x=some y→Γ2.opd y=Γ.opd y)→∀(l dv:Nat){ρ:Type}(K:Nat→Rs ρ),Γ2.bnd l dv x K=Γ.bnd l dv x K:=by
  intro x hx l dv ρ K;cases x with
  |none=>rfl
  |some y=>simp[AE.bnd];simp_all
 unfold AE.bnds;simp_all
theorem d7m{ρ:Type}(Γ:AE)(ty:Option Ty)(a:AV)(lo hi mx:Option Operand)(K:AV→Rs ρ):Γ.slic ty a lo hi mx K=(Γ.slic ty a lo hi mx some).elim none K:=by
 unfold AE.slic;cases mx with
 |some m=>
  simp
  cases (b8L (some m)&&b8L hi&&lo.isNone);rfl;simp[c2C]
  grind
 |none=>
  simp
  cases a with
  |val t l=>
   cases t with
   |str=>
    simp
    split;rw[a8P,a8P (ρ:=AV)];generalize (Γ.bnds _ lo hi fun x y=>some (x,y):Option (Nat×Nat))=r;cases r<;>rfl;rfl
   |list o e=>
    cases o
    simp
    split;rw[a8P,a8P (ρ:=AV)];generalize (Γ.bnds _ lo hi fun x y=>some (x,y):Option (Nat×Nat))=r;cases r<;>rfl;rfl;rfl
   |_=>rfl
  |nils=>
   cases ty with
   |none=>rfl
   |some t=>
    cases t with
    |list o e=>
     simp
     rw[a8P,a8P (ρ:=AV)];generalize (Γ.bnds _ lo hi fun x y=>some (x,y):Option (Nat×Nat))=r;cases r<;>rfl
    |_=>rfl
  |sref n p=>
   simp
   rw[a5z,a5z (ρ:=AV)];cases a7b Γ.look n p with
   |none=>rfl
   |some x=>
    simp[a53];split;cases lo<;>cases hi<;>simp only[]<;>(try rfl)<;>(rw[a8P,a8P (ρ:=AV)];generalize (Γ.bnds _ _ _ fun x y=>some (x,y):Option (Nat×Nat))=r;cases r<;>rfl)
    rfl
  |swin n p o k=>
   simp
   rw[a5z,a5z (ρ:=AV)];cases a7b Γ.look n p with
   |none=>rfl
   |some x=>
    simp[a53];split;rw[a8P,a8P (ρ:=AV)];generalize (Γ.bnds _ _ _ fun x y=>some (x,y):Option (Nat×Nat))=r;cases r<;>rfl;rfl
  |vptr t l=>
   cases t with
   |arr n e=>
    simp
    split;rw[a8P,a8P (ρ:=AV)];generalize (Γ.bnds _ lo hi fun x y=>some (x,y):Option (Nat×Nat))=r;cases r<;>rfl;rfl
   |_=>rfl
  |_=>rfl
theorem d1N{ρ:Type}{Γ Γ2:AE}{a:AV}{lo hi:Option Operand}(ha:∀n∈a.refs,Γ2.look n=Γ.look n)(hlo:∀x,lo=some x→Γ2.opd x=Γ.opd x)(hhi:∀x,hi=some x→Γ2.opd x=Γ.opd x)(ty:Option Ty)(mx:Option Operand)(K:AV→Rs ρ):
  Γ2.slic ty a lo hi mx K=Γ.slic ty a lo hi mx K:=by
 have hb:=fun(len:Nat) {ρ:Type} (K:Nat→Nat→Rs ρ)=>d1M (Γ:=Γ) (Γ2:=Γ2) hlo hhi len K;unfold AE.slic;cases mx with
 |some m=>rfl
 |none=>
  simp
  cases a with
  |val t l=>
   cases t with
   |str=>simp_all
   |list o e=>grind
   |_=>rfl
  |nils=>
   simp_all
  |sref n p=>
   simp
   rw[a5z,a5z,a5W (ha n (by simp[AV.refs]))]
   grind
  |swin n p o k=>
   simp only[];rw[a5z,a5z,a5W (ha n (by simp[AV.refs]))];simp only[hb]
  |vptr t l=>
   grind
  |_=>rfl
theorem d3N{t:TypeId}{x:Operand}{lo hi mx:Option Operand}(ho:o.op=.slice t x lo hi mx)(hd:o.dst=some d):Uni cx o d Γ:=by
 have hx:x∈o.op.operands.toList:=by simp[ho,Op.operands]
 have hlo:∀y,lo=some y→y∈o.op.operands.toList:=fun y h=>by simp_all[Op.operands]
 have hhi:∀y,hi=some y→y∈o.op.operands.toList:=fun y h=>by simp_all[Op.operands]
 refine Uni.of (Γ.slic (cx.T t) (Γ.opd x) lo hi mx some) fun Γ2 hA ρ K=>?_
 simp[aop,ho,hd,hA.opd hx];rw[d1N (fun n hn=>hA.look hx hn) (fun y h=>hA.opd (hlo y h)) (fun y h=>hA.opd (hhi y h))]
 grind[d7m]
theorem c7M{s:TypeId}{x:Operand}{f:Nat}(ho:o.op=.fieldAddr s x f)(hd:o.dst=some d):Uni cx o d Γ:=by
 have hx:x∈o.op.operands.toList:=by simp[ho,Op.operands]
 cases ha:Γ.opd x with
 |ptr n p=>
  have hr:∀Γ2,a2m (a0y o) Γ Γ2→Γ2.rt n=Γ.rt n:=fun Γ2 hA=>hA.rt hx (by rw[ha];simp[AV.refs]);cases hrt:Γ.rt n with
  |none=>exact Uni.none fun Γ2 hA ρ K=>by simp only[aop,ho,hd,hA.opd hx,ha,hr Γ2 hA,hrt]
  |some r=>
   by_cases hc:a2J (a1p r.t r.x p).1 f=true∧cx.T s=some (a1p r.t r.x p).1.sh
   exact Uni.put (.one (.ptr n (p++a1A f))) fun Γ2 hA ρ K=>by
    simp[aop,ho,hd,hA.opd hx,ha,hr Γ2 hA,hrt];rw[if_pos hc];rfl
   exact Uni.none fun Γ2 hA ρ K=>by
    simp only[aop,ho,hd,hA.opd hx,ha,hr Γ2 hA,hrt];simp_all
 |vptr t y=>
  by_cases hc:a2J t f=true∧cx.T s=some t
  exact Uni.put (.one (.vptr (a1p t y (a1A f)).1 (a1p t y (a1A f)).2)) fun Γ2 hA ρ K=>by
   simp[aop,ho,hd,hA.opd hx,ha];rw[if_pos hc];rfl
  exact Uni.none fun Γ2 hA ρ K=>by
   simp only[aop,ho,hd,hA.opd hx,ha];simp_all
 |_=>exact Uni.none fun Γ2 hA ρ K=>by simp only[aop,ho,hd,hA.opd hx,ha]
theorem d3O{s:TypeId}{x:Operand}{f:Nat}(ho:o.op=.field s x f)(hd:o.dst=some d):Uni cx o d Γ:=by
 have hx:x∈o.op.operands.toList:=by simp[ho,Op.operands]
 cases ha:Γ.opd x with
 |val t y=>
  by_cases hc:a2J t f=true∧cx.T s=some t
  exact Uni.put (.one (.val (a1p t y (a1A f)).1 (a1p t y (a1A f)).2)) fun Γ2 hA ρ K=>by
   simp[aop,ho,hd,hA.opd hx,ha];rw[if_pos hc];rfl
  exact Uni.none fun Γ2 hA ρ K=>by
   simp only[aop,ho,hd,hA.opd hx,ha];simp_all
 |_=>exact Uni.none fun Γ2 hA ρ K=>by simp only[aop,ho,hd,hA.opd hx,ha]
theorem c2I{α β γ:Type}{o:Option α}{f:α→β}{K:β→Option γ}:(o.bind fun x=>K (f x))=(o.bind fun x=>some (f x)).elim none K:=by cases o<;>rfl
theorem d7n{ρ:Type}(Γ:AE)(ty:Option Ty)(a:AV)(i:Int)(K:AV→Rs ρ):Γ.addrK ty a i K=(Γ.addrK ty a i some).elim none K:=by
 cases a with
 |val t l=>
  cases t with
  |list o e=>
   cases o;simp[AE.addrK];split;exact c2I;rfl;rfl
  |_=>rfl
 |sref n p=>
  simp[AE.addrK];rw[a5z,a5z (ρ:=AV)];cases a7b Γ.look n p with
  |none=>rfl
  |some x=>
   grind
 |swin n p o k=>
  simp[AE.addrK];rw[a5z,a5z (ρ:=AV)];cases a7b Γ.look n p with
  |none=>rfl
  |some x=>
   grind
 |ptr n p=>
  simp[AE.addrK]
  grind
 |vptr t l=>
  cases t with
  |arr k e=>
   simp[AE.addrK];split;exact c2I;rfl
  |_=>rfl
 |_=>rfl
theorem d1O{ρ:Type}{Γ Γ2:AE}{a:AV}(hl:∀n∈a.refs,Γ2.look n=Γ.look n)(hr:∀n∈a.refs,Γ2.rt n=Γ.rt n)(ty:Option Ty)(i:Int)(K:AV→Rs ρ):Γ2.addrK ty a i K=Γ.addrK ty a i K:=by
 cases a with
 |sref n p=>simp only[AE.addrK];rw[a5z,a5z,a5W (hl n (by simp[AV.refs]))]
 |swin n p o k=>simp only[AE.addrK];rw[a5z,a5z,a5W (hl n (by simp[AV.refs]))]
 |ptr n p=>simp_all[AE.addrK,AV.refs]
 |val t l=>
  cases t with
  |list o e=>cases o<;>rfl
  |_=>rfl
 |vptr t l=>cases t<;>rfl
 |_=>rfl
theorem c7N{t:TypeId}{x i:Operand}(ho:o.op=.indexAddr t x i)(hd:o.dst=some d):Uni cx o d Γ:=by
 have hx:x∈o.op.operands.toList:=by simp[ho,Op.operands]
 have hi:i∈o.op.operands.toList:=by simp[ho,Op.operands]
 have no:(∀k y,Γ.opd i≠.val (.int k) y)→Uni cx o d Γ:=fun h=>Uni.none fun Γ2 hA ρ K=>by
  simp[aop,ho,hd,hA.opd hi]
  grind
 cases ha:Γ.opd i with
 |val t' y=>
  cases t' with
  |int k=>
   refine Uni.of (Γ.addrK (cx.T t) (cx.glob (Γ.opd x)) (show Int from y) some) fun Γ2 hA ρ K=>?_
   simp[aop,ho,hd,hA.opd hi,hA.opd hx,ha];have hgr:∀n∈(cx.glob (Γ.opd x)).refs,n∈(Γ.opd x).refs:=fun n hn=>by
    revert hn
    cases Γ.opd x with
    |glob g=>
     simp[Cx.glob]
     split<;>exact fun h=>h
    |_=>exact id
   exact(d1O (fun n hn=>hA.look hx (hgr n hn)) (fun n hn=>hA.rt hx (hgr n hn)) (cx.T t) (show Int from y) _).trans (d7n _ _ _ _ _)
  |_=>exact no (by rw[ha];intro k y h;cases h)
 |_=>exact no (by rw[ha];intro k y h;cases h)
def c1u{ρ:Type}(ty:Option Ty)(x i:AV)(K:AV→Rs ρ):Rs ρ:=match x,i with
 |.val (.arr n t) l,.val (.int _) (i:Int)=>if ty=some (.arr n t)then(a0r l i).bind fun y=>K (.val t y)else none
 |.val .str (l:List Int),.val (.int _) (i:Int)=>if ty=some .str then(a0r l i).bind fun y=>K (.val (.int .u8) y)else none
 |_,_=>none
theorem d4U{ρ:Type}(ty:Option Ty)(x i:AV)(K:AV→Rs ρ):c1u ty x i K=(c1u ty x i some).elim none K:=by
 unfold c1u;split;split;exact c2I;rfl;split;exact c2I;rfl;rfl
theorem d3P{s:TypeId}{x i:Operand}(ho:o.op=.index s x i)(hd:o.dst=some d):Uni cx o d Γ:=by
 have hx:x∈o.op.operands.toList:=by simp[ho,Op.operands]
 have hi:i∈o.op.operands.toList:=by simp[ho,Op.operands]
 refine Uni.of (c1u (cx.T s) (Γ.opd x) (Γ.opd i) some) fun Γ2 hA ρ K=>?_
 have:aop cx true o Γ2 K=c1u (cx.T s) (Γ.opd x) (Γ.opd i) fun v=>K (Γ2.set d v):=by
  simp[aop,ho,hd,hA.opd hx,hA.opd hi];rfl
 grind[d4U]
theorem d0p{x:Operand}{i:Nat}(ho:o.op=.extract x i)(hd:o.dst=some d):Uni cx o d Γ:=by
 have hx:x∈o.op.operands.toList:=by simp[ho,Op.operands]
 cases x with
 |tmp t=>
  have hs:∀Γ2,a2m (a0y o) Γ Γ2→Γ2.sl t=Γ.sl t:=fun Γ2 hA=>(hA.2 t (a3V hx)).1;cases hv:Γ.sl t with
  |one v=>simp_all[Uni.none,aop]
  |cmp c vs=>
   cases c with
   |agg=>simp_all[Uni.none,aop]
   |clo f=>simp_all[Uni.none,aop]
   |tup=>
   cases hi:vs[i]? with
   |none=>simp_all[Uni.none,aop]
   |some v=>exact Uni.put (.one v) fun Γ2 hA ρ K=>by simp[aop,ho,hd,hs Γ2 hA,hv,hi];rfl
 |_=>simp_all[Uni.none,aop]
end
end Go.Ab
