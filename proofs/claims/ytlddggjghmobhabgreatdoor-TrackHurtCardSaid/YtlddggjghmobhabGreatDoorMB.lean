/- Part of the proof: LibS. Conditions: as each statement tells. -/
import Derived.Laws.AppendOwn
import Derived.CallsIn
import Derived.Tactics
import Derived.Deep.LoopGhost
import Derived.TacticsIn
import Derived.Test.YtlddggjghmobhabGreatDoorMA
noncomputable section
set_option linter.unusedSimpArgs false
set_option linter.unusedVariables false
open Array renaming getElem?_toList->B8,length_toList->E5,range->F8
open Bool renaming not_eq_true'->E6,not_eq_true->F9
open Decidable renaming decide->A6
open List renaming mem_map_of_mem->A3,mem_cons_of_mem->A4,length_eq_zero_iff->A7,getElem?_append_left->A8,nodup_cons->A9,mem_of_getElem?->B3,mem_map->B6,map_cons->B7,getElem?_append_right->B9,nodup_append->C1,append->C3,length->C4,replicate->C6,getElem?_toArray->C7,pairwise_iff_getElem->C8,getD->D0,mem_append_left->D2,drop_eq_getElem_cons->D4,getElem?_map->D8,take_succ_eq_append_getElem->D9,mem_append_right->E1,mem_iff_getElem?->E2,take->E3,length_nil->E4,map_nil->E8,nil_append->E9,length_eq_one_iff->F0,take_set_of_le->F2,drop->F4,size_toArray->F5,take_length->F7,append_nil->G4,length_map->G5,set->G6,drop_zero->G7
open Nat renaming le_refl->B4,lt_of_lt_of_le->C0,zero_add->C2,add_mul->C5,le_trans->D1,mul_le_mul_right->D3,add_sub_cancel_left->D7,mul_le_mul->F1,le_of_lt->F3,lt_trichotomy->F6
open Option renaming map_eq_some_iff->C9,map_some->D5,bind_eq_some_iff->D6,isSome_iff_exists->E7,elim->G3
namespace Go.Ab
variable {A:Option Addr}{G:VF}{M:Gh}{P:Program}{Q:Exit->Act->World->Prop}{Sh Sh':Nat->Prop}{U U2:AE}{Z:Type}{a av:AV}{b d i n:Nat}{c:Call}{e:Ty}{f:FuncId}{hi:Option Operand}{k:IntKind}{m:DJ}{next:Act->World->Prop}{o:Oper}{p:BN}{ps:List PA}{q:Bool}{r:sO}{s t t':TypeId}{tm:Nat->Value}{ts:Array TypeId}{v vy:Value}{w w' w2:World}{x y:Operand}{l ys:List e.sJ}
theorem Rk{o:Nat}{os R}(h:Ak (fun i=>AO m e fun j=>m b (o+(i*e.cells+j))) n 0=some (l,os,R)):
  ∃cs:List Value,cs.length=n*e.cells/\(∀j u,cs[j]?=some u->m b (o+j)=some u)/\(∀u∈cs,Cd u=true)/\Ak (fun i=>AO m e fun j=>cs[i*e.cells+j]?) n 0=some (l,os,R):=by
 have k:AO m (.arr n e) (fun j=>m b (o+j))=some (l,os,R):=h;have d:∀j,j<n*e.cells->∃u,m b (o+j)=some u/\Cd u=true:=Je (.arr n e) k
 let cs:List Value:=(List.range (n*e.cells)).map fun j=>(m b (o+j)).getD undef
 have f:∀j,j<n*e.cells->cs[j]?=m b (o+j):=fun j a=>by
  grind
 have g:cs.length=n*e.cells:=by grind
 refine⟨cs,g,fun j u c=>?_,fun u c=>?_,?_⟩;grind;grind;exact AF (.arr n e) k (rd':=fun j=>cs[j]?) (fun j a=>f j a) (fun _ _ _=>rfl)
theorem a0D{o:Bool}(z:e.sh=e){O R}(h:AO m (.list o e) ((Src.one v).rd m)=some (l,O,R)):
  (v=.slice none 0 0/\l=[])\/∃a n c g,v=.slice (some a) n c/\(c=0\/a.spot=none)/\n<=c/\n=l.length/\Ak (fun i=>AO m e fun j=>m a.block (a.off+(i*e.cells+j))) n 0=some (l,[],g)/\
   (∀x∈g,x∈R)/\(o=false->0<n->a.block∈R):=by
 have h:Cn m o e.cells (AO m e) (some v)=some (l,O,R):=h;unfold Cn at h;split at h;simp_all;rename_i a n c t;simp at t;split at h;rename_i y;split at h;grind;rename_i p d g b;have f:d=[]:=by
  have q:AO m (.arr n e) (fun j=>m a.block (a.off+j))=some (p,d,g):=b;exact Pk (by simp_all[Ty.tL]) q
 subst f;have k:p=l/\(∀x∈g,x∈R)/\(o=false->0<n->a.block∈R):=by
  split at h;grind;split at h;rename_i r;subst r;simp[Ak]at b;simp_all;grind
 obtain⟨rfl,u,w⟩:=k;grind[Bd];simp_all;simp_all
def Tj(w:World)(m:DJ)(Sh:Nat->Prop)(e:Ty)(l:List e.sJ)(v:Value):Prop:=
 ∃A n c,∃cs:List Value,v=.slice A n c/\n=l.length/\cs.length=n*e.cells/\(∀u∈cs,Cd u=true)/\(∃R,Ak (fun i=>AO m e fun j=>cs[i*e.cells+j]?) n 0=some (l,[],R)/\∀c∈R,Sh c)/\
  (∀b,A=some b->∀j u,cs[j]?=some u->w.cell? (b.add j)=some u)/\(A=none->n=0)/\(∀b,A=some b->n=0\/b.spot=none)
theorem Tj.nil{w m Sh e}{A:Option Addr}{c:Nat}:Tj w m Sh e [] (.slice A 0 c):=
 ⟨A,0,c,[],rfl,rfl,by simp,by simp,⟨[],rfl,by simp⟩,by simp,fun _=>rfl,fun _ _=>.inl rfl⟩
section
variable {P:Program} {B:Base} {N:Nat} {Z:Type} {U:AE} {a:Act} {w:World} {M:Gh}
theorem sK.sZ{tm}(h:sK B U N tm w M)(hp:U.pd=none):M.ov=none:=by
 have:=h.pend
 rw[hp]at this;cases hov:M.ov with
 |none=>rfl
 |some x=>rw[hov]at this;exact this.elim
theorem sK.xQ{tm}(h:sK B U N tm w M){c j:Nat}(a:Be B w M c):Ad w M.ov c j=w.cell? ⟨c,j,none⟩:=by
 unfold Ad;split
 ·rename_i b o v g;have f:=h.pend;rw[g]at f;cases hpd:U.pd with
  |none=>rw[hpd]at f;exact f.elim
  |some x=>
   obtain⟨n,p,d⟩:=x;rw[hpd]at f;obtain⟨r,e,i,k⟩:=f;rw[<-g]at k;have hb:=h.place i k;rw[if_neg];rintro⟨rfl,-⟩;exact a.2.2 ⟨n,hb⟩
 rfl
theorem TW{A:Addr}(h:A.spot=none)(j:Nat):w.cell? (A.add j)=w.cell? ⟨A.block,A.off+j,none⟩:=by rw[Fp h]
theorem sK.elems{tm}{e:Ty}(he:e.sh=e)(h:sK B U N tm w M){av v}{K:List e.sJ->Rs Z}{z:Z}(d:AA (Ad w M.ov) M.g U.rt (Be B w M) av v)(f:U.elems e av K=some z):
  ∃l,K l=some z/\Tj w (Ad w M.ov) (Be B w M) e l v:=by
 unfold AE.elems at f;split at f;rename_i t' x;split at f;rename_i ht;subst ht;refine⟨_,f,?_⟩;obtain⟨R,h1,h2⟩:=Cg.rd (t:=.list false t') d rfl rfl;rcases a0D he h1 with⟨rfl,h3⟩|⟨A,n,c,rs,rfl,g1,g2,T,G,V,g6⟩;simp_all[Tj.nil];obtain⟨F,E,Y,O,P⟩:=Rk G;refine⟨some A,n,c,F,rfl,T,E,O,⟨rs,P,fun b hb=>h2 b (V b hb)⟩,fun b hb j u I=>?_,by simp,fun b hb=>by grind⟩;simp at hb;subst hb;have H:0<n:=by
  grind
 rw[TW (g1.resolve_left (by omega)),<-h.xQ (h2 _ (g6 rfl H))];simp_all;simp_all;refine⟨[],f,?_⟩;have d:v=.slice none 0 0:=d;rw[d];exact Tj.nil;refine⟨[],f,?_⟩;obtain⟨A,L⟩:=d;rw[L];exact Tj.nil;rename_i n p;split at f;rename_i r D;obtain⟨C,D⟩:=AX D;split at f;rename_i a l hg;split at f;rename_i m;subst m;obtain⟨s,O',R',g1,g2,T,G,V,g6⟩:=h.slice d D hg;refine⟨l,f,?_⟩;have y:=h.sZ C;rcases a0D he G with⟨rfl,h3⟩|⟨A,n,c,rs,rfl,f1,f2,f3,S,f5,-⟩;rw[h3];exact Tj.nil;obtain⟨F,E,Y,O,P⟩:=Rk S;refine⟨some A,n,c,F,rfl,f3,E,O,⟨rs,P,fun b hb=>V b (f5 b hb)⟩,fun b hb j u I=>?_,by simp,fun b hb=>by grind⟩;simp at hb;subst hb;have H:0<n:=by
  grind
 rw[TW (f1.resolve_left (by omega))]
 have:=Y j u I
 rw[y]at this;exact this;simp_all;simp_all;simp_all
 ·rename_i n p o k;split at f
  ·rename_i r D;obtain⟨C,D⟩:=AX D;split at f
   ·rename_i a l hg;split at f
    ·rename_i m;subst m;obtain⟨s,O',R',A0,n0,c,g1,g2,T,G,V,g6,a',rfl,g7,g8⟩:=h.window d D hg;refine⟨_,f,?_⟩;show Tj _ _ _ _ (E3 k (F4 o l)) _;have y:=h.sZ C;rcases a0D he T with⟨L,h3⟩|⟨A,n,c',rs,L,f1,f2,f3,S,f5,-⟩;simp_all[Tj.nil]
     ·simp at L;obtain⟨rfl,rfl,rfl⟩:=L;rw[show n0=o+(k+(n0-o-k))from by omega]at S;obtain⟨h7,g0,h8,g9,j1,j2,e1,rfl⟩:=Fm o _ 0 S;obtain⟨h5,Q,h9,k0,j3,j4,rfl,rfl⟩:=Fm k _ (0+o) j2;have h4:h5=[]:=by
       simp_all
      subst h4;have X:∀(q i:Nat),Ak (fun i=>AO (Ad w M.ov) a fun j=>Ad w M.ov A.block (A.off+o*a.cells+(i*a.cells+j))) q i=Ak (fun i=>AO (Ad w M.ov) a fun j=>Ad w M.ov A.block (A.off+(i*a.cells+j))) q (o+i):=by
       intro q
       induction q with
       |zero=>intro i;rfl
       |succ q ih=>
        intro i;have hf:(fun j=>Ad w M.ov A.block (A.off+o*a.cells+(i*a.cells+j)))=fun j=>Ad w M.ov A.block (A.off+((o+i)*a.cells+j)):=by
         funext j;grind
        simp[Ak];rw[ih (i+1),hf,show o+(i+1)=o+i+1 from by rfl]
      have hc:Ak (fun i=>AO (Ad w M.ov) a fun j=>Ad w M.ov A.block (A.off+o*a.cells+(i*a.cells+j))) k 0=some (E3 k (F4 o l),[],Q):=by
       grind
      obtain⟨F,E,Y,O,P⟩:=Rk hc;refine⟨a',k,c-o,F,rfl,?_,E,O,⟨Q,P,fun b hb=>G b (f5 b (by grind))⟩,fun b hb j u I=>?_,fun hn=>?_,fun b hb=>(g7 b hb).imp (fun e=>by omega) id⟩;have e0:n0=l.length:=f3;have e1:(E3 k (F4 o l)).length=min k (l.length-o):=List.length_take.trans (congrArg (min k) List.length_drop);omega;have h0:=(lS.1 I).1;rw[E]at h0;have h6:0<k:=Nat.pos_of_ne_zero fun e0=>by grind
      rcases g8 with g8|g8;omega;rw[g8]at hb;simp at hb;rw[<-hb,Fp (f1.resolve_left (by omega)),TW rfl]
      have:=Y j u I
      rw[y]at this;exact this;grind
    simp_all
   simp_all
  simp_all
 simp_all
theorem OY{w:World}{c:Nat}{cs:List Value}(hv:v=.slice A n c)(i:∀x,w2.cell? x=w.cell? x)(h:cs.length=n*e.cells)(g:∀b,A=some b->∀j u,cs[j]?=some u->w.cell? (b.add j)=some u)(a:A=none->n=0)(k:Nat)(f:k<=n):
  (Builtin.firstCells e.cells k v).run P w2=.ok (cs.take (k*e.cells)).toArray w2:=by
 subst hv;cases A with
 |none=>
  have:k=0:=by simp_all
  simp_all[Builtin.firstCells]
 |some b=>
  refine run_firstCells_some w2 e.cells k b n c _ ?_ fun j u d=>?_
  simp_all;grind
end
theorem b1w{τ:Ty}(h:AU P τ (.inl t)=true):∃d,P.underlying t=some d:=by
 cases hu:P.underlying t with
 |some d=>simp
 |none=>cases τ<;>simp[AU,hu]at h
theorem Pl(h:AU P (.int k) (.inl t)=true):P.underlying t=some (.int k):=by
 simp[AU]at h;grind
theorem TX(h:AU P .str (.inl t)=true):P.underlying t=some .string:=by
 simp[AU]at h;grind
theorem Sl{m:DJ}{k:IntKind}:∀(l:List Int)(n i:Nat){cs:List Value}{R},cs.length=i+n->Ak (fun i=>AO m (.int k) fun j=>cs[i*1+j]?) n i=some (l,[],R)->cs.drop i=l.map (Value.int k)
 |l,0,i,cs,R,t,h=>by
  have w:[]=l:=congrArg (·.1) (Option.some.inj h);simp_all
 |l,n+1,i,cs,R,t,h=>by
  simp only[Ak]at h;split at h;grind;rename_i x o r g;split at h;grind;rename_i e v A p;have c:i<cs.length:=by omega
  simp[AO,lG c]at g;split at g;rename_i z u d;split at g;rename_i q;subst q;have b:u=x:=congrArg (·.1) (Option.some.inj g);have f:x::e=l:=congrArg (·.1) (Option.some.inj h);have y:o=[]:=by
   simp_all
  have a:v=[]:=by
   grind
  subst a;rw[D4 c,Sl e n (i+1) (by omega) p,<-f];simp at d;rw[d,b];rfl;simp_all;simp_all
section
variable {P:Program} {B:Base} {N:Nat} {Z:Type} {U:AE} {a:Act} {w:World} {M:Gh}
theorem a6b(ns:List Int):∀(s:ByteArray),((ns.foldl (fun r n=>r.push (UInt8.ofNat n.toNat)) s).data.toList.map fun b=>(b.toNat:Int))=(s.data.toList.map fun b=>(b.toNat:Int))++b4V ns:=by
 induction ns with
 |nil=>intro s;simp[b4V]
 |cons n ns h=>
  simp_all[b4V]
theorem TY(w:World)(a:Addr)(c:Nat):(w.freeze a 1).heap[c]?=if c=a.block then(w.heap[c]?).map (fun|.cells cs elem (lo,hi)=>.cells cs elem (if lo==hi then(a.off,a.off+1)else(min lo a.off,max hi (a.off+1)))|o=>o)else w.heap[c]?:=by
 unfold World.freeze;grind
theorem a2I(w:World)(a p:Addr):(w.freeze a 1).cell? p=w.cell? p:=by
 unfold World.cell?;rw[TY];grind
theorem TZ(w:World)(a:Addr)(ov):Ad (w.freeze a 1) ov=Ad w ov:=by
 funext b o;simp_all[a2I,Ad]
theorem sK.frozen{U:AE}{w:World}{M:Gh}(h:sK B U N tm w M)(l:BD M b){cs:Array Value}{k:TypeId}{lo hi:Nat}(u:w.heap[b]?=some (.cells cs k (lo,hi))):
  sK B U N tm (w.freeze { block:=b,off:=cs.size } 1) M:=by
 have f:(w.freeze { block:=b,off:=cs.size } 1).heap.size=w.heap.size:=by
  simp_all[World.freeze]
 refine h.mem (fun c j _=>by rw[TZ]) (fun n p m=>?_) (Nat.le_of_eq f.symm) (fun c d a=>?_);obtain⟨c,e,o,i,q,r,t⟩:=h.live n p m;unfold BY;rw[TY];grind
 ·rw[TY,if_neg (fun e=>?_)];exact h.frame c d a
  ·rcases h.mine b l with g|g;all_goals grind
theorem a0E{o:Oper}{t t2:TypeId}{x:Operand}{d:Nat}{cx:Cx}{q:Bool}{K:AE->Rs Z}{z:Z}(f:CxTy P cx)(ho:o.op=.convert t t2 x)(hd:o.dst=some d)
  (h:sK B U N (AJ a) w M)(hN:a.tmps.size=N)(hf:fits N o=true)(g:Bk cx q o U K=some z):AZ P B N o a w K z:=by
 have I:=h.sM (Bl hf x (by simp[ho,Op.operands]));simp[Bk,ho,hd]at g;have p:∀v w',(convert t t2 (a.eval x)).run P w=.ok v w'->(execOp a.eval o).run P w=.ok (.value v) w':=fun v w' V=>by simp[execOp,ho,V]
 unfold AE.conv AE.vK at g;split at g;rename_i τ k k' n L m H;rw[H]at I;have V:=AA.int I;obtain⟨u,S⟩:=b1w (f.T _ _ L).2;have C:=Pl (f.T _ _ m).2;refine AZ.set hd hN (p (.int k (k.wrap n)) w ?_) h (AA.tH _) g;rw[V];simp[convert,run_underlying S,run_underlying C,Conv.intToInt]
 ·rename_i o' l L m H
  suffices main:∀l:List Int,U.sM x=.val .str l->(bif Bp (C4 l)then U.fresh q d ⟨false,.list true (.int .u8),l⟩ fun U=>K (U.set d (.sref d []))else none)=some z->AZ P B N o a w K z from main l H g
  clear H g;intro l H g;rw[H]at I;obtain⟨s,V,hl⟩:=AA.str I;have S:=TX (f.T _ _ L).2;obtain⟨h9,g4⟩:=f.T _ _ m;obtain⟨e,C,F,-⟩:=BQ g4;have G:=Pl F;rcases Ah g with⟨-,g⟩|⟨-,g⟩
  ·have hr:=run_bytes_of_string (P:=P) w t t2 e s S C G;rw[<-V]at hr;have hg:=grownCap_ge w s.size 0 e;have E:(bytesRow s (grownCap w s.size 0 e)).size=grownCap w s.size 0 e:=by
    have:s.data.size=s.size:=rfl
    simp_all[bytesRow]
   have g9:C4 l=s.size:=by simp_all
   have h7:@List.length (Ty.int .u8).sJ l=s.size:=g9;have y:Ak (fun i=>AO (Ad w M.ov) (.int .u8) fun j=>(bytesRow s (grownCap w s.size 0 e))[i*(Ty.int .u8).cells+j]?) (C4 l) 0=some (l,[],[]):=by
    have a3:∀(n i:Nat)(l':List Int),l'=l.drop i->l'.length=n->i+n=s.size->Ak (fun i=>AO (Ad w M.ov) (.int .u8) fun j=>(bytesRow s (grownCap w s.size 0 e))[i*(Ty.int .u8).cells+j]?) n i=some (l',[],[]):=by
     intro n
     induction n with
     |zero=>intro i l' _ h2 _;rw[A7.1 h2];rfl
     |succ n ih=>
      intro i l' h1 h2 h3;have hi:i<s.data.toList.length:=by
       grind
      have k7:i<(List.map (fun b:UInt8=>(b.toNat:Int)) s.data.toList).length:=by simp_all
      have X:(bytesRow s (grownCap w s.size 0 e))[i]?=some (.int .u8 ((s.data.toList[i]).toNat:Int)):=by
       simp_all[bytesRow,Array.getElem?_append_left]
      have g7:l'=((s.data.toList[i]).toNat:Int)::l.drop (i+1):=by
       simp_all[D4]
      subst g7;have h4:=ih (i+1) (l.drop (i+1)) rfl (by grind) (by omega);simp only[Ak];rw[h4];simp only[AO,Ty.cells,Nat.mul_one,Nat.add_zero,X,if_true];rfl
    grind
   obtain⟨U',M',g1,g2,g3,-,-⟩:=h.uV (c:=grownCap w s.size 0 e) g (w':=w.drew.alloc (.cells (bytesRow s (grownCap w s.size 0 e)) e ((bytesRow s (grownCap w s.size 0 e)).size,(bytesRow s (grownCap w s.size 0 e)).size+1)))
    (fun c hc=>BG (w:=w.drew) _ c hc) (BR (w:=w.drew) _) (Bu (w:=w.drew) _) (.inr (by simp[E,Ty.cells])) (by simp[E,Ty.cells]) (D1 (Nat.le_of_eq h7) hg) y (by simp)
   grind[AZ.set]
  simp_all
 rename_i l L m H;rw[H]at I;obtain⟨s,V,hl⟩:=AA.str I;have S:=TX (f.T _ _ L).2;have C:=TX (f.T _ _ m).2;refine AZ.set hd hN (p (.string s) w ?_) h (hl▸AA.vV s) g;simp_all[convert,run_underlying];rename_i o1 o2 n L m H;split at g;rename_i k5;subst k5;split at g;rename_i l hl;obtain⟨Q,g⟩:=(Ah g).elim id fun h=>by grind
 have Q:0<C4 l:=by simp_all
 obtain⟨a2,hr⟩:=AX hl;rw[H]at I;obtain⟨h9,h6⟩:=f.T _ _ L;obtain⟨e,S,F,-⟩:=BQ h6;have G:=Pl F;obtain⟨s,O',R',f1,f2,f3,f4,f5,f6⟩:=h.slice I hr (show Dc (.list true (.int .u8)) l []=⟨.list true (.int .u8),l⟩from rfl);obtain⟨b,n1,c1,g5,hb,k9,k6,O⟩:∃(b:Addr)(n1 c1:Nat),a.eval x=.slice (some b) n1 c1/\b.spot=none/\n1<=c1/\c1≠0/\b.block∈(M.ow n).map (·.1):=by
  rcases Cr f4 with⟨hs,k8,-,-⟩|⟨b,n1,c1,os,hs,hA,hn,y,ho⟩;simp_all;simp[Src.rd]at hs;grind[Bd]
 have h8:BD M b.block:=⟨n,O⟩;obtain⟨p0,k0,k4⟩:=B6.1 O;obtain⟨cs,el,lo,hi,D,-,-⟩:=h.live n p0 k0;rw[k4]at D;have h5:(convert t t (a.eval x)).run P w=.ok (a.eval x) (w.freeze { block:=b.block,off:=cs.size } 1):=by
  have g0:w.shape? b.block=some (el,cs.size):=by simp_all[World.shape?]
  rw[g5];simp[convert,run_underlying S,run_underlying G,markStringish,g0]
 exact AZ.set hd hN (p _ _ h5) (h.frozen h8 D) (av:=.sref n []) (by
  obtain⟨r,e',s',k1,k2,k3⟩:=I;exact⟨r,e',s',k1,by simp_all[TZ],by simp_all[TZ]⟩) g
 simp_all;simp_all
 ·rename_i o' L m;obtain⟨h9,h6⟩:=f.T _ _ L;obtain⟨e,S,F,-⟩:=BQ h6;have G:=Pl F;have C:=TX (f.T _ _ m).2;obtain⟨l,g,A,n,c,cs,V,hn,Q,-,⟨R,y,-⟩,hc,hnil,-⟩:=h.elems rfl I g;have Y:cs.length=n:=by simp_all[Ty.cells]
  have g6:cs=l.map (Value.int .u8):=by
   have:=Sl (k:=.u8) l n 0 (cs:=cs) (by omega) y
   grind
  cases A with
  |none=>
   have h0:l=[]:=by
    grind
   refine AZ.set hd hN (p (.string .empty) w ?_) h (av:=.val .str (b4V l)) (by rw[h0];exact AA.vV .empty) g;simp_all[run_convert_bytes_string,Conv.bytesToString]
  |some b=>
   refine AZ.set hd hN (p (.string (l.foldl (fun r n=>r.push (UInt8.ofNat n.toNat)) ByteArray.empty)) w ?_) h (av:=.val .str (b4V l)) ?_ g;rw[V,run_convert_bytes_string w t t2 e _ n c S G C];refine run_bytesToString w b n c l ?_
   rw[<-g6,<-Y];exact run_loadCells_list w b cs (hc b rfl)
   have:=a6b l ByteArray.empty
   have e1:b4V l=((l.foldl (fun r n=>r.push (UInt8.ofNat n.toNat)) ByteArray.empty).data.toList.map fun b=>(b.toNat:Int)):=by
    exact(this.trans (E9 _)).symm
   simp_all[AA.vV]
 simp_all
theorem Vh{b:Builtin}(h:o.op=.call c)(hb:c.callee=.builtin b):
  ∃cs,(execOp a.eval o).run P w=(builtin b c.argTypes o.type cs (c.args.map a.eval)).run P w:=by
 exact⟨_,by simp[execOp,h,resolve,hb,invoke];rfl⟩
theorem b1x{o:Oper}{c:Call}{d:Nat}{cx:Cx}{q:Bool}{K:AE->Rs Z}{z:Z}(e:CxTy P cx)(u:o.op=.call c)(hb:c.callee=.builtin .len)(r:o.dst=some d)
  (h:sK B U N (AJ a) w M)(v:a.tmps.size=N)(A:fits N o=true)(g:Bk cx q o U K=some z):AZ P B N o a w K z:=by
 obtain⟨D,k⟩:=Vh (P:=P) (a:=a) (w:=w) u hb;have f:=Bl A;have i:∃x,c.args.toList=[x]:=by
  cases i:c.args.toList with
  |nil=>simp_all[Bk,AE.uP]
  |cons x l=>
   cases l with
   |nil=>simp
   |cons y l=>simp_all[Bk,AE.uP]
 obtain⟨x,C⟩:=i;have b:c.args=#[x]:=by grind
 have p:Ch N x=true:=f x (by simp_all[Op.operands,Call.operands]);simp[Bk,u,r,hb,C,AE.uP]at g;cases ht:c.argTypes.toList.head? with
  |none=>
   simp_all[AE.vW]
  |some t=>
   rw[ht]at g;simp at g;obtain⟨n,g,E⟩:=a9u e h p g o.type;have m:c.argTypes[0]?=some t:=by
    rw[<-B8];cases i:c.argTypes.toList with
    |nil=>simp_all
    |cons y l=>simp_all
   refine AZ.set r v (k.trans ?_) h (AA.tH _) g;have j:Builtin.len_ c.argTypes o.type #[a.eval x]=Builtin.len_ #[t] o.type #[a.eval x]:=by
    simp[Builtin.len_,m]
   simp_all[builtin]
theorem b1y{o:Oper}{c:Call}{d:Nat}{cx:Cx}{q:Bool}{K:AE->Rs Z}{z:Z}(A:CxTy P cx)(m:o.op=.call c)(hb:c.callee=.builtin .cap)(p:o.dst=some d)
  (h:sK B U N (AJ a) w M)(F:a.tmps.size=N)(G:fits N o=true)(k:Bk cx q o U K=some z):AZ P B N o a w K z:=by
 obtain⟨O,u⟩:=Vh (P:=P) (a:=a) (w:=w) m hb;have r:=Bl G;have i:∃x,c.args.toList=[x]/\U.sM x=.nils:=by
  cases i:c.args.toList with
  |nil=>simp only[Bk,m,p,hb,i,E8,AE.uP]at k;cases k
  |cons x l=>
   cases l with
   |nil=>
    refine⟨x,rfl,?_⟩;cases n:U.sM x<;>first|rfl|(simp only[Bk,m,p,hb,i,B7,E8,AE.uP,n]at k;cases k)
   |cons y l=>
    simp only[Bk,m,p,hb,i,B7,AE.uP]at k;cases n:U.sM x<;>(rw[n]at k;cases k)
 obtain⟨x,n,j⟩:=i;have f:c.args=#[x]:=by rw[<-Array.toList_inj];simpa using n
 have E:Ch N x=true:=r x (by simp[m,Op.operands,hb,f,Call.operands]);simp only[Bk,m,p,hb,n,B7,E8,AE.uP,j]at k;have v:=h.sM E;rw[j]at v;obtain v:a.eval x=.slice none 0 0:=v;rcases Ah k with⟨b,k⟩|⟨-,g⟩
 ·cases ht:c.argTypes.toList.head? with
  |none=>rw[ht]at b;cases b
  |some t=>
   rw[ht]at b;simp only[oB]at b;cases hc:cx.T t with
   |none=>rw[hc]at b;cases b
   |some τ=>
    rw[hc]at b;cases τ with
    |list o e=>
     obtain⟨H,D⟩:=A.T t _ hc;obtain⟨Q,L,I,-⟩:=BQ D;have C:c.argTypes[0]?=some t:=by
      rw[<-B8];cases i:c.argTypes.toList with
      |nil=>rw[i]at ht;cases ht
      |cons y l=>rw[i]at ht;simpa using ht
     exact AZ.set p F (u.trans (by simp[builtin,f,v,Builtin.cap_,C,run_underlying L,goInt])) h (AA.tH _) k
    |_=>cases b
 cases g
theorem Vi{b:Builtin}(g:o.op=.call c)(hb:c.callee=.builtin b)(h:fits N o=true):∀y∈c.args.toList,Ch N y=true:=fun y f=>
 Bl h y (by simp_all[Op.operands,Call.operands])
theorem b1z{o:Oper}{c:Call}{d:Nat}{cx:Cx}{q:Bool}{K:AE->Rs Z}{z:Z}(m:o.op=.call c)(hb:c.callee=.builtin .max)(p:o.dst=some d)
  (h:sK B U N (AJ a) w M)(A:a.tmps.size=N)(C:fits N o=true)(e:Bk cx q o U K=some z):AZ P B N o a w K z:=by
 obtain⟨E,i⟩:=Vh (P:=P) (a:=a) (w:=w) m hb;have b:=Vi m hb C;cases hl:c.args.toList with
 |nil=>simp_all[Bk,AE.uP]
 |cons x l=>
  simp[Bk,m,p,hb,hl,AE.uP]at e;split at e;all_goals first|(rename_i j;cases j;done)|(rename_i j _;cases j;done)|(cases e;done)|skip
  rename_i k n r j v;have t:=h.sM (b x (by simp_all));obtain⟨u,rfl⟩:=List.cons.inj v;rw[u]at t;obtain⟨r,e,F⟩:=Zj (P:=P) (f:=EA) (g:=Builtin.max2) (k:=k) (fun x y w=>by simp[Builtin.max2,EA]) l n h (fun y G=>b y (by simp_all)) e;refine AZ.set p A (i.trans ?_) h (AA.tH _) e;have D:(c.args.map a.eval).toList=a.eval x::l.map a.eval:=by simp_all
  simp only[builtin,Builtin.max_,D,AA.int t,Sem.run_bind];simp_all
theorem b1A{o:Oper}{c:Call}{d:Nat}{cx:Cx}{q:Bool}{K:AE->Rs Z}{z:Z}(m:o.op=.call c)(hb:c.callee=.builtin .min)(p:o.dst=some d)
  (h:sK B U N (AJ a) w M)(A:a.tmps.size=N)(C:fits N o=true)(e:Bk cx q o U K=some z):AZ P B N o a w K z:=by
 obtain⟨E,i⟩:=Vh (P:=P) (a:=a) (w:=w) m hb;have b:=Vi m hb C;cases hl:c.args.toList with
 |nil=>simp_all[Bk,AE.uP]
 |cons x l=>
  simp[Bk,m,p,hb,hl,AE.uP]at e;split at e;all_goals first|(rename_i j;cases j;done)|(rename_i j _;cases j;done)|(cases e;done)|skip
  rename_i k n r j v;have t:=h.sM (b x (by simp_all));obtain⟨u,rfl⟩:=List.cons.inj v;rw[u]at t;obtain⟨r,e,F⟩:=Zj (P:=P) (f:=GZ) (g:=Builtin.min2) (k:=k) (fun x y w=>by simp[Builtin.min2,GZ]) l n h (fun y G=>b y (by simp_all)) e;refine AZ.set p A (i.trans ?_) h (AA.tH _) e;have D:(c.args.map a.eval).toList=a.eval x::l.map a.eval:=by simp_all
  simp only[builtin,Builtin.min_,D,AA.int t,Sem.run_bind];simp_all
end
open IntKind renaming wrap->zD
theorem Rl{m:DJ}:∀(p:BN)(t:Ty)(s:Src){x O R l b o y O' R'},AO m t (s.rd m)=some (x,O,R)->loc m t s p=some (l,.at b o)->AO m l ((Src.at b o).rd m)=some (y,O',R')->
  (O.map (·.1)).Nodup->(∀c∈O.map (·.1),s.vZ c)->b∉O'.map (·.1)
 | [],t,s,x,O,R,l,b,o,y,O',R',h,g,d,f,k=>by
  simp[Cj]at g;obtain⟨rfl,rfl⟩:=g;rw[h]at d;simp at d;obtain⟨-,rfl,-⟩:=d;exact fun hb=>k b hb rfl
 |.fst::p,t,s,x,O,R,l,b,o,y,O',R',h,g,d,f,k=>by
  obtain⟨a,C,r,u,rfl,rfl,g⟩:=LD g;obtain⟨U,N,S,V,P,T,D,z,rfl,rfl,rfl⟩:=CP h;simp only[pA]at f k;exact Rl p a (.at r u) D g d (C1.1 f).1 (fun c e=>k c (D2 _ e))
 |.snd::p,t,s,x,O,R,l,b,o,y,O',R',h,g,d,f,k=>by
  obtain⟨a,C,r,u,rfl,rfl,g⟩:=LF g;obtain⟨U,N,S,V,P,T,D,z,rfl,rfl,rfl⟩:=CP h;rw[MI]at z;simp only[pA]at f k;exact Rl p C (.at r (u+a.cells)) z g d (C1.1 f).2.1 (fun c e=>k c (E1 _ e))
 |.idx i::p,t,s,x,O,R,l,b,o,y,O',R',h,g,d,f,k=>by
  rcases Kq g with⟨n,B,r,u,rfl,rfl,A,g⟩|⟨B,a,n,c,rfl,j,A,g⟩;simp[AO,MI]at h;obtain⟨X,M,Q,F,G,v,w,q,-,rfl,rfl⟩:=Bf n 0 i h A;simp at q;simp only[pA]at f k;exact Rl p B _ q g d (C1.1 (C1.1 f).2.1).1 (fun c e=>k c (E1 _ (D2 _ e)));rcases Cr h with⟨E,-⟩|⟨Y,L,Z,os,E,ha,H,K,I⟩;simp_all;rw[E]at j;simp at j;obtain⟨rfl,rfl,rfl⟩:=j;obtain⟨X,M,Q,F,G,v,w,q,-,rfl,rfl⟩:=Bf L 0 i K A;simp at q;rcases I with⟨e,-⟩|⟨-,rfl⟩;omega;simp only[pA,B7,A9]at f k;exact Rl p B _ q g d (C1.1 (C1.1 f.2).2.1).1 (fun c e=>by
   rintro rfl;simp_all)
section
variable {P:Program} {B:Base} {N:Nat} {Z:Type} {U:AE} {a:Act} {w:World} {M:Gh}
theorem sK.own{tm}(h:sK B U N tm w M){n p v r}(L:AA (Ad w M.ov) M.g U.rt (Be B w M) (.sref n p) v)(D:U.rt n=some r)(O:Dc r.t r.x p=⟨.list true e,l⟩):
  ∃s f k,loc (Ad w M.ov) r.t (M.g n) p=some (.list true e,s)/\s.rd (Ad w M.ov) 0=some v/\AO (Ad w M.ov) (.list true e) (s.rd (Ad w M.ov))=some (l,f,k)/\
   AO (Ad w M.ov) (.list true e) ((Src.one v).rd (Ad w M.ov))=some (l,f,k)/\(∀c∈k,Be B w M c)/\(∀q∈f,q∈M.ow n)/\(f.map (·.1)).Nodup/\(∀b o,s=.at b o->b∉f.map (·.1)):=by
 obtain⟨r',I,s,i,m,C⟩:=L;rw[D]at i;simp at i;subst i;obtain⟨H,V,F,R,z,k4,k5,k6⟩:=h.sep D;obtain⟨y,f,k,A,T,S,G,d,a,X,Y⟩:=BU p r.t _ F m;rw[O]at a;have K:e=I:=by grind
 subst K;have a:=eq_of_heq (Sigma.mk.inj a).2;subst a;have E:∀q∈f,q∈H:=fun q P=>by simp_all
 refine⟨s,f,k,m,C,d,AF _ d (fun j hj=>?_) (fun _ _ _=>rfl),fun c Z=>R c (by simp_all),fun q P=>?_,?_,fun b o Q=>?_⟩;have u:j=0:=by simp_all[Ty.cells]
 subst u;rw[C];rfl;grind
 have:=z.nodup
 grind;subst Q;exact Rl p r.t _ F m d z.nodup z.src
theorem Ua{l1 l2:List e.sJ}{cs1 cs2 rest:List Value}{n1 n2:Nat}{o1 o2 R1 R2}(a:Ak (fun i=>AO m e fun j=>cs1[i*e.cells+j]?) n1 0=some (l1,o1,R1))(g:cs1.length=n1*e.cells)(b:Ak (fun i=>AO m e fun j=>cs2[i*e.cells+j]?) n2 0=some (l2,o2,R2))(f:cs2.length=n2*e.cells):
  Ak (fun i=>AO m e fun j=>(cs1++(cs2++rest))[i*e.cells+j]?) (n1+n2) 0=some (C3 l1 l2,o1++o2,R1++R2):=by
 have a1:Ak (fun i=>AO m e fun j=>(cs1++(cs2++rest))[i*e.cells+j]?) n1 0=some (l1,o1,R1):=by
  refine AF (.arr n1 e) (show AO m (.arr n1 e) (fun j=>cs1[j]?)=_ from a) (rd':=fun j=>(cs1++(cs2++rest))[j]?) (fun j h=>?_) (fun _ _ _=>rfl);exact A8 (by rw[g];exact h)
 have d:Ak (fun i=>AO m e fun j=>(cs1++(cs2++rest))[i*e.cells+j]?) n2 n1=some (l2,o2,R2):=by
  have c:∀(k i:Nat),i+k<=n2->Ak (fun i=>AO m e fun j=>(cs1++(cs2++rest))[i*e.cells+j]?) k (n1+i)=Ak (fun i=>AO m e fun j=>(cs2++rest)[i*e.cells+j]?) k i:=by
   intro k
   induction k with
   |zero=>intro i _;rfl
   |succ k o=>
    intro i n;have l:(fun j=>(cs1++(cs2++rest))[(n1+i)*e.cells+j]?)=fun j=>(cs2++rest)[i*e.cells+j]?:=by
     grind
    grind[Ak]
  have:=c n2 0 (by omega)
  rw[Nat.add_zero]at this;rw[this];refine AF (.arr n2 e) (show AO m (.arr n2 e) (fun j=>cs2[j]?)=_ from b) (rd':=fun j=>(cs2++rest)[j]?) (fun j h=>?_) (fun _ _ _=>rfl);exact A8 (by rw[f];exact h)
 have:=TO n1 n2 0 a1 (by rw[C2];omega)
 omega
theorem a2J{cx:Cx}(g:CxTy P cx)(h:gO cx ts.toList=true):ts[1]?=none\/∃t2,ts[1]?=some t2/\(P.underlying t2=some .string\/∃e,P.underlying t2=some (.slice e)):=by
 rw[<-B8];unfold gO at h;split at h;simp_all;rename_i t2 _ k;rw[k];refine .inr ⟨t2,rfl,?_⟩;split at h;rename_i f;obtain⟨e,a,-⟩:=BQ (g.T _ _ f).2;simp_all;rename_i f;exact .inl (TX (g.T _ _ f).2);simp_all;simp_all
theorem Hw{ty:TypeId}{x:Value}(I:vG P e t')(i:ts[0]?=some t)(j:P.underlying t=some (.slice t'))(a:ts[1]?=none\/∃t2,ts[1]?=some t2/\(P.underlying t2=some .string\/∃e,P.underlying t2=some (.slice e))){c k:Nat}{new:List Value}(g:(Builtin.lenOf x).run P w=.ok k w)(f:(Builtin.firstCells e.cells k x).run P w=.ok new.toArray w)(h:n+k<=c)(m:∀b,A=some b->(storeCells (b.add (n*e.cells)) new).run P w=.ok () w2)(l:A=none->w2=w):
  (Builtin.append_ ts ty #[.slice A n c,x]).run P w=.ok (.slice A (n+k) c) w2:=by
 have q:∀A,(A=none->w2=w)->(∀b,A=some b->(storeCells (b.add (n*e.cells)) new).run P w=.ok () w2)->(Builtin.append_ ts ty #[.slice A n c,x]).run P w=.ok (.slice A (n+k) c) w2:=by
  intro A l m;cases A with
  |none=>
   have:=l rfl
   subst this;rcases a with a|⟨t2,a,d|⟨p,d⟩⟩;simp[Builtin.append_,i,a,run_underlying j,I.sizeOf,g,h,f];simp[Builtin.append_,i,a,run_underlying j,run_underlying d,I.sizeOf,g,h,f];simp[Builtin.append_,i,a,run_underlying j,run_underlying d,I.sizeOf,g,h,f]
  |some b=>
   have o:=m b rfl;rcases a with a|⟨t2,a,d|⟨p,d⟩⟩;simp[Builtin.append_,i,a,run_underlying j,I.sizeOf,g,h,f,o];simp[Builtin.append_,i,a,run_underlying j,run_underlying d,I.sizeOf,g,h,f,o];simp[Builtin.append_,i,a,run_underlying j,run_underlying d,I.sizeOf,g,h,f,o]
 simp_all
theorem MP{ty:TypeId}{x:Value}(I:vG P e t')(l:ts[0]?=some t)(q:P.underlying t=some (.slice t'))(d:ts[1]?=none\/∃t2,ts[1]?=some t2/\(P.underlying t2=some .string\/∃e,P.underlying t2=some (.slice e))){c k:Nat}{old new:List Value}(h:(Builtin.lenOf x).run P w=.ok k w)(g:(Builtin.firstCells e.cells k x).run P w.drew=.ok new.toArray w.drew)(f:(Builtin.firstCells e.cells n (.slice A n c)).run P w.drew=.ok old.toArray w.drew)(u:c<n+k)(j:n+k<2147483648):
  (Builtin.append_ ts ty #[.slice A n c,x]).run P w=.ok (.slice (some ⟨w.heap.size,0,none⟩) (n+k) (grownCap w (n+k) c t'))
   (w.drew.alloc (.cells (old++(new++(Builtin.zeroCells I.z.cells (grownCap w (n+k) c t'-(n+k))).toList)).toArray t')):=by
 have p:¬ (n+k<=c):=by omega
 have o:Builtin.nextslicecap (n+k) c*I.i.bytes<=281474976710656:=growslice_fits u (by
  have:=F1 (F3 j) I.bytes
  omega)
 have a:¬ (281474976710656<Builtin.nextslicecap (n+k) c*I.i.bytes):=by omega
 have b:¬ (9223372036854775807<((n:Int)+(k:Int))):=by omega
 have r:∀X Y:Array Value,X.toList=Y.toList->w.drew.alloc (Obj.cells X t')=w.drew.alloc (Obj.cells Y t'):=fun X Y e=>by simp_all
 rcases d with d|⟨t2,d,m|⟨v,m⟩⟩;simp[Builtin.append_,l,d,run_underlying q,I.sizeOf,I.typeInfo,I.zeroValue,h,p,g,f,a,b,Question.forced,newRow,grownCap];grind;simp[Builtin.append_,l,d,run_underlying q,run_underlying m,I.sizeOf,I.typeInfo,I.zeroValue,h,p,g,f,a,b,Question.forced,newRow,grownCap];grind;simp[Builtin.append_,l,d,run_underlying q,run_underlying m,I.sizeOf,I.typeInfo,I.zeroValue,h,p,g,f,a,b,Question.forced,newRow,grownCap];grind
theorem Zl{t2 ty:TypeId}(I:vG P e t')(j:ts[0]?=some t)(p:P.underlying t=some (.slice t'))(l:ts[1]?=some t2)(m:P.underlying t2=some (.int .i64))(d:0<e.cells)(o:0<n)(h:n<2147483648):
  (Builtin.append_ ts ty #[.slice none 0 0,.int .i64 (n:Int)]).run P w=.ok (.slice (some ⟨w.heap.size,0,none⟩) n (grownCap w n 0 t'))
   (w.drew.alloc (.cells (([]:List Value)++((Builtin.zeroCells I.z.cells n).toList++(Builtin.zeroCells I.z.cells (grownCap w n 0 t'-n)).toList)).toArray t')):=by
 have b:Builtin.nextslicecap n 0*I.i.bytes<=281474976710656:=growslice_fits o (by
  have:=F1 (F3 h) I.bytes
  omega)
 have hb:n*I.i.bytes<=281474976710656:=D1 (F1 (F3 h) I.bytes) (by simp);have f:¬ (281474976710656<Builtin.nextslicecap n 0*I.i.bytes):=by omega
 have k:¬ (9223372036854775807<(n:Int)):=by omega
 have q:IntKind.i64.wrap (n:Int)=n:=by
  grind[zD,IntKind.bits]
 have g:¬ ((n:Int)<0):=by omega
 have a:¬ (281474976710656<(n:Int)*(I.i.bytes:Int)):=by omega
 have r:¬ (n*e.cells=0):=by grind[Nat.mul_eq_zero]
 have c:¬ (n=0):=by omega
 simp[Builtin.append_,j,l,run_underlying p,run_underlying m,I.sizeOf,I.typeInfo,I.zeroValue,asInt,asIntOf,q,g,a,r,c,f,k,Question.forced,newRow,grownCap,Builtin.firstCells];exact congrArg (fun X=>w.drew.alloc (Obj.cells X t')) (Array.ext' (by simp))
end
theorem a8k(A:e.sh=e){O R}(h:AO m (.list true e) ((Src.one v).rd m)=some (l,O,R)):
  (v=.slice none 0 0/\l=[]/\O=[]/\R=[])\/∃b n c,∃cs:List Value,v=.slice (some b) n c/\(c=0\/b.spot=none)/\n<=c/\n=l.length/\O=(if c=0 then[]else[(b.block,b.off+c*e.cells)])/\
   cs.length=n*e.cells/\(∀j u,cs[j]?=some u->m b.block (b.off+j)=some u)/\(∀u∈cs,Cd u=true)/\Ak (fun i=>AO m e fun j=>cs[i*e.cells+j]?) n 0=some (l,[],R):=by
 rcases Cr h with⟨k,x,y,z⟩|⟨b,n,c,a,k,hb,o,p,B⟩;simp_all[Src.rd];simp[Src.rd]at k;have g:Ak (fun i=>AO m e fun j=>m b.block (b.off+(i*e.cells+j))) n 0=some (l,a,R):=by simp_all[gR]
 have f:a=[]:=by
  have d:AO m (.arr n e) (fun j=>m b.block (b.off+j))=some (l,a,R):=g;exact Pk (by simp_all[Ty.tL]) d
 subst f;obtain⟨cs,q,r,t,w⟩:=Rk g;refine .inr ⟨b,n,c,cs,k,hb,o,(Bd n 0 p).symm,?_,q,r,t,w⟩;grind
theorem gA{m0:DJ}{b:Addr}{c:Nat}{cs:List Value}{os R}(hb:c=0\/b.spot=none)(g:n<=c)(k:n*e.cells<=cs.length)(p:∀j u,j<n*e.cells->cs[j]?=some u->m b.block (b.off+j)=some u)(a:Ak (fun i=>AO m0 e fun j=>cs[i*e.cells+j]?) n 0=some (l,os,R))(o:∀c∈R,∀j,m c j=m0 c j)(d:∀c∈os.map (·.1),∀j,m c j=m0 c j:=by simp):
  AO m (.list true e) ((Src.one (.slice (some b) n c)).rd m)=some (l,if c=0 then[]else(b.block,b.off+c*e.cells)::os,R):=by
 have h:AO m (.arr n e) (fun j=>m b.block (b.off+j))=some (l,os,R):=AF (.arr n e) (show AO m0 (.arr n e) (fun j=>cs[j]?)=_ from a) (fun j f=>by
  have f:j<n*e.cells:=f;grind) (fun c j hb=>by
  grind)
 have h:Ak (fun i=>AO m e fun j=>m b.block (b.off+(i*e.cells+j))) n 0=some (l,os,R):=h;show Cn m true e.cells (AO m e) (some (.slice (some b) n c))=_;simp only[Cn];rw[if_pos ⟨hb,g⟩,h]
 simp
 split;all_goals simp_all[Ak]
theorem iE{m:DJ}:∀(p:BN)(t:Ty)(s:Src){g s'},loc m t s p=some (g,s')->p≠[]->∃b o,s'=.at b o
 | [],_,_,_,_,_,j=>absurd rfl j
 |.fst::p,t,s,g,s',h,_=>by
  obtain⟨a,d,f,k,rfl,rfl,h⟩:=LD h;cases p with
  |nil=>simp[Cj]at h;grind
  |cons x p=>exact iE (x::p) _ _ h (by simp)
 |.snd::p,t,s,g,s',h,_=>by
  obtain⟨a,d,f,k,rfl,rfl,h⟩:=LF h;cases p with
  |nil=>simp[Cj]at h;grind
  |cons x p=>exact iE (x::p) _ _ h (by simp)
 |.idx i::p,t,s,g,s',h,_=>by
  rcases Kq h with⟨n,q,f,k,rfl,rfl,e,h⟩|⟨q,a,n,c,rfl,l,e,h⟩
  ·cases p with
   |nil=>simp[Cj]at h;grind
   |cons x p=>exact iE (x::p) _ _ h (by simp)
  ·cases p with
   |nil=>simp[Cj]at h;grind
   |cons x p=>exact iE (x::p) _ _ h (by simp)
theorem MQ(r:Option sO):(U.sF n r).rt n=r:=by simp[AE.sF]
section
variable {P:Program} {B:Base} {N:Nat} {Z:Type} {U:AE} {a:Act} {w:World} {M:Gh}
structure xV (P:Program) (w:World) (m:DJ) (Sh:Nat->Prop) (e:Ty) (ys:List e.sJ) (x:Value) where
 cs:List Value
 len:(Builtin.lenOf x).run P w=.ok ys.length w
 size:cs.length=ys.length*e.cells
 one:∀u∈cs,Cd u=true
 R:List Nat
 rd:Ak (fun i=>AO m e fun j=>cs[i*e.cells+j]?) ys.length 0=some (ys,[],R)
 shr:∀c∈R,Sh c
 run:(Builtin.firstCells e.cells ys.length x).run P w=.ok cs.toArray w
 drew:(Builtin.firstCells e.cells ys.length x).run P w.drew=.ok cs.toArray w.drew
theorem sK.turn{K:AE->Rs Z}{z:Z}{l':List e.sJ}{v':Value}{s R R' O2 R2}(h:sK B U N (AJ a) w M)(hN:a.tmps.size=N)(P:U.look n=some r)(hl:loc (Ad w M.ov) r.t (M.g n) p=some (.list true e,s))(hg:Dc r.t r.x p=⟨.list true e,l⟩)(hv:s.rd (Ad w M.ov) 0=some v)(hd:AO (Ad w M.ov) (.list true e) (s.rd (Ad w M.ov))=some (l,R,R'))(h4:∀q∈R,q∈M.ow n)(k0:∀b o,s=.at b o->b∉R.map (·.1))(h7:AO (Ad w2 none) (.list true e) ((Src.one v').rd (Ad w2 none))=some (l',O2,R2))(g5:∀c j,Ad w2 none c j=Ad w none c j\/c∈R.map (·.1)\/w.heap.size<=c)(H:∀c∈O2.map (·.1),c∈R.map (·.1)\/w.heap.size<=c)(h0:(O2.map (·.1)).Nodup)(A:∀p∈O2,BY w2 p.1 p.2)(y:∀c k,BY w c k->BD M c->BY w2 c k)(L:w.heap.size<=w2.heap.size)(Y:∀b,b<B.size->¬ B.F b->w2.heap[b]?=B.hp b)(T:∀c∈R2,Be B w M c)(D:(let u:=((U.sI (AV.kill n p)).sF n (some ⟨r.bx,r.t,Fc r.t r.x p (.list true e) l'⟩)).set d (.sref n p)
   match p,r.bx with
   | [],false=>bif A6 (n<pinned)then K u else none
   |p,_=>match U.pd with
    |none=>K { u with pd:=some (n,p,d) }
    |some _=>none)=some z)(hio:FT w2=FT w:=by first|rfl|assumption):
  ∃u Q,sK B u N (AJ (a.put (some d) v')) w2 Q/\K u=some z:=by
 obtain⟨C,P⟩:=AX P;have k1:=h.sZ C;have E:∀c∈R2,c<w2.heap.size/\(B.S c\/B.F c\/B.size<=c)/\¬ BD M c/\c∉O2.map (·.1):=fun c I=>by
  have hs:=T c I;refine⟨C0 hs.1 L,hs.2.1,hs.2.2,fun g=>?_⟩;rcases H c g with g|g;obtain⟨q,hq,rfl⟩:=B6.1 g;exact hs.2.2 ⟨n,A3 (h4 q hq)⟩
  have:=hs.1;omega
 have top:p=[]->r.bx=false->∃u Q,sK B u N (AJ (a.put (some d) v')) w2 Q/\K u=some z:=by
  intro hp X;subst hp;obtain⟨bx,t,x⟩:=r;simp only at X;subst X;simp[Dc,DW]at hg;cases hg;have D:(bif A6 (n<pinned)then K (((U.sI (AV.kill n [])).sF n (some ⟨false,.list true e,Fc (.list true e) l [] (.list true e) l'⟩)).set d (.sref n []))else none)=some z:=D;obtain⟨h3,D⟩:=(Ah D).elim id fun h=>by grind
  have h3:n<pinned:=by simp_all
  have g6:Fc (.list true e) l [] (.list true e) l'=l':=gS _ _ _;replace D:K (((U.sI (AV.kill n [])).sF n (some ⟨false,.list true e,l'⟩)).set d (.sref n []))=some z:=by
   simp_all
  have i:=h.top P h3 C (w':=w2) (v':=v') (l':=l') (by grind) (fun c j I hn=>by
    grind) (fun c I=>(H c I).imp (fun g=>by
     grind) id) h0 A y L Y E (f:=AV.kill n []) (fun av=>by
    cases av with
    |ptr m q=>
     simp only[AV.kill];by_cases hm:m=n
     ·subst hm;cases q with
      |nil=>simp
      |cons=>left;simp[Ig]
     simp_all
    |sref m q=>
     grind[AV.kill,Ig]
    |swin m q o k=>
     grind[AV.kill,Ig]
    |_=>exact .inr ⟨rfl,fun k q G _=>by rcases G with G|G|⟨_,_,G⟩<;>cases G⟩)
  refine⟨_,_,i.uN (sv:=.one (.sref n [])) (v:=v') hN (fun _=>⟨⟨false,.list true e,l'⟩,e,.one v',MQ _,?_,rfl⟩),D⟩;show some (_,if n=n then Src.one v' else _)=_
  simp
 have g0:(∃b o,s=.at b o)->K { (((U.sI (AV.kill n p)).sF n (some ⟨r.bx,r.t,Fc r.t r.x p (.list true e) l'⟩)).set d (.sref n p))with pd:=some (n,p,d) }=some z->
   ∃u Q,sK B u N (AJ (a.put (some d) v')) w2 Q/\K u=some z:=by
  rintro⟨b,o,rfl⟩ D;have hb:=h.place P hl;have V:BD M b:=⟨n,hb⟩;have g4:=h.lt V;have g2:b∉O2.map (·.1):=fun g=>by
   grind
  have g3:b∉R2:=fun g=>(T b g).2.2 V;have h9:∀c j,c≠b->Ad w2 (some (b,o,v')) c j=Ad w2 none c j:=fun c j I=>by
   simp_all[Ad]
  have h8:AO (Ad w2 (some (b,o,v'))) (.list true e) ((Src.at b o).rd (Ad w2 (some (b,o,v'))))=some (l',O2,R2):=AF _ h7 (fun j hj=>by
   simp_all[Ty.cells,Src.rd,Ad]) (fun c j I=>h9 c j fun e=>by
    simp_all)
  obtain⟨k3,k2,i⟩:=h.yY P hl hd (w':=w2) (ov':=some (b,o,v')) (pd':=some (n,p,d)) (.new d v' e C rfl) h8 (fun c j=>by
    by_cases I:c=b/\j=o;simp_all[Ty.cells];have e1:Ad w2 (some (b,o,v')) c j=Ad w2 none c j:=by
     simp_all[Ad]
    grind) H h0 A y L Y E (f:=AV.kill n p) (fun av=>Wt n p _ av)
  obtain⟨g1,h5,G,h2⟩:=i.pend;exact⟨_,_,i.uN (sv:=.one (.sref n p)) (v:=v') hN (fun _=>⟨g1,h5,.at b o,G,h2,by simp[Src.rd,Ad]⟩),D⟩
 cases p with
 |nil=>
  cases hb:r.bx with
  |false=>
   simp_all
  |true=>
   have O:(match U.pd with
    |none=>K { (((U.sI (AV.kill n [])).sF n (some ⟨r.bx,r.t,Fc r.t r.x [] (.list true e) l'⟩)).set d (.sref n []))with pd:=some (n,[],d) }
    |some _=>none)=some z:=by
    simp_all
   rw[C]at O;refine g0 ?_ O;simp[Cj]at hl;obtain⟨g7,g9,-,-,-,-,-,h6⟩:=h.sep P;grind
 |cons x p=>
  have O:(match U.pd with
   |none=>K { (((U.sI (AV.kill n (x::p))).sF n (some ⟨r.bx,r.t,Fc r.t r.x (x::p) (.list true e) l'⟩)).set d (.sref n (x::p)))with pd:=some (n,x::p,d) }
   |some _=>none)=some z:=D
  grind[iE]
end
section
variable {P:Program} {B:Base} {N:Nat} {Z:Type} {U:AE} {a:Act} {w:World} {M:Gh}
theorem JP(b:Nat):∀(h:List Value)(o:Nat)(w:World),FT (w.setCells b o h)=FT w
 | [],_,_=>rfl
 |v::r,o,w=>(JP b r (o+1) (w.setCell ⟨b,o,none⟩ v)).trans rfl
theorem Sm{z:Array Value}(n:Nat):Builtin.zeroCells z n=madeCells z (n*z.size):=rfl
theorem a9y(he:e.sh=e){ty:TypeId}(I:vG P e t')(h0:ts[0]?=some t)(H:P.underlying t=some (.slice t'))(h1:ts[1]?=none\/∃t2,ts[1]?=some t2/\(P.underlying t2=some .string\/∃e,P.underlying t2=some (.slice e))){s x:Value}{K:AE->Rs Z}{z:Z}(h:sK B U N (AJ a) w M)(hN:a.tmps.size=N)(h7:AA (Ad w M.ov) M.g U.rt (Be B w M) av s)(Y:xV P w (Ad w M.ov) (Be B w M) e ys x)(D:U.uF q d e av ys K=some z):
  ∃v w' T M',(Builtin.append_ ts ty #[s,x]).run P w=.ok v w'/\sK B T N (AJ (a.put (some d) v)) w' M'/\K T=some z:=by

 have k8:∀(l:List e.sJ)(n:Nat)(cs:List Value)(R:List Nat)(k0:List Value),cs.length=n*e.cells->Ak (fun i=>AO (Ad w M.ov) e fun j=>cs[i*e.cells+j]?) n 0=some (l,[],R)->
   Ak (fun i=>AO (Ad w M.ov) e fun j=>(cs++(Y.cs++k0)).toArray[i*e.cells+j]?) (n+ys.length) 0=some (C3 l ys,[],R++Y.R):=by
  intro l n cs R k0 hl E;simp only[C7];exact Ua E hl Y.rd Y.size
 have a6:∀k,(Builtin.zeroCells I.z.cells k).size=k*e.cells:=fun k=>by rw[Sm,size_madeCells,I.uZ]
 have b9:∀A:Option Addr,s=.slice A 0 0->(bif Bp ys.length then U.fresh q d ⟨false,.list true e,ys⟩ fun U=>K (U.set d (.sref d []))else none)=some z->
   ∃v w' T M',(Builtin.append_ ts ty #[s,x]).run P w=.ok v w'/\sK B T N (AJ (a.put (some d) v)) w' M'/\K T=some z:=by
  intro A hs D;subst hs;obtain⟨h3,D⟩:Bp ys.length=true/\_:=(Ah D).elim id fun h=>by grind
  simp[Bp]at h3;by_cases hk:ys.length=0
  ·have k9:Y.cs=[]:=A7.1 (by rw[Y.size,hk];omega);have hy:ys=[]:=A7.1 hk;have o:=Hw (P:=P) (w2:=w) (ty:=ty) I h0 H h1 (A:=A) (n:=0) (c:=0) Y.len Y.run (by omega) (fun b _=>by rw[k9];rfl) (fun _=>rfl);obtain⟨T,M',g1,g2,g3,g4,g5,g6⟩:=h.fresh D (fun _ _=>rfl) (B4 _) (s:=.one (.slice A (0+ys.length) 0)) (O:=[]) (by simp) (by simp) (by simp) ⟨[],[],by
    show Cn (Ad w M.ov) true e.cells (AO (Ad w M.ov) e) (some (.slice A (0+ys.length) 0))=some (ys,[],[]);rw[hk,hy];cases A with
    |none=>rfl
    |some b=>rfl,by simp,.inr ⟨rfl,⟨_,rfl⟩,⟨e,rfl⟩,rfl⟩⟩
   exact⟨_,w,_,M',o,g2.uN (sv:=.one (.sref d [])) hN (fun _=>⟨_,e,_,g3,by rw[g4];rfl,rfl⟩),g1⟩
  have h5:(Builtin.firstCells e.cells 0 (.slice A 0 0)).run P w.drew=.ok ([]:List Value).toArray w.drew:=by
   have:=OY (P:=P) (w:=w) (w2:=w.drew) (e:=e) (v:=.slice A 0 0) (cs:=[]) rfl (fun _=>rfl) (by simp) (by simp) (fun _=>rfl) 0 (by omega)
   simp_all
  have o:=MP (P:=P) (w:=w) (ty:=ty) I h0 H h1 (A:=A) (n:=0) (c:=0) Y.len Y.drew h5 (by omega) (by omega);have hg:=grownCap_ge w (0+ys.length) 0 t';obtain⟨T,M',g1,g2,g3,-,-⟩:=h.uV (c:=grownCap w (0+ys.length) 0 t') D (fun c E=>BG (w:=w.drew) _ c E) (BR (w:=w.drew) _)
   (Bu (w:=w.drew) (Obj.cells (([]:List Value)++(Y.cs++(Builtin.zeroCells I.z.cells (grownCap w (0+ys.length) 0 t'-(0+ys.length))).toList)).toArray t')) (.inl rfl) (by
    have:(([]:List Value)++(Y.cs++(Builtin.zeroCells I.z.cells (grownCap w (0+ys.length) 0 t'-(0+ys.length))).toList)).length=grownCap w (0+ys.length) 0 t'*e.cells:=by
     simp only[E9,lN,Y.size,E5,a6];rw[<-C5];simp_all
    simp_all) (by omega) (by
    have:=k8 [] 0 [] [] (Builtin.zeroCells I.z.cells (grownCap w (0+ys.length) 0 t'-(0+ys.length))).toList (by simp) rfl
    simp_all) Y.shr
  refine⟨_,_,_,M',o,g2.uN (sv:=.one (.sref d [])) hN (fun _=>?_),g1⟩;rw[C2]at g3|-;exact g3
 unfold AE.uF at D;split at D;have h7:s=.slice none 0 0:=h7;simp_all;obtain⟨A,hv⟩:=h7;simp_all
 ·rename_i n p;obtain⟨-,D⟩:q=false/\_:=by
   by_cases hq:q;rw[hq]at D;simp at D;exact⟨by simp_all,(Ah D).elim (fun h=>absurd h.1 hq) (·.2)⟩
  split at D
  ·rename_i r hr;obtain⟨b6,b7⟩:=AX hr;have g0:=h.sZ b6;split at D
   ·rename_i e' l hg;split at D
    ·rename_i b3;subst b3;obtain⟨h3,D⟩:Bp (C4 l+ys.length)=true/\_:=(Ah D).elim id fun h=>by grind
     simp[Bp]at h3;obtain⟨s',O',R',f1,f2,f3,f4,f5,f6,f7,f8⟩:=h.own h7 b7 hg;have g7:∀c∈R'++Y.R,Be B w M c:=fun c E=>(mA.1 E).elim (f5 c) (Y.shr c);have k6:∀c∈O'.map (·.1),BD M c:=fun c E=>by
      obtain⟨q,hq,rfl⟩:=B6.1 E;exact⟨n,A3 (f6 q hq)⟩

     have g9:∀(A:Option Addr)(f c:Nat)(cs:List Value),s=.slice A f c->f=C4 l->cs.length=f*e.cells->(∀b,A=some b->∀j u,cs[j]?=some u->w.cell? (b.add j)=some u)->(A=none->f=0)->
       Ak (fun i=>AO (Ad w M.ov) e fun j=>cs[i*e.cells+j]?) f 0=some (l,[],R')->c<f+ys.length->
       ∃v w' T M',(Builtin.append_ ts ty #[s,x]).run P w=.ok v w'/\sK B T N (AJ (a.put (some d) v)) w' M'/\K T=some z:=by
      intro A f c cs hs a4 F C k5 Q b4;subst hs;have h5:(Builtin.firstCells e.cells f (.slice A f c)).run P w.drew=.ok cs.toArray w.drew:=by
       have:=OY (P:=P) (w:=w) (w2:=w.drew) (e:=e) (v:=.slice A f c) (cs:=cs) rfl (fun _=>rfl) F C k5 f (B4 _)
       grind
      have o:=MP (P:=P) (w:=w) (ty:=ty) I h0 H h1 (A:=A) (n:=f) (c:=c) Y.len Y.drew h5 b4 (by omega);have k4:=grownCap_ge w (f+ys.length) c t';generalize hw2:w.drew.alloc _=w2 at o;generalize hgc:grownCap w (f+ys.length) c t'=gc at o k4;have h6:∀c,c<w.heap.size->w2.heap[c]?=w.heap[c]?:=fun c E=>by rw[<-hw2];exact BG (w:=w.drew) _ c E
      have G:=Bu (w:=w.drew) (.cells (cs++(Y.cs++(Builtin.zeroCells I.z.cells (gc-(f+ys.length))).toList)).toArray t');have G:w2.heap[w.heap.size]?=some (.cells (cs++(Y.cs++(Builtin.zeroCells I.z.cells (gc-(f+ys.length))).toList)).toArray t'):=by
       rw[<-hw2,hgc];simp_all
      have a5:w.heap.size<=w2.heap.size:=by grind
      have a2:(cs++(Y.cs++(Builtin.zeroCells I.z.cells (gc-(f+ys.length))).toList)).length=gc*e.cells:=by
       simp[F,Y.size,a6];rw[<-C5,<-C5];grind
      have h2:=gA (m:=Ad w2 none) (m0:=Ad w M.ov) (b:=⟨w.heap.size,0,none⟩) (n:=f+ys.length) (c:=gc) (cs:=cs++(Y.cs++(Builtin.zeroCells I.z.cells (gc-(f+ys.length))).toList)) (.inr rfl) k4 (by
        rw[a2];exact D3 _ k4) (fun j u _ H=>by
        simp only[Ad,C2,World.cell?,G];grind) (by
        have:=k8 l f cs R' (Builtin.zeroCells I.z.cells (gc-(f+ys.length))).toList F Q
        simpa only[C7]using this) (fun c E j=>by
        rw[g0];exact BF none (h6 c (g7 c E).1) j)
      have a3:gc≠0:=by omega
      rw[if_neg a3]at h2;have k3:∀c k,BY w c k->BY w2 c k:=fun c k hf=>by
       obtain⟨cc,e1,lo,hi,g1,g2⟩:=hf;exact⟨cc,e1,lo,hi,by grind,g2⟩
      obtain⟨T,M',k1,k2⟩:=h.turn (w2:=w2) hN hr f1 hg f2 f3 f6 f8 h2 (fun c j=>by
        grind[BF]) (fun c E=>by
        grind) (by simp) (fun p hp=>by
        simp only[List.mem_singleton]at hp;subst hp;exact⟨_,t',0,0,G,by grind,.inl rfl⟩) (fun c k hf _=>k3 c k hf) a5 (fun b hb hF=>by
        have:=h.size
        rw[h6 b (by omega)];exact h.frame b hb hF) g7 D (hio:=by rw[<-hw2];rfl)
      grind
     rcases a8k he f4 with⟨hs,b5,c0,a8⟩|⟨b,f,c,cs,hs,hb,c2,a4,hO,F,C,b8,Q⟩;by_cases hk:ys.length=0;have k9:Y.cs=[]:=A7.1 (by rw[Y.size,hk];omega);have hy:ys=[]:=A7.1 hk;have o:=Hw (P:=P) (w2:=w) (ty:=ty) I h0 H h1 (A:=none) (n:=0) (c:=0) Y.len Y.run (by omega) (fun b hb=>by grind) (fun _=>rfl);subst hs;obtain⟨T,M',k1,k2⟩:=h.turn (w2:=w) (v':=.slice none (0+ys.length) 0) (O2:=[]) (R2:=[]) (l':=C3 l ys) hN hr f1 hg f2 f3 f6 f8 (by
       grind[C3]) (fun c j=>.inl rfl) (by simp) (by simp) (by simp) (fun _ _ hf _=>hf) (B4 _) h.frame (by simp) D
     grind;exact g9 none 0 0 [] hs (by grind) (by simp) (by simp) (fun _=>rfl) (by rw[b5,a8];rfl) (by omega)
     ·have h8:∀b',some b=some b'->∀j u,cs[j]?=some u->w.cell? (b'.add j)=some u:=fun b' V j u H=>by
       simp at V;subst V;have b0:c≠0:=fun e0=>by
        grind
       rw[TW (hb.resolve_left b0)]
       have:=C j u H
       rw[g0]at this;exact this
      by_cases hfit:f+ys.length<=c
      ·
       let w2:=w.setCells b.block (b.off+f*e.cells) Y.cs
       have h4:c≠0->BY w b.block (b.off+c*e.cells):=fun E=>h.live n (b.block,b.off+c*e.cells) (f6 _ (by grind));have k7:Y.cs≠[]->c≠0/\b.off+f*e.cells+Y.cs.length<=b.off+c*e.cells:=fun y=>by
        have:ys.length≠0:=fun e0=>y (A7.1 (by rw[Y.size,e0];omega))
        refine⟨by omega,?_⟩
        have:=D3 e.cells hfit
        rw[C5,<-Y.size]at this;omega
       have a7:(storeCells (b.add (f*e.cells)) Y.cs).run P w=.ok () w2:=by
        by_cases y:Y.cs=[];simp[w2,y];rfl;obtain⟨E,c1⟩:=k7 y;rw[Fp (hb.resolve_left E)]
        have:=run_storeCells_cells (P:=P) b.block (b.off+f*e.cells) Y.cs 0 w (fun j hj=>((h4 E).cell (by omega)).1) (fun j hj=>((h4 E).cell (by omega)).2) (fun u H=>Ks (Y.one u H))
        omega
       have h9:∀L j,w2.cell? ⟨L,j,none⟩=if L=b.block/\b.off+f*e.cells<=j/\j<b.off+f*e.cells+Y.cs.length then Y.cs[j-(b.off+f*e.cells)]? else w.cell? ⟨L,j,none⟩:=fun L j=>by
        by_cases y:Y.cs=[];simp only[w2,y,World.setCells,E4];grind;grind[JO]
       have o:=Hw (P:=P) (w2:=w2) (ty:=ty) I h0 H h1 (A:=some b) (n:=f) (c:=c) Y.len Y.run hfit (fun b' V=>by
        grind) (fun hn=>by grind)
       have S:∀L,L≠b.block->w2.heap[L]?=w.heap[L]?:=fun L X=>DX _ _ _ _ _ X;have a9:Y.cs≠[]->b.block∈O'.map (·.1):=fun y=>by grind
       have h2:=gA (m:=Ad w2 none) (m0:=Ad w M.ov) (b:=b) (n:=f+ys.length) (c:=c) (cs:=cs++(Y.cs++[])) (l:=C3 l ys) (R:=R'++Y.R) hb hfit (by
         simp only[lN,F,Y.size,E4];grind) (fun j u hj H=>by
         simp only[Ad,h9];by_cases hj2:j<f*e.cells;rw[if_neg (by omega)];rw[A8 (by omega)]at H
         have:=C j u H
         rw[g0]at this;exact this;rw[C5,<-Y.size]at hj;rw[if_pos ⟨trivial,by omega,by omega⟩];rw[B9 (by omega),G4,F]at H;rw[<-H];congr 1;omega) (by
         have:=k8 l f cs R' [] F Q
         simpa only[C7]using this) (fun L X j=>by
         rw[g0];by_cases y:Y.cs=[];grind[World.setCells];exact BF none (S L fun e1=>(g7 L X).2.2 (by grind)) j)
       rw[<-hO]at h2;subst hs;obtain⟨T,M',k1,k2⟩:=h.turn (w2:=w2) hN hr f1 hg f2 f3 f6 f8 h2 (fun L j=>by
         grind[World.setCells,BF]) (fun L X=>.inl X) f7 (fun p hp=>(h.live n p (f6 p hp)).setCells _ _ _) (fun _ _ hf _=>hf.setCells _ _ _) (by rw[HL];simp) (fun b' V hF=>by
         by_cases y:Y.cs=[];simp[w2,y,World.setCells];exact h.frame b' V hF
         ·rw[S b' ?_];exact h.frame b' V hF
          ·rintro rfl;rcases h.mine _ (k6 _ (a9 y))with g|g;all_goals grind) g7 D (hio:=JP _ _ _ _)
       grind
      exact g9 (some b) f c cs hs a4 F h8 (by simp) Q (by omega)
    simp_all
   simp_all
  simp_all
 simp_all
end
theorem a8l{O R}(h:AO m (.list true e) ((Src.one v).rd m)=some (l,O,R)):
  ∃A n c,∃cs:List Value,∃os,v=.slice A n c/\n=l.length/\n<=c/\cs.length=n*e.cells/\(∀u∈cs,Cd u=true)/\Ak (fun i=>AO m e fun j=>cs[i*e.cells+j]?) n 0=some (l,os,R)/\
   (∀b,A=some b->(c=0\/b.spot=none)/\O=(if c=0 then[]else(b.block,b.off+c*e.cells)::os)/\∀j u,cs[j]?=some u->m b.block (b.off+j)=some u)/\(A=none->c=0)/\(c=0->O=[]/\os=[]/\R=[]):=by
 rcases Cr h with⟨f,rfl,rfl,rfl⟩|⟨b,n,c,os,f,hb,p,q,z⟩;simp[Src.rd]at f;exact⟨none,0,0,[],[],f,rfl,B4 _,by simp,by simp,rfl,by simp,fun _=>rfl,fun _=>⟨rfl,rfl,rfl⟩⟩;simp[Src.rd]at f;have a:Ak (fun i=>AO m e fun j=>m b.block (b.off+(i*e.cells+j))) n 0=some (l,os,R):=by simp_all[gR]
 obtain⟨cs,r,B,t,w⟩:=Rk a;have d:c=0->os=[]/\R=[]:=fun k=>by
  simp_all[Ak]
 have y:O=if c=0 then[]else(b.block,b.off+c*e.cells)::os:=by
  grind
 exact⟨some b,n,c,cs,os,f,(Bd n 0 q).symm,p,r,t,w,fun x o=>by
  simp_all,fun g=>(by grind),fun k=>⟨by simp_all,(d k).1,(d k).2⟩⟩
section
variable {P:Program} {B:Base} {N:Nat} {Z:Type} {U:AE} {a:Act} {w:World} {M:Gh}
theorem sK.one{tm}(h:sK B U N tm w M){n}(d:U.rt n=some ⟨false,.list true e,l⟩):
  ∃v R,M.g n=.one v/\AO (Ad w M.ov) (.list true e) ((Src.one v).rd (Ad w M.ov))=some (l,M.ow n,R)/\∀c∈R,Be B w M c:=by
 obtain⟨i,R,f,a,-,-,-,b⟩:=h.sep d;rcases b with⟨g,-⟩|⟨-,⟨v,k⟩,-,hO⟩;grind;rw[k]at f;exact⟨v,R,k,by rw[hO];exact f,a⟩
theorem iF{m:Nat}{es:Ty}(e4:e.sh=es){ty:TypeId}(I:vG P es t')(h0:ts[0]?=some t)(hu:P.underlying t=some (.slice t'))(h1:ts[1]?=none\/∃t2,ts[1]?=some t2/\(P.underlying t2=some .string\/∃e,P.underlying t2=some (.slice e))){s x:Value}{K:AE->Rs Z}{z:Z}(h:sK B U N (AJ a) w M)(hN:a.tmps.size=N)(e6:M.g n=.one s)(e5:M.g m=.one x)(hm:U.rt m=some ⟨false,.list true e,ys⟩)(hz:U.wU d m e ys n K=some z):
  ∃v w' U' M',(Builtin.append_ ts ty #[s,x]).run P w=.ok v w'/\sK B U' N (AJ (a.put (some d) v)) w' M'/\K U'=some z:=by
 have a8:es.cells=e.cells:=by rw[<-e4,Ty.sW]
 unfold AE.wU at hz;split at hz;rotate_left;cases hz;rename_i e' l hl;split at hz;rotate_left;cases hz;rename_i e3;subst e3;obtain⟨c7,hr⟩:=AX hl;obtain⟨C,hz⟩:=(Ah hz).elim id fun h=>by cases h.2
 simp only[EV,Bp,dT,E6,beq_eq_false_iff_ne]at C;obtain⟨⟨f7,h3⟩,hlim⟩:=C;have h9:=h.sZ c7;obtain⟨s',Rn,g1,g2,g3⟩:=h.one hr;rw[e6]at g1;cases g1;obtain⟨x',Rm,f1,f2,f3⟩:=h.one hm;rw[e5]at f1;cases f1;obtain⟨An,S,cn,g0,h7,hs,f4,f6,k4,i3,f9,a5,g5,k5⟩:=a8l g2;obtain⟨Am,k0,cm,r,h6,hx,f0,c6,X,i0,c8,g9,h8,b5⟩:=a8l f2;subst hs;subst hx;have c9:∀{A:Option Addr}{cs:List Value}{c:Nat}{O os:CK},(∀b,A=some b->(c=0\/b.spot=none)/\O=(if c=0 then[]else(b.block,b.off+c*e.cells)::os)/\∀j u,cs[j]?=some u->Ad w M.ov b.block (b.off+j)=some u)->(∃n,cs.length=n*e.cells/\n<=c)->
   ∀b,A=some b->∀j u,cs[j]?=some u->w.cell? (b.add j)=some u:=fun {A cs c O os} hA ⟨n,hl,k7⟩ b hb j u hu=>by
  obtain⟨q1,-,q2⟩:=hA b hb;have a7:c≠0:=fun e0=>by
   have:=(lS.1 hu).1
   rw[hl,show n=0 from by omega,Nat.zero_mul]at this;omega
  rw[TW (q1.resolve_left a7)]
  have:=q2 j u hu
  rw[h9]at this;exact this
 have g7:∀(w2:World),(∀x,w2.cell? x=w.cell? x)->∀{A:Option Addr}{cs:List Value}{n c:Nat}{O os:CK},(∀b,A=some b->(c=0\/b.spot=none)/\O=(if c=0 then[]else(b.block,b.off+c*e.cells)::os)/\∀j u,cs[j]?=some u->Ad w M.ov b.block (b.off+j)=some u)->
   cs.length=n*e.cells->n<=c->(A=none->c=0)->(Builtin.firstCells es.cells n (.slice A n c)).run P w2=.ok cs.toArray w2:=fun w2 hw A cs n c O os hA hl k7 h0=>by
  have:=OY (P:=P) (w:=w) (w2:=w2) (e:=e) (v:=.slice A n c) rfl hw hl (c9 hA ⟨n,hl,k7⟩) (fun g=>by have:=h0 g;omega) n (B4 _)
  rw[<-hl,F7]at this;rw[a8];exact this
 have k8:(Builtin.lenOf (.slice Am k0 cm)).run P w=.ok k0 w:=rfl;have a2:∀b9,Ak (fun i=>AO (Ad w M.ov) e fun j=>(g0++(r++b9))[i*e.cells+j]?) (S+k0) 0=some (C3 l ys,h7++h6,Rn++Rm):=fun b9=>Ua f9 k4 c8 X;have a4:∀p∈h7,p∈M.ow n:=fun p D=>by
  by_cases e0:cn=0;rw[(k5 e0).2.1]at D;cases D
  ·cases hA:An with
   |none=>exact absurd (g5 hA) e0
   |some b=>rw[(a5 b hA).2.1,if_neg e0];exact A4 _ D
 have h5:∀p∈h6,p∈M.ow m:=fun p D=>by
  by_cases e0:cm=0;rw[(b5 e0).2.1]at D;cases D
  ·cases hA:Am with
   |none=>exact absurd (h8 hA) e0
   |some b=>rw[(g9 b hA).2.1,if_neg e0];exact A4 _ D
 have b3:∀p∈h7++h6,p∈M.ow n\/p∈M.ow m:=fun p D=>(mA.1 D).imp (a4 p) (h5 p);have b7:∀c∈(h7++h6).map (·.1),BD M c:=fun c C=>by
  obtain⟨p,D,rfl⟩:=B6.1 C;rcases b3 p D with g|g;exact⟨n,A3 g⟩;exact⟨m,A3 g⟩
 have d5:(h7.map (·.1)).Nodup:=by
  have:=h.nodup n
  by_cases e0:cn=0;rw[(k5 e0).2.1];simp
  ·cases hA:An with
   |none=>exact absurd (g5 hA) e0
   |some b=>rw[(a5 b hA).2.1,if_neg e0]at this;exact(A9.1 this).2
 have d4:(h6.map (·.1)).Nodup:=by
  have:=h.nodup m
  by_cases e0:cm=0;rw[(b5 e0).2.1];simp
  ·cases hA:Am with
   |none=>exact absurd (h8 hA) e0
   |some b=>rw[(g9 b hA).2.1,if_neg e0]at this;exact(A9.1 this).2
 have d3:((h7++h6).map (·.1)).Nodup:=by
  rw[pA];refine C1.2 ⟨d5,d4,fun c C L Q e=>?_⟩;subst e;obtain⟨p,D,rfl⟩:=B6.1 C;obtain⟨p',f8,e⟩:=B6.1 Q;exact h.sU n m h3 p.1 (A3 (a4 p D)) (by rw[<-e];exact A3 (h5 p' f8))
 have a3:∀c∈Rn++Rm,Be B w M c:=fun c C=>(mA.1 C).elim (g3 c) (f3 c)

 have c0:∀{w2:World}{v':Value}{O2:CK},AO (Ad w2 none) (.list true e) ((Src.one v').rd (Ad w2 none))=some (C3 l ys,O2,Rn++Rm)->
   (∀c j,c<w.heap.size->c∉(M.ow n).map (·.1)->Ad w2 none c j=Ad w none c j)->(∀c∈O2.map (·.1),(c∈(M.ow n).map (·.1)\/c∈(M.ow m).map (·.1))\/w.heap.size<=c)->(O2.map (·.1)).Nodup->
   (∀p∈O2,BY w2 p.1 p.2)->(∀c k,BY w c k->BD M c->BY w2 c k)->w.heap.size<=w2.heap.size->(∀b,b<B.size->¬ B.F b->w2.heap[b]?=B.hp b)->FT w2=FT w->
   ∃U' M',sK B U' N (AJ (a.put (some d) v')) w2 M'/\K U'=some z:=by
  intro w2 v' O2 q1 q2 q3 q4 q5 q6 q7 q8 q9;have b8:=h.yR (w':=w2) (v':=v') (l':=C3 l ys) (O2:=O2) (R2:=Rn++Rm) (G:=fun j=>j==m) hr f7 c7 (by simpa using h3) (by rw[h9];exact q1) (fun c j c1 c2 _=>by rw[h9];exact q2 c j c1 c2)
   (fun c C=>(q3 c C).imp (fun g=>g.imp id fun g=>⟨m,by simp,g⟩) id) q4 q5 q6 q7 q8 (fun c C=>by
    have hs:=a3 c C;refine⟨C0 hs.1 q7,hs.2.1,hs.2.2,fun g=>?_⟩;rcases q3 c g with(g|g)|g;exact hs.2.2 ⟨n,g⟩;exact hs.2.2 ⟨m,g⟩
    have:=hs.1;omega) (f:=fun av=>(av.kill n []).drop m) (fun av=>by
    have d7:(∀k q,(av=.ptr k q\/av=.sref k q\/∃o l,av=.swin k q o l)->False)->(av.kill n []).drop m=av->(av.kill n []).drop m=.dead\/((av.kill n []).drop m=av/\∀k q,(av=.ptr k q\/av=.sref k q\/∃o l,av=.swin k q o l)->(k=n->av=.ptr n [])/\(k==m)=false):=
     fun h1 h2=>.inr ⟨h2,fun k q hk=>(h1 k q hk).elim⟩
    cases av with
    |sref k q=>
     by_cases E:k=n;left;simp[AV.kill,AV.drop,E,Ig];by_cases e2:k=m;left;simp[AV.kill,AV.drop,e2,Ne.symm h3];right;simp[AV.kill,AV.drop,E,e2]
    |swin k q o l=>
     by_cases E:k=n;left;simp[AV.kill,AV.drop,E,Ig];by_cases e2:k=m;left;simp[AV.kill,AV.drop,e2,Ne.symm h3];right;simp[AV.kill,AV.drop,E,e2]
    |ptr k q=>
     by_cases e2:k=m;left;by_cases E:k=n;exact absurd (E.symm.trans e2) h3;simp[AV.kill,AV.drop,e2,Ne.symm h3]
     ·by_cases E:k=n
      ·cases q with
       |nil=>right;simp[AV.kill,AV.drop,E,h3,Ig]
       |cons=>left;simp[AV.kill,AV.drop,E,Ig]
      right;simp[AV.kill,AV.drop,E,e2]
    |_=>exact d7 (by rintro k q (g|g|⟨_,_,g⟩)<;>cases g) rfl) q9
  have d8:(⟨(U.sI fun av=>(av.kill n []).drop m).sl,fun j=>if j=n then some ⟨false,.list true e,C3 l ys⟩else bif j==m then none else U.rt j,none⟩:AE) =
    (((U.sI (AV.kill n [])).sI (AV.drop m)).sF m none).sF n (some ⟨false,.list true e,C3 l ys⟩):=by
   simp only[AE.sF,AE.sI,c7];congr 1;funext j;cases U.sl j<;>simp[SV.sI];funext j;by_cases E:j=n;simp[E];have e2:(j==n)=false:=by simpa using E
   simp[E,e2]
  rw[d8]at b8;refine⟨_,_,b8.uN (sv:=.one (.sref n [])) (v:=v') hN (fun _=>⟨_,e,.one v',MQ _,?_,rfl⟩),hz⟩;show some (_,if n=n then Src.one v' else _)=_
  rw[if_pos rfl]
 by_cases hfit:S+k0<=cn
 ·cases hA:An with
  |none=>
   have a7:=g5 hA;have c5:k0=0:=by omega
   have d2:S=0:=by omega
   have e9:C3 l ys=[]:=by
    have E:l=[]:=A7.1 (by omega);have e2:ys=[]:=A7.1 (by omega);rw[E,e2];rfl
   have i2:r=[]:=A7.1 (by rw[X,c5];omega);have d9:Rm=[]:=by
    subst c5;simp only[Ak,sj,pJ]at c8;exact c8.2.2.symm
   have V:=Hw (P:=P) (w:=w) (w2:=w) (ty:=ty) (A:=none) (n:=S) (c:=cn) (k:=k0) (new:=r) I h0 hu h1 k8 (g7 w (fun _=>rfl) g9 X c6 h8) hfit (fun b hb=>by cases hb) (fun _=>rfl);obtain⟨U',M',k1,k2⟩:=c0 (w2:=w) (v':=.slice none (S+k0) cn) (O2:=[]) (by
    rw[e9,c5,d2,a7,(k5 a7).2.2,d9];rfl) (fun _ _ _ _=>rfl) (by simp) (by simp) (by simp) (fun _ _ hf _=>hf) (B4 _) h.frame rfl
   exact⟨_,w,U',M',V,k1,k2⟩
  |some b=>
   obtain⟨hb,hO,c3⟩:=a5 b hA;obtain⟨w2,H⟩:∃w2,w2=w.setCells b.block (b.off+S*e.cells) r:=⟨_,rfl⟩;have g4:cn≠0->BY w b.block (b.off+cn*e.cells):=fun C=>h.live n (b.block,b.off+cn*e.cells) (by rw[hO,if_neg C];simp);have h4:r≠[]->cn≠0/\b.off+S*e.cells+r.length<=b.off+cn*e.cells:=fun y=>by
    have:k0≠0:=fun e0=>y (A7.1 (by rw[X,e0];omega))
    refine⟨by omega,?_⟩
    have:=D3 e.cells hfit
    rw[C5,<-X]at this;omega
   have b4:(storeCells (b.add (S*es.cells)) r).run P w=.ok () w2:=by
    rw[a8,H];by_cases y:r=[];simp only[y];rfl;obtain⟨C,k7⟩:=h4 y;rw[Fp (hb.resolve_left C)]
    have:=run_storeCells_cells (P:=P) b.block (b.off+S*e.cells) r 0 w (fun j hj=>((g4 C).cell (by omega)).1) (fun j hj=>((g4 C).cell (by omega)).2) (fun u hu=>Ks (i0 u hu))
    simpa using this
   have a9:∀L j,w2.cell? ⟨L,j,none⟩=if L=b.block/\b.off+S*e.cells<=j/\j<b.off+S*e.cells+r.length then r[j-(b.off+S*e.cells)]? else w.cell? ⟨L,j,none⟩:=fun L j=>by
    rw[H];by_cases y:r=[];simp only[y,World.setCells,E4];rw[if_neg (by omega)];obtain⟨C,k7⟩:=h4 y;exact JO _ _ _ w _ (g4 C) k7 L j
   have V:=Hw (P:=P) (w:=w) (w2:=w2) (ty:=ty) (A:=some b) (n:=S) (c:=cn) (k:=k0) (new:=r) I h0 hu h1 k8 (g7 w (fun _=>rfl) g9 X c6 h8) hfit (fun b' k3=>by
    simp only[sj]at k3;subst k3;exact b4) (fun hn=>by cases hn)
   have g6:∀L,L≠b.block->w2.heap[L]?=w.heap[L]?:=fun L Q=>by rw[H];exact DX _ _ _ _ _ Q
   have a6:r≠[]->b.block∈(M.ow n).map (·.1):=fun y=>by rw[hO,if_neg (h4 y).1];simp
   have k9:∀L,(r≠[]->L≠b.block)->∀j,Ad w2 none L j=Ad w M.ov L j:=fun L Q j=>by
    rw[h9];by_cases y:r=[];rw[H,y];rfl;exact BF none (g6 L (Q y)) j
   have b0:=gA (m:=Ad w2 none) (m0:=Ad w M.ov) (b:=b) (n:=S+k0) (c:=cn) (cs:=g0++(r++[])) (l:=C3 l ys) (os:=h7++h6) (R:=Rn++Rm) hb hfit (by
     simp only[lN,k4,X,E4];rw[C5];omega) (fun j u hj hu=>by
     simp only[Ad,a9];by_cases hj2:j<S*e.cells;rw[if_neg (by omega)];rw[A8 (by omega)]at hu
     have:=c3 j u hu
     rw[h9]at this;exact this;rw[C5,<-X]at hj;rw[if_pos ⟨trivial,by omega,by omega⟩];rw[B9 (by omega),G4,k4]at hu;rw[<-hu];congr 1;omega) (a2 []) (fun L Q j=>k9 L (fun y E=>(a3 L Q).2.2 ⟨n,by rw[E];exact a6 y⟩) j) (fun L Q j=>k9 L (fun y E=>by
     obtain⟨p,D,rfl⟩:=B6.1 Q;rcases mA.1 D with D|D
     have:=h.nodup n
     rw[hO,if_neg (h4 y).1,B7,A9]at this;exact this.1 (by show b.block∈_;rw[<-E];exact A3 D);exact h.sU n m h3 b.block (a6 y) (by rw[<-E];exact A3 (h5 p D))) j)
   have d0:∀p∈(if cn=0 then[]else(b.block,b.off+cn*e.cells)::(h7++h6)),p∈M.ow n\/p∈M.ow m:=fun p D=>by
    split at D;cases D;rename_i C;rcases mC.1 D with rfl|D;left;rw[hO,if_neg C];simp;exact b3 p D
   obtain⟨U',M',k1,k2⟩:=c0 (w2:=w2) b0 (fun L j Q f5=>by
     have:=k9 L (fun y E=>f5 (by rw[E];exact a6 y)) j
     rw[h9]at this;exact this) (fun L Q=>by
     obtain⟨p,D,rfl⟩:=B6.1 Q;exact .inl ((d0 p D).imp A3 A3)) (by
     split
     simp
     rename_i C;rw[B7,A9];refine⟨fun g=>?_,d3⟩;obtain⟨p,D,E⟩:=B6.1 g;have E:p.1=b.block:=E;rcases mA.1 D with D|D
     have:=h.nodup n
     rw[hO,if_neg C,B7,A9]at this;exact this.1 (by show b.block∈_;rw[<-E];exact A3 D);exact h.sU n m h3 b.block (by rw[hO,if_neg C];simp) (by rw[<-E];exact A3 (h5 p D))) (fun p D=>by
     have:BY w p.1 p.2:=(d0 p D).elim (h.live n p) (h.live m p)
     rw[H];exact this.setCells _ _ _) (fun _ _ hf _=>by rw[H];exact hf.setCells _ _ _) (by rw[H,HL];exact B4 _) (fun b' k3 hF=>by
     by_cases y:r=[];rw[H,y];exact h.frame b' k3 hF;rw[g6 b' ?_];exact h.frame b' k3 hF;rintro rfl;rcases h.mine _ ⟨n,a6 y⟩with g|g;exact hF g;omega) (by rw[H];exact JP _ _ _ _)
   exact⟨_,w2,U',M',V,k1,k2⟩
 have e7:cn<S+k0:=by omega
 have V:=MP (P:=P) (w:=w) (ty:=ty) (A:=An) (n:=S) (c:=cn) (k:=k0) (old:=g0) (new:=r) I h0 hu h1 k8 (g7 w.drew (fun _=>rfl) g9 X c6 h8) (g7 w.drew (fun _=>rfl) a5 k4 f6 g5) e7 (by rw[f4,f0];exact hlim);have c4:=grownCap_ge w (S+k0) cn t';generalize H:w.drew.alloc _=w2 at V;generalize hgc:grownCap w (S+k0) cn t'=gc at V c4;have T:∀c,c<w.heap.size->w2.heap[c]?=w.heap[c]?:=fun c C=>by rw[<-H];exact BG (w:=w.drew) _ c C
 have Y:=Bu (w:=w.drew) (.cells (g0++(r++(Builtin.zeroCells I.z.cells (gc-(S+k0))).toList)).toArray t');have Y:w2.heap[w.heap.size]?=some (.cells (g0++(r++(Builtin.zeroCells I.z.cells (gc-(S+k0))).toList)).toArray t'):=by
  rw[<-H,hgc];exact Y
 have d6:w.heap.size<=w2.heap.size:=by rw[<-H];exact BR (w:=w.drew) _
 have i1:∀k,(Builtin.zeroCells I.z.cells k).size=k*e.cells:=fun k=>by rw[Sm,size_madeCells,I.uZ,a8]
 have b6:(g0++(r++(Builtin.zeroCells I.z.cells (gc-(S+k0))).toList)).length=gc*e.cells:=by
  simp only[lN,k4,X,E5,i1];rw[<-C5,<-C5];congr 1;omega
 have b0:=gA (m:=Ad w2 none) (m0:=Ad w M.ov) (b:=⟨w.heap.size,0,none⟩) (n:=S+k0) (c:=gc) (cs:=g0++(r++(Builtin.zeroCells I.z.cells (gc-(S+k0))).toList)) (os:=h7++h6) (.inr rfl) c4 (by
   rw[b6];exact D3 _ c4) (fun j u _ hu=>by
   simp only[Ad,C2,World.cell?,Y];simpa using hu) (a2 _) (fun c C j=>by
   rw[h9];exact BF none (T c (a3 c C).1) j) (fun c C j=>by
   rw[h9];exact BF none (T c (h.lt (b7 c C))) j)
 have d1:gc≠0:=by omega
 rw[if_neg d1]at b0;have k6:∀c k,BY w c k->BY w2 c k:=fun c k hf=>by
  obtain⟨cc,E,lo,hi,g1,g2⟩:=hf;exact⟨cc,E,lo,hi,by rw[T c (Array.getElem?_eq_some_iff.1 g1).1];exact g1,g2⟩
 obtain⟨U',M',k1,k2⟩:=c0 (w2:=w2) b0 (fun c j C _=>BF none (T c C) j) (fun c C=>by
   rw[B7,mC]at C;rcases C with C|C;exact .inr (by have C:c=w.heap.size:=C;omega);obtain⟨p,D,rfl⟩:=B6.1 C;exact .inl ((b3 p D).imp A3 A3)) (by
   rw[B7,A9];refine⟨fun g=>?_,d3⟩
   have:=h.lt (b7 _ g)
   exact absurd this (Nat.lt_irrefl _)) (fun p D=>by
   rcases mC.1 D with rfl|D;exact⟨_,t',0,0,Y,by show 0+gc*e.cells<=_;rw[F5,b6];omega,.inl rfl⟩;exact k6 _ _ ((b3 p D).elim (h.live n p) (h.live m p))) (fun c k hf _=>k6 c k hf) d6 (fun b hb hF=>by
   have:=h.size
   rw[T b (by omega)];exact h.frame b hb hF) (by rw[<-H];rfl)
 exact⟨_,w2,U',M',by rw[<-a8]at *;exact V,k1,k2⟩
theorem a9z{m:Nat}{q:BN}(h:U.sM y=.sref m q)(g:d≠m):(U.uM d r).sM y=.sref m q:=by
 unfold AE.uM;split;exact h
 ·cases y with
  |tmp t=>
   have e:(m==d)=false:=by grind
   simp[AE.sM,AE.get,AE.sF,AE.sI]at h|-;grind[SV.sI,AV.drop]
  |_=>exact h
theorem sK.xU{tm}(h:sK B U N tm w M){k:Nat}(a:U.rt k=some r)(hb:r.bx=false)(hv:AA (Ad w M.ov) M.g U.rt (Be B w M) (.sref k []) v):M.g k=.one v:=by
 obtain⟨l,j,m,b,c,e⟩:=hv;rw[a]at b;cases b;simp[Cj]at c;obtain⟨i,R,-,-,d⟩:=(h.roots k r a).rd;rcases d with⟨g,-⟩|⟨-,⟨n,f⟩,-⟩;simp_all;rw[<-c.2,f]at e;simp_all[Src.rd]
theorem a9A{m:Nat}{C:Ty}(c:e.sh=C){ty:TypeId}(I:vG P C t')(D:ts[0]?=some t)(G:P.underlying t=some (.slice t'))(E:ts[1]?=none\/∃t2,ts[1]?=some t2/\(P.underlying t2=some .string\/∃e,P.underlying t2=some (.slice e))){s:Value}{K:AE->Rs Z}{z:Z}(h:sK B U N (AJ a) w M)(F:a.tmps.size=N)(k:AA (Ad w M.ov) M.g U.rt (Be B w M) av s)(p:Ch N y=true)(L:U.sM y=.sref m [])(i:U.look m=some ⟨false,.list true e,ys⟩)(f:U.yD d m e ys av K=some z):
  ∃v w' A M',(Builtin.append_ ts ty #[s,a.eval y]).run P w=.ok v w'/\sK B A N (AJ (a.put (some d) v)) w' M'/\K A=some z:=by
 obtain⟨T,i⟩:=AX i;unfold AE.yD at f;split at f;have k:s=.slice none 0 0:=k;subst k;rcases Ah f with⟨-,g⟩|⟨b,f⟩;cases g;have b:d≠m:=by simpa using b
 obtain⟨Q,Y,V,u,k3,X,k5,x⟩:=h.fresh f (fun _ _=>rfl) (B4 _) (s:=.one (.slice none 0 0)) (O:=[]) (by simp) (by simp) (by simp) ⟨[],[],rfl,by simp,.inr ⟨rfl,⟨_,rfl⟩,⟨e,rfl⟩,rfl⟩⟩;have j:Q.rt m=some ⟨false,.list true e,ys⟩:=by
  have R:(m==d)=false:=by simpa using Ne.symm b
  rw[x];unfold AE.uM;split<;>simp[AE.sF,AE.sI,R,i]
 have o:=u.sM p;rw[x,a9z L b,<-x]at o;exact iF c I D G E u F X (u.xU j rfl o) j V;rename_i n;have H:=h.sM p;rw[L]at H;have r:∃l,U.rt n=some ⟨false,.list true e,l⟩:=by
  unfold AE.wU at f;split at f;rename_i e' l S;split at f;rename_i q;subst q;exact⟨l,(AX S).2⟩;cases f;cases f
 obtain⟨l,r⟩:=r;exact iF c I D G E h F (h.xU r rfl k) (h.xU i rfl H) i f;simp_all
end
section
variable {P:Program} {B:Base} {N:Nat} {Z:Type} {U:AE} {a:Act} {w:World} {M:Gh}
theorem Tj.news{m Sh}(h:Tj w m Sh e l v):Nonempty (xV P w m Sh e l v):=by
 obtain⟨A,n,c,cs,hv,hn,hlen,hone,⟨R,g,a⟩,hc,hnone,-⟩:=h;have f:=OY (P:=P) (w:=w) (w2:=w) (e:=e) hv (fun _=>rfl) hlen hc hnone n (B4 _);have k:=OY (P:=P) (w:=w) (w2:=w.drew) (e:=e) hv (fun _=>rfl) hlen hc hnone n (B4 _);rw[<-hlen,F7]at f k;refine⟨⟨cs,?_,by simp_all,hone,R,by simp_all,a,by simp_all,by simp_all⟩⟩;rw[hv,<-hn];rfl
theorem b1B{m Sh}(s:ByteArray){l:List (Ty.int .u8).sJ}(e:l=(s.data.toList.map fun b=>(b.toNat:Int):List Int)):Nonempty (xV P w m Sh (.int .u8) l (.string s)):=by
 have k:(s.data.toList.map fun b=>(b.toNat:Int)).length=s.size:=by simp
 have g:l.length=s.size:=(congrArg C4 e).trans k;have a:∀w:World,(Builtin.firstCells (Ty.int .u8).cells s.size (.string s)).run P w=.ok (s.data.toList.map fun b=>Value.int .u8 (b.toNat:Int)).toArray w:=fun w=>by
  have o:s.extract 0 s.size=s:=by simp
  simp only[Builtin.firstCells,o,Sem.run_pure];congr 1;grind
 refine⟨⟨s.data.toList.map fun b=>Value.int .u8 (b.toNat:Int),?_,?_,?_,[],?_,by simp,?_,?_⟩⟩;rw[g];rfl;rw[g,G5];show s.data.toList.length=s.size*1
 simp
 intro u n;obtain⟨b,-,rfl⟩:=B6.1 n;rfl
 ·have c:∀(l:List UInt8)(h:List Value)(i:Nat),h.length=i->Ak (fun i=>AO m (.int .u8) fun j=>(h++l.map fun b=>Value.int .u8 (b.toNat:Int))[i*(Ty.int .u8).cells+j]?) l.length i =
    some ((l.map fun b=>(b.toNat:Int):List Int),[],[]):=by
   intro l
   induction l with
   |nil=>intro h i _;rfl
   |cons b l p=>
    intro h i q;have d:=p (h++[Value.int .u8 (b.toNat:Int)]) (i+1) (by grind);simp at d;have f:(h++(b::l).map fun b=>Value.int .u8 (b.toNat:Int))[i*(Ty.int .u8).cells+0]?=some (.int .u8 (b.toNat:Int)):=by
     show(h++_)[i*1+0]?=_;simp_all
    simp only[lC,Ak];rw[show AO m (.int .u8) (fun j=>(h++(b::l).map fun b=>Value.int .u8 (b.toNat:Int))[i*(Ty.int .u8).cells+j]?)=some ((b.toNat:Int),[],[])from by
     simp only[AO];rw[f];rfl]
    simp only[B7];rw[d];rfl
  have:=c s.data.toList [] 0 rfl
  rw[g];rw[show s.data.toList.length=s.size from rfl]at this;rw[e];exact this
 all_goals simp_all
theorem a6c{t2 ty:TypeId}{K:AE->Rs Z}{z:Z}(I:vG P e t')(y:ts[0]?=some t)(E:P.underlying t=some (.slice t'))(A:ts[1]?=some t2)(C:P.underlying t2=some (.int .i64))(b:0<e.cells)(h:sK B U N (AJ a) w M)(D:a.tmps.size=N)(l:U.uF q d e .nils (C6 n e.dflt) K=some z):
  ∃v w' o M',(Builtin.append_ ts ty #[.slice none 0 0,.int .i64 (n:Int)]).run P w=.ok v w'/\sK B o N (AJ (a.put (some d) v)) w' M'/\K o=some z:=by
 simp only[AE.uF]at l;obtain⟨f,l⟩:Bp (C6 n e.dflt).length=true/\_:=(Ah l).elim id fun h=>by grind
 simp[Bp]at f;by_cases hk:n=0;subst hk;have g:(Builtin.append_ ts ty #[.slice none 0 0,.int .i64 ((0:Nat):Int)]).run P w=.ok (.slice none 0 0) w:=by
  have L:IntKind.i64.wrap (0:Int)=0:=rfl;simp[Builtin.append_,y,A,run_underlying E,run_underlying C,I.sizeOf,I.typeInfo,asInt,asIntOf,L]
 obtain⟨o,M',r,u,p,F,S,T⟩:=h.fresh l (fun _ _=>rfl) (B4 _) (s:=.one (.slice none 0 0)) (O:=[]) (by simp) (by simp) (by simp) ⟨[],[],by
   rfl,by simp,.inr ⟨rfl,⟨_,rfl⟩,⟨e,rfl⟩,rfl⟩⟩
 exact⟨_,w,_,M',g,u.uN (sv:=.one (.sref d [])) D (fun _=>⟨_,e,_,p,by rw[F];rfl,rfl⟩),r⟩;have g:=Zl (P:=P) (w:=w) (ty:=ty) I y E A C b (n:=n) (by omega) f;have V:=grownCap_ge w n 0 t';have x:∀k,(Builtin.zeroCells I.z.cells k).size=k*e.cells:=fun k=>by rw[Sm,size_madeCells,I.uZ]
 have Q:Ak (fun i=>AO (Ad w M.ov) e fun j=>(Builtin.zeroCells I.z.cells n).toList[i*e.cells+j]?) n 0=some (C6 n e.dflt,[],[]):=by
  have:=hU (m:=Ad w M.ov) I.zok I.uZ n
  rw[Sm,I.uZ];simp_all
 have H:(C6 n e.dflt).length=n:=List.length_replicate;obtain⟨o,M',r,u,p,-,-⟩:=h.uV (c:=grownCap w n 0 t') l (fun c G=>BG (w:=w.drew) _ c G) (BR (w:=w.drew) _)
  (Bu (w:=w.drew) (Obj.cells (([]:List Value)++((Builtin.zeroCells I.z.cells n).toList++(Builtin.zeroCells I.z.cells (grownCap w n 0 t'-n)).toList)).toArray t')) (.inl rfl) (by
   have:(([]:List Value)++((Builtin.zeroCells I.z.cells n).toList++(Builtin.zeroCells I.z.cells (grownCap w n 0 t'-n)).toList)).length=grownCap w n 0 t'*e.cells:=by
    simp[x];rw[<-C5];simp_all
   simp_all) (by omega) (R:=[]) (by
   have:=Ua (m:=Ad w M.ov) (e:=e) (l1:=[]) (l2:=C6 n e.dflt) (cs1:=[]) (cs2:=(Builtin.zeroCells I.z.cells n).toList) (rest:=(Builtin.zeroCells I.z.cells (grownCap w n 0 t'-n)).toList) (n1:=0) (n2:=n) (o1:=[]) (o2:=[]) (R1:=[]) (R2:=[]) rfl (by simp) Q (by simp_all)
   simp_all) (by simp)
 rw[H]at p;exact⟨_,_,_,M',g,u.uN (sv:=.one (.sref d [])) D (fun _=>p),r⟩
theorem a2K{o:Oper}{c:Call}{d:Nat}{cx:Cx}{q:Bool}{K:AE->Rs Z}{z:Z}(C:CxTy P cx)(ho:o.op=.call c)(hb:c.callee=.builtin .append)(hd:o.dst=some d)
  (h:sK B U N (AJ a) w M)(hN:a.tmps.size=N)(hf:fits N o=true)(b:Bk cx q o U K=some z):AZ P B N o a w K z:=by
 obtain⟨cs,r⟩:=Vh (P:=P) (a:=a) (w:=w) ho hb;have hl:∃x y,c.args.toList=[x,y]:=by
  cases hl:c.args.toList with
  |nil=>simp_all[Bk,AE.uP]
  |cons x l=>
   cases l with
   |nil=>simp_all[Bk,AE.uP]
   |cons y l=>
    cases l with
    |nil=>simp
    |cons u l=>simp_all[Bk,AE.uP]
 obtain⟨x,y,S⟩:=hl;have h5:c.args=#[x,y]:=by grind
 have i:=Vi ho hb hf;rw[S]at i;have R:=h.sM (i x (by simp));have hy:=h.sM (i y (by simp));simp[Bk,ho,hd,hb,S,AE.uP]at b;rcases Ah b with⟨h8,b⟩|⟨-,b⟩;rotate_left;rw[Xx]at b;split at b;rename_i e F j;unfold b1r at j;split at j;rename_i t t2 rr n Q h6 h7;split at j;rename_i o2 e2 L h4;rcases Ah j with⟨hc,j⟩|⟨-,g⟩;cases j;simp at hc;obtain⟨h9,A⟩:=C.T t _ L;obtain⟨t',hu,E,D⟩:=BQ A;obtain⟨I⟩:=AM (AY E);have h0:c.argTypes[0]?=some t:=by rw[<-B8,Q];rfl
 have h1:c.argTypes[1]?=some t2:=by rw[<-B8,Q];rfl
 have h2:P.underlying t2=some (.int .i64):=by
  have A:=(C.T t2 _ h4).2;simp[AU]at A;grind
 rw[h6]at R;obtain R:a.eval x=.slice none 0 0:=R;rw[h7]at hy;have hy:=AA.int hy;obtain⟨v,X,H,G,k1,k2,V⟩:=a6c (ty:=o.type) I h0 hu h1 h2 D h hN b;rw[Int.toNat_of_nonneg hc.1]at k1;refine⟨v,X,H,G,.inl (r.trans ?_),by simp_all,V⟩;simp_all[builtin];simp_all;simp_all;simp_all;simp_all;have h1:=a2J C h8;split at b
 ·rename_i o' e L;obtain⟨t,ht,L⟩:=D6.1 L;have O:c.argTypes[0]?=some t:=by
   rw[<-B8];cases hl:c.argTypes.toList with
   |nil=>simp_all
   |cons y l=>simp_all
  obtain⟨h9,A⟩:=C.T t _ L;obtain⟨t',hu,E,D⟩:=BQ A;obtain⟨I⟩:=AM (AY E);have he:e.sh=e:=by
   simp_all[Ty.sh]
  have h3:∀F,Nonempty (xV P w (Ad w M.ov) (Be B w M) e F (a.eval y))->U.uF q d e (U.sM x) F K=some z->AZ P B N o a w K z:=by
   rintro F ⟨Y⟩ b;obtain⟨v,X,H,G,k1,k2,V⟩:=a9y (ty:=o.type) he I O hu h1 h hN R Y b;refine⟨v,X,H,G,.inl (r.trans ?_),by simp_all,V⟩;simp_all[builtin]
  split at b;grind[AA.str,b1B]
  ·split at b
   ·rename_i m e' F f;have g0:=b;cases q with
    |true=>simp_all
    |false=>
     cases hel:e.isList with
     |false=>simp_all
     |true=>
      rw[hel]at f;have f:U.ownB e (U.sM y)=some (m,⟨e',F⟩):=f;have g1:U.sM y=.sref m []/\U.look m=some ⟨false,.list true e',F⟩/\e'.sh=e:=by
       revert f;cases U.sM y with
       |sref k p=>
        cases p with
        |cons=>simp_all[AE.ownB]
        |nil=>
         intro f;simp[AE.ownB]at f;grind
       |_=>intro f;simp[AE.ownB]at f
      obtain⟨k1,k2,V⟩:=g1;obtain⟨v,X,H,G,j1,j2,j3⟩:=a9A (ty:=o.type) V I O hu h1 h hN R (i y (by simp)) k1 k2 g0;exact⟨v,X,H,G,.inl (r.trans (by simp_all[builtin])),by simp_all,j3⟩
   obtain⟨l,b,hE⟩:=h.elems he hy b;exact h3 l hE.news b
 simp_all
end
theorem b1C(n:Nat)(av:AV):AV.kill n [] av=.dead\/(AV.kill n [] av=av/\∀k q,(av=.ptr k q\/av=.sref k q\/∃o l,av=.swin k q o l)->k=n->av=.ptr n []):=by
 cases av with
 |ptr m q=>
  simp only[AV.kill];by_cases hm:m=n
  ·subst hm;cases q with
   |nil=>simp
   |cons=>left;simp[Ig]
  simp_all
 |sref m q=>
  grind[AV.kill,Ig]
 |swin m q o k=>
  grind[AV.kill,Ig]
 |_=>exact .inr ⟨rfl,fun k q h _=>by rcases h with h|h|⟨_,_,h⟩<;>cases h⟩
section
variable {P:Program} {B:Base} {N:Nat} {Z:Type} {U:AE} {a:Act} {w:World} {M:Gh}
theorem a2L{o:Oper}{x:Operand}{d:Nat}{cx:Cx}{q:Bool}{K:AE->Rs Z}{z:Z}(Q:o.op=.assign x)(V:o.dst=some d)
  (h:sK B U N (AJ a) w M)(Y:a.tmps.size=N)(hf:fits N o=true)(m:Bk cx q o U K=some z):AZ P B N o a w K z:=by
 have S:=h.sM (Bl hf x (by simp[Q,Op.operands]));have y:(execOp a.eval o).run P w=.ok (.value (a.eval x)) w:=by simp[execOp,Q]
 simp[Bk,Q,V]at m;have C:∀av,U.sM x=av->K (U.set d av)=some z->AZ P B N o a w K z:=fun av u m=>AZ.set V Y y h (u▸S) m;split at m
 case h_2=>
  rename_i c vs D;cases x with
  |tmp t=>
   have D:U.sl t=.cmp c vs:=D;have ht:t<N:=by have:=Bl hf (.tmp t) (by simp[Q,Op.operands]);simpa[Ch]using this
   have h5:=h.slots t ht;rw[D]at h5;exact⟨_,w,_,M,.inl y,by rw[V];exact h.uN Y (fun _=>h5),m⟩
  |_=>cases D
 rename_i vx H;have H:vx=U.sM x:=by
  cases x with
  |tmp t=>
   have H:U.sl t=.one vx:=H;simp_all[AE.sM,AE.get]
  |_=>exact(SV.one.inj H).symm
 subst H;unfold AE.yU at m;split at m;rename_i r u;split at m;rename_i t x0 hl;obtain⟨F,X⟩:=AX hl;rcases Ah m with⟨-,m⟩|⟨R,m⟩;simp_all;rcases Ah m with⟨-,m⟩|⟨-,m⟩;simp_all;obtain⟨g0,m⟩:=(Ah m).elim id fun h=>by grind
 have g0:d<pinned:=by simp_all
 have k8:r≠d:=by
  simp_all
 have h1:=h.drop (n:=d) (by simp_all);have g5:((U.sI (AV.drop d)).sF d none).rt r=some ⟨false,t,x0⟩:=by
  grind[AE.sF,AE.sI]
 have h2:=h1.rename g5 (d:=d) (MQ _) (fun i b e _=>by omega) (by simp_all[AE.sF,AE.sI]);have hΓ:((((U.sI (AV.drop d)).sF d none).sI (AV.ren r d)).sF r none).sF d (some ⟨false,t,x0⟩)=(((U.sI (AV.drop d)).sI (AV.ren r d)).sF r none).sF d (some ⟨false,t,x0⟩):=by
  simp only[AE.sF,AE.sI];grind
 rw[hΓ]at h2;rw[u]at S;obtain⟨r',e',s',g1,g2,g3⟩:=S;rw[X]at g1;simp at g1;subst g1;simp[Cj]at g2;have E:loc (Ad w M.ov) t (if d=d then M.g r else M.g d) []=some (.list true e',s'):=by
  show some (t,if d=d then M.g r else _)=_
  simp_all
 have h3:=h2.uN (sv:=.one (.sref d [])) (v:=a.eval x) (d:=d) Y (fun _=>⟨⟨false,t,x0⟩,e',s',MQ _,E,g3⟩);exact⟨_,w,_,_,.inl y,by rw[V];exact h3,m⟩;simp_all
 ·rename_i r k u;split at m
  ·rename_i e l hl;obtain⟨F,X⟩:=AX hl;rcases Ah m with⟨R,m⟩|⟨-,m⟩
   ·simp only[EV,beq_iff_eq]at R;obtain⟨rfl,-⟩:=R;obtain⟨O,m⟩:=(Ah m).elim id fun h=>by grind
    simp at O;replace O:=O.symm;rw[u]at S;obtain⟨s,O',R',a0,n0,c,f1,f2,f3,f4,f5,f6,I,hv,f7,f8⟩:=h.window S X (show Dc (.list true e) l []=⟨.list true e,l⟩from rfl);rw[C2]at f6;rw[Nat.sub_zero]at hv;have k9:=h.sZ F;simp[Cj]at f1;obtain⟨O1,R1,k1,k2,k3,k4,k5,k6⟩:=h.sep X;rw[f1]at k1;have h9:AO (Ad w M.ov) (.list true e) (s.rd (Ad w M.ov))=some (l,O',R'):=AF _ f3 (fun j hj=>by
     have g4:j=0:=by simp_all[Ty.cells]
     subst g4;rw[f2];rfl) (fun _ _ _=>rfl)
    rw[h9]at k1;simp at k1;obtain⟨rfl,rfl⟩:=k1;have g6:∃T R2,AO (Ad w M.ov) (.list true e) ((Src.one (.slice I k c)).rd (Ad w M.ov))=some (E3 k l,T,R2)/\(∀p∈T,p∈O')/\(T.map (·.1)).Nodup/\(∀c∈R2,c∈R'):=by
     rcases Cr f3 with⟨D,k0,-,-⟩|⟨A,n1,c1,os,D,hA,hn,h7,Q⟩
     ·simp[Src.rd]at D;obtain⟨rfl,rfl,rfl⟩:=D;have hk:k=0:=by omega
      subst hk;refine⟨[],[],?_,by simp,by simp,by simp⟩;show Cn (Ad w M.ov) true e.cells (AO (Ad w M.ov) e) (some (.slice I 0 0))=some (([]:List e.sJ),[],[]);cases I with
      |none=>rfl
      |some b=>rfl
     ·simp[Src.rd]at D;obtain⟨rfl,rfl,rfl⟩:=D;rw[show n0=k+(n0-k)from by omega]at h7;obtain⟨g7,g9,a2,a3,j1,-,rfl,rfl⟩:=Fm k _ 0 h7;have k7:=k3.nodup;by_cases L:c=0
      ·subst L;have hk:k=0:=by omega
       subst hk;refine⟨[],[],?_,by simp,by simp,by simp⟩;show Cn (Ad w M.ov) true e.cells (AO (Ad w M.ov) e) (some (.slice I 0 0))=some (([]:List e.sJ),[],[]);cases I with
       |none=>rfl
       |some b=>rfl
      ·rcases Q with⟨h0,-⟩|⟨-,Q⟩;omega
       ·have h8:I=some ⟨A.block,A.off,none⟩:=by
         simp_all[Fp]
        subst h8;refine⟨(A.block,A.off+c*e.cells)::g7,g9,Wq (a:=⟨A.block,A.off,none⟩) rfl rfl (by omega) L j1,?_,?_,fun c L=>D2 _ L⟩;all_goals grind
    obtain⟨T,R2,j1,j2,j3,j4⟩:=g6;have h6:∀p∈T,p∈M.ow r:=fun p hp=>by
     simp_all
    have G:∀c∈T.map (·.1),c∈(M.ow r).map (·.1):=fun c L=>by
     grind
    have h4:=h.top X O.2 F (w':=w) (v':=.slice I k c) (l':=E3 k l) j1 (fun _ _ _ _=>rfl) (fun c L=>.inl (G c L)) j3 (fun p hp=>h.live r p (h6 p hp)) (fun _ _ hf _=>hf) (B4 _) h.frame
     (fun c L=>by
      have D:=f4 c (j4 c L);exact⟨D.1,D.2.1,D.2.2,fun g=>D.2.2 ⟨r,G c g⟩⟩) (f:=AV.kill r []) (b1C r)
    have E:loc (Ad w M.ov) (.list true e) (if r=r then Src.one (.slice I k c)else M.g r) []=some (.list true e,.one (.slice I k c)):=by
     show some (_,if r=r then Src.one _ else _)=_
     simp
    have h3:=h4.uN (sv:=.one (.sref r [])) (v:=a.eval x) (d:=r) Y (fun _=>⟨⟨false,.list true e,E3 k l⟩,e,.one (.slice I k c),MQ _,E,by rw[hv];rfl⟩);exact⟨_,w,_,_,.inl y,by rw[V];exact h3,m⟩
   exact C _ u m
  exact C _ u m
 rename_i u;split at m;rename_i t x0 hl;obtain⟨F,X⟩:=AX hl;rcases Ah m with⟨-,m⟩|⟨-,m⟩;exact C _ u m;exact AZ.set V Y y (h.drop (n:=d) (by simp[F])) (av:=.nils) (by rw[u]at S;exact S) m;exact C _ u m;exact C _ rfl m
end
theorem sK.move{B U N tm w M}(h:sK B U N tm w M){n r p ε b o y O1 R1}(hr:U.rt n=some r)(hl:loc (Ad w M.ov) r.t (M.g n) p=some ((.list true ε),.at b o))(hy:AO (Ad w M.ov) (.list true ε) ((Src.at b o).rd (Ad w M.ov))=some (y,O1,R1)){m0:Nat}{y':List ε.sJ}(c3:U.rt m0=some ⟨false,(.list true ε),y'⟩)(c1:M.g m0=.one v)(Q:m0≠n)(b3:U.pd=none){f:AV->AV}(hf:∀a,f a=.dead\/(f a=a/\a8h n p (.list true ε) a/\∀k q,(a=.ptr k q\/a=.sref k q\/∃o l,a=.swin k q o l)->k≠m0)):
  ∃z,sK B (((U.sI f).sF m0 none).sF n (some ⟨r.bx,r.t,Fc r.t r.x p (.list true ε) y'⟩)) N tm (w.setCell ⟨b,o,none⟩ v) ⟨M.g,z,none⟩:=by
 have c5:M.ov=none:=h.sZ b3;obtain⟨O2,R2,i1,i2,i3,i4,i5,i6⟩:=h.sep c3;have i6:M.ow m0=O2:=by
  simp_all
 rw[c1]at i1;obtain⟨D,g7⟩:∃D,D=w.setCell ⟨b,o,none⟩ v:=⟨_,rfl⟩;rw[<-g7];have k9:b∈(M.ow n).map (·.1):=h.place hr hl;have a6:=h.room hr hl;have a9:(Ty.list true ε).cells=1:=rfl;have a3:∀c j,Ad D none c j=if c=b/\j=o then some v else Ad w M.ov c j:=fun c j=>by
  rw[c5,g7];simp[Ad];by_cases I:c=b/\j=o;obtain⟨rfl,rfl⟩:=I
  have:=(a6.cell (o:=j) (by omega)).1
  grind[E7,World.cell?_setCell_same];rw[if_neg I,World.cell?_setCell_other];grind
 have c8:∀c j,Ad D none c j=Ad w M.ov c j\/(c=b/\o<=j/\j<o+(Ty.list true ε).cells)\/c∈O1.map (·.1)\/w.heap.size<=c:=fun c j=>by
  grind
 have c7:AO (Ad D none) (.list true ε) ((Src.at b o).rd (Ad D none))=some (y',O2,R2):=by
  refine AF _ i1 (fun j hj=>?_) (fun c j C=>?_);simp_all[Src.rd];rw[a3,if_neg];rintro⟨rfl,-⟩;rcases C with C|C;exact h.sU n m0 (Ne.symm Q) c k9 (i4 c C);exact(i2 c C).2.2 ⟨n,k9⟩
 have h0:∀c∈O2.map (·.1),c∈(M.ow m0).map (·.1):=i4;have c4:(O2.map (·.1)).Nodup:=i3.nodup;have O:∀c k,BY w c k->BD M c->BY D c k:=fun c k hf _=>by rw[g7];exact hf.setCell _ _
 have c2:∀p∈O2,BY D p.1 p.2:=fun p hp=>by
  rw[<-i6]at hp;exact O _ _ (h.live m0 p hp) ⟨m0,A3 hp⟩
 have b6:w.heap.size<=D.heap.size:=by simp_all
 have b9:∀b,b<B.size->¬ B.F b->D.heap[b]?=B.hp b:=fun c C hF=>by
  rw[g7,LJ,if_neg];exact h.frame c C hF
  ·rintro rfl;rcases h.mine c ⟨n,k9⟩with g|g;all_goals grind
 obtain⟨O',R,h1,h2,h3,h4,h5,h6⟩:=h.sep hr;obtain⟨y1,d3,d4,A1,B1,d1,d2,hd,hg,I,e2⟩:=BU p r.t _ h1 hl;rw[hy]at hd;simp at hd;obtain⟨rfl,rfl,rfl⟩:=hd;have d5:∀c,c∈O1.map (·.1)->c∈(M.ow n).map (·.1):=fun c C=>h4 c (by grind);have hb:b∈(M.ow n).map (·.1):=h.place hr hl;have a8:b9l (Ad w M.ov) (Ad D none) (M.g n) O' R b o (Ty.list true ε).cells O1:=fun c j=>by
  grind
 obtain⟨A,B',R',e3,h7,h8⟩:=a5O p r.t (M.g n) h1 hl hy c7 h3 a8

 have T:∀c j,c∉(M.ow n).map (·.1)->c<w.heap.size->Ad D none c j=Ad w M.ov c j:=fun c j C d7=>by
  grind
 have S:∀m,m≠n->∀c j,c∈(M.ow m).map (·.1)->Ad D none c j=Ad w M.ov c j:=fun m hm c j C=>
  T c j (h.sU m n hm c C) (h.lt ⟨m,C⟩)
 have b5:∀c j,Be B w M c->Ad D none c j=Ad w M.ov c j:=fun c j C=>T c j (fun g=>C.2.2 ⟨n,g⟩) C.1

 let on:CK:=match r.bx with|true=>(match M.g n with|.at b0 _=>[(b0,r.t.cells)]|_=>[])++(A++(O2++B'))|false=>A++(O2++B')
 let z:Nat->CK:=fun m=>if m=n then on else if m=m0 then[]else M.ow m
 have k0:z n=on:=by grind
 have H:∀m,m≠n->m≠m0->z m=M.ow m:=fun m hm d8=>by grind
 have d0:z m0=[]:=by grind
 have k7:∀c,c∈on.map (·.1)->c∈(M.ow n).map (·.1)\/c∈O2.map (·.1):=by
  grind
 have P:∀c,(∃m,c∈(z m).map (·.1))->BD M c:=by
  rintro c ⟨m,hm⟩;by_cases e:m=n;subst e;rw[k0]at hm;rcases k7 c hm with g|g;exact⟨m,g⟩;exact⟨m0,h0 c g⟩;by_cases Y:m=m0;grind;rw[H m e Y]at hm;exact⟨m,hm⟩
 have a7:∀c,Be B w M c->Be B D ⟨M.g,z,none⟩ c:=fun c ⟨g1,g2,g3⟩=>⟨C0 g1 b6,g2,fun g4=>g3 (P c g4)⟩;have c6:∀c∈R2,Be B D ⟨M.g,z,none⟩ c:=fun c C=>a7 c (i2 c C)

 have k6:∀m q L tq s,U.rt m=some L->loc (Ad w M.ov) L.t (M.g m) q=some (tq,s)->(m=n->∀d,q=p++d->d=[]\/(Ty.list true ε).tL=(Ty.list true ε))->
   loc (Ad D none) L.t (M.g m) q=some (tq,s)/\∀e,tq=.list true e->(m=n->∀d,q=p++d->(Ty.list true ε).tL=(Ty.list true ε))->s.rd (Ad D none) 0=s.rd (Ad w M.ov) 0:=by
  intro m q L tq s hrm G hq;by_cases e:m=n;subst e;rw[hr]at hrm;simp at hrm;subst hrm
  have:=Sd p q r.t (M.g m) h1 hl hy h3 a8 (hq rfl) G
  refine⟨this.1,fun e ht g9=>this.2 e s (by grind) (fun d he=>?_)⟩;have hp:=g9 rfl d he;grind[Ty.tL]
  ·obtain⟨Om,Rm,g1,g2,g3,g4,g5,-⟩:=h.sep hrm;have g0:∀j,j<L.t.cells->(M.g m).rd (Ad D none) j=(M.g m).rd (Ad w M.ov) j:=fun j _=>by
    cases es:M.g m with
    |one v=>rfl
    |_=>rename_i b' o';exact S m e b' _ (g5 _ _ es)
   refine⟨CZ q L.t _ g1 G g0 (fun c j C=>S m e c j (g4 c C)),fun Y ht _=>?_⟩;rw[ht]at G;exact OW g1 G g0 (fun c j C=>S m e c j (g4 c C))
 have a2:∀a v,AA (Ad w M.ov) M.g U.rt (Be B w M) a v->AA (Ad D none) M.g (fun j=>bif j==n then some ⟨r.bx,r.t,Fc r.t r.x p (Ty.list true ε) y'⟩else bif j==m0 then none else U.rt j) (Be B D ⟨M.g,z,none⟩) (f a) v:=by
  intro a v ha;rcases hf a with g|⟨g,hk,d6⟩;rw[g];trivial
  ·rw[g];refine ha.frame b5 a7 fun m q L tq s h9 hrm G=>?_
   have hq:m=n->∀d,q=p++d->d=[]\/(Ty.list true ε).tL=(Ty.list true ε):=by
    intro e d he;rcases h9 with rfl|rfl|⟨o',l',rfl⟩;exact hk e d he;exact .inr (hk e d he);exact .inr (hk e d he)
   have hp:=k6 m q L tq s hrm G hq;refine⟨if m=n then⟨r.bx,r.t,Fc r.t r.x p (Ty.list true ε) y'⟩else L,?_,?_,?_⟩
   grind
   ·by_cases e:m=n;all_goals grind
   intro u g9 hu;rcases h9 with rfl|rfl|⟨o',l',rfl⟩;grind;obtain⟨r0,e0,s0,k1,k2,k3⟩:=ha;rw[hrm]at k1;simp at k1;subst k1;rw[G]at k2;simp at k2;rw[hp.2 e0 k2.1 (fun e d he=>hk e d he)];omega;obtain⟨r0,e0,s0,a0,l0,c0,k1,k2,k3⟩:=ha;rw[hrm]at k1;simp at k1;subst k1;rw[G]at k2;simp at k2;rw[hp.2 e0 k2.1 (fun e d he=>hk e d he)];omega
 have a5:∀i b,B.pin i=some b->(bif pinned+i==n then some (sO.mk r.bx r.t (Fc r.t r.x p (Ty.list true ε) y'))else bif pinned+i==m0 then none else U.rt (pinned+i))≠none->M.g (pinned+i)=b:=fun i b hb g9=>by
  refine h.pins i b hb fun e=>g9 ?_
  by_cases Y:pinned+i=n;grind;have b8:(pinned+i==n)=false:=by grind
  rw[b8,e];simp
 refine⟨z,?_,?_,?_,?_,?_,?_,?_,D1 h.size b6,b9,?_,a5,by rw[g7];exact h.still⟩
 ·intro m L hrm;by_cases e:m=n;subst e;simp[AE.sF]at hrm;subst hrm;refine⟨_,R',h7,fun c C=>?_,?_⟩;grind;rcases h6 with⟨V,b0,hs,ho⟩|⟨V,hs,ht,ho⟩;grind;grind
  ·have I:m≠m0:=by
    rintro rfl;have Y:(m==n)=false:=by grind
    simp[AE.sF,Y,AE.sI]at hrm
   have b4:U.rt m=some L:=by
    have Y:(m==n)=false:=by grind
    have k8:(m==m0)=false:=by grind
    simpa[AE.sF,Y,k8,AE.sI]using hrm
   obtain⟨Om,Rm,g1,g2,g3,g4,g5,g6⟩:=h.sep b4;refine⟨Om,Rm,AF L.t g1 (fun j _=>?_) (fun c j C=>?_),fun c C=>a7 c (g2 c C),?_⟩
   ·cases es:M.g m with
    |one v=>rfl
    |_=>rename_i b' o';exact S m e b' _ (g5 _ _ es)
   grind;show(L.bx=true/\∃b,M.g m=.at b 0/\z m=(b,L.t.cells)::Om)\/(L.bx=false/\(∃v,M.g m=.one v)/\(∃e,L.t=.list true e)/\z m=Om);rw[H m e I];omega
 intro m hm;by_cases e:m=n;grind[AE.sF];by_cases I:m=m0;grind;have Y:(m==n)=false:=by grind
 have k8:(m==m0)=false:=by grind
 show z m=[];rw[H m e I];exact h.norm m (by simpa[AE.sF,Y,k8,AE.sI]using hm);intro m;show((z m).map (·.1)).Nodup;by_cases e:m=n;subst e;rw[k0];have a4:=h.nodup m;have b7:((A++(O2++B')).map (·.1)).Nodup:=by
  have Z:=h3.nodup;rw[e3]at Z;simp only[pA,C1,mA]at Z|-;obtain⟨k1,⟨k2,k3,k4⟩,k5⟩:=Z;refine⟨k1,⟨c4,k3,fun a ha c C e=>?_⟩,fun a ha c C e=>?_⟩;subst e;exact h.sU m m0 (Ne.symm Q) a (h4 a (by grind)) (h0 a ha);subst e;rcases C with C|C;exact h.sU m m0 (Ne.symm Q) a (h4 a (by grind)) (h0 a C);grind
 rcases h6 with⟨V,b0,hs,ho⟩|⟨V,-,-,ho⟩;simp only[on,V,hs,List.singleton_append,B7,A9];refine⟨fun g=>?_,b7⟩;rw[ho]at a4;simp only[B7,A9]at a4;simp only[pA,mA]at g;rcases g with g|g|g;grind;exact h.sU m m0 (Ne.symm Q) b0 (by grind) (h0 b0 g);exact a4.1 (by rw[e3];simp only[pA,mA];grind);grind;by_cases I:m=m0;grind;rw[H m e I];exact h.nodup m;have one:∀m K,m≠K->m=n->∀c,c∈(z m).map (·.1)->c∉(z K).map (·.1):=by
  intro m K X e c C E;subst e;by_cases I:K=m0;grind;rw[k0]at C;rw[H K (Ne.symm X) I]at E;rcases k7 c C with g|g;exact h.sU m K X c g E;exact h.sU m0 K (Ne.symm I) c (h0 c g) E
 intro m K X c C E;by_cases e:m=n;exact one m K X e c C E;by_cases Y:K=n;exact one K m (Ne.symm X) Y c E C;by_cases I:m=m0;grind;by_cases e2:K=m0;grind;rw[show(Gh.mk M.g z none).ow m=z m from rfl,H m e I]at C;rw[show(Gh.mk M.g z none).ow K=z K from rfl,H K Y e2]at E;exact h.sU m K X c C E;intro m q hq;rw[show(Gh.mk M.g z none).ow m=z m from rfl]at hq;by_cases e:m=n;subst e;rw[k0]at hq;have c9:q∈M.ow m->BY D q.1 q.2:=fun g=>O _ _ (h.live m q g) ⟨m,A3 g⟩;have b7:q∈A++(O2++B')->BY D q.1 q.2:=by
  grind
 rcases h6 with⟨V,b0,hs,ho⟩|⟨V,-,-,ho⟩;grind;grind;by_cases I:m=m0;grind;rw[H m e I]at hq;exact O _ _ (h.live m q hq) ⟨m,A3 hq⟩;intro i hi;exact(h.slots i hi).sI a2;show QR _ _ _ U.pd none;rw[b3];trivial;rintro c ⟨m,hm⟩;exact h.mine c (P c ⟨m,hm⟩)
section
variable {P:Program} {B:Base} {N:Nat} {Z:Type} {U:AE} {a:Act} {w:World} {M:Gh}
theorem Ww{τ:Ty}{c o k:Nat}(e:AU P τ (.inl t)=true)(i:τ.cells=1)(f:BY w b k)(l:o+1<=k):
  (Instr.storeAt t (.pointer (some ⟨b,o,none⟩)) (.slice A n c)).run P w=.ok () (w.setCell ⟨b,o,none⟩ (.slice A n c)):=by
 obtain⟨I⟩:=AM (AY e);have h:(Value.slice A n c).cells=#[Value.slice A n c]:=rfl
 have:=run_storeCells_cells (P:=P) b o [Value.slice A n c] 0 w (fun j d=>(f.cell (o:=o+0+j) (by grind)).1) (fun j d=>(f.cell (o:=o+0+j) (by grind)).2) (fun u a=>by
  simp at a;subst a;rfl)
 have g:(Value.slice A n c).cells.size=τ.cells:=by simp_all
 simp[Instr.storeAt,Instr.sureAddr,storeVar,I.sizeOf,g];rw[h];simp at this;exact this
theorem a0F{o k:Nat}(h:BY w b k)(g:o<k)(v:Value)(c j:Nat):Ad (w.setCell ⟨b,o,none⟩ v) none c j=if c=b/\j=o then some v else Ad w none c j:=by
 simp[Ad];by_cases e1:c=b/\j=o;obtain⟨rfl,rfl⟩:=e1;obtain⟨u,f⟩:=E7.1 (h.cell g).1;simp_all[World.cell?_setCell_same];rw[if_neg e1,World.cell?_setCell_other];grind
theorem b4Y(U:AE):U.sI id=U:=by
 have:∀s:SV,s.sI id=s:=fun s=>by cases s<;>simp[SV.sI]
 simp_all[AE.sI]
theorem AZ.skip{K:AE->Rs Z}{z:Z}{f:AE}{M':Gh}(b:a.tmps.size=N)(g:(execOp a.eval o).run P w=.ok .skip w')(h:sK B f N (AJ a) w' M')(k:K (f.uD o.dst .dead)=some z):AZ P B N o a w K z:=by
 cases hd:o.dst with
 |none=>exact⟨undef,w',f,M',.inr ⟨g,rfl⟩,by rw[hd];exact h,by rw[hd]at k;exact k⟩
 |some d=>exact⟨undef,w',f.set d .dead,M',.inr ⟨g,rfl⟩,by rw[hd];exact h.uN b (fun _=>trivial),by rw[hd]at k;exact k⟩
theorem Ou{t:Ty}(h:t.isList=true):t.cells=1:=by cases t<;>first|rfl|cases h
theorem Lb:∀(p q:BN),QO p q=true->p=q
 | [],[],_=>rfl
 |.fst::p,.fst::q,h=>by rw[Lb p q h]
 |.snd::p,.snd::q,h=>by rw[Lb p q h]
 |.idx i::p,.idx j::q,h=>by
  simp[QO]at h;rw[h.1,Lb p q h.2]
 | [],_::_,h=>by cases h
 |.fst::_,[],h=>by cases h
 |.fst::_,.snd::_,h=>by cases h
 |.fst::_,.idx _::_,h=>by cases h
 |.snd::_,[],h=>by cases h
 |.snd::_,.fst::_,h=>by cases h
 |.snd::_,.idx _::_,h=>by cases h
 |.idx _::_,[],h=>by cases h
 |.idx _::_,.fst::_,h=>by cases h
 |.idx _::_,.snd::_,h=>by cases h
theorem a2M(n:Nat)(U:AE)(r g:Option sO):(((U.sI (AV.sP [n] [])).sF n r).sI (AV.sP [n] [])).sF n g=(U.sI (AV.sP [n] [])).sF n g:=by
 have h:∀a:AV,(a.sP [n] []).sP [n] []=a.sP [n] []:=fun a=>by
  cases a with
  |sref m q=>
   by_cases hm:m=n;subst hm;cases q<;>simp[AV.sP];simp[AV.sP,hm]
  |swin m q o l=>
   grind[AV.sP]
  |ptr m q=>
   by_cases hm:m=n;subst hm;cases q<;>simp[AV.sP];simp[AV.sP,hm]
  |_=>rfl
 simp only[AE.sF,AE.sI];congr 1
 ·funext i;cases U.sl i with
  |one v=>simp[SV.sI,h]
  |cmp c f=>simp[SV.sI,h]
 grind
theorem sK.yG(h:sK B U N tm w M)(hr:U.rt n=some r)(hg:M.g n=.at b 0)(ho:M.ow n=[(b,r.t.cells)])(I:U.pd=none){t2:Ty}{z:t2.sJ}{R2}(y:t2.cells=r.t.cells)(hd:AO (Ad w' none) t2 ((Src.at b 0).rd (Ad w' none))=some (z,[],R2))(hR:∀c∈R2,Be B w M c)(x:∀c,c≠b->w'.heap[c]?=w.heap[c]?)(G:∀c k,BY w c k->BY w' c k)(R:w.heap.size<=w'.heap.size)(hio:FT w'=FT w):
  sK B ((U.sI (AV.sP [n] [])).sF n (some ⟨true,t2,z⟩)) N tm w' M:=by
 have h0:=h.sZ I;have D:b∈(M.ow n).map (·.1):=by simp_all
 have K:∀c,Be B w M c->Be B w' M c:=fun c y=>⟨C0 y.1 R,y.2⟩;have O:∀c j,c≠b->Ad w' M.ov c j=Ad w M.ov c j:=fun c j T=>BF _ (x c T) j;have Z:∀c j,Be B w M c->Ad w' M.ov c j=Ad w M.ov c j:=fun c j X=>O c j fun e=>X.2.2 ⟨n,e▸D⟩;have C:∀m c j,m≠n->c∈(M.ow m).map (·.1)->Ad w' M.ov c j=Ad w M.ov c j:=fun m c j f V=>O c j fun e=>h.sU n m (Ne.symm f) c (e▸D) V;have Q:∀k,k≠n->((U.sI (AV.sP [n] [])).sF n (some ⟨true,t2,z⟩)).rt k=U.rt k:=fun k Y=>qD Y _;have P:((U.sI (AV.sP [n] [])).sF n (some ⟨true,t2,z⟩)).rt n=some ⟨true,t2,z⟩:=by simp[AE.sF]
 have Cd:∀m:Nat,[n].contains m=(m==n):=fun m=>by grind
 refine⟨fun m r' d=>?_,fun m O=>?_,h.nodup,h.sU,fun m p hp=>G _ _ (h.live m p hp),fun i hi=>(h.slots i hi).sI fun a v ha=>?_,?_,D1 h.size R,fun c S hF=>?_,h.mine,fun i A hb h1=>h.pins i A hb fun e=>?_,hio.trans h.still⟩
 ·by_cases f:m=n;subst f;rw[P]at d;simp at d;subst d;refine⟨[],R2,?_,fun c y=>K c (hR c y),.inl ⟨rfl,b,hg,by simp_all⟩⟩;simp_all
  ·rw[Q m f]at d;obtain⟨O1,R1,l1,l2,l3,l4,l5,l6⟩:=h.sep d;refine⟨O1,R1,AF _ l1 (fun j _=>?_) (fun c j y=>?_),fun c y=>K c (l2 c y),l6⟩
   ·cases es:M.g m with
    |one v=>rfl
    |_=>rename_i A o;exact C m A _ f (l5 _ _ es)
   grind
 by_cases f:m=n;simp_all;rw[Q m f]at O;exact h.norm m O
 ·have L:(∀k q,(a=.ptr k q\/a=.sref k q\/∃o l,a=.swin k q o l)->k≠n)->AA (Ad w' M.ov) M.g ((U.sI (AV.sP [n] [])).sF n (some ⟨true,t2,z⟩)).rt (Be B w' M) a v:=fun Y=>by
   refine ha.frame Z K fun k q rk t s E hrk hl=>?_
   have H:=Y k q E;obtain⟨O1,R1,l1,l2,l3,l4,l5,l6⟩:=h.sep hrk;have F:∀j,(M.g k).rd (Ad w' M.ov) j=(M.g k).rd (Ad w M.ov) j:=fun j=>by
    cases es:M.g k with
    |one v=>rfl
    |_=>rename_i A o;exact C k A _ H (l5 _ _ es)
   refine⟨rk,by simp_all,CZ q rk.t _ l1 hl (fun j _=>F j) (fun c j y=>C k c j H (l4 c y)),fun u _ hu=>?_⟩;rw[<-hu];cases s with
   |one v=>rfl
   |_=>rename_i A o;exact C k A _ H (h.place hrk hl)
  cases a with
  |ptr m q=>
   simp only[AV.sP,Cd];split
   ·rename_i f;have f:m=n:=by simp_all
    subst f;cases q with
    |cons=>trivial
    |nil=>
     obtain⟨r',t',A,o',p1,p2,p3⟩:=ha;simp[Cj]at p2;exact⟨⟨true,t2,z⟩,t2,A,o',P,by show some (t2,M.g m)=_;grind,p3⟩
   simp_all
  |sref m q=>
   simp only[AV.sP,Cd];split;cases q<;>exact True.intro;simp_all
  |swin m q o l=>
   simp only[AV.sP,Cd];split;trivial;simp_all
  |_=>exact L (by rintro k q' (g|g|⟨o,l,g⟩)<;>cases g)
 have:=h.pend
 rw[I]at this;show QR _ _ _ U.pd M.ov;rw[I,h0];trivial
 ·rw[x c fun e=>?_];exact h.frame c S hF
  ·subst e;rcases h.mine c ⟨n,D⟩with g|g;all_goals grind
 grind
theorem sK.yQ{ty:Ty}{yv:AV}{E:Value}{K:AE->Rs Z}{z:Z}(hty:AU P ty (.inl t)=true)(h:sK B U N tm w M)(T:U.rt n=some r)(hx:AA (Ad w M.ov) M.g U.rt (Be B w M) (.ptr n []) E)(D:AA (Ad w M.ov) M.g U.rt (Be B w M) yv vy)(G:U.over ty n r yv K=some z):
  ∃w' i M' b o,E=.pointer (some ⟨b,o,none⟩)/\w'=w.setCells b o vy.cells.toList/\(Instr.storeAt t E vy).run P w=.ok () w'/\sK B i N tm w' M'/\K i=some z:=by
 unfold AE.over at G;split at G;rename_i e y rr hl;obtain⟨l,-⟩:=AX hl;have S:=h.sZ l;split at G;rename_i L;obtain⟨I,h6,h5,h0⟩:=L;have D:Cg (Ad w M.ov) (Be B w M) e y vy:=D;have O:e.cells=r.t.cells:=by grind[Ty.sW]
 obtain⟨b,F,R⟩:=h.xP T I l;obtain⟨r',t1,b1,o1,q1,q2,q3⟩:=hx;simp[Cj,F]at q2;obtain⟨-,rfl,rfl⟩:=q2;have d:BY w b (0+r.t.cells):=by
  have:=h.room (p:=[]) (t:=r.t) (b:=b) (o:=0) T (by rw[F];rfl)
  omega
 have v:AU P e (.inl t)=true:=by grind[Fo]
 have q:=bS v D (b:=b) (o:=0) (by rw[O];omega) (B4 _);rw[<-q3]at q;obtain⟨h7,-⟩:=D.cells;have X:vy.cells.toList.length=r.t.cells:=by simp_all
 obtain⟨-,-,Y,V,A⟩:=id D;obtain⟨w',C⟩:∃w',w'=w.setCells b 0 vy.cells.toList:=⟨_,rfl⟩;have hm:∀c j,Ad w' none c j=if c=b/\0<=j/\j<0+r.t.cells then vy.cells.toList[j-0]? else Ad w none c j:=fun c j=>by
  have:=JO b vy.cells.toList 0 w _ d (by omega) c j
  rw[X]at this;rw[C];exact this
 have k:BD M b:=⟨n,h.place (p:=[]) (t:=r.t) (b:=b) (o:=0) T (by rw[F];rfl)⟩;have Q:AO (Ad w' none) e ((Src.at b 0).rd (Ad w' none))=some (y,[],Y):=AF e V (fun j hj=>by
  show Ad w' none b (0+j)=_;simp_all) (fun c j f=>by
  rcases f with f|f;simp_all;rw[hm,if_neg,S];rintro⟨rfl,-⟩;exact(A c f).2.2 k)
 have h1:∀(t2:Ty)(H:t2.sJ),tC e t2 y=some H->t2.cells=r.t.cells->K ((U.sI (AV.sP [n] [])).sF n (some ⟨true,t2,H⟩))=some z->
   ∃w' i M' b o,E=.pointer (some ⟨b,o,none⟩)/\w'=w.setCells b o vy.cells.toList/\(Instr.storeAt t E vy).run P w=.ok () w'/\sK B i N tm w' M'/\K i=some z:=fun t2 H a h2 hK=>by
  have u:∀c,Be B w M c->Be B w ⟨M.g,fun m=>if m=n then[(b,r.t.cells)]else M.ow m,M.ov⟩ c:=fun c ⟨g1,g2,g3⟩=>⟨g1,g2,fun⟨m,h4⟩=>g3 ⟨m,by
   grind⟩⟩
  have:=R.yG (w':=w') (b:=b) (r:=⟨true,r.t.tL,Ty.vI r.t r.x⟩) (by simp[AE.sF]) F (by simp[Ty.uC]) (by simp_all[AE.sF,AE.sI]) (t2:=t2) (z:=H) (R2:=Y) (by simp_all[Ty.uC]) (Wu a Q) (fun c L=>u c (A c L))
   (fun c h3=>by simp_all[DX]) (fun _ _ hf=>by rw[C];exact hf.setCells _ _ _) (by simp_all[HL]) (by simp_all[JP])
  grind[a2M]
 split at G;grind;grind[Ty.uC,bR];simp_all;simp_all
theorem sK.xG{ty:Ty}{yv:AV}{vx:Value}{K:AE->Rs Z}{z:Z}(_hsh:ty.sh=ty)(hty:AU P ty (.inl t)=true)(h:sK B U N tm w M)(hx:AA (Ad w M.ov) M.g U.rt (Be B w M) (.ptr n p) vx)(Q:AA (Ad w M.ov) M.g U.rt (Be B w M) yv vy)(D:U.vJ ty n p yv K=some z):
  ∃w' U' M' b o,vx=.pointer (some ⟨b,o,none⟩)/\w'=w.setCells b o vy.cells.toList/\(Instr.storeAt t vx vy).run P w=.ok () w'/\sK B U' N tm w' M'/\K U'=some z:=by
 obtain⟨yw,h8⟩:∃f:AV->AV,f yv=yv:=⟨fun v=>v,rfl⟩;rw[<-h8]at Q D;clear h8;obtain⟨r,t0,b,u,hr,hl,I⟩:=id hx;obtain⟨O1,R1,k1,k2,k3,k4,k5,k6⟩:=h.sep hr;obtain⟨y0,O',R',A1,B1,a5,a7,hd,hg,e1,e2⟩:=BU p r.t _ k1 hl;unfold AE.vJ at D;rw[hr]at D;simp only at D;split at D
 ·rename_i e l g6;split at D
  ·rename_i H;have k7:t0=.list true e:=by
    simp_all
   subst k7;have d:=h.room hr hl;have y:BD M b:=⟨n,h.place hr hl⟩;split at D
   ·
    rename_i h5;rw[h5]at Q;have Q:vy=.slice none 0 0:=Q;split at D;grind
    ·rename_i r2 h2;obtain⟨F,-⟩:=AX h2;have i:=h.sZ F;have a:=Ww (A:=none) (n:=0) (c:=0) hty (Ou H) d (o:=u) (B4 _);rw[<-I,<-Q]at a;have hm:=a0F (v:=vy) d (o:=u) (Nat.lt_succ_self _);obtain⟨h9,-,x⟩:=h.yY hr hl hd (w':=w.setCell ⟨b,u,none⟩ vy) (ov':=M.ov) (pd':=U.pd) (y':=([]:List e.sJ)) (O2:=[]) (R2:=[]) (.same (by simp_all)) (by
       rw[i];show Cn _ true e.cells _ (Ad _ none b (u+0))=_;rw[hm,if_pos ⟨rfl,rfl⟩,Q];rfl) (fun c j=>by
       rw[i,hm];by_cases e1:c=b/\j=u;simp_all[Ty.cells];simp_all) (by simp) (by simp) (by simp) (fun c k hf _=>hf.setCell _ _) (by simp) (fun c E hF=>by
       rw[LJ,if_neg];exact h.frame c E hF
       ·rintro rfl;rcases h.mine _ y with g|g;all_goals grind) (by simp) (f:=AV.kill n p) (fun O=>Wt n p _ O)
     exact⟨_,_,_,b,u,I,by rw[Q];rfl,a,x,D⟩
   ·
    rename_i m p' h5;rw[h5]at Q;rcases Ah D with⟨E,G⟩|⟨-,G⟩<;>clear D
    ·simp at E;obtain⟨rfl,E⟩:=E;have h3:=Lb _ _ E;subst h3;split at G
     ·rename_i m2 p2 d2 F;rcases Ah G with⟨Y,L⟩|⟨-,L⟩<;>clear G
      ·simp at Y;obtain⟨rfl,Y⟩:=Y;have h3:=Lb _ _ Y;subst h3;have hp:=h.pend;rw[F]at hp;cases i:M.ov with
       |none=>rw[i]at hp;exact hp.elim
       |some ov=>
        obtain⟨b2,o2,v2⟩:=ov;rw[i]at hp;obtain⟨r2,e2,q1,T⟩:=hp;rw[hr]at q1;simp at q1;subst q1;rw[<-i,hl]at T;simp only[sj,pJ,Src.at.injEq]at T;obtain⟨-,rfl,rfl⟩:=T;obtain⟨r3,e3,s3,V,q4,q5⟩:=Q;rw[hr]at V;simp at V;subst V;rw[hl]at q4;simp only[sj,pJ]at q4;obtain⟨-,rfl⟩:=q4;have hv:v2=vy:=by
         simp_all[Src.rd,Ad]
        have C:∃A n' X,vy=.slice A n' X:=by
         rcases Cr hd with⟨g,-⟩|⟨A,n',X,os,g,-⟩;all_goals simp_all
        obtain⟨A,n',X,C⟩:=C;have a:=Ww (A:=A) (n:=n') (c:=X) hty (Ou H) d (o:=u) (B4 _);rw[<-I,<-C,<-hv]at a
        have:=h.done F i
        refine⟨_,_,_,b,u,I,?_,?_,this,L⟩;rw[hv,C];rfl;simp_all
      simp_all
     simp_all
    ·split at G
     ·rename_i r2 e' l' b5 g7;split at G
      ·rename_i g3;subst g3;rcases Ah G with⟨-,L⟩|⟨h7,L⟩<;>clear G;grind
       ·have h7:m≠n:=by simp_all
        obtain⟨F,h4⟩:=AX g7;obtain⟨r3,e3,s3,V,q4,q5⟩:=Q;rw[h4]at V;simp at V;subst V;simp only[loc,Cj,sj,pJ]at q4;obtain⟨q4,rfl⟩:=q4;obtain⟨O3,R3,i1,-,-,-,-,i6⟩:=h.sep h4;have g5:M.g m=.one vy:=by
         rcases i6 with⟨a9,-⟩|⟨-,⟨v,hs⟩,-⟩;all_goals simp_all[Src.rd]
        have C:∃A n' X,vy=.slice A n' X:=by
         rcases Cr i1 with⟨g,-⟩|⟨A,n',X,os,g,-⟩;all_goals simp_all
        obtain⟨A,n',X,C⟩:=C;have a:=Ww (A:=A) (n:=n') (c:=X) hty (Ou H) d (o:=u) (B4 _);rw[<-I,<-C]at a;obtain⟨h9,x⟩:=h.move hr hl hd h4 g5 h7 F (f:=fun O=>AV.drop m (AV.kill n p O)) (fun O=>by
         rcases Wt n p (.list true e') O with g|⟨g,g2⟩;left;rw[g];rfl
         ·rw[g];cases O with
          |ptr m2 T=>
           grind[AV.drop]
          |sref m2 T=>
           grind[AV.drop]
          |swin m2 T o2 k2=>
           grind[AV.drop]
          |_=>exact .inr ⟨rfl,g2,fun k q hh=>by rcases hh with hh|hh|⟨_,_,hh⟩<;>cases hh⟩)
        have g9:(U.sI (AV.kill n p)).sI (AV.drop m)=U.sI fun O=>AV.drop m (AV.kill n p O):=by
         have:∀s:SV,(s.sI (AV.kill n p)).sI (AV.drop m)=s.sI fun O=>AV.drop m (AV.kill n p O):=fun s=>by
          cases s<;>simp[SV.sI]
         simp_all[AE.sI]
        rw[g9]at L;exact⟨_,_,_,b,u,I,by rw[C];rfl,a,x,L⟩
      simp_all
     simp_all
   simp_all
  simp_all
 ·rename_i t1 y1 b6 g6;split at D
  ·rename_i k0;obtain⟨R,a4⟩:=k0;have hty:AU P t1 (.inl t)=true:=by grind[Fo]
   obtain⟨yv,U1,M1,D,h1,hv,g4,-⟩:=h.uT (.inl Q) D;split at D
   ·rename_i r1 h2;obtain⟨F,S⟩:=AX h2;have i:=h1.sZ F;split at D
    ·rename_i b4;have a3:AA (Ad w M1.ov) M1.g U1.rt (Be B w M1) (.ptr n p) vx:=by
      rcases g4.live (.inl hx)with g|⟨k,q,g1,g2⟩;all_goals grind
     obtain⟨r3,t3,b3,o3,q1,T,V⟩:=a3;rw[S]at q1;simp at q1;subst q1;obtain⟨O4,R4,j1,j2,j3,j4,j5,j6⟩:=h1.sep S;obtain⟨y4,O5,R5,A5,B5,a6,a8,h6,b0,-,-⟩:=BU p r1.t _ j1 T;have k8:t3=t1:=by
      simp_all
     subst k8;have g0:=Pk R h6;subst g0;have d:=h1.room S T;have y:BD M1 b3:=⟨n,h1.place S T⟩;have a:=bS hty hv d (o:=o3) (B4 _);rw[<-V]at a;obtain⟨b7,-⟩:=hv.cells;obtain⟨-,-,R6,k9,h0⟩:=id hv;have a2:vy.cells.toList.length=t3.cells:=by omega
     have hm:∀c j,Ad (w.setCells b3 o3 vy.cells.toList) none c j=if c=b3/\o3<=j/\j<o3+t3.cells then vy.cells.toList[j-o3]? else Ad w none c j:=fun c j=>by
      have:=JO b3 vy.cells.toList o3 w _ d (by omega) c j
      rw[a2]at this;exact this
     obtain⟨h9,-,x⟩:=h1.yY S T h6 (w':=w.setCells b3 o3 vy.cells.toList) (ov':=M1.ov) (pd':=U1.pd) (y':=yv) (O2:=[]) (R2:=R6) (.same (by simp_all)) (by
       rw[i];refine AF t3 k9 (fun j hj=>?_) (fun c j E=>?_);show Ad _ none b3 (o3+j)=_;simp_all;rcases E with E|E;simp_all;rw[hm,if_neg,i];rintro⟨rfl,-⟩;exact(h0 c E).2.2 y) (fun c j=>by
       grind) (by simp) (by simp) (by simp) (fun c k hf _=>hf.setCells _ _ _) (by simp_all[HL]) (fun c E hF=>by
       rw[DX];exact h1.frame c E hF
       ·rintro rfl;rcases h1.mine _ y with g|g;all_goals grind) (fun c E=>⟨by rw[HL];exact(h0 c E).1,(h0 c E).2.1,(h0 c E).2.2,by simp⟩) (f:=id) (fun O=>.inr ⟨rfl,a5P n p R O⟩) (hio:=JP _ _ _ _)
     rw[b4Y]at x;exact⟨_,_,_,b3,o3,V,rfl,a,x,D⟩
    simp_all
   simp_all
  ·cases p with
   |nil=>exact h.yQ (hty:=hty) hr hx Q D
   |cons=>cases D
theorem iG{o:Oper}{t:TypeId}{x y:Operand}{cx:Cx}{q:Bool}{K:AE->Rs Z}{z:Z}(e:CxTy P cx)(c:o.op=.store t x y)(d:U.tK y=none)
  (h:sK B U N (AJ a) w M)(v:a.tmps.size=N)(m:fits N o=true)(g:Bk cx q o U K=some z):AZ P B N o a w K z:=by
 have r:=h.sM (Bl m x (by simp[c,Op.operands]));have C:=h.sM (Bl m y (by simp[c,Op.operands]));have g:(if q then none else match U.sM x with
  |.ptr n p=>match cx.T t with
   |some t=>U.vJ t n p (U.sM y) fun U=>K (U.uD o.dst .dead)
   |none=>none
  |_=>none)=some z:=by
  simp only[Bk,c,d]at g;omega
 split at g;grind;split at g;rename_i n p l;rw[l]at r;split at g;rename_i G A;obtain⟨i,j⟩:=e.T t _ A;obtain⟨H,F,E,b,D,-,-,k,f,u⟩:=sK.xG i j h r C g;exact AZ.skip v (by simp[execOp,c,k]) f u;simp_all;simp_all
theorem VR(w:World)(cs:Array Value)(t:TypeId)(k:Nat)(u:Value):
  (w.alloc (.cells cs t)).setCell ⟨w.heap.size,k,none⟩ u=w.alloc (.cells (cs.setIfInBounds k u) t):=by
 have:(w.heap.push (.cells cs t)).modify w.heap.size (fun
   |.cells c elem frozen=>.cells (if(none:Option Nat).isSome then c else c.setIfInBounds k u) elem frozen
   |o=>o)=w.heap.push (.cells (cs.setIfInBounds k u) t):=by
  grind
 simp only[World.setCell,World.alloc];grind
theorem uW:∀τ:Ty,τ.sh.sh=τ.sh
 |.int _|.bool|.str|.unit=>rfl
 |.list _ e=>by simp only[Ty.sh,uW e]
 |.nl e=>by simp only[Ty.sh,uW e]
 |.arr _ e=>by simp only[Ty.sh,uW e]
 |.pair a b=>by simp only[Ty.sh,uW a,uW b]
def Sn:Nat->Ty->Option Ty
 |0,τ=>some τ
 |k+1,.pair a b=>if a.cells=1 then Sn k b else none
 |_+1,_=>none
theorem bW:∀(k:Nat)(τ:Ty){a b:Ty},Sn k τ=some (.pair a b)->Dk τ k=true/\(a.cells=1->Sn (k+1) τ=some b)/\∀(m:DJ) bl o,loc m τ (.at bl o) (BE k)=some (a,.at bl (o+k))
 |0,τ,a,b,h=>by
  simp[Sn]at h;subst h;exact⟨rfl,fun h=>by simp[Sn,h],fun m bl o=>rfl⟩
 |k+1,τ,a,b,h=>by
  cases τ with
  |pair u v=>
   simp only[Sn]at h;split at h;rename_i c;obtain⟨g,d,f⟩:=bW k v h;refine⟨g,fun e=>by simp_all[Sn],fun m bl o=>?_⟩
   have:=f m bl (o+u.cells)
   rw[c]at this;show loc m v (.at bl (o+u.cells)) (BE k)=_;grind;simp_all
  |_=>simp[Sn]at h
theorem iH{τ0:Ty}{t:TypeId}(hty:AU P τ0 (.inl t)=true){i d q:Nat}(hi:i<N)(x:d<N){us:Array Value}{tm:Nat->Value}(p:tm i=.agg us)(y:tm d=.pointer (some ⟨q,0,none⟩)){z:Z}{K:AE->Rs Z}:
  ∀(τ:Ty)(k:Nat){U:AE}{M:Gh}{w:World},sK B U N tm w M->Sn k τ0=some τ->
   AE.uO (.tmp i) d τ0 k τ U K=some z->us.size=k+τ.cells/\∃D M',sK B D N tm (w.setCells q k (us.toList.drop k)) M'/\K D=some z
 |.unit,k,U,M,w,h,_,f=>by
  simp[AE.uO]at f;split at f;rename_i C c;obtain⟨hk,R⟩:=(Ah f).elim id fun h=>by grind
  have j:=h.slots i hi;simp[AE.tK]at c;split at c;rename_i V I;simp at c;subst c;rw[I]at j;obtain⟨us',⟨Y,A,h3⟩,h4⟩:=j;rw[p]at A;cases A;have hk:V.length=k:=by simp_all
  refine⟨by simp_all[Ty.cells],U,M,?_,R⟩;rw[List.drop_of_length_le (by simp_all)];exact h;simp_all;simp_all
 |.pair a b,k,U,M,w,h,htl,f=>by
  simp[AE.uO]at f;split at f;rename_i r n v hr G hv;split at f;rename_i hc;obtain⟨h0,rfl,ha⟩:=hc;obtain⟨Y,A,h3⟩:=bW k τ0 htl;have m:=h.slots n x;rw[y]at m;have H:AA (Ad w M.ov) M.g U.rt (Be B w M) (.ptr n []) (.pointer (some ⟨q,0,none⟩)):=by
   simp[AE.get]at G;split at G;rename_i v' l;subst G;rw[l]at m;exact m;simp_all
  obtain⟨r',t',b',o',S,T,p3⟩:=H;rw[hr]at S;simp at S;subst S;simp[Cj]at T;obtain⟨rfl,T⟩:=T;simp at p3;obtain⟨rfl,rfl⟩:=p3;have hx:AA (Ad w M.ov) M.g U.rt (Be B w M) (.ptr n (BE k)) (.pointer (some ⟨q,k,none⟩)):=by
   refine⟨r,a,q,0+k,hr,?_,by simp⟩;simp_all
  have j:=h.slots i hi;have c:∃C,U.sl i=.cmp .agg C/\C[k]?=some v:=by
   grind[AE.tK]
  obtain⟨C,I,Q⟩:=c;rw[I]at j;obtain⟨us',⟨g1,X,g3⟩,g4⟩:=j;rw[p]at X;cases X;obtain⟨u,O,hu⟩:=g4 k v Q;obtain⟨E,h5,l⟩:∃E,P.underlying t=some (.struct E)/\AU P τ0 (.inr (E.toList,0))=true:=by
   grind[PS]
  obtain⟨fl,τ',k',q1,q2,q3,q4,q5⟩:=Sj k τ0 _ 0 l Y;have e:=(q5 (Ad w none) 0 0).symm.trans (h3 (Ad w none) 0 0);simp only[sj,pJ]at e;obtain⟨rfl,-⟩:=e;have L:AU P τ'.sh (.inl fl.type)=true:=by rw[Fo];omega
  have o:τ'.sh.sh=τ'.sh:=uW τ';obtain⟨w',D,M',b2,o2,s1,s2,s3,s4,s5⟩:=sK.xG o L h hx hu f;simp at s1;obtain⟨rfl,rfl⟩:=s1;rw[XC (g3 k u O)]at s2;subst s2;obtain⟨c1,U2,M2,c2,c3⟩:=iH hty hi x p y b (k+1) s4 (A ha) s5;refine⟨by grind[Ty.cells],U2,M2,?_,c3⟩;have F:us.toList.drop k=u::us.toList.drop (k+1):=by
   grind[D4]
  rw[F];exact c2;simp_all;simp_all
 |.int _,k,U,M,w,_,_,f=>by simp[AE.uO]at f
 |.bool,k,U,M,w,_,_,f=>by simp[AE.uO]at f
 |.str,k,U,M,w,_,_,f=>by simp[AE.uO]at f
 |.list _ _,k,U,M,w,_,_,f=>by simp[AE.uO]at f
 |.arr _ _,k,U,M,w,_,_,f=>by simp[AE.uO]at f
theorem Ub(w:World)(t:TypeId):∀(l:List Value)(k:Nat)(cs:Array Value),k+l.length=cs.size->
  (w.alloc (.cells cs t)).setCells w.heap.size k l=w.alloc (.cells (cs.toList.take k++l).toArray t)
 | [],k,cs,h=>by
  simp_all[World.setCells,List.take_of_length_le]
 |u::l,k,cs,h=>by
  simp only[World.setCells,lC]at h|-;rw[VR,Ub w t l (k+1) _ (by simp;omega)];congr 2;have g:k<cs.toList.length:=by simp;omega
  simp only[Array.toList_setIfInBounds];rw[D9 (by simpa using g)];simp[F2]
theorem a2N{o:Oper}{t:TypeId}{x:Operand}{d:Nat}{cx:Cx}{q:Bool}{K:AE->Rs Z}{z:Z}{p:List AV}(l:CxTy P cx)(A:o.op=.box t x)(S:o.dst=some d)(j:(bif q then none else U.tK x)=some p)
  (h:sK B U N (AJ a) w M)(O:a.tmps.size=N)(X:fits N o=true)(e:Bk cx q o U K=some z):AZ P B N o a w K z:=by
 have g:U.tK x=some p:=by
  grind
 have n:=Bl X x (by simp[A,Op.operands]);have m:d<N:=by
  simp_all[fits]
 simp[Bk,A,S,j]at e
 ·split at e
  ·rename_i τ hrd hO;split at e
   ·rename_i Q;have b:AU P τ (.inl t)=true:=by rw[<-Fo];exact(l.T t _ Q).2
    obtain⟨I⟩:=AM (AY b);cases x with
    |tmp i=>
     have y:i<N:=by simpa[Ch]using n
     have k:=h.slots i y;have hs:U.sl i=.cmp .agg p:=by
      grind[AE.tK]
     rw[hs]at k;obtain⟨us,⟨h1,L,h3⟩,h4⟩:=k;have V:a.eval (.tmp i)=.agg us:=L;have f:(execOp a.eval o).run P w=.ok (.value (.pointer (some ⟨w.heap.size,0,none⟩))) (w.alloc (.cells us t)):=by
      simp_all[execOp,Instr.box,newVar,newRow,Value.cells]
     obtain⟨U1,M1,r,E,F⟩:=h.xC e (fun c R=>BG _ c R) (BR _) (Bu (w:=w) (.cells I.z.cells t)) I.uZ (Jd _ I.zok) (by simp);have Y:i≠d:=by
      rintro rfl;cases τ<;>simp[AE.uO,AE.tK,AE.set,AE.put]at r
     have G:=E.uN (sv:=.one (.ptr d [])) (v:=.pointer (some ⟨w.heap.size,0,none⟩)) (d:=d) O (fun _=>F);obtain⟨g0,D,C,u,H⟩:=iH b y m (us:=us) (tm:=AJ (a.put (some d) (.pointer (some ⟨w.heap.size,0,none⟩)))) (by simp_all[TQ]) (by rw[TQ d (by omega),if_pos rfl]) τ 0 G rfl r;rw[G7,Ub w t us.toList 0 I.z.cells (by rw[I.uZ,E5];omega)]at u;simp at u;exact⟨_,_,D,C,.inl f,by simp_all,H⟩
    |_=>simp[AE.tK]at g
   simp_all
  simp_all
theorem VS{o:Oper}{t:TypeId}{x y:Operand}{cx:Cx}{q:Bool}{K:AE->Rs Z}{z:Z}{vs:List AV}(H:CxTy P cx)(I:o.op=.store t y x)(n:U.tK x=some vs)
  (h:sK B U N (AJ a) w M)(hN:a.tmps.size=N)(Y:fits N o=true)(f:Bk cx q o U K=some z):AZ P B N o a w K z:=by
 have Q:=Bl Y x (by simp[I,Op.operands]);have R:=Bl Y y (by simp[I,Op.operands]);have f:(if q then none else match y with
   |.tmp s=>match U.rt s with
    |some r=>if cx.T t=some r.t.sh/\0<r.t.cells then AE.uO x s r.t 0 r.t U fun U=>K (U.uD o.dst .dead)else none
    |none=>none
   |_=>none)=some z:=by
  simp only[Bk,I,n]at f;omega
 split at f;grind
 ·cases y with
  |tmp d=>
   simp at f;have p:d<N:=by simpa[Ch]using R
   split at f
   ·rename_i r L;split at f
    ·rename_i G;obtain⟨G,c⟩:=G;have F:AU P r.t (.inl t)=true:=by rw[<-Fo];exact(H.T t _ G).2
     cases x with
     |tmp i=>
      have hi:i<N:=by simpa[Ch]using Q
      have D:=h.slots i hi;have hs:U.sl i=.cmp .agg vs:=by
       grind[AE.tK]
      rw[hs]at D;obtain⟨us,⟨h1,X,h3⟩,h4⟩:=D;have h6:a.eval (.tmp i)=.agg us:=X

      have C:∃e,AJ a d=.pointer (some ⟨e,0,none⟩)/\loc (Ad w M.ov) r.t (M.g d) []=some (r.t,.at e 0):=by
       have j:U.get d=.ptr d []:=by
        revert f c;cases r.t with
        |pair u v=>
         grind[AE.uO]
        |unit=>simp_all[Ty.cells]
        |_=>intro c f;simp[AE.uO]at f
       have b:AA (Ad w M.ov) M.g U.rt (Be B w M) (.ptr d []) (AJ a d):=by
        have b:=h.slots d p;simp[AE.get]at j;split at j;rename_i v' O;subst j;rw[O]at b;exact b;simp_all
       obtain⟨r',t',b',o',S,m,p3⟩:=b;rw[L]at S;simp at S;subst S;simp[Cj]at m;obtain⟨rfl,m⟩:=m;obtain⟨O',R',-,-,hb⟩:=(h.roots d r L).rd;rcases hb with⟨-,e,q1,-⟩|⟨-,⟨v,q1⟩,-⟩;rw[q1]at m;simp at m;obtain⟨rfl,rfl⟩:=m;simp_all[Cj];simp_all
      obtain⟨e,E,A⟩:=C;have l:=h.room L A;obtain⟨g0,U',M',V,g6⟩:=iH F hi p (us:=us) X E r.t 0 h rfl f;rw[G7]at V;have h0:(Instr.storeAt t (.pointer (some ⟨e,0,none⟩)) (.agg us)).run P w=.ok () (w.setCells e 0 us.toList):=
       XB F (by simp_all[Value.cells]) (fun u hu=>by
        obtain⟨k,hk⟩:=E2.1 hu;exact h3 k u (by rw[<-B8];exact hk)) l (B4 _)
      have h5:a.eval (.tmp d)=.pointer (some ⟨e,0,none⟩):=E;exact AZ.skip hN (by simp_all[execOp]) V g6
     |_=>simp[AE.tK]at n
    simp_all
   simp_all
  |_=>grind
end
theorem Ro:∀(p q:BN)(t:Ty)(x:t.sJ),DW (p++q) t x=DW q (DW p t x).1 (DW p t x).2
 | [],_,_,_=>rfl
 |.fst::p,q,t,x=>by
  cases t with
  |pair a b=>exact Ro p q a x.1
  |_=>cases q with
   |nil=>rfl
   |cons s q=>cases s<;>rfl
 |.snd::p,q,t,x=>by
  cases t with
  |pair a b=>exact Ro p q b x.2
  |_=>cases q with
   |nil=>rfl
   |cons s q=>cases s<;>rfl
 |.idx i::p,q,t,x=>by
  cases t with
  |arr n e=>exact Ro p q e _
  |list o e=>cases o with
   |true=>exact Ro p q e _
   |false=>cases q with
    |nil=>rfl
    |cons s q=>cases s<;>rfl
  |_=>cases q with
   |nil=>rfl
   |cons s q=>cases s<;>rfl
theorem Uc(t:Ty)(x y:t.sJ):FK [] t x t y=y:=gS t x y
theorem Ud:∀(p q:BN)(t:Ty)(x:t.sJ)(h:Ty)(y:h.sJ),FK (p++q) t x h y=FK p t x (DW p t x).1 (FK q (DW p t x).1 (DW p t x).2 h y)
 | [],q,t,x,h,y=>(Uc t x (FK q t x h y)).symm
 |.fst::p,q,t,x,h,y=>by
  cases t with
  |pair a b=>
   show(FK (p++q) a x.1 h y,x.2)=(FK p a x.1 (DW p a x.1).1 (FK q (DW p a x.1).1 (DW p a x.1).2 h y),x.2);simp_all[Ud]
  |_=>rfl
 |.snd::p,q,t,x,h,y=>by
  cases t with
  |pair a b=>
   show(x.1,FK (p++q) b x.2 h y)=(x.1,FK p b x.2 (DW p b x.2).1 (FK q (DW p b x.2).1 (DW p b x.2).2 h y));simp_all[Ud]
  |_=>rfl
 |.idx i::p,q,t,x,h,y=>by
  cases t with
  |arr n e=>
   show G6 x i (FK (p++q) e (D0 x i e.dflt) h y)=G6 x i (FK p e (D0 x i e.dflt) (DW p e (D0 x i e.dflt)).1 (FK q (DW p e (D0 x i e.dflt)).1 (DW p e (D0 x i e.dflt)).2 h y));simp_all[Ud]
  |list o e=>cases o with
   |true=>
    show G6 x i (FK (p++q) e (D0 x i e.dflt) h y)=G6 x i (FK p e (D0 x i e.dflt) (DW p e (D0 x i e.dflt)).1 (FK q (DW p e (D0 x i e.dflt)).1 (DW p e (D0 x i e.dflt)).2 h y));simp_all[Ud]
   |false=>rfl
  |_=>rfl
theorem Zm:∀(p:BN)(t:Ty)(x:t.sJ)(g:Ty)(y:g.sJ),Wp p=true->(DW p t x).1=g->DW p t (FK p t x g y)=⟨g,y⟩
 | [],t,x,g,y,_,h=>by
  have h:t=g:=h;subst h;exact congrArg (Sigma.mk t) (Uc t x y)
 |.fst::p,t,x,g,y,f,h=>by
  cases t with
  |pair a b=>exact Zm p a x.1 g y f h
  |_=>
   have h:Ty.unit=g:=h;subst h;rfl
 |.snd::p,t,x,g,y,f,h=>by
  cases t with
  |pair a b=>exact Zm p b x.2 g y f h
  |_=>
   have h:Ty.unit=g:=h;subst h;rfl
 |.idx _::_,_,_,_,_,f,_=>by cases f
theorem Zn:∀(p:BN)(t:Ty)(x:t.sJ)(g:Ty)(y z:g.sJ),Wp p=true->(DW p t x).1=g->FK p t (FK p t x g y) g z=FK p t x g z
 | [],t,x,g,y,z,_,h=>by
  have h:t=g:=h;grind[Uc]
 |.fst::p,t,x,g,y,z,f,h=>by
  cases t with
  |pair a b=>
   show(FK p a (FK p a x.1 g y) g z,x.2)=(FK p a x.1 g z,x.2);rw[Zn p a x.1 g y z f h]
  |_=>rfl
 |.snd::p,t,x,g,y,z,f,h=>by
  cases t with
  |pair a b=>
   show(x.1,FK p b (FK p b x.2 g y) g z)=(x.1,FK p b x.2 g z);rw[Zn p b x.2 g y z f h]
  |_=>rfl
 |.idx _::_,_,_,_,_,_,f,_=>by cases f
theorem Vj:∀(p:BN)(t:Ty)(x:t.sJ),Wp p=true->FK p t x (DW p t x).1 (DW p t x).2=x
 | [],t,x,_=>Uc t x x
 |.fst::p,t,x,h=>by
  cases t with
  |pair a b=>
   show(FK p a x.1 (DW p a x.1).1 (DW p a x.1).2,x.2)=x;rw[Vj p a x.1 h];rfl
  |_=>rfl
 |.snd::p,t,x,h=>by
  cases t with
  |pair a b=>
   show(x.1,FK p b x.2 (DW p b x.2).1 (DW p b x.2).2)=x;rw[Vj p b x.2 h];rfl
  |_=>rfl
 |.idx _::_,_,_,h=>by cases h
section
variable {P:Program} {B:Base} {N:Nat} {Z:Type} {U:AE} {a:Act} {w:World} {M:Gh}
theorem qH(h:sK B U N tm w M){n p v r k}{l:List Int}(u:AA (Ad w M.ov) M.g U.rt (Be B w M) (.sref n p) v)(m:U.rt n=some r)(z:Dc r.t r.x p=⟨.list true (.int k),l⟩):
  ∃A c,v=.slice A l.length c/\∀j,j<l.length->∃f,A=some f/\f.spot=none/\AA (Ad w M.ov) M.g U.rt (Be B w M) (.ptr n (p++[.idx (0+j)])) (.pointer (some ⟨f.block,f.off+j,none⟩)):=by
 obtain⟨s,E,F,o,G,H,q,-,-⟩:=h.slice u m z;rcases Cr q with⟨a,b⟩|⟨f,D,c,I,a,d,C,y,-⟩;simp[Src.rd]at a;obtain⟨b,-⟩:=b;subst b;exact⟨none,0,a,fun j e=>absurd e (Nat.not_lt_zero j)⟩;simp[Src.rd]at a;have i:l.length=D:=Bd _ _ y;refine⟨some f,c,by simp_all,fun j e=>⟨f,rfl,d.resolve_left (by omega),r,.int k,f.block,f.off+j,m,?_,rfl⟩⟩;rw[EF p _ _ _ o];simp_all[Cj,Ty.cells]
theorem qI(h:sK B U N tm w M){n p v r k off a}{l:List Int}(y:AA (Ad w M.ov) M.g U.rt (Be B w M) (.swin n p off a) v)(i:U.rt n=some r)(C:Dc r.t r.x p=⟨.list true (.int k),l⟩):
  off+a<=l.length/\∃A c,v=.slice A a c/\∀j,j<a->∃b,A=some b/\b.spot=none/\AA (Ad w M.ov) M.g U.rt (Be B w M) (.ptr n (p++[.idx (off+j)])) (.pointer (some ⟨b.block,b.off+j,none⟩)):=by
 obtain⟨s,G,H,A,m,c,q,K,u,L,O,P,o,F,Q,g8⟩:=h.window y i C;rcases Cr u with⟨f,S⟩|⟨b,T,I,V,f,d,E,z,-⟩;simp[Src.rd]at f;simp_all;simp[Src.rd]at f;obtain⟨rfl,rfl,rfl⟩:=f;have e:l.length=m:=Bd _ _ z;refine⟨by omega,o,_,F,fun j R=>?_⟩;rcases g8 with g8|g8;omega;simp[Fp (d.resolve_left (by omega))]at g8;refine⟨_,g8,rfl,r,.int k,b.block,b.off+off*1+j,i,?_,rfl⟩;rw[EF p _ _ _ q];have D:off+j<m:=by omega
 simp_all[Cj,Ty.cells,Nat.add_assoc]
theorem iI{U:AE}(h:U.rt n=some r):U.sF n (some r)=U:=by
 have:(fun j=>bif j==n then some r else U.rt j)=U.rt:=by
  grind
 simp_all[AE.sF]
theorem a2O{U:AE}{r h:Option sO}:(U.sF n r).sF n h=U.sF n h:=by
 simp only[AE.sF];grind
theorem a2P(l:List Int)(i:Nat):DW [.idx i] (.list true (.int k)) l=⟨.int k,l.getD i 0⟩:=rfl
theorem b1D(l:List Int)(i:Nat)(y:Int):FK [.idx i] (.list true (.int k)) l (.int k) y=l.set i y:=by
 show l.set i (FK [] (.int k) (l.getD i 0) (.int k) y)=_;exact congrArg _ (Uc (.int k) _ y)
theorem b1E{l:List Int}{y:Int}(b:U.pd=none)(e:U.rt n=some r)(h:Dc r.t r.x p=⟨.list true (.int k),l⟩):
  U.vJ (.int k) n (p++[.idx i]) (.val (.int k) y) some=some (U.sF n (some ⟨r.bx,r.t,Fc r.t r.x p (.list true (.int k)) (l.set i y)⟩)):=by
 have h:DW p r.t r.x=⟨.list true (.int k),l⟩:=h;have f:DW (p++[.idx i]) r.t r.x=⟨.int k,l.getD i 0⟩:=by rw[Ro,h,a2P]
 have a:FK (p++[.idx i]) r.t r.x (.int k) y=FK p r.t r.x (.list true (.int k)) (l.set i y):=by
  have g:=Ud p [.idx i] r.t r.x (.int k) y;rw[h]at g;exact g.trans (congrArg (fun z:List Int=>FK p r.t r.x (.list true (.int k)) z) (b1D l i y))
 have c:Dc r.t r.x (p++[.idx i])=⟨.int k,l.getD i 0⟩:=f;have d:Fc r.t r.x (p++[.idx i]) (.int k) y=Fc r.t r.x p (.list true (.int k)) (l.set i y):=a;simp_all[AE.vJ,Ty.sh,Ty.tL,AE.uT,AE.look,tC]
theorem b1F{n:Nat}{p:BN}{k:IntKind}{V:TypeId}{i:Nat}{av:AV}{tm:Nat->Value}{b o off m L:Nat}(hp:Wp p=true)(hty:AU P (.int k) (.inl V)=true)
  (f:∀{U:AE}{M:Gh}{w:World}{r:sO}{l:List Int},sK B U N tm w M->U.sl i=.one av->U.rt n=some r->Dc r.t r.x p=⟨.list true (.int k),l⟩->l.length=L->∀j,j<m->
   AA (Ad w M.ov) M.g U.rt (Be B w M) (.ptr n (p++[.idx (off+j)])) (.pointer (some ⟨b,o+j,none⟩)))(c:off+m<=L):
  ∀(ys:List Int)(s:Nat){U:AE}{M:Gh}{w:World}{r:sO}{l:List Int},s+ys.length<=m->sK B U N tm w M->U.pd=none->U.sl i=.one av->U.rt n=some r->Dc r.t r.x p=⟨.list true (.int k),l⟩->l.length=L->
   ∃M',sK B (U.sF n (some ⟨r.bx,r.t,Fc r.t r.x p (.list true (.int k)) (l.take (off+s)++(ys++l.drop (off+s+ys.length)))⟩)) N tm (w.setCells b (o+s) (ys.map (Value.int k))) M'
 | [],s,U,M,w,r,l,_,h,_,_,d,a,_=>by
  refine⟨M,?_⟩;have a:DW p r.t r.x=⟨.list true (.int k),l⟩:=a;have e:Fc r.t r.x p (.list true (.int k)) (l.take (off+s)++([]++l.drop (off+s+([]:List Int).length)))=r.x:=by
   have C:=Vj p r.t r.x hp;rw[a]at C;have v:l.take (off+s)++([]++l.drop (off+s+([]:List Int).length))=l:=by
    simp
   exact(congrArg (fun z:List Int=>FK p r.t r.x (.list true (.int k)) z) v).trans C
  have H:sK B (U.sF n (some ⟨r.bx,r.t,r.x⟩)) N tm w M:=by
   rw[show(⟨r.bx,r.t,r.x⟩:sO)=r from rfl,iI d];omega
  exact(congrArg (fun z=>sK B (U.sF n (some ⟨r.bx,r.t,z⟩)) N tm w M) e).mpr H
 |y::ys,s,U,M,w,r,l,Q,h,hpd,hsl,d,a,K=>by
  simp at Q;have R:=f h hsl d a K s (by omega);have S:=b1E (i:=off+s) (y:=y) hpd d a;obtain⟨X,Y,M',Z,o',D,A,-,T,E⟩:=sK.xG rfl hty h R (AA.tH (k:=k) y) S;simp at D E;obtain⟨rfl,rfl⟩:=D;subst E;have A:X=w.setCell ⟨b,o+s,none⟩ (.int k y):=A;subst A;have I:DW p r.t r.x=⟨.list true (.int k),l⟩:=a;have u:=Zm p r.t r.x (.list true (.int k)) (l.set (off+s) y) hp (by grind);obtain⟨F,q⟩:=b1F hp hty f c ys (s+1) (r:=⟨r.bx,r.t,Fc r.t r.x p (.list true (.int k)) (l.set (off+s) y)⟩) (l:=l.set (off+s) y) (by omega) T hpd hsl (MQ _) u (by simp_all);refine⟨F,?_⟩;rw[a2O]at q;have G:Fc r.t (Fc r.t r.x p (.list true (.int k)) (l.set (off+s) y)) p (.list true (.int k)) ((l.set (off+s) y).take (off+(s+1))++(ys++(l.set (off+s) y).drop (off+(s+1)+ys.length))) =
    Fc r.t r.x p (.list true (.int k)) (l.take (off+s)++(y::ys++l.drop (off+s+(y::ys).length))):=by
   refine(Zn p r.t r.x (.list true (.int k)) _ _ hp (by grind)).trans (congrArg _ ?_);have O:off+s<l.length:=by omega
   rw[show off+(s+1)=off+s+1 from rfl,D9 (by simp_all)];rw[List.drop_set_of_lt (by omega)];simp only[List.getElem_set_self,F2 (B4 _),aA,lC,List.cons_append,E9];grind
  rw[G]at q;exact q
theorem b1G{t0:TypeId}{off D c:Nat}{l ys:List Int}(hty:AU P (.int k) (.inl t0)=true)(h:sK B U N (AJ a) w M)(h9:U.pd=none)(hp:Wp p=true)(K:U.sl i=.one av)(Q:U.rt n=some r)(T:Dc r.t r.x p=⟨.list true (.int k),l⟩)(g1:off+D<=l.length)(G:∀{U:AE}{M:Gh}{w:World}{r:sO}{l':List Int},sK B U N (AJ a) w M->U.sl i=.one av->U.rt n=some r->Dc r.t r.x p=⟨.list true (.int k),l'⟩->l'.length=l.length->∀j,j<D->
   ∃f,A=some f/\f.spot=none/\AA (Ad w M.ov) M.g U.rt (Be B w M) (.ptr n (p++[.idx (off+j)])) (.pointer (some ⟨f.block,f.off+j,none⟩)))(hE:Tj w (Ad w M.ov) (Be B w M) (.int k) ys vy){ty:TypeId}(h0:ts[0]?=some t)(hu:P.underlying t=some (.slice t'))(I:vG P (.int k) t'):
  ∃w' M',(Builtin.copy_ ts ty #[.slice A D c,vy]).run P w=.ok (goInt ((min D ys.length:Nat):Int)) w'/\
   sK B (U.sF n (some ⟨r.bx,r.t,Fc r.t r.x p (.list true (.int k)) (Xw l off D ys)⟩)) N (AJ a) w' M':=by
 obtain⟨Y,ny,cy,cs,rfl,hn,hlen,hone,⟨R,S,hR⟩,hc,hnone,hsp⟩:=hE;have h5:cs=ys.map (Value.int k):=by
  have:=Sl ys ny 0 (by simp_all[Ty.cells]) S
  simp_all
 obtain⟨m,Z⟩:∃m,m=min D ys.length:=⟨_,rfl⟩;have h8:m<=ny:=by rw[hn,Z];exact Nat.min_le_right _ _
 have d:=OY (P:=P) (w:=w) (w2:=w) (e:=.int k) rfl (fun _=>rfl) hlen hc hnone m h8 (c:=cy);simp[Ty.cells]at d;have O:cs.take m=(ys.take m).map (Value.int k):=by simp_all
 have V:Xw l off D ys=l.take (off+0)++(ys.take m++l.drop (off+0+(ys.take m).length)):=by
  simp_all[Xw]
 have E:Nat.min ny D=m:=by rw[Z,hn];exact Nat.min_comm _ _
 have C:(sizeOf t').run P w=.ok 1 w:=by have:=I.sizeOf (w:=w);simp_all[Ty.cells]
 by_cases hm0:m=0;refine⟨w,M,?_,?_⟩;rw[<-Z];simp only[Builtin.copy_,h0];have h6:(Builtin.firstCells 1 0 (.slice Y ny cy)).run P w=.ok #[] w:=by
  simp_all
 simp[run_underlying hu,Builtin.lenOf,E,hm0,C,h6];cases A<;>simp[storeCells];have e:Xw l off D ys=l:=by
  rw[V,hm0];simp
 have h1:=Vj p r.t r.x hp;have v:DW p r.t r.x=⟨.list true (.int k),l⟩:=T;rw[v]at h1;have h4:sK B (U.sF n (some ⟨r.bx,r.t,r.x⟩)) N (AJ a) w M:=by
  rw[show(⟨r.bx,r.t,r.x⟩:sO)=r from rfl,iI Q];omega
 exact(congrArg (fun z:List Int=>sK B (U.sF n (some ⟨r.bx,r.t,Fc r.t r.x p (.list true (.int k)) z⟩)) N (AJ a) w M) e).mpr ((congrArg (fun z=>sK B (U.sF n (some ⟨r.bx,r.t,z⟩)) N (AJ a) w M) h1).mpr h4);obtain⟨f,rfl,g2,-⟩:=G h K Q T rfl 0 (by omega);obtain⟨M',h2⟩:=b1F (b:=f.block) (o:=f.off) (off:=off) (m:=m) (L:=l.length) hp hty (fun hR hs g0 v h7 j hj=>by
   obtain⟨A1,e1,-,g⟩:=G hR hs g0 v h7 j (by omega);simp_all) (by omega) (ys.take m) 0 (by simp_all) h h9 K Q T rfl
 refine⟨_,M',?_,(congrArg (fun z=>sK B (U.sF n (some ⟨r.bx,r.t,Fc r.t r.x p (.list true (.int k)) z⟩)) N (AJ a) (w.setCells f.block (f.off+0) ((ys.take m).map (Value.int k))) M') V).mpr h2⟩;have q:∀j,j<m->∃kk,BY w f.block kk/\f.off+j<kk:=fun j hj=>by
  obtain⟨A1,e1,-,r1,t1,b1,o1,F,q2,q3⟩:=G h K Q T rfl j (by omega);simp at e1;subst e1;simp at q3;obtain⟨rfl,rfl⟩:=q3;have H:=h.room F q2;refine⟨_,H,?_⟩;have g3:t1=.int k:=by
   rw[Q]at F;simp at F;subst F;obtain⟨O1,R1,k1,-⟩:=h.sep Q;obtain⟨y,O',R',_,_,_,_,-,g4,-⟩:=BU _ r.t _ k1 q2;have g5:DW (p++[.idx (off+j)]) r.t r.x=⟨t1,y⟩:=g4;have v:DW p r.t r.x=⟨.list true (.int k),l⟩:=T;rw[Ro,v,a2P]at g5;grind
  grind
 have X:=run_storeCells_cells (P:=P) f.block f.off (cs.take m) 0 w (fun j hj=>by
   obtain⟨kk,F,q2⟩:=q j (by simp_all);exact(F.cell (o:=f.off+0+j) (by omega)).1) (fun j hj=>by
   obtain⟨kk,F,q2⟩:=q j (by simp_all);exact(F.cell (o:=f.off+0+j) (by omega)).2) (fun u hu=>Ks (hone u (List.mem_of_mem_take hu)))
 have h3:f=⟨f.block,f.off,none⟩:=by cases f;grind
 rw[<-h3,h5]at X;rw[<-Z];simp only[Builtin.copy_,h0];simp only[C7]at *;simp[run_underlying hu,Builtin.lenOf,E,C,d,X,O]
theorem a9B{o:Oper}{c:Call}{d:Nat}{cx:Cx}{q:Bool}{K:AE->Rs Z}{z:Z}(h6:CxTy P cx)(ho:o.op=.call c)(hb:c.callee=.builtin .copy)(hd:o.dst=some d)
  (h:sK B U N (AJ a) w M)(hN:a.tmps.size=N)(hf:fits N o=true)(H:Bk cx q o U K=some z):AZ P B N o a w K z:=by
 obtain⟨cs,h0⟩:=Vh (P:=P) (a:=a) (w:=w) ho hb;have hl:∃x y,c.args.toList=[x,y]:=by
  cases hl:c.args.toList with
  |nil=>simp_all[Bk,AE.uP]
  |cons x l=>
   cases l with
   |nil=>simp_all[Bk,AE.uP]
   |cons y l=>
    cases l with
    |nil=>simp
    |cons u l=>simp_all[Bk,AE.uP]
 obtain⟨x,y,h3⟩:=hl;have S:c.args=#[x,y]:=by grind
 have G:=Vi ho hb hf;rw[h3]at G;have hx:=h.sM (G x (by simp));have hy:=h.sM (G y (by simp));simp only[Bk,ho,hd,hb,h3,B7,E8,AE.uP]at H;split at H;grind
 ·split at H
  ·rename_i o' k hT;obtain⟨t,ht,hT⟩:=D6.1 hT;have g0:c.argTypes[0]?=some t:=by
    rw[<-B8];cases hl:c.argTypes.toList with
    |nil=>simp_all
    |cons y l=>simp_all
   obtain⟨g6,g1⟩:=h6.T t _ hT;obtain⟨t',hu,h2,g4⟩:=BQ g1;obtain⟨I⟩:=AM (AY h2);obtain⟨ys,H,hE⟩:=h.elems rfl hy H;have g5:∀(n:Nat)(p:BN)(C:Nat)(L:Option Nat),(U.sM x=.sref n p/\C=0/\L=none\/∃D,U.sM x=.swin n p C D/\L=some D)->
     U.xF n p C L k ys (fun m O=>K (O.set d (.val (.int .i64) (m:Int))))=some z->AZ P B N o a w K z:=by
    intro n p C L E H;unfold AE.xF at H;split at H
    ·rename_i r h7;obtain⟨h8,hr⟩:=AX h7;split at H
     ·rename_i k' l hg;obtain⟨hc,h4⟩:=(Ah H).elim id fun h=>by grind
      simp at hc;obtain⟨rfl,hp⟩:=hc;have g3:∃i,x=.tmp i/\U.sl i=.one (U.sM x):=by
       cases x with
       |tmp i=>
        refine⟨i,rfl,?_⟩;grind[AE.sM,AE.get]
       |const v=>
        exfalso;simp[AE.sM]at E;unfold Xt at E;grind
       |global g=>rcases E with⟨h1,-⟩|⟨_,h1,-⟩<;>cases h1
       |func f=>rcases E with⟨h1,-⟩|⟨_,h1,-⟩<;>cases h1
      obtain⟨i,rfl,h9⟩:=g3;have hi:i<N:=by simp_all[Ch]
      have R:∀(A:Option Addr)(D Q:Nat),a.eval (.tmp i)=.slice A D Q->L.getD (C4 l)=D->C+D<=C4 l->
        (∀{O:AE}{M:Gh}{w:World}{r:sO}{l':List Int},sK B O N (AJ a) w M->O.sl i=.one (U.sM (.tmp i))->O.rt n=some r->Dc r.t r.x p=⟨.list true (.int k'),l'⟩->l'.length=C4 l->∀j,j<D->
         ∃A0,A=some A0/\A0.spot=none/\AA (Ad w M.ov) M.g O.rt (Be B w M) (.ptr n (p++[.idx (C+j)])) (.pointer (some ⟨A0.block,A0.off+j,none⟩)))->AZ P B N o a w K z:=by
       intro A D Q X h5 F V;obtain⟨w',M',k1,k2⟩:=b1G (ty:=o.type) h2 h h8 hp h9 hr hg F V hE g0 hu I (c:=Q);rw[h5]at h4;refine AZ.set hd hN (w':=w') (M':=M') (h0.trans ?_) k2 (AA.tH _) h4;rw[S];have g2:a.eval (.tmp i)=.slice A D Q:=X;simp[builtin,g2,k1];rfl
      rcases E with⟨he,rfl,rfl⟩|⟨D,he,rfl⟩;rw[he]at hx;obtain⟨A,Q,X,-⟩:=qH h hx hr hg;refine R A (C4 l) Q X rfl (by omega) fun {O M w r l'} hR hs hr' hg' hl' j hj=>?_
      have b:=hR.slots i hi;rw[hs,he]at b;obtain⟨A2,c2,Y,V⟩:=qH hR b hr' hg';have e:=Y.symm.trans X;simp_all;rw[he]at hx;obtain⟨F,A,Q,X,-⟩:=qI h hx hr hg;refine R A D Q X rfl F fun {O M w r l'} hR hs hr' hg' hl' j hj=>?_
      have b:=hR.slots i hi;rw[hs,he]at b;obtain⟨-,A2,c2,Y,V⟩:=qI hR b hr' hg';have e:=Y.symm.trans X;simp_all
     simp_all
    simp_all
   unfold AE.yK at H;grind
  simp_all
theorem nL{o:Oper}{f:Nat}{first g:Array Operand}{d:Nat}{cx:Cx}{q:Bool}{K:AE->Rs Z}{z:Z}(m:o.op=.makeFunc (.func f) first g)(l:o.dst=some d)
  (h:sK B U N (AJ a) w M)(n:a.tmps.size=N)(p:fits N o=true)(j:Bk cx q o U K=some z):AZ P B N o a w K z:=by
 have b:=Bl p;rw[m]at b;simp[Bk,m,l]at j;obtain⟨c,j⟩:=(Ah j).elim id fun h=>by grind
 have c:first=#[]:=by simp_all
 subst c;have e:(execOp a.eval o).run P w=.ok (.value (.func (.func f) #[] (g.map a.eval))) w:=by
  simp_all[execOp,Instr.makeFunc]
 refine⟨_,w,_,M,.inl e,?_,j⟩;rw[l];refine h.uN n (fun _=>⟨g.map a.eval,⟨by simp,rfl⟩,fun k r i=>?_⟩);rw[D8]at i;cases hp:g.toList[k]? with
 |none=>simp_all
 |some x=>
  rw[hp]at i;simp at i;subst i;refine⟨a.eval x,?_,h.sM (b x (by grind[Op.operands]))⟩;simp_all
end
section
variable {P:Program} {B:Base} {N:Nat} {Z:Type} {U:AE} {a:Act} {w:World} {M:Gh}
theorem nM{o:Oper}{t:TypeId}{n:Nat}{ps:Array (Nat×Operand)}{d:Nat}{cx:Cx}{q:Bool}{K:AE->Rs Z}{z:Z}{o':Bool}{e t0:Ty}(Y:CxTy P cx)(ho:o.op=.buildSlice t n ps)(hd:o.dst=some d)
  (hT:cx.T t=some (.list o' e))(hO:(bif q || !e.isList then none else cx.O d)=some t0)
  (h:sK B U N (AJ a) w M)(hN:a.tmps.size=N)(hf:fits N o=true)(L:Bk cx q o U K=some z):AZ P B N o a w K z:=by
 have k:∀y∈(o.op.operands.toList),Ch N y=true:=Bl hf;rw[ho]at k;simp[Bk,ho,hd,hT,hO]at L;split at L
 ·rename_i f x hl;split at L
  ·rename_i X;obtain⟨h2,rfl⟩:=X;have h1:e.isList=true:=by
    grind
   have h5:ps=#[(0,x)]:=by grind
   obtain⟨g3,h6⟩:=Y.T t _ hT;obtain⟨H,hu,F,g1⟩:=BQ h6;obtain⟨I⟩:=AM (AY F);have he:e.sh=e:=by
    simp_all[Ty.sh]
   have u:e.cells=1:=Ou h1;have g0:f.cells=1:=by grind[Ty.sW]
   have h9:Ch N x=true:=k x (by simp[Op.operands,h5]);obtain⟨z0,G⟩:∃z0,I.z.cells=#[z0]:=by
    have:=I.uZ
    rw[u]at this;obtain⟨z0,G⟩:=F0.1 (show I.z.cells.toList.length=1 by omega);grind
   have h0:Ak (fun i=>AO (Ad w M.ov) f fun j=>(#[z0]:Array Value)[i*f.cells+j]?) 1 0=some ([f.dflt],[],[]):=by
    have:=Jd (m:=Ad w M.ov) f (rd:=fun j=>I.z.cells[j]?) (by rw[<-a2C,h2];exact I.zok)
    simp_all[Ak]
   obtain⟨U1,S,k1,Q,k3,-,k5⟩:=h.uV (c:=1) L (fun c X=>BG _ c X) (BR _) (Bu (Obj.cells #[z0] H)) (.inl rfl) (by simp_all) (by simp) h0 (by simp);have D:U1.rt d=some ⟨false,.list true f,[f.dflt]⟩:=by
    grind[AE.uM,AE.sF]
   have g2:=Q.xU D rfl k3;have C:AA (Ad (w.alloc (.cells #[z0] H)) S.ov) S.g U1.rt (Be B (w.alloc (.cells #[z0] H)) S) (.ptr d [.idx 0]) (.pointer (some ⟨w.heap.size,0,none⟩)):=
    ⟨_,f,w.heap.size,0,D,by simp_all[Cj,Src.rd],rfl⟩
   have p:=Q.sM h9;split at k1
   ·rename_i m hy;rw[hy]at p;have h7:∃A n c,a.eval x=.slice A n c:=by
     obtain⟨r,e2,s2,q1,q2,q3⟩:=p;obtain⟨O',R,q4,-⟩:=(Q.roots m r q1).rd;simp[Cj]at q2;obtain⟨bx,tr,xr⟩:=r;obtain⟨rfl,rfl⟩:tr=.list true e2/\_=s2:=q2;rcases Cr q4 with⟨q5,-⟩|⟨A,n,c,os,q5,-⟩;all_goals grind
    obtain⟨A,nA,cA,hv⟩:=h7;have k6:=Q.uN (sv:=.one (.sref d [])) (v:=.slice (some ⟨w.heap.size,0,none⟩) 1 1) (d:=d) hN (fun _=>k3);obtain⟨w',U',M',b,g4,j1,j2,-,j4,j5⟩:=k6.xG he F C p k1;simp at j1;obtain⟨rfl,rfl⟩:=j1;have h8:w'=w.alloc (.cells #[a.eval x] H):=by
     simp_all[Value.cells,World.setCells,VR]
    have E:(execOp a.eval o).run P w=.ok (.value (.slice (some ⟨w.heap.size,0,none⟩) 1 1)) (w.alloc (.cells #[a.eval x] H)):=by
     have l:Instr.fill (fun i=>some (i*1,1)) ((F8 (1*1)).map (I.z.cells[·%I.z.cells.size]!)) [(0,a.eval x)]=some #[a.eval x]:=by
      have hr:(F8 (1*1)).map (I.z.cells[·%I.z.cells.size]!)=#[z0]:=by rw[G];simp[Array.range_succ,show F8 0=#[]from rfl]
      rw[hr,hv];rfl
     have h3:¬ (1*1 > 2^24):=by simp
     have V:¬ (1*1=0):=by simp
     have h4:(ps.map fun(i,x)=>(i,a.eval x)).toList=[(0,a.eval x)]:=by simp_all
     simp only[execOp,ho,Instr.buildSlice,Sem.run_bind,run_underlying hu,Result.andThen_ok,I.sizeOf,u,if_neg h3,if_neg V,Sem.run_pure,I.zeroValue,h4,l,newRow]
     simp
    rw[h8]at j4;exact⟨_,_,U',M',.inl E,by simp_all,j5⟩
   simp_all
  simp_all
 simp_all
end
section
variable {P:Program} {B:Base} {N:Nat} {Z:Type} {U:AE} {a:Act} {w:World} {M:Gh}
theorem a9C{cx:Cx}{K:AE->Rs Z}{z:Z}(j:CxTy P cx)(F:Za cx.G B)(E:∀c v,o.op=.call c->c.callee≠.value v)(h:sK B U N (AJ a) w M)(l:a.tmps.size=N)(p:fits N o=true)(g:Bk cx q o U K=some z):AZ P B N o a w K z:=by
 cases hd:o.dst with
 |none=>
  cases ho:o.op
  case store t x y=>
   cases hag:U.tK y with
   |none=>grind[iG]
   |some D=>grind[VS]
  case call c=>
   cases hc:c.callee with
   |value v=>simp_all
   |builtin b=>simp_all[Bk]
   |invoke r n=>simp_all[Bk]
  all_goals (simp only[Bk,ho,hd]at g;cases g)
 |some d=>
  cases ho:o.op
  case store t x y=>
   cases hag:U.tK y with
   |none=>grind[iG]
   |some D=>grind[VS]
  case call c=>
   cases hc:c.callee with
   |value v=>simp_all
   |builtin b=>
    cases b
    case len=>grind[b1x]
    case cap=>grind[b1y]
    case max=>grind[b1z]
    case min=>grind[b1A]
    case append=>grind[a2K]
    case copy=>grind[a9B]
    all_goals (simp only[Bk,ho,hd,hc]at g;unfold AE.uP at g;first|(cases g;done)|(split at g<;>first|(cases g;done)|(rename_i k;cases k;done)|(rename_i k _;cases k;done)))
   |invoke r n=>simp_all[Bk]
  case move x=>grind[a9n]
  case assign x=>grind[a2L]
  case pick x y u=>grind[a9o]
  case alloc t=>grind[a5Z]
  case box t x=>
   cases hag:(bif q then none else U.tK x)with
   |none=>exact b1v ho hd hag h l p g
   |some D=>grind[a2N]
  case build t x=>
   cases hnl:cx.yF d t with
   |some τ=>grind[iD]
   |none=>
    cases hO:cx.O d with
    |none=>grind[iD]
    |some τ=>grind[nK]
  case makeFunc fn first caps=>
   cases fn with
   |func f=>grind[nL]
   |_=>simp_all[Bk]
  case buildSlice t n x=>
   by_cases hO:∃A e C,cx.T t=some (.list A e)/\(bif q || !e.isList then none else cx.O d)=some C;grind[nM]
   ·refine eO j ho hd (fun A e H=>?_) h l p g;cases k:(bif q || !e.isList then none else cx.O d)with
    |none=>rfl
    |some C=>simp_all
  case load t x=>grind[a9s]
  case nilCheck x=>grind[nI]
  case binOp op t x y s=>grind[a5U]
  case unOp op t x=>grind[a9p]
  case convert s t x=>grind[a0E]
  case makeSlice t x y=>grind[iA]
  case slice t x u v m=>grind[a5W]
  case fieldAddr s x f=>grind[gY]
  case field s x f=>grind[a5X]
  case indexAddr t x i=>grind[gX]
  case index t x i=>grind[a5Y]
  case extract x i=>
   cases x with
   |tmp t=>grind[a0w]
   |_=>simp_all[Bk]
  all_goals (simp only[Bk,ho,hd]at g;cases g)
end
def cells(w:World):DJ:=fun b o=>w.cell? ⟨b,o,none⟩
structure wD where
 r:sO
 s:Src
 O:CK
def Pm(U:AE)(f:AV->AV)(E:Nat->Option wD):AE:=
 ⟨(U.sI f).sl,fun n=>match E n with|some e=>some e.r|none=>U.rt n,none⟩
def Ha(M:Gh)(E:Nat->Option wD):Gh:=
 ⟨fun n=>match E n with|some e=>e.s|none=>M.g n,fun n=>match E n with|some e=>e.O|none=>M.ow n,none⟩
theorem LL{U f E n}(h:E n=none):(Pm U f E).rt n=U.rt n:=by simp[Pm,h]
theorem Gi{U f E n e}(h:E n=some e):(Pm U f E).rt n=some e.r:=by simp[Pm,h]
theorem Pn{M E n}(h:E n=none):(Ha M E).g n=M.g n:=by simp[Ha,h]
theorem Gj{M E n e}(h:E n=some e):(Ha M E).g n=e.s:=by simp[Ha,h]
theorem Dd{M E n}(h:E n=none):(Ha M E).ow n=M.ow n:=by simp[Ha,h]
theorem DT{M E n e}(h:E n=some e):(Ha M E).ow n=e.O:=by simp[Ha,h]
structure yJ (w w':World) (M:Gh) (F':Nat->Prop) (E:Nat->Option wD):Prop where
 own:∀c,F' c->∃n e,E n=some e/\c∈(M.ow n).map (·.1)
 size:w.heap.size<=w'.heap.size
 same:∀b,b<w.heap.size->¬ F' b->w'.heap[b]?=w.heap[b]?
 mine:∀n e c,E n=some e->c∈e.O.map (·.1)->(F' c\/c∈(M.ow n).map (·.1))\/w.heap.size<=c
 nodup:∀n e,E n=some e->(e.O.map (·.1)).Nodup
 sU:∀n e n' e',E n=some e->E n'=some e'->n≠n'->∀c,c∈e.O.map (·.1)->c∉e'.O.map (·.1)
 live:∀n e p,E n=some e->p∈e.O->BY w' p.1 p.2
 still:FT w'=FT w
theorem sK.yN{B U N tm w M}(h:sK B U N tm w M)(h6:M.ov=none){K:Nat->Prop}{E:Nat->Option wD}(W:yJ w w' M K E)(V:∀n e,E n=some e->tT (cells w') (fun c=>c<w'.heap.size/\(Be B w M c\/K c\/w.heap.size<=c)/\∀n e,E n=some e->c∉e.O.map (·.1)) e.r e.s e.O)(h8:∀i b e,B.pin i=some b->E (pinned+i)=some e->e.s=b){f:AV->AV}(hf:∀a v,AA (Ad w M.ov) M.g U.rt (Be B w M) a v->f a=.dead\/(f a=a/\∀k q,(a=.ptr k q\/a=.sref k q\/∃o l,a=.swin k q o l)->E k=none\/(a=.ptr k []/\∃e b,E k=some e/\e.s=.at b 0/\M.g k=.at b 0)\/
   (a=.sref k []/\∃e v ε,E k=some e/\e.s=.one v/\M.g k=.one v/\e.r.t=.list true ε))):
  sK B (Pm U f E) N tm w' (Ha M E)/\
   (∀c,c<w'.heap.size/\(Be B w M c\/K c\/w.heap.size<=c)/\(∀n e,E n=some e->c∉e.O.map (·.1))->Be B w' (Ha M E) c):=by
 have D:∀c,K c->BD M c:=fun c m=>by obtain⟨n,e,-,z⟩:=W.own c m;exact⟨n,z⟩
 have h7:∀c,K c->c<w.heap.size:=fun c m=>h.lt (D c m)

 have P:∀n c,E n=none->c∈(M.ow n).map (·.1)->¬ K c:=fun n c z m S=>by
  obtain⟨G,H,Z,x⟩:=W.own c S;have A:n≠G:=by grind
  exact h.sU n G A c m x
 have h0:∀c,BD (Ha M E) c->(∃n,E n=none/\c∈(M.ow n).map (·.1))\/∃n e,E n=some e/\c∈e.O.map (·.1):=by
  rintro c ⟨n,z⟩;cases d:E n with
  |none=>grind[Dd]
  |some e=>grind[DT]
 have X:∀c,c<w'.heap.size/\(Be B w M c\/K c\/w.heap.size<=c)/\(∀n e,E n=some e->c∉e.O.map (·.1))->Be B w' (Ha M E) c:=by
  rintro c ⟨Z,x,Y⟩;refine⟨Z,?_,fun ho=>?_⟩;rcases x with x|x|x;exact x.2.1;exact .inr (h.mine c (D c x));exact .inr (.inr (D1 h.size x));rcases h0 c ho with⟨n,d,z⟩|⟨n,e,d,z⟩;rcases x with x|x|x;exact x.2.2 ⟨n,z⟩;grind
  have:=h.lt ⟨n,z⟩;omega
  grind
 have R:∀c,Be B w M c->Be B w' (Ha M E) c:=fun c m=>X c ⟨C0 m.1 W.size,.inl m,fun n e d z=>by
  rcases W.mine n e c d z with(g|g)|g;exact m.2.2 (D c g);exact m.2.2 ⟨n,g⟩
  have:=m.1;omega⟩
 have L:∀c j,c<w.heap.size->¬ K c->Ad w' none c j=Ad w M.ov c j:=fun c j m S=>by
  rw[h6];exact BF none (W.same c m S) j
 have y:∀n c j,E n=none->c∈(M.ow n).map (·.1)->Ad w' none c j=Ad w M.ov c j:=fun n c j z m=>L c j (h.lt ⟨n,m⟩) (P n c z m);have T:∀c j,Be B w M c->Ad w' none c j=Ad w M.ov c j:=fun c j m=>L c j m.1 fun S=>m.2.2 (D c S);have I:∀n q r t s,E n=none->U.rt n=some r->loc (Ad w M.ov) r.t (M.g n) q=some (t,s)->loc (Ad w' none) r.t (M.g n) q=some (t,s)/\s.rd (Ad w' none) 0=s.rd (Ad w M.ov) 0:=by
  intro n q r t s d hr hl;obtain⟨O1,R1,l1,l2,l3,l4,l5,l6⟩:=h.sep hr;refine⟨CZ q r.t _ l1 hl (fun j _=>?_) (fun c j m=>y n c j d (l4 c m)),?_⟩
  ·cases es:M.g n with
   |one v=>rfl
   |_=>rename_i b o;exact y n b _ d (l5 _ _ es)
  ·cases s with
   |one v=>rfl
   |_=>rename_i b o;exact y n b _ d (h.place hr hl)
 refine⟨⟨fun n r hr=>?_,fun n z=>?_,fun n=>?_,fun n G A c m F=>?_,fun n p Q=>?_,fun i hi=>?_,trivial,D1 h.size W.size,fun b hb S=>?_,fun c m=>?_,fun i b hb A=>?_,W.still.trans h.still⟩,X⟩
 ·cases d:E n with
  |none=>
   rw[LL d]at hr;rw[Pn d,Dd d];obtain⟨O1,R1,l1,l2,l3,l4,l5,l6⟩:=h.sep hr;refine⟨O1,R1,?_,fun c m=>R c (l2 c m),l6⟩;show AO (Ad w' none) r.t ((M.g n).rd (Ad w' none))=_;refine AF r.t l1 (fun j _=>?_) (fun c j m=>?_)
   ·cases es:M.g n with
    |one v=>rfl
    |_=>rename_i b o;exact y n b _ d (l5 _ _ es)
   grind
  |some e=>
   rw[Gi d]at hr;rw[Gj d,DT d];simp at hr;subst hr;exact(V n e d).mono X
 ·cases d:E n with
  |none=>rw[LL d]at z;rw[Dd d];exact h.norm n z
  |some e=>grind[Gi]
 ·cases d:E n with
  |none=>rw[Dd d];exact h.nodup n
  |some e=>rw[DT d];exact W.nodup n e d
 ·have h4:∀n G,E n=none->∀H,E G=some H->c∈(M.ow n).map (·.1)->c∈H.O.map (·.1)->False:=fun n G d H C m F=>by
   rcases W.mine G H c C F with(g|g)|g;grind;exact h.sU n G (by grind) c m g
   have:=h.lt ⟨n,m⟩;omega
  cases d:E n with
  |none=>
   rw[Dd d]at m;cases C:E G with
   |none=>rw[Dd C]at F;exact h.sU n G A c m F
   |some H=>grind[DT]
  |some e=>
   rw[DT d]at m;cases C:E G with
   |none=>grind[Dd]
   |some H=>rw[DT C]at F;exact W.sU n e G H d C A c m F
 ·cases d:E n with
  |none=>
   rw[Dd d]at Q;obtain⟨c,e,lo,hi,Z,x,Y⟩:=h.live n p Q;have m:=A3 (f:=(·.1)) Q;exact⟨c,e,lo,hi,by rw[W.same p.1 (h.lt ⟨n,m⟩) (P n p.1 d m)];omega,x,Y⟩
  |some e=>rw[DT d]at Q;exact W.live n e p d Q
 refine(h.slots i hi).sI fun a v ha=>?_
 rcases hf a v ha with g|⟨g,hk⟩;rw[g];trivial;rw[g];by_cases hz:∃k e b,a=.ptr k []/\E k=some e/\e.s=.at b 0/\M.g k=.at b 0;obtain⟨k,e,b,rfl,d,hs,hg⟩:=hz;obtain⟨r,t,b',o,Z,x,Y⟩:=ha;simp[Cj,hg]at x;obtain⟨rfl,rfl,rfl⟩:=x;refine⟨e.r,e.r.t,b,0,Gi d,?_,Y⟩;rw[Gj d,hs];rfl;by_cases hy:∃k e u ε,a=.sref k []/\E k=some e/\e.s=.one u/\M.g k=.one u/\e.r.t=.list true ε;obtain⟨k,e,u,ε,rfl,d,hs,hg,ht⟩:=hy;obtain⟨r,H,s,Z,x,Y⟩:=ha;simp[Cj,hg]at x;obtain⟨-,rfl⟩:=x;refine⟨e.r,ε,.one u,Gi d,?_,Y⟩;rw[Gj d,hs,ht];rfl;refine ha.frame T R fun k q r t s h5 hr hl=>?_
 have d:E k=none:=by
  grind
 have Q:=I k q r t s d hr hl;refine⟨r,by grind[LL],by rw[Pn d];exact Q.1,fun u _ hu=>by rw[<-hu];exact Q.2⟩
 ·rw[W.same b (C0 hb h.size) ?_];exact h.frame b hb S
  ·intro g;rcases h.mine b (D b g)with g|g;all_goals grind
 rcases h0 c m with⟨n,d,z⟩|⟨n,e,d,z⟩;exact h.mine c ⟨n,z⟩;rcases W.mine n e c d z with(g|g)|g;exact h.mine c (D c g);exact h.mine c ⟨n,g⟩;exact .inr (D1 h.size g)
 ·cases d:E (pinned+i)with
  |none=>rw[LL d]at A;rw[Pn d];exact h.pins i b hb A
  |some e=>grind[Gj]
def a2Q:Src->Value->Prop
 |.at b o,v=>o=0/\v=.pointer (some ⟨b,0,none⟩)
 |.one u,v=>v=u
theorem a2Q.yH:∀{s:Src}{u v:Value},a2Q s u->a2Q s v->u=v
 |.at _ _,_,_,h,g=>h.2.trans g.2.symm
 |.one _,_,_,h,g=>h.trans (show _=_ from g).symm
def lg(w:World)(M:Gh)(n:Nat)(bx:Bool):Src:=match bx,M.g n with
 |false,.at b _=>.one ((w.cell? ⟨b,0,none⟩).getD undef)
 |_,s=>s
def lo(M:Gh)(n:Nat)(bx:Bool):CK:=match bx,M.g n with
 |false,.at _ _=>(M.ow n).tail
 |_,_=>M.ow n
theorem b7Z{g:Bool}{p}(h:p∈lo M n g):p∈M.ow n:=by
 unfold lo at h;grind[List.mem_of_mem_tail]
def a2R(w:World)(U:AE)(M:Gh)(n:Nat)(r:sO)(v:Value):Prop:=
 (U.rt n=some r/\a2Q (M.g n) v)\/∃b,(r.bx=false/\∃e,r.t=.list true e)/\U.rt n=some ⟨true,r.t,r.x⟩/\M.g n=.at b 0/\w.cell? ⟨b,0,none⟩=some v
theorem a2R.keep{a:AE}{M':Gh}(h:a2R w U M n r v)(d:∀r,U.rt n=some r->a.rt n=some r/\M'.g n=M.g n):a2R w a M' n r v:=by
 rcases h with⟨f,c⟩|⟨b,f,c,i,j⟩;obtain⟨k,e⟩:=d _ f;exact .inl ⟨k,by simp_all⟩;obtain⟨k,e⟩:=d _ c;exact .inr ⟨b,f,k,e.trans i,j⟩
structure xK (fz:Bool) (B:Base) (w:World) (U':AE) (M':Gh) (ps:List PA) (x:(Dz (ps.map PA.ty)).sJ) (vs:List Value) (used us:List Nat) (i0:Nat):Prop where
 vals:∀(i:Nat)(t:Ty)(y:t.sJ)(v:Value),(Bx ps x)[i]?=some ⟨.v t,y⟩->vs[i]?=some v->
  Cg (Ad w M'.ov) (fun c=>Be B w M' c\/(fz=false/\∃n,n∉used/\n∉us/\c∈(M'.ow n).map (·.1))) t y v
 refs:∀(k n:Nat),us[k]?=some n->∃(i:Nat)(c:Bool)(a:RA)(y:a.ty.sJ)(v:Value)(r:sO),(Bc ps i0)[k]?=some (i0+i)/\(Bx ps x)[i]?=some ⟨.r c a,y⟩/\vs[i]?=some v/\
  Bn ⟨a,y⟩=some r/\a2R w U' M' n r v/\(c=true->U'.rt n=some r/\r.bx=false/\n<pinned)
 len:us.length=(Bc ps i0).length
 nodup:us.Nodup
 apart:∀n∈us,n∉used
section
variable {B:Base} {N:Nat} {tm:Nat->Value} {w:World} {U:AE} {M:Gh}
theorem sK.uG(h:sK B U N tm w M)(f:U.rt n=some r):(r.bx=true/\∃b,M.g n=.at b 0)\/(r.bx=false/\∃v e,M.g n=.one v/\r.t=.list true e):=by
 obtain⟨k,R,-,-,a⟩:=(h.roots n r f).rd;grind
theorem sK.xA(h:sK B U N tm w M)(x:M.ov=none)(q:a2R w U M n r v):
  tT (Ad w M.ov) (Be B w M) r (lg w M n r.bx) (lo M n r.bx)/\a2Q (lg w M n r.bx) v/\(∀p∈lo M n r.bx,p∈M.ow n)/\((lo M n r.bx).map (·.1)).Nodup/\
   ((r.bx=true/\∃b,lg w M n r.bx=.at b 0)\/(r.bx=false/\∃u e,lg w M n r.bx=.one u/\r.t=.list true e)):=by
 rcases q with⟨f,i⟩|⟨b,f,i,E,F⟩
 ·have k:lg w M n r.bx=M.g n/\lo M n r.bx=M.ow n:=by
   rcases h.uG f with⟨d,b,c⟩|⟨d,u,e,c,-⟩;all_goals simp_all[lg,lo]
  rw[k.1,k.2];exact⟨h.roots n r f,i,fun _ g=>g,h.nodup n,h.uG f⟩
 obtain⟨f,l⟩:=f;obtain⟨o,R,z,A,C⟩:=(h.roots n _ i).rd;have k:lg w M n r.bx=.one v/\lo M n r.bx=(M.ow n).tail:=by simp_all[lg,lo]
 rcases C with⟨-,D,d,c⟩|⟨d,-⟩;rw[k.1,k.2,c];have a:=h.nodup n;rw[c,B7]at a;obtain⟨e,m⟩:=l;refine⟨⟨o,R,?_,A,.inr ⟨f,⟨v,rfl⟩,⟨e,m⟩,rfl⟩⟩,rfl,fun p y=>A4 _ y,(A9.1 a).2,.inr ⟨f,v,e,rfl,m⟩⟩;refine AF r.t z (fun j G=>?_) (fun _ _ _=>rfl);simp_all[Ty.cells,Src.rd,Ad];simp_all
end
section
variable {Z:Type} {B:Base} {N:Nat} {tm:Nat->Value} {w:World}
theorem sK.arg(h:sK B U N tm w M){fz:Bool}{used seen:List Nat}{p:PA}{K:p.ty.sJ->AE->List Nat->List Nat->Rs Z}{z:Z}(y:AA (Ad w M.ov) M.g U.rt (Be B w M) a v\/XA U a)(f:U.arg fz q used seen p a K=some z):
  ∃x j M' i d,K x j i d=some z/\sK B j N tm w M'/\Ev B w U M j M'/\Ii (·∉used) U M j M'/\(fz=false\/q=true->j=U/\M'=M)/\(∀n∈seen,n∈d)/\
   match p,x with
   |.v t,x=>i=used/\Cg (Ad w M'.ov) (fun c=>Be B w M' c\/(fz=false/\∃n,n∉used/\n∈d/\c∈(M'.ow n).map (·.1))) t x v
   |.r c b,x=>∃n r,i=n::used/\n∉used/\n∉seen/\d=seen/\Bn ⟨b,x⟩=some r/\a2R w j M' n r v/\(c=true->j.rt n=some r/\r.bx=false/\n<pinned):=by
 cases p with
 |v t=>
  simp only[AE.arg]at f;obtain⟨hv,f⟩:(a.sS.any fun n=>used.contains n)=false/\_:=by
   rcases Ah f with⟨-,g⟩|⟨C,u⟩;cases g;exact⟨C,u⟩
  have F:∀n∈a.sS,n∉used:=fun n O hu=>by
   simp_all
  cases fz with
  |true=>
   simp at f;obtain⟨x,j,M',H,I,S,T,V,X⟩:=h.yC y f;exact⟨x,j,M',used,seen,H,I,T,X.mono F,fun g=>V (g.resolve_left (by simp)),fun _ g=>g,rfl,S.frame (fun _ _ _=>rfl) (fun c l=>.inl l)⟩
  |false=>
   simp at f;obtain⟨x,H,I⟩:=h.yS y f;exact⟨x,U,M,used,a.sS++seen,H,h,Ev.refl,Ii.refl,fun _=>⟨rfl,rfl⟩,fun _ g=>E1 _ g,rfl,
    I.frame (fun _ _ _=>rfl) (fun c l=>l.imp id fun⟨n,O,l⟩=>⟨rfl,n,F n O,D2 _ O,l⟩)⟩
 |r c b=>
  cases b with
  |v t=>cases a<;>simp only[AE.arg]at f<;>cases f
  |b t=>
   cases a with
   |ptr n p=>
    cases p with
    |cons=>simp only[AE.arg]at f;cases f
    |nil=>
     simp only[AE.arg]at f;split at f;grind;rename_i A;simp at A;split at f;rename_i t' x L;obtain⟨D,m⟩:=AX L;split at f;rename_i P;subst P;rcases y with⟨r',t1,b,o,C,u,G⟩|⟨k,q',l,hk⟩;rw[m]at C;simp at C;subst C;obtain⟨O',R,-,-,l⟩:=(h.roots n _ m).rd;rcases l with⟨-,b',E,-⟩|⟨hb,-⟩;simp[Cj,E]at u;obtain⟨-,rfl,rfl⟩:=u;exact⟨x,U,M,n::used,seen,f,h,Ev.refl,Ii.refl,fun _=>⟨rfl,rfl⟩,fun _ g=>g,n,_,rfl,A.1.2,A.2,rfl,rfl,.inl ⟨m,by rw[E];exact⟨rfl,G⟩⟩,fun g=>by simp_all⟩;simp_all;simp_all;simp_all;simp_all
   |_=>simp only[AE.arg]at f;cases f
  |o e=>
   cases a with
   |sref n p=>
    cases p with
    |cons=>simp only[AE.arg]at f;cases f
    |nil=>
     simp only[AE.arg]at f;split at f;grind
     ·rename_i A;simp only[Bool.or_eq_true,EV,List.contains_iff_mem,not_or,F9,dT,not_and]at A;split at f
      ·rename_i Q e' x L;obtain⟨D,m⟩:=AX L;split at f
       ·rename_i P;subst P;rcases y with y|⟨k,q',l,hk⟩
        ·obtain⟨Y,f⟩:=(Ah f).elim (fun h=>by grind) id;refine⟨x,U,M,n::used,seen,f,h,Ev.refl,Ii.refl,fun _=>⟨rfl,rfl⟩,fun _ g=>g,n,_,rfl,A.1.2,A.2,rfl,rfl,?_,fun g=>⟨?_,rfl,by simp_all⟩⟩
         ·cases Q with
          |false=>exact .inl ⟨m,by rw[h.xU m rfl y];rfl⟩
          |true=>
           rcases h.uG m with⟨-,b,E⟩|⟨g,-⟩;refine .inr ⟨b,⟨rfl,_,rfl⟩,m,E,?_⟩;obtain⟨r',e2,s2,C,u,G⟩:=y;simp[Cj]at u;rw[<-u.2,E,h.sZ D]at G;exact G;simp_all
         simp_all
        simp_all
       simp_all
      simp_all
   |_=>simp only[AE.arg]at f;cases f
theorem sK.args:∀(O:List PA) (as:List AV)(u:List Value){U:AE}{M:Gh}(_:sK B U N tm w M){fz q:Bool}{used seen:List Nat}{i0:Nat}{K:(Dz (O.map PA.ty)).sJ->AE->List Nat->Rs Z} {z:Z}
  (_:∀(i:Nat)(a:AV)(v:Value),as[i]?=some a->u[i]?=some v->AA (Ad w M.ov) M.g U.rt (Be B w M) a v\/XA U a) (_:u.length=as.length) (_:U.args fz q used seen O as K=some z),
  O.length=as.length/\∃x f M' us,K x f (us.reverse++used)=some z/\sK B f N tm w M'/\Ev B w U M f M'/\Ii (·∉used) U M f M'/\(fz=false\/q=true->f=U/\M'=M)/\(∀n∈seen,n∉us)/\
   xK fz B w f M' O x u used us i0
 | [],as,u,U,M,h,fz,q,used,seen,i0,K,z,has,hlen,D=>by
  cases as with
  |nil=>exact⟨rfl,(),U,M,[],D,h,Ev.refl,Ii.refl,fun _=>⟨rfl,rfl⟩,by simp,⟨fun i t y v j=>by simp_all,by simp,rfl,by simp,by simp⟩⟩
  |cons=>simp_all[AE.args]
 | [p],as,u,U,M,h,fz,q,used,seen,i0,K,z,has,hlen,D=>by
  match as,u,hlen with
  | [a],[v],_=>
   simp[AE.args]at D;obtain⟨x,f,M',g6,h9,h1,h2,L,R,S,h6,o⟩:=h.arg (has 0 a v rfl rfl) D;cases p with
   |v t=>
    obtain⟨rfl,o⟩:=o;refine⟨rfl,x,f,M',[],h1,h2,L,R,S,by simp,⟨fun i V y l j A=>?_,by simp,rfl,by simp,by simp⟩⟩;cases i with
    |zero=>
     simp[Bx]at j A;cases j;cases A;exact o.frame (fun _ _ _=>rfl) (fun c E=>E.imp id fun⟨e,n,C,Q,I⟩=>⟨e,n,C,by simp,I⟩)
    |succ i=>simp_all
   |r c b=>
    obtain⟨n,r,rfl,C,Q,I,g4,g5,X⟩:=o;refine⟨rfl,x,f,M',[n],h1,h2,L,R,S,fun m G=>by grind,⟨fun i V y l j A=>?_,fun k m F=>?_,rfl,by simp,by simp_all⟩⟩;grind[Bx]
    ·cases k with
     |zero=>
      simp at F;subst F;exact⟨0,c,b,x,v,r,rfl,rfl,rfl,g4,g5,X⟩
     |succ k=>simp_all
  | [],_,_=>simp_all[AE.args]
  |_::_::_,_,_=>simp_all[AE.args]
 |p::p'::O,as,u,U,M,h,fz,q,used,seen,i0,K,z,has,hlen,D=>by
  match as,u,hlen with
  | [],_,_=>simp_all[AE.args]
  |a::as,v::u,hlen=>
   simp[AE.args]at D;obtain⟨x,U1,M1,g9,g0,h1,h2,L,R,S,h6,o⟩:=h.arg (has 0 a v rfl rfl) D;have ⟨hl,y,f,M',us,k1,k2,k3,k4,k5,k6,k7⟩:=sK.args (p'::O) as u (i0:=i0+1) h2 (fun i P l j A=>L.live (has (i+1) P l (by simp_all) (by simp_all))) (by simp_all) h1;refine⟨by simp_all,?_⟩;have d:fz=false\/q=true->f=U/\M'=M:=fun g=>⟨(k5 g).1.trans (S g).1,(k5 g).2.trans (S g).2⟩;cases p with
   |v t=>
    obtain⟨rfl,o⟩:=o;refine⟨(x,y),f,M',us,k1,k2,L.trans k3,R.trans k4,d,fun n T=>k6 n (h6 n T),⟨fun i V H l j A=>?_,fun k n F=>?_,k7.len,k7.nodup,k7.apart⟩⟩
    ·cases i with
     |zero=>
      simp[Bx]at j A;cases j;cases A;cases fz with
      |false=>
       obtain⟨rfl,rfl⟩:=k5 (.inl rfl);exact o.frame (fun _ _ _=>rfl) (fun c E=>E.imp id fun⟨e,n,C,Q,I⟩=>⟨e,n,C,k6 n Q,I⟩)
      |true=>
       have h8:Cg (Ad w M1.ov) (Be B w M1) t x v:=o.frame (fun _ _ _=>rfl) (fun c E=>E.resolve_right (by simp));have k0:=k3.zC h8;simp_all
     |succ i=>exact k7.vals i V H l (by simpa[Bx]using j) (by simp_all)
    obtain⟨i,c',P,H,l,r',j1,j2,j3,j4⟩:=k7.refs k n F;exact⟨i+1,c',P,H,l,r',by grind[Bc],by simpa[Bx]using j2,by simp_all,j4⟩
   |r c b=>
    obtain⟨n,r,rfl,C,Q,rfl,g4,g5,X⟩:=o;have T:=fun r0 Y=>k4.1 n r0 (.inr (by simp)) Y;refine⟨(x,y),f,M',n::us,by simp_all,k2,L.trans k3,R.trans (k4.mono fun m G g=>G (A4 _ g)),d,fun m G=>?_,⟨fun i V H l j A=>?_,fun k m F=>?_,by simp[Bc,k7.len],?_,?_⟩⟩;grind
    ·cases i with
     |zero=>grind[Bx]
     |succ i=>
      exact(k7.vals i V H l (by simpa[Bx]using j) (by simp_all)).frame (fun _ _ _=>rfl) (fun c E=>E.imp id fun⟨e,m,C,Q,I⟩=>
       ⟨e,m,fun g=>C (A4 _ g),by simp_all,I⟩)
    ·cases k with
     |zero=>
      simp at F;subst F;exact⟨0,c,b,x,v,r,rfl,rfl,rfl,g4,g5.keep fun r0 Y=>⟨(T r0 Y).1,(T r0 Y).2.1⟩,fun g=>⟨(T r (X g).1).1,(X g).2⟩⟩
     |succ k=>
      obtain⟨i,c',P,H,l,r',j1,j2,j3,j4⟩:=k7.refs k m (by simp_all);exact⟨i+1,c',P,H,l,r',by grind[Bc],by simpa[Bx]using j2,by simp_all,j4⟩
    simp
    exact⟨fun g=>k7.apart n g (by simp),k7.nodup⟩;intro m G;rcases mC.1 G with rfl|G;omega;exact fun g=>k7.apart m G (A4 _ g)
end
def a0G(m:DJ)(Sh:Nat->Prop):((r:RA)×r.ty.sJ)->Value->Src×CK->Prop
 |⟨.v t,x⟩,v,L=>Cg m Sh t x v/\L.2=[]
 |⟨.o e,x⟩,v,L=>L.1=.one v/\tT m Sh ⟨false,.list true e,x⟩ L.1 L.2
 |⟨.b t,x⟩,v,L=>tT m Sh ⟨true,t,x⟩ L.1 L.2/\∃b,L.1=.at b 0/\v=.pointer (some ⟨b,0,none⟩)
structure wR (B:Base) (w':World) (its:List ((r:RA)×r.ty.sJ)) (vs:List Value) (Ls:List (Src×CK)):Prop where
 lv:vs.length=its.length
 ll:Ls.length=its.length
 ok:∀(k:Nat)(it:(r:RA)×r.ty.sJ) (v:Value) (L:Src×CK),its[k]?=some it->vs[k]?=some v->Ls[k]?=some L->
  a0G (cells w') (fun c=>c<w'.heap.size/\(B.S c\/B.F c\/B.size<=c)/\∀L∈Ls,c∉L.2.map (·.1)) it v L
 nodup:∀L∈Ls,(L.2.map (·.1)).Nodup
 sU:∀(k k':Nat)(L L':Src×CK),Ls[k]?=some L->Ls[k']?=some L'->k≠k'->∀c,c∈L.2.map (·.1)->c∉L'.2.map (·.1)
 live:∀L∈Ls,∀p∈L.2,BY w' p.1 p.2
 mine:∀L∈Ls,∀c∈L.2.map (·.1),B.F c\/B.size<=c
 size:B.size<=w'.heap.size
 frame:∀b,b<B.size->¬ B.F b->w'.heap[b]?=B.hp b
 still:FT w'=B.io
def bX:List Value->Value
 | [v]=>v
 |vs=>.tuple vs.toArray
def FU(ps:List PA)(args:Array Value)(i:Nat):Value:=match eN ps i with
 |some true=>.slice none 0 0
 |_=>args.getD i undef
def a8m(B:Base)(ps:List PA)(args:Array Value):Prop:=∀i∈Bc ps 0,eN ps i=some false->∃s,B.pin i=some s/\a2Q s (args.getD i undef)
def b8a(C:Array Value->World->(Ending->World->Prop)->Prop)(G:VF)(s:sG):Prop:=
 ∀(w:World)(B:Base)(M:Gh)(args:Array Value) x y,Za G B->s.F x=some y->B.size=w.heap.size->(∀b,B.hp b=w.heap[b]?)->M.ov=none->args.size=s.ps.length->
  sK B (TM s.ps x) s.ps.length (fun i=>args.getD i undef) w M->a8m B s.ps args->
  C args w fun e w'=>∃vr Ls,e=.returned (bX vr)/\vr.length=s.rs.length/\wR B w' (Eu (RA.all s.ps s.rs) y) (vr++(Bc s.ps 0).map (FU s.ps args)) Ls
def JI(P:Program)(G:VF)(f:FuncId)(s:sG):Prop:=b8a (Calls P f) G s
def b1H(P:Program)(G:VF)(f:FuncId)(s:sG):Prop:=b8a (fun args w R=>∃v w',(callFunc f args).run P w=.ok (.value v) w'/\R (.returned v) w') G s
def Wx (P : Program) (f : FuncId) : Prop := ∃ fn c, P.funcs[f]? = some fn /\ fn.body = some c /\ (fn.name == "runtime.NumGoroutine") = false
def a2S(P:Program)(G:VF)(f:FuncId)(s:sG):Prop:=(JI P G f s/\Wx P f)\/b1H P G f s
theorem LM:∀(h:List RA)(x:(Dz (h.map RA.ty)).sJ),(Eu h x).length=h.length
 | [],_=>rfl
 | [_],_=>rfl
 |_::g::h,x=>by simp only[Eu,lC];rw[LM (g::h) x.2];rfl
theorem Rp:∀(g:List RA)(x:(Dz (g.map RA.ty)).sJ) (k:Nat) it,(Eu g x)[k]?=some it->g[k]?=some it.1
 | [],_,k,it,h=>by simp[Eu]at h
 | [r],x,0,it,h=>by grind[Eu]
 | [r],x,k+1,it,h=>by simp[Eu]at h
 |r::f::g,x,0,it,h=>by grind[Eu]
 |r::f::g,x,k+1,it,h=>by simpa using Rp (f::g) x.2 k it (by simpa[Eu]using h)
theorem HM:∀(h:List PA)(x:(Dz (h.map PA.ty)).sJ),(Bx h x).length=h.length
 | [],_=>rfl
 | [_],_=>rfl
 |_::g::h,x=>by simp only[Bx,lC];rw[HM (g::h) x.2];rfl
theorem IE:∀(g:List PA)(x:(Dz (g.map PA.ty)).sJ) (k:Nat) it,(Bx g x)[k]?=some it->g[k]?=some it.1
 | [],_,k,it,h=>by simp[Bx]at h
 | [r],x,0,it,h=>by grind[Bx]
 | [r],x,k+1,it,h=>by simp[Bx]at h
 |r::f::g,x,0,it,h=>by grind[Bx]
 |r::f::g,x,k+1,it,h=>by simpa using IE (f::g) x.2 k it (by simpa[Bx]using h)
theorem Zo:∀(g:List PA)(i0 i:Nat){c a},g[i]?=some (.r c a)->∃k:Nat,(Bc g i0)[k]?=some (i0+i)/\(JH g)[k]?=some a
 | [],_,i,c,a,h=>by grind
 |p::g,i0,0,c,a,h=>by
  simp at h;subst h;exact⟨0,rfl,rfl⟩
 |p::g,i0,i+1,c,a,h=>by
  obtain⟨k,f,b⟩:=Zo g (i0+1) i (by simpa using h);have f:(Bc g (i0+1))[k]?=some (i0+(i+1)):=by rw[f];congr 1;omega
  cases p with
  |v d=>exact⟨k,f,b⟩
  |r c d=>exact⟨k+1,by simpa[Bc]using f,by simpa[JH]using b⟩
theorem Rq:∀(h:List PA)(i0:Nat),(Bc h i0).Pairwise (·<·)/\∀i∈Bc h i0,i0<=i
 | [],_=>⟨List.Pairwise.nil,by simp[Bc]⟩
 |.v _::h,i0=>by
  obtain⟨f,k⟩:=Rq h (i0+1);exact⟨f,fun i g=>by have:=k i g;omega⟩
 |.r _ _::h,i0=>by
  obtain⟨f,k⟩:=Rq h (i0+1);refine⟨List.Pairwise.cons (fun i g=>by grind) f,fun i g=>?_⟩;rcases mC.1 g with rfl|g;all_goals grind
theorem iJ(g:List PA){i0 k k':Nat}(h:(Bc g i0)[k]?=some i)(f:(Bc g i0)[k']?=some i):k=k':=by
 have b:=(Rq g i0).1;obtain⟨a,rfl⟩:=lS.1 h;grind[C8]
theorem Nb(h:List PA):∀i0,(Bc h i0).length=(JH h).length:=by
 induction h with
 |nil=>intro i0;rfl
 |cons p h g=>intro i0;cases p<;>simp[Bc,JH,g]
def QS:List Nat->List Nat->Nat->Option Nat
 |i::is,n::ns,j=>if j=i then some n else QS is ns j
 |_,_,_=>none
theorem OZ:∀(is ns:List Nat)(j n:Nat),QS is ns j=some n->∃k:Nat,is[k]?=some j/\ns[k]?=some n
 | [],ns,j,n,h=>by simp[QS]at h
 |i::is,[],j,n,h=>by simp[QS]at h
 |i::is,m::ns,j,n,h=>by
  simp only[QS]at h;split at h;rename_i e;simp only[sj]at h;exact⟨0,by simp[e],by simp[h]⟩;obtain⟨k,g,f⟩:=OZ is ns j n h;exact⟨k+1,by simpa using g,by simpa using f⟩
theorem a0H:∀(is ns:List Nat)(k j n:Nat),is[k]?=some j->ns[k]?=some n->(∀k',is[k']?=some j->k'=k)->QS is ns j=some n
 | [],ns,k,j,n,h,_,_=>by grind
 |i::is,[],k,j,n,_,h,_=>by grind
 |i::is,m::ns,0,j,n,h,a,_=>by
  simp_all[QS]
 |i::is,m::ns,k+1,j,n,h,a,f=>by
  have g:j≠i:=fun e=>by have:=f 0 (by grind);omega
  simp[QS,if_neg g];exact a0H is ns k j n (by simp_all) (by simp_all) (fun k' b=>by have:=f (k'+1) (by simp_all);omega)
section
variable {B:Base} {N:Nat} {tm:Nat->Value} {w:World} {U:AE} {M:Gh}
def Ue(ps:List PA)(i:Nat):Bool:=match ps[i]? with
 |some (.r _ (.b _))=>true
 |_=>false
def Bo(fz:Bool)(B:Base)(w:World)(M:Gh)(ps:List PA)(us:List Nat):Base where
 size:=w.heap.size
 hp:=fun b=>w.heap[b]?
 F:=fun c=>∃i n,QS (Bc ps 0) us i=some n/\c∈(lo M n (Ue ps i)).map (·.1)
 S:=fun c=>Be B w M c\/(fz=false/\BD M c)
 io:=FT w
 pin:=fun i=>match eN ps i with
  |some false=>(QS (Bc ps 0) us i).map fun n=>lg w M n (Ue ps i)
  |_=>none
def Gk(w:World)(M:Gh)(ps:List PA)(us:List Nat):Gh where
 g:=fun m=>match Zf ps m with
  |some i=>(match QS (Bc ps 0) us i with
   |some n=>lg w M n (Ue ps i)
   |none=>.one undef)
  |none=>.one undef
 ow:=fun m=>match Zf ps m with
  |some i=>(match QS (Bc ps 0) us i with
   |some n=>lo M n (Ue ps i)
   |none=>[])
  |none=>[]
 ov:=none
theorem qJ{a:List PA}{m i:Nat}(h:Zf a m=some i):∃c,eN a i=some c/\m=a5G c i/\(c=true->i<pinned):=by
 unfold Zf at h;rcases Ah h with⟨b,h⟩|⟨b,h⟩;split at h;rename_i f;cases h;exact⟨true,f,rfl,fun _=>by simp_all⟩;simp_all;obtain⟨k,rfl⟩:=Nat.exists_eq_add_of_le (show pinned<=m by simp_all);rw[D7]at h;split at h;rename_i f;obtain rfl:=Option.some.inj h;exact⟨false,f,rfl,fun g=>by grind⟩;simp_all
theorem a8n{c:Bool}(h:eN ps i=some c)(hi:c=true->i<pinned):Zf ps (a5G c i)=some i:=by
 unfold Zf;cases c with
 |true=>
  have:A6 (a5G true i<pinned)=true:=decide_eq_true (show a5G true i<pinned from hi rfl)
  simp_all[a5G]
 |false=>
  have:A6 (a5G false i<pinned)=false:=decide_eq_false (by show ¬ pinned+i<pinned;omega)
  simp_all[a5G]
theorem PT{g:List PA}{i:Nat}{c a}(h:g[i]?=some (.r c a)):eN g i=some c:=by simp[eN,h]
theorem b1I{x:(Dz (ps.map PA.ty)).sJ}{m:Nat}(h:(TM ps x).rt m=some r):∃i c a y,Zf ps m=some i/\(Bx ps x)[i]?=some ⟨.r c a,y⟩/\Bn ⟨a,y⟩=some r:=by
 simp[TM]at h;rcases Ah h with⟨f,h⟩|⟨f,h⟩;grind[PT,IE,Zf];split at h;rename_i a y g;have k:=PT (IE _ _ _ _ g);exact⟨m-pinned,false,a,y,by simp[Zf,f,k],g,h⟩;simp_all
theorem b1J{g:List PA}{x:(Dz (g.map PA.ty)).sJ}{i:Nat}{c a y}(h:(Bx g x)[i]?=some ⟨.r c a,y⟩)(hi:c=true->i<pinned):(TM g x).rt (a5G c i)=Bn ⟨a,y⟩:=by
 cases c with
 |true=>
  have:A6 (a5G true i<pinned)=true:=decide_eq_true (show a5G true i<pinned from hi rfl)
  simp[TM,this];show(match (Bx g x)[i]? with|some ⟨.r true a,y⟩=>Bn ⟨a,y⟩|_=>none)=_;rw[h]
 |false=>
  have:A6 (a5G false i<pinned)=false:=decide_eq_false (by show ¬ pinned+i<pinned;omega)
  have e:a5G false i-pinned=i:=by simp[a5G]
  simp only[TM,this,cF,e,h]
theorem Vk{g:List PA}{x:(Dz (g.map PA.ty)).sJ}{i:Nat}{c a y r}(h:(Bx g x)[i]?=some ⟨.r c a,y⟩)(f:Bn ⟨a,y⟩=some r):Ue g i=r.bx:=by
 have h:=IE _ _ _ _ h;cases a with
 |v t=>simp[Bn]at f
 |o e=>grind[Bn,Ue]
 |b t=>grind[Bn,Ue]
theorem sK.enter(h:sK B U N tm w M)(A:M.ov=none){fz:Bool}{x:(Dz (ps.map PA.ty)).sJ}{D:List Value}{us:List Nat}(Y:xK fz B w U M ps x D [] us 0)(hl:D.length=ps.length):
  sK (Bo fz B w M ps us) (TM ps x) ps.length (fun i=>D.toArray.getD i undef) w (Gk w M ps us)/\a8m (Bo fz B w M ps us) ps D.toArray:=by
 have g5:∀k i,(Bc ps 0)[k]?=some i->∀k',(Bc ps 0)[k']?=some i->k'=k:=fun k i f k' d=>iJ ps d f;have T:∀(i:Nat) v,D[i]?=some v->D.toArray.getD i undef=v:=fun i v hv=>by simp_all

 have X:∀(i:Nat) c a y,(Bx ps x)[i]?=some ⟨.r c a,y⟩->∃n v r,QS (Bc ps 0) us i=some n/\n∈us/\D[i]?=some v/\Bn ⟨a,y⟩=some r/\a2R w U M n r v/\Ue ps i=r.bx:=by
  intro i c a y P;obtain⟨k,V,-⟩:=Zo ps 0 i (IE _ _ _ _ P);rw[C2]at V;have G:k<us.length:=by rw[Y.len];grind
  have I:us[k]?=some us[k]:=lG G;obtain⟨i',c',a',y',v,r,j1,j2,j3,j4,j5,-⟩:=Y.refs k _ I;rw[V]at j1;simp at j1;grind[a0H,Vk]
 have R:∀i n,QS (Bc ps 0) us i=some n->n∈us/\∃c a y v r,(Bx ps x)[i]?=some ⟨.r c a,y⟩/\D[i]?=some v/\Bn ⟨a,y⟩=some r/\a2R w U M n r v/\Ue ps i=r.bx:=by
  intro i n P;obtain⟨k,f,d⟩:=OZ _ _ _ _ P;obtain⟨i',c,a,y,v,r,j1,j2,j3,j4,j5,-⟩:=Y.refs k n d;grind
 have g7:∀i i' n,QS (Bc ps 0) us i=some n->QS (Bc ps 0) us i'=some n->i=i':=by
  intro i i' n f d;obtain⟨k,f,O⟩:=OZ _ _ _ _ f;obtain⟨k',d,C⟩:=OZ _ _ _ _ d;obtain⟨a1,b1⟩:=lS.1 O;obtain⟨a2,b2⟩:=lS.1 C
  have:k=k':=by
   have Q:=C8.1 Y.nodup;grind
  grind
 have K:∀m p,p∈(Gk w M ps us).ow m->∃i n,Zf ps m=some i/\QS (Bc ps 0) us i=some n/\p∈lo M n (Ue ps i)/\p∈M.ow n:=by
  intro m p Q;cases P:Zf ps m with
  |none=>grind[Gk]
  |some i=>
   cases I:QS (Bc ps 0) us i with
   |none=>grind[Gk]
   |some n=>
    have e:(Gk w M ps us).ow m=lo M n (Ue ps i):=by simp[Gk,P,I]
    rw[e]at Q;obtain⟨-,c,a,y,v,r,-,-,-,hL,hb⟩:=R _ _ I;exact⟨i,n,rfl,I,Q,(h.xA A hL).2.2.1 p (hb▸Q)⟩
 have L:∀c,BD (Gk w M ps us) c->(Bo fz B w M ps us).F c/\∃n∈us,c∈(M.ow n).map (·.1):=by
  rintro c ⟨m,hm⟩;obtain⟨p,Q,rfl⟩:=B6.1 hm;obtain⟨i,n,-,f,d,O⟩:=K m p Q;exact⟨⟨i,n,f,A3 d⟩,n,(R _ _ f).1,A3 O⟩
 have g4:∀c,Be B w M c->Be (Bo fz B w M ps us) w (Gk w M ps us) c:=fun c z=>⟨z.1,.inl (.inl z),fun g=>by
  obtain⟨-,n,-,d⟩:=L c g;exact z.2.2 ⟨n,d⟩⟩
 have H:Ad w M.ov=Ad w (Gk w M ps us).ov:=by rw[A];rfl
 have E:∀m i n,Zf ps m=some i->QS (Bc ps 0) us i=some n->(Gk w M ps us).g m=lg w M n (Ue ps i)/\(Gk w M ps us).ow m=lo M n (Ue ps i):=fun m i n f d=>by
  simp[Gk,f,d]
 have h9:∀i b,(Bo fz B w M ps us).pin i=some b->eN ps i=some false/\∃n,QS (Bc ps 0) us i=some n/\b=lg w M n (Ue ps i):=fun i b hb=>by
  simp[Bo]at hb;split at hb;rename_i V;obtain⟨n,I,rfl⟩:=C9.1 hb;grind;grind
 refine⟨⟨fun m r hr=>?_,fun m hm=>?_,fun m=>?_,fun m m' k8 c z g1=>?_,fun m p Q=>?_,fun i P=>?_,trivial,B4 _,fun b _ _=>rfl,fun c z=>.inl (L c z).1,fun i b hb _=>?_,rfl⟩,fun i P V=>?_⟩;obtain⟨i,c,a,y,f,d,O⟩:=b1I hr;obtain⟨n,v,r',k1,k2,k3,k4,k5,k6⟩:=X i c a y d;rw[O]at k4;cases k4;rw[<-H,(E m i n f k1).1,(E m i n f k1).2,k6];exact(h.xA A k5).1.mono g4
 ·cases ho:(Gk w M ps us).ow m with
  |nil=>rfl
  |cons p l=>
   obtain⟨i,n,f,d,-⟩:=K m p (by grind);obtain⟨-,c,a,y,v,r,h5,-,S,-⟩:=R _ _ d;obtain⟨c',h7,rfl,h8⟩:=qJ f
   have:=PT (IE _ _ _ _ h5)
   grind[b1J]
 ·cases P:Zf ps m with
  |none=>grind
  |some i=>
   cases I:QS (Bc ps 0) us i with
   |none=>grind
   |some n=>
    obtain⟨-,c,a,y,v,r,-,-,-,hL,hb⟩:=R _ _ I;rw[(E m i n P I).2,hb];exact(h.xA A hL).2.2.2.1
 obtain⟨p,Q,rfl⟩:=B6.1 z;obtain⟨p',g3,e'⟩:=B6.1 g1;obtain⟨i,n,f,d,-,C⟩:=K m p Q;obtain⟨i',n',g9,k0,-,k7⟩:=K m' p' g3;by_cases e:n=n';grind[qJ];exact h.sU n n' e p.1 (A3 C) (by grind);obtain⟨i,n,f,d,O,C⟩:=K m p Q;exact h.live n p C
 ·have G:i<(Bx ps x).length:=by grind[HM]
  have g6:i<D.length:=by omega
  have hv:D[i]?=some D[i]:=lG g6;have q:(Bx ps x)[i]?=some (Bx ps x)[i]:=lG G;show Ws _ _ _ _ ((TM ps x).sl i) (D.toArray.getD i undef);rw[T i _ hv];revert q;generalize (Bx ps x)[i]=it;intro q;obtain⟨p,y⟩:=it;cases p with
  |v t=>
   have e:(TM ps x).sl i=.one (wH t y):=by simp only[TM,q]
   rw[e]
   have:=Y.vals i t y _ q hv
   refine Cg.wH (this.frame (fun c j _=>by rw[H]) (fun c z=>?_));rcases z with z|⟨hf,n,-,I,z⟩;grind;refine⟨h.lt ⟨n,z⟩,.inl (.inr ⟨hf,n,z⟩),fun g=>?_⟩;obtain⟨-,n',f,d⟩:=L c g;exact h.sU n n' (fun e=>I (e▸f)) c z d
  |r c b=>
   have e:(TM ps x).sl i=bif c&&A6 (pinned<=i)then .one .dead else .one (a9l (a5G c i) ⟨b,y⟩):=by simp only[TM,q]
   rw[e];cases hcp:c&&A6 (pinned<=i)with
   |true=>trivial
   |false=>
    have h0:c=true->i<pinned:=fun g=>by
     grind
    obtain⟨n,v,r,f,d,O,C,h5,g0⟩:=X i c b y q;rw[hv]at O;simp at O;rw[O];have V:=PT (IE _ _ _ _ q);have Z:=b1J q h0;rw[C]at Z;obtain⟨hg,-⟩:=E _ i n (a8n V h0) f;obtain⟨-,S,-,-,h7⟩:=h.xA A h5;rw[<-g0]at S h7;show AA _ _ _ _ (a9l (a5G c i) ⟨b,y⟩) v;cases b with
    |v t=>simp[Bn]at C
    |o e0=>
     simp[Bn]at C;subst C;rcases h7 with⟨g,-⟩|⟨-,u,e2,g,-⟩;grind;rw[g]at S;have S:v=u:=S;refine⟨_,e0,.one u,Z,?_,by rw[S];rfl⟩;rw[hg,g];rfl
    |b t=>
     simp[Bn]at C;subst C;rcases h7 with⟨-,bb,g⟩|⟨g,-⟩;rw[g]at S;refine⟨_,t,bb,0,Z,?_,S.2⟩;rw[hg,g];rfl;grind
 obtain⟨V,n,f,rfl⟩:=h9 i b hb;exact(E _ i n (a8n (c:=false) V (fun g=>by grind)) f).1;obtain⟨k,g2⟩:=E2.1 P;have G:k<us.length:=by rw[Y.len];grind
 obtain⟨i',c',a',y',v,r,j1,j2,j3,j4,j5,-⟩:=Y.refs k _ (lG G);rw[g2]at j1;simp at j1;subst j1;refine⟨lg w M us[k] (Ue ps i),?_,by rw[T _ _ j3,Vk j2 j4];exact(h.xA A j5).2.1⟩;grind[Bo,a0H]
end
theorem Ug{α:Type}{f:Nat->Option (α×CK×List Nat)}:∀(n i:Nat){xs os g},Ak f n i=some (xs,os,g)->(∀j x o r,f j=some (x,o,r)->o=[]/\r=[])->os=[]/\g=[]
 |0,i,xs,os,g,h,_=>by simp_all[Ak]
 |n+1,i,xs,os,g,h,k=>by
  simp[Ak]at h;split at h;grind;rename_i x o r a;split at h;grind;rename_i e c d b;simp at h;obtain⟨rfl,rfl,rfl⟩:=h;obtain⟨rfl,rfl⟩:=k _ _ _ _ a;obtain⟨rfl,rfl⟩:=Ug n (i+1) b k
  simp
theorem MR{m:DJ}:∀(t:Ty){rd:Nat->Option Value}{x O R},t.sQ=false->AO m t rd=some (x,O,R)->O=[]/\R=[]
 |.int k,rd,x,O,R,_,h=>by
  simp[AO]at h;grind
 |.bool,rd,x,O,R,_,h=>by
  simp[AO]at h;grind
 |.str,rd,x,O,R,_,h=>by
  simp[AO]at h;grind
 |.unit,rd,x,O,R,_,h=>by
  simp only[AO]at h;grind
 |.pair a b,rd,x,O,R,g,h=>by
  simp[Ty.sQ]at g;obtain⟨q,e,l,u,i,p,f,c,-,rfl,rfl⟩:=CP h;obtain⟨rfl,rfl⟩:=MR a g.1 f;obtain⟨rfl,rfl⟩:=MR b g.2 c
  simp
 |.arr n t,rd,x,O,R,g,h=>Ug n 0 h fun j x o r d=>MR t g d
 |.list o t,rd,x,O,R,g,h=>by simp[Ty.sQ]at g
 |.nl t,rd,x,O,R,g,h=>by
  grind[gQ]
theorem bY{rd:Nat->Option Value}{x O R}(f:e.sQ=false)(h:AO m (.list true e) rd=some (x,O,R)):R=[]:=by
 rcases Cr h with⟨-,-,-,b⟩|⟨A,n,c,j,d,g,k,i,a⟩;all_goals grind[Ug,MR]
theorem tT.xN{s O}(h:tT m Sh r s O)(g:(r.bx=true/\r.t.sQ=false)\/∃e,r.t=.list true e/\e.sQ=false):tT m Sh' r s O:=by
 obtain⟨k,R,f,i,a⟩:=h.rd;have b:R=[]:=by
  rcases g with⟨-,g⟩|⟨e,c,g⟩;grind[MR];obtain⟨d,t,x⟩:=r;obtain rfl:t=.list true e:=c;exact bY g f
 subst b;exact⟨k,[],f,by simp,a⟩
theorem Cg.xN{t:Ty}{x:t.sJ}(h:Cg m Sh t x v)(a:t.sQ=false):Cg m Sh' t x v:=by
 obtain⟨f,k,R,g,b⟩:=h;obtain⟨-,rfl⟩:=MR t a g;exact⟨f,k,[],g,by simp⟩
theorem XD:∀(g:List RA)(n k m:Nat),(BC g n)[k]?=some m->m=n+1000*k/\k<g.length
 | [],_,k,m,h=>by simp[BC]at h
 |_::g,n,0,m,h=>by simp_all[BC]
 |_::g,n,k+1,m,h=>by
  obtain⟨f,a⟩:=XD g (n+1000) k m (by simpa[BC]using h);grind
theorem NW:∀(h:List RA)(n:Nat),(BC h n).length=h.length
 | [],_=>rfl
 |_::h,n=>by simp[BC,NW h]
theorem XE:∀(g:List RA)(n k m:Nat)(r:RA),(BC g n)[k]?=some m->g[k]?=some r->(∀t,r≠.v t)->m∈Dn g n
 | [],_,k,m,r,h,_,_=>by simp_all
 |a::g,n,0,m,r,h,f,c=>by
  simp[BC]at h f;subst h;subst f;cases a with
  |v t=>simp_all
  |o e=>simp[Dn]
  |b t=>simp[Dn]
 |a::g,n,k+1,m,r,h,f,c=>by
  have:=XE g (n+1000) k m r (by simpa[BC]using h) (by simpa using f) c
  cases a<;>simp[Dn,this]
section
variable {Z:Type} {B:Base} {N:Nat} {tm:Nat->Value} {w:World}
theorem sK.tV:∀(ns:List Nat) {U:AE}{M:Gh}(_:sK B U N tm w M)(_:U.pd=none){q:Bool}{us:List Nat}{K:AE->Rs Z}{z:Z}(_:U.tV q us ns K=some z),
  (∀n∈ns,n<pinned/\n∉us)/\∃k M',K k=some z/\sK B k N tm w M'/\k.pd=none/\M'.ov=M.ov/\(∀c,Be B w M c->Be B w M' c)/\(∀n∈ns,k.rt n=none)/\
   ((∀n,n∉ns->k.rt n=U.rt n/\M'.ow n=M.ow n)/\M'.g=M.g)/\(∀n,U.rt n=none->k.rt n=none)
 | [],U,M,h,hpd,q,us,K,z,f=>⟨by simp,U,M,f,h,hpd,rfl,fun _ g=>g,by simp,⟨fun _ _=>⟨rfl,rfl⟩,rfl⟩,fun _ g=>g⟩
 |n::ns,U,M,h,hpd,q,us,K,z,f=>by
  simp only[AE.tV]at f;obtain⟨p,f⟩:=(Ah f).elim id fun h=>by grind
  simp at p;split at f;rename_i t;have ⟨k1,k,M',h1,h2,h3,h4,h5,h6,⟨h7,h8⟩,h9⟩:=sK.tV ns h hpd f;grind;rename_i r t;rcases Ah f with⟨-,g⟩|⟨-,f⟩;grind;have l:=h.drop (n:=n) (by simp_all);have ⟨k1,k,M',h1,h2,h3,h4,h5,h6,⟨h7,h8⟩,h9⟩:=sK.tV ns l (by simp_all[AE.sF,AE.sI]) f;have d:((U.sI (AV.drop n)).sF n none).rt n=none:=by simp[AE.sF]
  refine⟨fun m a=>?_,k,M',h1,h2,h3,h4,fun c j=>h5 c (sK.tQ c j),fun m a=>?_,⟨fun m a=>?_,h8⟩,fun m a=>h9 m ?_⟩;grind;grind;have o:m≠n:=fun e=>a (by grind);have b:m∉ns:=fun g=>a (A4 _ g);obtain⟨a1,i⟩:=h7 m b;have e:(m==n)=false:=by simp_all
  exact⟨a1.trans (by simp[AE.sF,AE.sI,e]),i.trans (by simp_all)⟩;simp_all[AE.sF,AE.sI]
end
def Wy:List Nat->List ((r:RA)×r.ty.sJ)->List (Src×CK)->Nat->Option wD
 |k::ns,it::its,L::Ls,n=>match Bn it with
  |some r=>bif n==k then some ⟨r,L.1,L.2⟩else Wy ns its Ls n
  |none=>Wy ns its Ls n
 |_,_,_,_=>none
theorem qK:∀(ns:List Nat) its (f:List (Src×CK)) (n:Nat) (e:wD),Wy ns its f n=some e->
  ∃(k:Nat)(it:(r:RA)×r.ty.sJ) (L:Src×CK),ns[k]?=some n/\its[k]?=some it/\f[k]?=some L/\Bn it=some e.r/\e.s=L.1/\e.O=L.2
 | [],its,f,n,e,h=>by simp[Wy]at h
 |k::ns,[],f,n,e,h=>by simp[Wy]at h
 |k::ns,it::its,[],n,e,h=>by simp[Wy]at h
 |k::ns,it::its,L::f,n,e,h=>by
  have b:Wy ns its f n=some e->∃(j:Nat)(g:(r:RA)×r.ty.sJ) (a:Src×CK),(k::ns)[j]?=some n/\(it::its)[j]?=some g/\(L::f)[j]?=some a/\Bn g=some e.r/\e.s=a.1/\e.O=a.2:=fun h=>by
   obtain⟨j,g,a,c,d,i,l⟩:=qK ns its f n e h;exact⟨j+1,g,a,by simpa using c,by simpa using d,by simpa using i,l⟩
  simp[Wy]at h;split at h;rename_i r m;rcases Ah h with⟨o,h⟩|⟨-,h⟩;simp at h;subst h;exact⟨0,it,L,by simp_all,rfl,rfl,m,rfl,rfl⟩;simp_all;simp_all
theorem a0I:∀(ns:List Nat) its (g:List (Src×CK)) (k n:Nat) it L r,ns[k]?=some n->its[k]?=some it->g[k]?=some L->Bn it=some r->
  (∀(k':Nat) it',ns[k']?=some n->its[k']?=some it'->Bn it'≠none->k'=k)->Wy ns its g n=some ⟨r,L.1,L.2⟩
 | [],its,g,k,n,it,L,r,h,_,_,_,_=>by grind
 |m::ns,[],g,k,n,it,L,r,_,h,_,_,_=>by grind
 |m::ns,it'::its,[],k,n,it,L,r,_,_,h,_,_=>by grind
 |m::ns,it'::its,L'::g,0,n,it,L,r,f,a,b,d,_=>by
  simp_all[Wy]
 |m::ns,it'::its,L'::g,k+1,n,it,L,r,f,a,b,d,i=>by
  simp at f a b;have q:=a0I ns its g k n it L r f a b d fun k' c o p j=>by
   have:=i (k'+1) c (by simp_all) (by grind) j
   omega
  simp[Wy];cases hr:Bn it' with
  |none=>omega
  |some t=>
   have l:n≠m:=fun e=>by
    have:=i 0 it' (by grind) rfl (by simp_all)
    omega
   grind
theorem VT:∀(ns:List Nat) its (g:List (Src×CK)) (n:Nat),g.length=its.length->CO ns its n=(Wy ns its g n).map (·.r)
 | [],its,g,n,h=>by rfl
 |k::ns,[],g,n,h=>by rfl
 |k::ns,a::its,[],n,h=>by grind
 |k::ns,a::its,L::g,n,h=>by
  have f:=VT ns its g n (by simpa using h);simp only[CO,Wy];cases Bn a with
  |none=>exact f
  |some r=>cases hk:(n==k)<;>simp[f]
theorem qL:∀(ns:List Nat) its (k:Nat) av,(JN ns its)[k]?=some av->∃(n:Nat)(it:(r:RA)×r.ty.sJ),ns[k]?=some n/\its[k]?=some it/\av=a9l n it
 | [],its,k,av,h=>by simp[JN]at h
 |_::_,[],k,av,h=>by simp[JN]at h
 |n::ns,it::its,0,av,h=>by simp[JN]at h;simp_all
 |n::ns,it::its,k+1,av,h=>by
  obtain⟨m,g,f,a,b⟩:=qL ns its k av (by simpa[JN]using h);exact⟨m,g,by simpa using f,by simpa using a,b⟩
theorem XF:∀(ns:List Nat)(g:List ((r:RA)×r.ty.sJ)),ns.length<=g.length->(JN ns g).length=ns.length
 | [],g,h=>by rfl
 |_::_,[],h=>by grind
 |_::ns,_::g,h=>by simp only[JN,lC];rw[XF ns g (by simpa using h)]
theorem a2T:∀{it:(r:RA)×r.ty.sJ} {r:sO},Bn it=some r->it.1.sQ=false->(r.bx=true/\r.t.sQ=false)\/∃e,r.t=.list true e/\e.sQ=false
 |⟨.v t,x⟩,r,h,_=>by simp[Bn]at h
 |⟨.o e,x⟩,r,h,g=>by simp[Bn]at h;subst h;exact .inr ⟨e,rfl,g⟩
 |⟨.b t,x⟩,r,h,g=>by simp[Bn]at h;subst h;exact .inl ⟨rfl,g⟩
theorem a0G.root{m Sh}:∀{it:(r:RA)×r.ty.sJ} {v L r},a0G m Sh it v L->Bn it=some r->tT m Sh r L.1 L.2
 |⟨.v t,x⟩,v,L,r,h,g=>by simp[Bn]at g
 |⟨.o e,x⟩,v,L,r,h,g=>by simp[Bn]at g;subst g;exact h.2
 |⟨.b t,x⟩,v,L,r,h,g=>by simp[Bn]at g;subst g;exact h.1
@[reducible] def Fr(ro:Option Nat):Fence:={ fn:=fun _=>True,depth:=none,alive:=false,round:=ro }
theorem a2U{ro:Option Nat}{args:Array Value}{R:Ending->World->Prop}(h:Calls P f args w R):CallsIn (Fr ro) n P f args w R:=
 (callsIn_wide (n:=n)).2 h
theorem a0J{ro:Option Nat}{a:Act}(g:∀c,o.op≠.defer c)(h:o.uponIn (Fr ro) 0 P a next Q ((execOp a.eval o).run P w)):
  o.wpIn (Fr ro) 0 P a w next Q:=
 ⟨fun _ _=>trivial,by rw[Oper.semAt_eq _ _ _ g];exact h⟩
theorem a2V(hb:Wx P f)(ho:o.op=.call c)(hc:c.callee=.value (.func f))(a:Act)(w:World):
  (execOp a.eval o).run P w=.ok (.enter f (c.args.map a.eval)) w:=by
 obtain ⟨fn,c',h1,h2,h3⟩:=hb;have h4 : ¬ fn.name = "runtime.NumGoroutine" := by simpa using h3
 simp [execOp,ho,resolve,hc,Act.eval,Deferred.ofValue,invoke,callFunc,program,Sem.run,h1,h2,h4,Result.andThen]
theorem a2W(hb:Wx P f){t:Nat}(ho:o.op=.call c)(hc:c.callee=.value (.tmp t))(a:Act)(w:World){us:Array Value}(hv:a.eval (.tmp t)=.func (.func f) #[] us):
  (execOp a.eval o).run P w=.ok (.enter f (c.args.map a.eval++us)) w:=by
 obtain ⟨fn,c',h1,h2,h3⟩:=hb;have h4 : ¬ fn.name = "runtime.NumGoroutine" := by simpa using h3
 simp [execOp,ho,resolve,hc,hv,Deferred.ofValue,invoke,callFunc,program,Sem.run,h1,h2,h4,Result.andThen]
section
variable {P:Program} {B:Base} {N:Nat} {Z:Type} {U:AE} {a:Act} {w:World} {M:Gh} {ro:Option Nat}
theorem Za.callee(j:Za G B)(h:sK B U N tm w M)(fz:Bool)(u:List PA)(us:List Nat):Za G (Bo fz B w M u us):=by
 intro g t x l;obtain⟨a,c,b,v,d,e⟩:=j g t x l;have f:¬ BD M g:=fun o=>by
  rcases h.mine _ o with q|q;exact b q;omega
 have k:=h.size;exact⟨C0 a k,.inl ⟨C0 a k,.inl c,f⟩,fun⟨i,n,_,m⟩=>by obtain⟨p,r,rfl⟩:=B6.1 m;exact f ⟨n,A3 (b7Z r)⟩,v,d.trans (h.frame g a b).symm,e⟩
theorem gB:∀(g:List PA)(us:List Nat)(i0 n:Nat),n∈VP g us->∃(k i:Nat)(e:Ty),us[k]?=some n/\(Bc g i0)[k]?=some (i0+i)/\g[i]?=some (.r false (.o e))
 | [],us,i0,n,h=>by simp[VP]at h
 |.v _::g,us,i0,n,h=>by
  obtain⟨k,i,e,b,d,j⟩:=gB g us (i0+1) n (by simpa[VP]using h);exact⟨k,i+1,e,b,by simp only[Bc];rw[d];congr 1;omega,by simpa using j⟩
 |.r c a::g,[],i0,n,h=>by cases c<;>cases a<;>simp[VP]at h
 |.r c a::g,u::us,i0,n,h=>by
  have f:n∈VP g us->∃(k i:Nat)(e:Ty),(u::us)[k]?=some n/\(Bc (.r c a::g) i0)[k]?=some (i0+i)/\(PA.r c a::g)[i]?=some (.r false (.o e)):=fun h=>by
   obtain⟨k,i,e,b,d,j⟩:=gB g us (i0+1) n h;exact⟨k+1,i+1,e,by simpa using b,by simp only[Bc,List.getElem?_cons_succ];rw[d];congr 1;omega,by simpa using j⟩
  cases c with
  |true=>exact f (by cases a<;>simpa[VP]using h)
  |false=>
   cases a with
   |o e=>
    rcases mC.1 (show n∈u::VP g us from h)with rfl|h;exact⟨0,0,e,rfl,rfl,rfl⟩;exact f h
   |_=>exact f (by simpa[VP]using h)
def Wz(o:Option sO)(s:Src)(e:wD):wD:=match o,s with
 |some ⟨true,_,_⟩,.at b _=>if e.r.bx=true then e else⟨⟨true,e.r.t,e.r.x⟩,s,(b,1)::e.O⟩
 |_,_=>e
theorem Vl{C:Array Value->World->(Ending->World->Prop)->Prop}{d6:List AV}{vals:List Value}{s:sG}{K:AE->Rs Z}{z:Z}(n0:∀R,C vals.toArray w R->(∀e w',R e w'->∃v,e=.returned v/\next (a.put o.dst v) w')->o.wpIn (Fr ro) 0 P a w next Q)(k4:d6.length=vals.length)(l1:∀(i:Nat) av v,d6[i]?=some av->vals[i]?=some v->AA (Ad w M.ov) M.g U.rt (Be B w M) av v)(hG:Za G B)(hF:b8a C G s)(h:sK B U N (AJ a) w M)(hN:a.tmps.size=N)(hz:U.call q o.dst s d6 K=some z)(g5:∀v w' U' M',sK B U' N (AJ (a.put o.dst v)) w' M'->K U'=some z->next (a.put o.dst v) w'):o.wpIn (Fr ro) 0 P a w next Q:=by
 unfold AE.call at hz;split at hz;cases hz;rename_i m0;have n5:=h.sZ m0;obtain⟨hl,x,U',M',A,m6,h',ev,bx,k8,-,ha⟩:=sK.args s.ps d6 vals (i0:=0) h (fun i av v h1 h2=>.inl (l1 i av v h1 h2)) (by omega) hz;clear hz;obtain⟨fz,l4⟩:∃fz,(s.rs.any RA.sQ || (JH s.ps).any RA.sQ)=fz:=⟨_,rfl⟩;rw[l4]at ha k8;have m1:U'.pd=none:=ev.pd.trans m0;have b4:M'.ov=none:=ev.ov.trans n5;obtain⟨hnames,U1,M1,hz2,h1,hpd1,hov1,hshr,hnone,⟨d0,e4⟩,hnone'⟩:=sK.tV _ h' m1 m6;clear m6;obtain⟨y,hy,m7⟩:=D6.1 hz2;clear hz2;obtain⟨f7,e6⟩:=h'.enter b4 ha (by omega);obtain⟨ns,d2⟩:∃ns,BC s.rs (o.dst.getD 0+1000)=ns:=⟨_,rfl⟩;have n7:(A.reverse++[]).reverse=A:=by simp
 obtain⟨rn,m3⟩:∃rn,Dn s.rs (o.dst.getD 0+1000)=rn:=⟨_,rfl⟩;rw[m3]at hnames hnone d0;refine n0 _ (hF w _ _ _ x y (hG.callee h' _ _ _) hy rfl (fun _=>rfl) rfl (by rw[F5];omega) f7 e6) ?_
 rintro e w' ⟨vr,Ls,rfl,f9,bk⟩;refine⟨_,rfl,?_⟩;obtain⟨V,k0⟩:∃V,Eu (RA.all s.ps s.rs) y=V:=⟨_,rfl⟩;obtain⟨vs,i8⟩:∃vs,vr++(Bc s.ps 0).map (FU s.ps vals.toArray)=vs:=⟨_,rfl⟩;rw[k0,i8]at bk;have n9:V.length=s.rs.length+A.length:=by
  rw[<-k0,LM,RA.all,lN,ha.len,Nb]
 have b0:ns.length=s.rs.length:=by rw[<-d2,NW]
 have h9:∀n∈rn,n<pinned/\n∉A:=fun n hn=>by
  have:=hnames n hn
  simpa using this

 have h7:∀(k n:Nat) X,(ns++A)[k]?=some n->V[k]?=some X->Bn X≠none->(k<ns.length/\n∈rn/\n=o.dst.getD 0+1000+1000*k)\/(ns.length<=k/\A[k-ns.length]?=some n):=by
  intro k n X h1 h2 h3;by_cases hk:k<ns.length;rw[A8 hk]at h1;have hf:=Rp (RA.all s.ps s.rs) y k X (by rw[k0];exact h2);rw[RA.all,A8 (by omega)]at hf;refine .inl ⟨hk,?_,?_⟩;rw[<-m3];exact XE s.rs _ k n X.1 (by rw[d2];exact h1) hf fun t ht=>h3 (by
   obtain⟨r,xx⟩:=X;obtain rfl:r=.v t:=ht;rfl)
  exact(XD s.rs _ k n (by rw[d2];exact h1)).1;rw[B9 (by omega)]at h1;exact .inr ⟨by omega,h1⟩
 have d4:∀(k k' n:Nat) X g6,(ns++A)[k]?=some n->V[k]?=some X->Bn X≠none->(ns++A)[k']?=some n->V[k']?=some g6->Bn g6≠none->k'=k:=by
  intro k k' n X g6 h1 h2 h3 h4 h5 h6;rcases h7 k n X h1 h2 h3 with⟨a1,a2,a3⟩|⟨a1,a2⟩;rcases h7 k' n g6 h4 h5 h6 with⟨b1,b2,b3⟩|⟨b1,b2⟩;omega;exact absurd (B3 b2) (h9 n a2).2;rcases h7 k' n g6 h4 h5 h6 with⟨b1,b2,b3⟩|⟨b1,b2⟩;exact absurd (B3 a2) (h9 n b2).2;obtain⟨c1,c2⟩:=lS.1 a2;obtain⟨c3,c4⟩:=lS.1 b2;have hp:=C8.1 ha.nodup;rcases F6 (k-ns.length) (k'-ns.length)with g|g|g;exact absurd (c2.trans c4.symm) (hp _ _ c1 c3 g);omega;exact absurd (c4.trans c2.symm) (hp _ _ c3 c1 g)
 let E0:Nat->Option wD:=Wy (ns++A) V Ls
 have k5:∀n∈A,U1.rt n=U'.rt n/\M1.ow n=M'.ow n:=fun n hn=>d0 n fun g=>(h9 n g).2 hn;have f3:∀c,(Bo fz B w M' s.ps A).F c->∃n∈A,c∈(M'.ow n).map (·.1):=by
  rintro c ⟨i,n,h1,h2⟩;obtain⟨k,q1,q2⟩:=OZ _ _ _ _ h1;obtain⟨i',c',ra,y',v,r,j1,j2,j3,j4,j5,-⟩:=ha.refs k n q2;rw[q1]at j1;simp only[C2,sj]at j1;subst j1;obtain⟨p,hp,rfl⟩:=B6.1 h2;rw[Vk j2 j4]at hp;exact⟨n,B3 q2,A3 ((h'.xA b4 j5).2.2.1 p hp)⟩
 have f0:∀n∈A,∃D r0,E0 n=some D/\U'.rt n=some r0/\
   ((D.r.bx=r0.bx/\(D.s=M'.g n\/(r0.bx=false/\n<pinned/\n∉VP s.ps A))/\(r0.bx=false->∃ε,D.r.t=.list true ε))\/
    ∃b v ε,r0.bx=true/\D.r.bx=false/\D.r.t=.list true ε/\M'.g n=.at b 0/\w.cell? ⟨b,0,none⟩=some v/\D.s=.one v/\b∈(M'.ow n).map (·.1)/\BY w b 1/\¬ (Bo fz B w M' s.ps A).F b):=by
  intro n hn;obtain⟨k,hk⟩:=E2.1 hn;obtain⟨i,c,ra,y',v,r,j1,j2,j3,j4,j5,j7⟩:=ha.refs k n hk;rw[C2]at j1;have b9:=IE _ _ _ _ j2;have o0:k<A.length:=(lS.1 hk).1;have l5:(ns.length+k)<V.length:=by omega
  have g9:=lG l5;have f5:ns.length+k<Ls.length:=by rw[bk.ll];exact l5
  have c5:=lG f5;have k9:=Rp (RA.all s.ps s.rs) y (ns.length+k) _ (by rw[k0];exact g9);have b8:(ns++A)[ns.length+k]?=some n:=by rw[B9 (by omega)];simpa using hk
  have l0:(RA.all s.ps s.rs)[ns.length+k]?=some ra:=by
   rw[RA.all,B9 (by omega),b0,D7];obtain⟨k2,q1,q2⟩:=Zo s.ps 0 i b9;rw[C2]at q1;rw[iJ s.ps j1 q1];exact q2
  rw[l0]at k9;simp only[sj]at k9;have e7:vs[ns.length+k]?=some (FU s.ps vals.toArray i):=by
   rw[<-i8,B9 (by omega),f9,b0,D7,D8,j1];rfl
  have d5:vals.toArray.getD i undef=v:=by simp only[Array.getD_eq_getD_getElem?,C7,j3,Option.getD_some]
  have k8:∀k3,A[k3]?=some n->k=k3:=fun k3 q1=>by
   obtain⟨c1,c2⟩:=lS.1 hk;obtain⟨c3,c4⟩:=lS.1 q1;have hp:=C8.1 ha.nodup;rcases F6 k k3 with g|g|g;exact absurd (c2.trans c4.symm) (hp _ _ c1 c3 g);exact g;exact absurd (c4.trans c2.symm) (hp _ _ c3 c1 g)
  have g0:=bk.ok _ _ _ _ g9 e7 c5;revert k9 g0 g9;generalize V[ns.length+k]=X;obtain⟨r0,xx⟩:=X;intro g9 k9 g0;obtain rfl:ra=r0:=k9;have f2:∀r',Bn ⟨ra,xx⟩=some r'->E0 n=some ⟨r',Ls[ns.length+k].1,Ls[ns.length+k].2⟩:=fun r' m2=>
   a0I (ns++A) V Ls (ns.length+k) n _ _ _ b8 g9 c5 m2 (fun k' g6 g1 Y g3=>d4 _ k' n _ g6 b8 g9 (by rw[m2];simp) g1 Y g3)
  cases ra with
  |v t=>simp[Bn]at j4
  |b t=>
   simp only[Bn,sj]at j4;subst j4;cases c with
   |true=>have:=(j7 rfl).2.1;cases this
   |false=>
    have c6:FU s.ps vals.toArray i=v:=by simp only[FU,PT b9,d5]
    rw[c6]at g0;obtain⟨hr,b',hs,hv⟩:=g0;rcases j5 with⟨j5,j6⟩|⟨_,⟨g,-⟩,-⟩;refine⟨_,_,f2 _ rfl,j5,.inl ⟨rfl,.inl ?_,fun g=>by cases g⟩⟩;rcases h'.uG j5 with⟨-,b,g⟩|⟨g,-⟩;rw[g]at j6|-
    have:=j6.2.symm.trans hv
    simp only[Value.pointer.injEq,sj,Addr.mk.injEq,and_true]at this;rw[this];exact hs;cases g;cases g
  |o D=>
   simp only[Bn,sj]at j4;subst j4;obtain⟨hs,hr⟩:=g0;have g7:Ue s.ps i=false:=by simp[Ue,b9]
   rcases j5 with⟨j5,j6⟩|⟨b,-,j5,hg,f4⟩
   ·refine⟨_,_,f2 _ rfl,j5,.inl ⟨rfl,?_,fun _=>⟨D,rfl⟩⟩⟩;cases c with
    |true=>
     refine .inr ⟨rfl,(j7 rfl).2.2,fun hb=>?_⟩;obtain⟨k3,i3,e3,q1,q2,q3⟩:=gB s.ps A 0 n hb;obtain rfl:=k8 k3 q1;rw[j1]at q2;simp only[C2,sj]at q2;subst q2;rw[b9]at q3;cases q3
    |false=>
     have c6:FU s.ps vals.toArray i=v:=by simp only[FU,PT b9,d5]
     rw[c6]at hs;left;rcases h'.uG j5 with⟨g,-⟩|⟨-,u,e2,g,-⟩;cases g;rw[g]at j6|-;have j6:v=u:=j6;rw[<-j6];exact hs
   ·have m9:c=false:=by
     cases c with
     |false=>rfl
     |true=>have:=(j7 rfl).1;rw[j5]at this;cases this
    subst m9;have c6:FU s.ps vals.toArray i=v:=by simp only[FU,PT b9,d5]
    rw[c6]at hs;have f6:M'.ow n=(b,1)::(M'.ow n).tail/\b∉((M'.ow n).tail).map (·.1):=by
     obtain⟨O',R,-,-,q3⟩:=(h'.roots n _ j5).rd;rcases q3 with⟨-,b',q4,q5⟩|⟨q4,-⟩;rw[hg]at q4;simp only[Src.at.injEq,and_true]at q4;subst q4;have l8:=h'.nodup n;rw[q5,B7]at l8;rw[q5];exact⟨rfl,(A9.1 l8).1⟩;cases q4
    have l2:b∈(M'.ow n).map (·.1):=by rw[f6.1];simp
    refine⟨_,_,f2 _ rfl,j5,.inr ⟨b,v,D,rfl,rfl,rfl,hg,f4,hs,l2,h'.live n (b,1) (by rw[f6.1];simp),?_⟩⟩;rintro⟨i',n',q1,q2⟩;obtain⟨k',q3,q4⟩:=OZ _ _ _ _ q1;by_cases hnn:n'=n;subst hnn;obtain rfl:=k8 k' q4;rw[j1]at q3;simp only[sj]at q3;subst q3;rw[g7]at q2;simp only[lo,hg]at q2;exact f6.2 q2;obtain⟨i2,c2,a2,y2,v2,r2,z1,z2,z3,z4,z5,-⟩:=ha.refs k' n' q4;rw[q3]at z1;simp only[C2,sj]at z1;subst z1;obtain⟨p,hp,n6⟩:=B6.1 q2;rw[Vk z2 z4]at hp;exact h'.sU n n' (Ne.symm hnn) b l2 (by rw[<-n6];exact A3 ((h'.xA b4 z5).2.2.1 p hp))
 let E:Nat->Option wD:=fun n=>(E0 n).map fun e=>bif A.contains n then Wz (U1.rt n) (M1.g n) e else e
 have k6:∀n e,E n=some e->∃D,E0 n=some D/\(e=D\/(n∈A/\∃b v ε,D.r.bx=false/\D.r.t=.list true ε/\M'.g n=.at b 0/\w.cell? ⟨b,0,none⟩=some v/\D.s=.one v/\b∈(M'.ow n).map (·.1)/\BY w b 1/\
   ¬ (Bo fz B w M' s.ps A).F b/\e=⟨⟨true,D.r.t,D.r.x⟩,.at b 0,(b,1)::D.O⟩)):=by
  intro n e H;obtain⟨D,T,rfl⟩:=C9.1 H;refine⟨D,T,?_⟩;cases hc:A.contains n with
  |false=>exact .inl rfl
  |true=>
   have hn:n∈A:=by simpa using hc
   obtain⟨e1,r0,q1,q2,q3⟩:=f0 n hn;rw[T]at q1;cases q1;simp only[cT];rw[(k5 n hn).1,q2,e4];obtain⟨bx,t0,x0⟩:=r0;rcases q3 with⟨q3,-⟩|⟨b,v,ε,q3,q4,q5,q6,q7⟩
   ·left;cases bx with
    |false=>rfl
    |true=>
     rcases M'.g n with⟨b,o⟩|u;simp only[Wz];rw[if_pos q3];rfl
   right;have q3:bx=true:=q3;subst q3;refine⟨hn,b,v,ε,q4,q5,q6,q7.1,q7.2.1,q7.2.2.1,q7.2.2.2.1,q7.2.2.2.2,?_⟩;rw[q6];simp only[Wz];rw[if_neg (by rw[q4];simp)]
 have d7:∀n∈A,∃e r,E n=some e/\U'.rt n=some r/\(e.s=M'.g n\/(r.bx=false/\n<pinned/\n∉VP s.ps A))/\(r.bx=false->∃ε,e.r.t=.list true ε):=by
  intro n hn;obtain⟨D,r0,q1,q2,q3⟩:=f0 n hn;have hE:∃e,E n=some e:=⟨_,by simp only[E,q1,D5];rfl⟩;obtain⟨e,H⟩:=hE;obtain⟨e1,z1,z2⟩:=k6 n e H;rw[q1]at z1;cases z1;refine⟨e,r0,H,q2,?_⟩;rcases q3 with⟨q3,q4,q5⟩|⟨b,v,ε,q3,q4,q5,q6,q7⟩;rcases z2 with rfl|⟨-,b,v,ε,z3,z4,z5,z6,z7,z8,z9,g4,rfl⟩;exact⟨q4,q5⟩;rw[z3]at q3;rcases h'.uG q2 with⟨g,-⟩|⟨-,u,_,g,-⟩;rw[g]at q3;cases q3;rw[g]at z5;cases z5;refine⟨.inl ?_,fun g=>by rw[q3]at g;cases g⟩;rcases z2 with rfl|⟨-,b',v',ε',z3,z4,z5,z6,z7,z8,z9,g4,rfl⟩;exfalso;obtain⟨e2,l3,b7⟩:=C9.1 H;rw[q1]at l3;cases l3;have hc:A.contains n=true:=by simpa using hn
  rw[hc]at b7;simp only[cT]at b7;rw[(k5 n hn).1,q2,e4,q6]at b7;obtain⟨bx,t0,x0⟩:=r0;have q3:bx=true:=q3;subst q3;simp only[Wz]at b7;rw[if_neg (by rw[q4];simp)]at b7
  have:=congrArg (fun e=>e.r.bx) b7
  rw[q4]at this;cases this;exact z5.symm
 have I:∀n e,E0 n=some e->∃(k:Nat)(X:(r:RA)×r.ty.sJ) (v:Value) (L:Src×CK),(ns++A)[k]?=some n/\V[k]?=some X/\vs[k]?=some v/\Ls[k]?=some L/\Bn X=some e.r/\e.s=L.1/\e.O=L.2/\
   a0G (cells w') (fun c=>c<w'.heap.size/\((Bo fz B w M' s.ps A).S c\/(Bo fz B w M' s.ps A).F c\/(Bo fz B w M' s.ps A).size<=c)/\∀L∈Ls,c∉L.2.map (·.1)) X v L:=by
  intro n e H;obtain⟨k,X,L,j1,j2,j3,j4⟩:=qK _ _ _ _ _ H;have n3:k<vs.length:=by rw[bk.lv];exact(lS.1 j2).1
  have hv:=lG n3;exact⟨k,X,vs[k],L,j1,j2,hv,j3,j4.1,j4.2.1,j4.2.2,bk.ok _ _ _ _ j2 hv j3⟩
 have a6:∀n D c,E0 n=some D->c∈D.O.map (·.1)->(Bo fz B w M' s.ps A).F c\/w.heap.size<=c:=fun n D c H hc=>by
  obtain⟨k,X,v,L,j1,j2,jv,j3,j4,j5,j6,j7⟩:=I n D H;rw[j6]at hc;exact bk.mine L (B3 j3) c hc
 have d1:∀n e,E n=some e->n∈rn\/n∈A:=fun n e H=>by
  obtain⟨D,T,-⟩:=k6 n e H;obtain⟨k,X,v,L,j1,j2,-,-,j4,-⟩:=I n D T;rcases h7 k n X j1 j2 (by rw[j4];simp)with⟨-,g,-⟩|⟨-,g⟩;exact .inl g;exact .inr (B3 g)
 have a5:∀n b,b∈(M'.ow n).map (·.1)->¬ (Bo fz B w M' s.ps A).F b->∀n' D,E0 n'=some D->b∉D.O.map (·.1):=fun n b hb hF n' D H hc=>by
  rcases a6 n' D b H hc with g|g;exact hF g
  have:=h'.lt ⟨n,hb⟩;omega
 have hW:yJ w w' M1 (Bo fz B w M' s.ps A).F E:={
  own:=fun c hF=>by
   obtain⟨n,hn,hc⟩:=f3 c hF;obtain⟨e,r,H,-⟩:=d7 n hn;exact⟨n,e,H,by rw[(k5 n hn).2];exact hc⟩
  size:=bk.size
  still:=bk.still
  same:=fun b hb m8=>bk.frame b hb m8
  mine:=fun n e c H hc=>by
   obtain⟨D,T,z⟩:=k6 n e H;rcases z with rfl|⟨hn,b,v,ε,z3,z4,z5,z6,z7,z8,z9,g4,rfl⟩;exact(a6 n e c T hc).imp .inl id;rcases mC.1 (show c∈b::D.O.map (·.1)from hc)with rfl|hc;exact .inl (.inr (by rw[(k5 n hn).2];exact z8));exact(a6 n D c T hc).imp .inl id
  nodup:=fun n e H=>by
   obtain⟨D,T,z⟩:=k6 n e H;have h0:(D.O.map (·.1)).Nodup:=by
    obtain⟨k,X,v,L,j1,j2,jv,j3,j4,j5,j6,j7⟩:=I n D T;rw[j6];exact bk.nodup L (B3 j3)
   rcases z with rfl|⟨hn,b,v,ε,z3,z4,z5,z6,z7,z8,z9,g4,rfl⟩;exact h0;exact A9.2 ⟨a5 n b z8 g4 n D T,h0⟩
  sU:=fun n e n' e' H c7 e5 c hc h8=>by
   obtain⟨D,T,z⟩:=k6 n e H;obtain⟨b5,c8,z'⟩:=k6 n' e' c7;have a8:c∈D.O.map (·.1)->c∈b5.O.map (·.1)->False:=fun hc h8=>by
    obtain⟨k,X,v,L,j1,j2,jv,j3,j4,j5,j6,j7⟩:=I n D T;obtain⟨k',g6,v',L',i1,i2,iv,i3,i4,i5,i6,i7⟩:=I n' b5 c8;rw[j6]at hc;rw[i6]at h8;exact bk.sU k k' L L' j3 i3 (fun g=>by subst g;rw[j1]at i1;exact e5 (Option.some.inj i1)) c hc h8
   rcases z with rfl|⟨hn,b,v,ε,z3,z4,z5,z6,z7,z8,z9,g4,rfl⟩;rcases z' with rfl|⟨l7,b',v',ε',y3,y4,y5,y6,y7,y8,y9,e9,rfl⟩;exact a8 hc h8;rcases mC.1 (show c∈b'::b5.O.map (·.1)from h8)with rfl|h8;exact a5 n' c y8 e9 n e T hc;exact a8 hc h8;rcases mC.1 (show c∈b::D.O.map (·.1)from hc)with rfl|hc;rcases z' with rfl|⟨l7,b',v',ε',y3,y4,y5,y6,y7,y8,y9,e9,rfl⟩;exact a5 n c z8 g4 n' e' c8 h8;rcases mC.1 (show c∈b'::b5.O.map (·.1)from h8)with rfl|h8;exact h'.sU n n' e5 c z8 y8;exact a5 n c z8 g4 n' b5 c8 h8;rcases z' with rfl|⟨l7,b',v',ε',y3,y4,y5,y6,y7,y8,y9,e9,rfl⟩;exact a8 hc h8;rcases mC.1 (show c∈b'::b5.O.map (·.1)from h8)with rfl|h8;exact a5 n' c y8 e9 n D T hc;exact a8 hc h8
  live:=fun n e p H hp=>by
   obtain⟨D,T,z⟩:=k6 n e H;have h0:p∈D.O->BY w' p.1 p.2:=fun hp=>by
    obtain⟨k,X,v,L,j1,j2,jv,j3,j4,j5,j6,j7⟩:=I n D T;rw[j6]at hp;exact bk.live L (B3 j3) p hp
   rcases z with rfl|⟨hn,b,v,ε,z3,z4,z5,z6,z7,z8,z9,g4,rfl⟩;exact h0 hp;rcases mC.1 hp with rfl|hp;obtain⟨c,e,lo,hi,q1,q2⟩:=z9;exact⟨c,e,lo,hi,by rw[bk.frame b (h'.lt ⟨n,z8⟩) g4];exact q1,q2⟩;exact h0 hp }

 have a9:∀c,(c<w'.heap.size/\((Bo fz B w M' s.ps A).S c\/(Bo fz B w M' s.ps A).F c\/(Bo fz B w M' s.ps A).size<=c)/\∀L∈Ls,c∉L.2.map (·.1))->fz=true->
   (c<w'.heap.size/\(Be B w M1 c\/(Bo fz B w M' s.ps A).F c\/w.heap.size<=c)/\∀n e,E n=some e->c∉e.O.map (·.1)):=by
  rintro c ⟨g1,Y,g3⟩ hfzt;refine⟨g1,?_,fun n e H d8=>?_⟩;rcases Y with(Y|⟨Y,-⟩)|Y|Y;exact .inl (hshr c Y);rw[hfzt]at Y;cases Y;exact .inr (.inl Y);exact .inr (.inr Y);obtain⟨D,T,z⟩:=k6 n e H;have h0:c∉D.O.map (·.1):=by
   obtain⟨k,X,v,L,j1,j2,jv,j3,j4,j5,j6,j7⟩:=I n D T;rw[j6];exact g3 L (B3 j3)
  rcases z with rfl|⟨hn,b,v,ε,z3,z4,z5,z6,z7,z8,z9,g4,rfl⟩;exact h0 d8;rcases mC.1 (show c∈b::D.O.map (·.1)from d8)with rfl|d8;rcases Y with(Y|⟨Y,-⟩)|Y|Y;exact Y.2.2 ⟨n,z8⟩;rw[hfzt]at Y;cases Y;exact g4 Y
  have:=h'.lt ⟨n,z8⟩
  have Y:w.heap.size<=c:=Y;omega;exact h0 d8
 have a4:fz=false->∀(k:Nat) X,V[k]?=some X->X.1.sQ=false:=by
  intro d9 k X hk;have h1:=Rp (RA.all s.ps s.rs) y k X (by rw[k0];exact hk);rw[<-l4]at d9;simp only[Bool.or_eq_false_iff,List.any_eq_false,F9]at d9;have hm:=B3 h1;simp only[RA.all,mA]at hm;rcases hm with hm|hm;exact d9.1 _ hm;exact d9.2 _ hm
 have f8:∀n e,E n=some e->tT (cells w') (fun c=>c<w'.heap.size/\(Be B w M1 c\/(Bo fz B w M' s.ps A).F c\/w.heap.size<=c)/\∀n e,E n=some e->c∉e.O.map (·.1)) e.r e.s e.O:=by
  intro n e H;obtain⟨D,T,z⟩:=k6 n e H;have h0:tT (cells w') (fun c=>c<w'.heap.size/\(Be B w M1 c\/(Bo fz B w M' s.ps A).F c\/w.heap.size<=c)/\∀n e,E n=some e->c∉e.O.map (·.1)) D.r D.s D.O:=by
   obtain⟨k,X,v,L,j1,j2,jv,j3,j4,j5,j6,j7⟩:=I n D T;have hr:=j7.root j4;rw[j5,j6];cases hfz':fz with
   |true=>
    rw[hfz']at hr a9;exact hr.mono fun c hc=>a9 c hc rfl
   |false=>exact hr.xN (a2T j4 (a4 hfz' k X j2))
  rcases z with rfl|⟨hn,b,v,ε,z3,z4,z5,z6,z7,z8,z9,g4,rfl⟩;exact h0;obtain⟨O',R,k1,k2,k3⟩:=h0.rd;rcases k3 with⟨k3,-⟩|⟨-,-,-,k3⟩;rw[z3]at k3;cases k3;refine⟨O',R,AF _ k1 (fun j hj=>?_) (fun _ _ _=>rfl),k2,.inl ⟨rfl,b,rfl,?_⟩⟩;have hj:j<D.r.t.cells:=hj;rw[z4]at hj;have n1:j=0:=by simp only[Ty.cells]at hj;omega
  subst n1;rw[z7];show cells w' b (0+0)=some v
  have:=BF (w':=w') (w:=w) (c:=b) none (bk.frame b (h'.lt ⟨n,z8⟩) g4) 0
  exact this.trans z6;show(b,1)::D.O=(b,D.r.t.cells)::O';rw[z4,k3];rfl
 obtain⟨hM,f1⟩:=h1.yN (hov1.trans b4) hW f8 (fun i b e hb H=>by
   rcases d1 _ e H with g|g;exact absurd (h9 _ g).1 (by omega);obtain⟨e',r',c7,a7,hs,-⟩:=d7 _ g;rw[H]at c7;simp only[sj]at c7;subst c7;rcases hs with hs|⟨-,hs,-⟩;rw[hs];exact h'.pins i b hb (by rw[a7];simp);omega) (f:=AV.sP A (U1.vS (VP s.ps A))) (fun av v k7=>by
   have i9:∀k q,(av=.ptr k q\/av=.sref k q\/∃o l,av=.swin k q o l)->k∉A->E k=none:=fun k q hk n2=>by
    cases H:E k with
    |none=>rfl
    |some e=>
     rcases d1 k e H with g|g;have hn:=hnone k g;rcases hk with rfl|rfl|⟨o,l,rfl⟩;obtain⟨r,t,b,o,g1,-⟩:=k7;rw[hn]at g1;cases g1;obtain⟨r,e,s,g1,-⟩:=k7;rw[hn]at g1;cases g1;obtain⟨r,e,s,_,_,_,g1,-⟩:=k7;rw[hn]at g1;cases g1;exact absurd g n2
   cases av with
   |sref m p=>
    simp only[AV.sP];split
    ·rename_i hm;cases p with
     |cons=>exact .inl rfl
     |nil=>
      simp only[];split;rename_i hb;refine .inr ⟨rfl,fun k p' hk=>.inr (.inr ?_)⟩;rcases hk with g|g|⟨o,l,g⟩<;>cases g;obtain⟨e,r,H,a7,hs,ht⟩:=d7 m (by simpa using hm);have c0:=(k5 m (by simpa using hm)).1.trans a7;have hb:m∈U1.vS (VP s.ps A):=by simpa using hb
      simp only[AE.vS,List.mem_filter,E6]at hb;obtain⟨hb,g7⟩:=hb;rcases hs with hs|⟨-,-,hs⟩;obtain⟨r2,e2,s2,g1,Y,g3⟩:=k7;rw[c0]at g1;cases g1;simp only[loc,Cj,sj,pJ]at Y;rcases h1.uG c0 with⟨b6,b,hg⟩|⟨b6,u,e3,hg,-⟩;rw[c0]at g7;simp only[a2A]at g7;rw[b6]at g7;cases g7;obtain⟨ε,ht⟩:=ht b6;exact⟨rfl,e,u,ε,H,by rw[hs,<-e4];exact hg,hg,ht⟩;exact absurd hb hs;exact .inl rfl
    rename_i hm;refine .inr ⟨rfl,fun k p' hk=>.inl (i9 k p' hk ?_)⟩;rcases hk with g|g|⟨o,l,g⟩<;>cases g;simpa using hm
   |swin m p o l=>
    simp only[AV.sP];split;exact .inl rfl;rename_i hm;refine .inr ⟨rfl,fun k p' hk=>.inl (i9 k p' hk ?_)⟩;rcases hk with g|g|⟨o,l,g⟩<;>cases g;simpa using hm
   |ptr m p=>
    simp only[AV.sP];split
    ·rename_i hm;cases p with
     |cons=>exact .inl rfl
     |nil=>
      refine .inr ⟨rfl,fun k p' hk=>.inr (.inl ?_)⟩;rcases hk with g|g|⟨o,l,g⟩<;>cases g;obtain⟨e,r,H,a7,hs,ht⟩:=d7 m (by simpa using hm);have c0:=(k5 m (by simpa using hm)).1.trans a7;obtain⟨r2,t2,b2,o2,g1,Y,-⟩:=k7;rw[c0]at g1;cases g1;simp only[loc,Cj,sj,pJ]at Y;rcases h1.uG c0 with⟨b6,b,hg⟩|⟨b6,u,e3,hg,-⟩;rcases hs with hs|⟨hs,-⟩;exact⟨rfl,e,b,H,by rw[hs,<-e4];exact hg,hg⟩;rw[b6]at hs;cases hs;rw[hg]at Y;cases Y.2
    rename_i hm;refine .inr ⟨rfl,fun k p' hk=>.inl (i9 k p' hk ?_)⟩;rcases hk with g|g|⟨o,l,g⟩<;>cases g;simpa using hm
   |_=>exact .inr ⟨rfl,fun k p' hk=>by rcases hk with g|g|⟨o,l,g⟩<;>cases g⟩)

 have d3:∀(k:Nat) av,(JN ns V)[k]?=some av->∃u,vr[k]?=some u/\AA (Ad w' none) (Ha M1 E).g (Pm U1 (AV.sP A (U1.vS (VP s.ps A))) E).rt (Be B w' (Ha M1 E)) av u:=by
  intro k av hk;obtain⟨n,X,g1,Y,rfl⟩:=qL _ _ _ _ hk;have l6:k<vr.length:=by rw[f9,<-b0];exact(lS.1 g1).1
  have e7:=lG l6;have m5:vs[k]?=some vr[k]:=by rw[<-i8,A8 l6];exact e7
  have f5:k<Ls.length:=by rw[bk.ll];exact(lS.1 Y).1
  have c5:=lG f5;have g0:=bk.ok _ _ _ _ Y m5 c5;have b8:(ns++A)[k]?=some n:=by rw[A8 (by omega)];exact g1
  refine⟨vr[k],e7,?_⟩;have c9:∀r,Bn X=some r->E n=some ⟨r,Ls[k].1,Ls[k].2⟩:=fun r hr=>by
   have h0:E0 n=some ⟨r,Ls[k].1,Ls[k].2⟩:=a0I (ns++A) V Ls k n X _ r b8 Y c5 hr (fun k' g6 a1 a2 a3=>d4 _ k' n _ g6 b8 Y (by rw[hr];simp) a1 a2 a3);have n4:A.contains n=false:=by
    rcases h7 k n X b8 Y (by rw[hr];simp)with⟨-,g,-⟩|⟨g,-⟩;simpa using(h9 n g).2
    have:=(lS.1 g1).1
    omega
   simp only[E,h0,D5,n4,cF]
  obtain⟨r,xx⟩:=X;cases r with
  |v t=>
   obtain⟨hv,-⟩:=g0;cases hfz':fz with
   |true=>
    rw[hfz']at hv a9 f1;exact hv.frame (fun _ _ _=>rfl) fun c hc=>f1 c (a9 c hc rfl)
   |false=>exact hv.xN (a4 hfz' k _ Y)
  |o e=>
   obtain⟨hs,-⟩:=g0;have H:=c9 _ rfl;refine⟨_,e,.one vr[k],Gi H,?_,rfl⟩;rw[Gj H];show some (_,Ls[k].1)=_;rw[hs]
  |b t=>
   obtain⟨-,b,hs,hv⟩:=g0;have H:=c9 _ rfl;refine⟨_,t,b,0,Gi H,?_,hv⟩;rw[Gj H];show some (_,Ls[k].1)=_;rw[hs]
 have n8:(⟨fun i=>(U1.sl i).sI (AV.sP (A.reverse++[]) (U1.vS (VP s.ps A))),fun n=>match CO (ns++A) V n with
    |some r=>some (bif (A.reverse++[]).contains n then TK (U1.rt n) r else r)
    |none=>U1.rt n,none⟩:AE)=Pm U1 (AV.sP A (U1.vS (VP s.ps A))) E:=by
  have e1:AV.sP (A.reverse++[]) (U1.vS (VP s.ps A))=AV.sP A (U1.vS (VP s.ps A)):=by
   funext av;cases av<;>simp[AV.sP]
  have e2:∀n,(A.reverse++[]).contains n=A.contains n:=fun n=>by simp
  rw[e1];simp only[Pm,AE.sI,E,E0,e2];congr 1;funext n;rw[VT _ _ Ls n bk.ll];cases Wy (ns++A) V Ls n with
  |none=>rfl
  |some e=>
   simp only[D5];cases A.contains n with
   |false=>rfl
   |true=>
    simp only[cT,sj];cases a7:U1.rt n with
    |none=>simp[TK,Wz]
    |some r0=>
     rcases h1.uG a7 with⟨hb,b,hg⟩|⟨hb,u,D,hg,-⟩;obtain⟨bx,t0,x0⟩:=r0;have hb:bx=true:=hb;subst hb;rw[hg];simp only[TK,Wz];split;rename_i H;obtain⟨⟨bx,t1,x1⟩,s1,O1⟩:=e;have H:bx=true:=H;subst H;rfl;rfl;obtain⟨bx,t0,x0⟩:=r0;have hb:bx=false:=hb;subst hb;simp[TK,Wz]
 have hz:(match o.dst with
   |none=>K (Pm U1 (AV.sP A (U1.vS (VP s.ps A))) E)
   |some d=>match JN (BC s.rs (d+1000)) V with
    | [v]=>K ((Pm U1 (AV.sP A (U1.vS (VP s.ps A))) E).set d v)
    |vs=>K ((Pm U1 (AV.sP A (U1.vS (VP s.ps A))) E).put d (.cmp .tup vs)))=some z:=by
  rw[n7,d2,k0]at m7;rw[<-n8];exact m7
 cases hd:o.dst with
 |none=>
  rw[hd]at hz g5;simp only[]at hz;exact g5 _ w' _ _ hM hz
 |some d=>
  have l9:BC s.rs (d+1000)=ns:=by rw[<-d2,hd];rfl
  rw[hd]at hz g5;simp only[l9]at hz;have k4:(JN ns V).length=vr.length:=by rw[XF _ _ (by omega),b0,f9]
  split at hz
  ·rename_i av k7;rw[k7]at k4 d3;obtain⟨u,hu,g0⟩:=d3 0 av rfl;have m4:vr=[u]:=by
    match vr,k4,hu with
    | [u'],_,hu=>simp only[List.getElem?_cons_zero,sj]at hu;rw[hu]
   refine g5 _ w' _ _ (hM.uN (sv:=.one av) (v:=bX vr) (d:=d) hN (fun _=>?_)) hz;rw[m4];exact g0
  ·rename_i e5;refine g5 _ w' _ _ (hM.uN (sv:=.cmp .tup (JN ns V)) (v:=bX vr) (d:=d) hN (fun _=>?_)) hz;refine⟨vr.toArray,?_,fun k av hk=>?_⟩
   ·match vr,k4 with
    | [],_=>rfl
    | [u],k4=>
     obtain⟨av,k7⟩:=F0.1 (k4.trans rfl);exact absurd k7 (e5 av)
    |_::_::_,_=>rfl
   obtain⟨u,hu,g0⟩:=d3 k av hk;exact⟨u,by simpa using hu,g0⟩
theorem b4Z(g:o.op=.call c)(h:c.callee=.value (.func f)):(execOp a.eval o).run P w=(callFunc f (c.args.map a.eval)).run P w:=by
 simp[execOp,g,resolve,h,Act.eval,Deferred.ofValue,invoke]
theorem a6d{t:Nat}(g:o.op=.call c)(h:c.callee=.value (.tmp t)){us:Array Value}(hv:a.eval (.tmp t)=.func (.func f) #[] us):(execOp a.eval o).run P w=(callFunc f (c.args.map a.eval++us)).run P w:=by
 simp[execOp,g,resolve,h,hv,Deferred.ofValue,invoke]
theorem a8o{b:Array Value}(k:∀c,o.op≠.defer c)(g:(execOp a.eval o).run P w=.ok (.enter f b) w)(R:Ending->World->Prop)(i:Calls P f b w R)(d:∀e w',R e w'->∃v,e=.returned v/\next (a.put o.dst v) w'):o.wpIn (Fr ro) 0 P a w next Q:=by
 refine a0J k ?_
 rw[g,Oper.uponIn_enter];refine⟨fun h=>(by cases h),a2U (i.mono fun e w' h=>?_)⟩;obtain⟨v,rfl,j⟩:=d e w' h;exact j
theorem b1K{k:Array Value}(g:∀c,o.op≠.defer c)(h:(execOp a.eval o).run P w=(callFunc f k).run P w)(R:Ending->World->Prop)(j:∃v w',(callFunc f k).run P w=.ok (.value v) w'/\R (.returned v) w')(i:∀e w',R e w'->∃v,e=.returned v/\next (a.put o.dst v) w'):o.wpIn (Fr ro) 0 P a w next Q:=by
 refine a0J g ?_
 obtain⟨v,w',b,d⟩:=j;rw[h,b,Oper.uponIn_value];obtain⟨m,e,l⟩:=i _ w' d;cases e;exact l
theorem a6e{s:sG}{K:AE->Rs Z}{z:Z}(m:o.op=.call c)(p:c.callee=.value (.func f))(D:Za G B)(d:a2S P G f s)(h:sK B U N (AJ a) w M)(E:a.tmps.size=N)(I:fits N o=true)(F:U.call q o.dst s (c.args.toList.map U.sM) K=some z)(k:∀v w' r M',sK B r N (AJ (a.put o.dst v)) w' M'->K r=some z->next (a.put o.dst v) w'):o.wpIn (Fr ro) 0 P a w next Q:=by
 have j:∀x∈c.args.toList,Ch N x=true:=fun x L=>Bl I x (by simp only[m,Op.operands,Call.operands,p];simp;exact .inr (by simpa using L));have e:∀t,o.op≠.defer t:=fun t y=>by rw[m]at y;cases y
 have u:(c.args.toList.map a.eval).toArray=c.args.map a.eval:=by rw[<-Array.toList_map]
 have A:∀(i:Nat) n v,(c.args.toList.map U.sM)[i]?=some n->(c.args.toList.map a.eval)[i]?=some v->AA (Ad w M.ov) M.g U.rt (Be B w M) n v:=by
  intro i n v b l;rw[D8]at b l;cases hi:c.args.toList[i]? with
  |none=>rw[hi]at b;cases b
  |some O=>
   rw[hi]at b l;simp only[D5,sj]at b l;subst b;subst l;exact h.sM (j O (B3 hi))
 rcases d with⟨d,H⟩|d;exact Vl (C:=Calls P f) (vals:=c.args.toList.map a.eval) (a8o e (by rw[a2V H m p,u])) (by simp) A D d h E F k;exact Vl (vals:=c.args.toList.map a.eval) (b1K e (by rw[b4Z m p,u])) (by simp) A D d h E F k
theorem a9D{t:Nat}{A:List AV}{s:sG}{K:AE->Rs Z}{z:Z}(l:o.op=.call c)(y:c.callee=.value (.tmp t))(Y:U.sl t=.cmp (.clo f) A)(L:Za G B)(e:a2S P G f s)(h:sK B U N (AJ a) w M)(O:a.tmps.size=N)(R:fits N o=true)(S:U.call q o.dst s (c.args.toList.map U.sM++A) K=some z)(k:∀v w' D M',sK B D N (AJ (a.put o.dst v)) w' M'->K D=some z->next (a.put o.dst v) w'):o.wpIn (Fr ro) 0 P a w next Q:=by
 have m:∀x∈c.args.toList,Ch N x=true:=fun x hx=>Bl R x (by simp only[l,Op.operands,Call.operands,y];simp;exact .inr (by simpa using hx));have ht:t<N:=by
  have:=Bl R (.tmp t) (by simp only[l,Op.operands,Call.operands,y];simp)
  simpa[Ch]using this
 have n:=h.slots t ht;rw[Y]at n;obtain⟨us,⟨H,r⟩,h3⟩:=n;have r:a.eval (.tmp t)=.func (.func f) #[] us:=r;have j:∀E,o.op≠.defer E:=fun E F=>by rw[l]at F;cases F
 have I:∀(i:Nat) p v,(c.args.toList.map U.sM++A)[i]?=some p->(c.args.toList.map a.eval++us.toList)[i]?=some v->AA (Ad w M.ov) M.g U.rt (Be B w M) p v:=by
  intro i p v b d;by_cases hi:i<c.args.toList.length
  ·rw[A8 (by simpa using hi),D8]at b d;cases hi':c.args.toList[i]? with
   |none=>rw[hi']at b;cases b
   |some o'=>
    rw[hi']at b d;simp only[D5,sj]at b d;subst b;subst d;exact h.sM (m o' (B3 hi'))
  rw[B9 (by simpa using hi),G5]at b d;obtain⟨u,T,V⟩:=h3 _ p b;rw[B8,T]at d;simp only[sj]at d;subst d;exact V
 rcases e with⟨e,X⟩|e;exact Vl (C:=Calls P f) (vals:=c.args.toList.map a.eval++us.toList) (a8o j (by rw[a2W X l y a w r];simp)) (by simp[H]) I L e h O S k;exact Vl (vals:=c.args.toList.map a.eval++us.toList) (b1K j (by rw[a6d l y r,show(c.args.toList.map a.eval++us.toList).toArray=c.args.map a.eval++us from by simp])) (by simp[H]) I L e h O S k
end
theorem bZ:∀(l:List Nat),a8f l=true->l.Nodup
 | [],_=>List.nodup_nil
 |a::l,h=>by
  simp only[a8f,EV,E6,List.contains_eq_mem,decide_eq_false_iff_not]at h;exact A9.2 ⟨h.1,bZ l h.2⟩
section
variable {Z:Type}
inductive uQ (nm:List Nat) (U:AE) (es:Aq) (i:Nat):SV->Prop
 |dead:uQ nm U es i (.one .dead)
 |same (av:AV):U.get i=av->av≠.dead->(∀k q,(av=.ptr k q\/av=.sref k q\/∃o l,av=.swin k q o l)->k∈nm)->uQ nm U es i (.one av)
 |made (n:Nat) (e:Ty):xD.own i n e∈es->U.rt n=none->n∈nm->(U.get i=.nils\/U.get i=.empt)->uQ nm U es i (.one (.sref n []))
 |clo (f:Nat) (ns:List Nat):U.sl i=.cmp (.clo f) (QQ ns)->(∀k∈ns,k∈nm)->uQ nm U es i (.cmp (.clo f) (QQ ns))
theorem qM:∀(g:List AV)(ns:List Nat),TL g ns=true->g=QQ ns
 | [],[],_=>rfl
 |v::g,[],h=>by simp_all[TL]
 | [],_::_,h=>by simp[TL]at h
 |v::g,m::ns,h=>by
  cases v with
  |ptr n p=>
   cases p with
   |nil=>
    simp[TL]at h;rw[h.1,qM g ns h.2];rfl
   |cons=>simp[TL]at h
  |_=>simp[TL]at h
theorem iK:∀(ns:List Nat)(k:Nat)(av:AV),(QQ ns)[k]?=some av->∃n∈ns,av=.ptr n []
 | [],k,av,h=>by simp[QQ]at h
 |n::ns,0,av,h=>by
  simp_all[QQ]
 |n::ns,k+1,av,h=>by
  obtain⟨m,g,e⟩:=iK ns k av (by simpa[QQ]using h);exact⟨m,by simp[g],e⟩
theorem uQ.cons{c U b i v}(h:uQ c U b i v)(e:xD):uQ c U (e::b) i v:=by
 cases h with
 |dead=>exact .dead
 |same d g k a=>exact .same d g k a
 |made n j g k a l=>exact .made n j (A4 _ g) k a l
 |clo f m g k=>exact .clo f m g k
def Uh(r' r:sO):Prop:=r'=r\/(r'.bx=true/\r.bx=true/\r'.t.tL=r'.t/\tC r'.t r.t r'.x=some r.x)
theorem a6f{m:DJ}:∀(q:BN)(a b:Ty)(s:Src){k f},a.le b=true->loc m a s q=some (k,f)->∃t2,loc m b s q=some (t2,f)
 | [],a,b,s,k,f,h,g=>by
  simp[Cj]at g;obtain⟨-,rfl⟩:=g;exact⟨b,rfl⟩
 |.fst::p,a,b,s,k,f,h,g=>by
  obtain⟨a1,d,e,o,rfl,rfl,g⟩:=LD g;cases b with
  |pair b1 b2=>
   simp[Ty.le]at h;exact a6f p a1 b1 _ h.1 g
  |_=>simp[Ty.le]at h
 |.snd::p,a,b,s,k,f,h,g=>by
  obtain⟨a1,d,e,o,rfl,rfl,g⟩:=LF g;cases b with
  |pair b1 b2=>
   simp[Ty.le]at h;obtain⟨t2,j⟩:=a6f p d b2 _ h.2 g;rw[Ty.vH _ _ h.1]at j;exact⟨t2,j⟩
  |_=>simp[Ty.le]at h
 |.idx i::p,a,b,s,k,f,h,g=>by
  have l:a=b:=by
   rcases Kq g with⟨n,t,e,o,rfl,rfl,r,g⟩|⟨t,u,n,c,rfl,v,r,g⟩<;>simpa[Ty.le]using h
  simp_all
theorem Uh.loc{m:DJ}{g r:sO}(h:Uh g r){p:BN}{s:Src}{k f}(a:loc m g.t s p=some (k,f)):∃t2,Ab.loc m r.t s p=some (t2,f):=by
 rcases h with rfl|⟨-,-,-,h⟩;all_goals grind[tC,a6f]
theorem Uh.yM{g:sO}(h:Uh g r){s:Src}{e f}(k:Ab.loc m g.t s p=some (.list true e,f)):Ab.loc m r.t s p=some (.list true e,f):=by
 rcases h with rfl|⟨-,-,h,-⟩;omega
 have:=LH p _ _ h k
 simp[Ty.tL]at this
theorem AA.xR{g y:Nat->Src}{rt u:Nat->Option sO}(h:AA m g rt Sh a v)(B:∀c,Sh c->Sh' c)(x:∀n p r,(a=.ptr n p\/a=.sref n p\/∃o l,a=.swin n p o l)->rt n=some r->y n=g n/\∃f,u n=some f/\Uh r f):AA m y u Sh' a v:=by
 cases a with
 |ptr n p=>
  obtain⟨r,t,b,o,k,d,i⟩:=h;obtain⟨w,f,j,q⟩:=x n p r (.inl rfl) k;obtain⟨D,z⟩:=q.loc d;exact⟨f,D,b,o,j,by simp_all,i⟩
 |sref n p=>
  obtain⟨r,e,s,k,d,i⟩:=h;obtain⟨w,f,j,q⟩:=x n p r (.inr (.inl rfl)) k;exact⟨f,e,s,j,by rw[w];exact q.yM d,i⟩
 |swin n p o l=>
  obtain⟨r,e,s,a,C,c,k,d,i,j,q⟩:=h;obtain⟨w,f,z,A⟩:=x n p r (.inr (.inr ⟨_,_,rfl⟩)) k;exact⟨f,e,s,a,C,c,z,by rw[w];exact A.yM d,i,j,q⟩
 |_=>exact h.frame (fun _ _ _=>rfl) B (by rintro n p r t s (g|g|⟨_,_,g⟩)<;>cases g)
inductive vC (U:AE) (es:Aq) (n:Nat):Option sO->Prop
 |none:n∉es.names->vC U es n none
 |same (r r':sO):n∈es.names->U.rt n=some r'->Uh r' r->vC U es n (some r)
 |made (i:Nat) (e:Ty):n∈es.names->n<pinned->xD.own i n e∈es->U.rt n=Option.none->(U.get i=.nils\/U.get i=.empt)->vC U es n (some ⟨false,.list true e,[]⟩)
theorem Eg(U:AE)(i j:Nat)(v:AV):(U.set i v).sl j=if j=i then .one v else U.sl j:=by
 simp_all[AE.set,AE.put]
theorem Rr(U:AE)(n m:Nat)(r:Option sO):(U.sF n r).rt m=if m=n then r else U.rt m:=by
 simp_all[AE.sF]
theorem BT(b:List Nat)(U:AE):∀(N:Aq){K:N.ty.sJ->Rs Z}{z:Z},(∀n∈N.names,n∈b)->N.names.Nodup->Aq.rest b U N K=some z->
  ∃x,K x=some z/\(N.enc x).pd=none/\(∀i,uQ b U N i ((N.enc x).sl i))/\∀n,vC U N n ((N.enc x).rt n)
 | [],K,z,_,_,h=>⟨(),h,rfl,fun i=>.dead,fun n=>.none (by simp[Aq.names])⟩
 |.sv i t::r,K,z,hnm,hnd,h=>by
  simp only[Aq.rest]at h;split at h;rename_i t' x hx;split at h;rename_i X;subst X;obtain⟨y,G,C,D,w⟩:=BT b U r hnm hnd h;refine⟨(x,y),G,C,fun j=>?_,fun n=>?_⟩;show uQ b U _ j (((Aq.enc r y).set i (.val t' x)).sl j);rw[Eg];split;rename_i e;subst e;exact .same _ hx (by simp) (by rintro k q (g|g|⟨o,l,g⟩)<;>cases g);exact(D j).cons _;show vC U _ n ((Aq.enc r y).rt n);cases hrt:(Aq.enc r y).rt n<;>have:=w n<;>rw[hrt]at this<;>cases this;exact .none (by assumption);exact .same _ _ (by assumption) (by assumption) (by assumption);rename_i E v d a u A B;exact .made E v d a (A4 _ u) A B;cases h;cases h
 |.own i n e::r,K,z,hnm,hnd,h=>by
  simp[Aq.names]at hnd;have M:∀m∈Aq.names r,m∈b:=fun m S=>hnm m (by simp[Aq.names,S]);have P:n∈b:=hnm n (by simp[Aq.names]);have H:∀(l:List e.sJ)(Q:(Aq.ty r).sJ->Rs Z),Aq.rest b U r Q=some z->(∀y,Q y=K (l,y))->
    uQ b U (.own i n e::r) i (.one (.sref n []))->vC U (.own i n e::r) n (some ⟨false,.list true e,l⟩)->
    ∃x,K x=some z/\(Aq.enc (.own i n e::r) x).pd=none/\(∀j,uQ b U (.own i n e::r) j ((Aq.enc (.own i n e::r) x).sl j))/\∀m,vC U (.own i n e::r) m ((Aq.enc (.own i n e::r) x).rt m):=by
   intro l Q h hK hs L;obtain⟨y,G,C,D,w⟩:=BT b U r M hnd.2 h;refine⟨(l,y),by simp_all,C,fun j=>?_,fun m=>?_⟩;show uQ b U _ j ((((Aq.enc r y).sF n (some ⟨false,.list true e,l⟩)).set i (.sref n [])).sl j);rw[Eg];split;simp_all;exact(D j).cons _
   ·show vC U _ m (((Aq.enc r y).sF n (some ⟨false,.list true e,l⟩)).rt m);rw[Rr];split;simp_all
    ·rename_i T;cases hrt:(Aq.enc r y).rt m with
     |none=>
      have:=w m
      rw[hrt]at this;cases this with
      |none g=>exact .none (by simp_all[Aq.names])
     |some rr=>
      have:=w m
      rw[hrt]at this;cases this with
      |same _ R d u g5=>exact .same rr R (by simp[Aq.names,d]) u g5
      |made E v d a u A B=>exact .made E v (by simp[Aq.names,d]) a (A4 _ u) A B
  simp[Aq.rest]at h;split at h;rename_i m S;rcases Ah h with⟨T,h⟩|⟨-,g⟩;obtain rfl:m=n:=by simp_all
  split at h;rename_i v l L;split at h;rename_i he;subst he;exact H l _ h (fun _=>rfl) (.same _ S (by simp) (by simp_all)) (.same _ _ (by simp[Aq.names]) L (.inl rfl));simp_all;simp_all;simp_all;rename_i I;split at h;rename_i L;obtain⟨O,h⟩:=(Ah h).elim id fun h=>by grind
  exact H [] _ h (fun _=>rfl) (.made n e (by simp) L P (.inl I)) (.made i e (by simp[Aq.names]) (by simp_all) (by simp) L (.inl I));simp_all;rename_i I;split at h;rename_i L;obtain⟨O,h⟩:=(Ah h).elim id fun h=>by grind
  exact H [] _ h (fun _=>rfl) (.made n e (by simp) L P (.inr I)) (.made i e (by simp[Aq.names]) (by simp_all) (by simp) L (.inr I));simp_all;simp_all
 |.box n t::r,K,z,hnm,hnd,h=>by
  simp[Aq.names]at hnd;have M:∀m∈Aq.names r,m∈b:=fun m S=>hnm m (by simp[Aq.names,S]);simp[Aq.rest]at h;have H:∀(Y:t.sJ)(Q:(Aq.ty r).sJ->Rs Z),Aq.rest b U r Q=some z->(∀y,Q y=K (Y,y))->(∃R,U.rt n=some R/\Uh R ⟨true,t,Y⟩)->
    ∃x,K x=some z/\(Aq.enc (.box n t::r) x).pd=none/\(∀j,uQ b U (.box n t::r) j ((Aq.enc (.box n t::r) x).sl j))/\∀m,vC U (.box n t::r) m ((Aq.enc (.box n t::r) x).rt m):=by
   intro Y Q h hK ⟨R,L,F⟩;obtain⟨y,G,C,D,w⟩:=BT b U r M hnd.2 h;refine⟨(Y,y),by simp_all,C,fun j=>(D j).cons _,fun m=>?_⟩;show vC U _ m (((Aq.enc r y).sF n (some ⟨true,t,Y⟩)).rt m);rw[Rr];split;rename_i e;subst e;exact .same _ _ (by simp[Aq.names]) L F
   ·rename_i T;cases hrt:(Aq.enc r y).rt m with
    |none=>
     have:=w m
     rw[hrt]at this;cases this with
     |none g=>exact .none (by simp_all[Aq.names])
    |some rr=>
     have:=w m
     rw[hrt]at this;cases this with
     |same _ R d u g5=>exact .same rr R (by simp[Aq.names,d]) u g5
     |made E v d a u A B=>exact .made E v (by simp[Aq.names,d]) a (A4 _ u) A B
  split at h;rename_i t' x L;split at h;rename_i X;subst X;exact H x _ h (fun _=>rfl) ⟨_,L,.inl rfl⟩;split at h;rename_i V;split at h;rename_i z' h0;exact H z' _ h (fun _=>rfl) ⟨_,L,.inr ⟨rfl,rfl,V,h0⟩⟩;simp_all;simp_all;simp_all
 |.ptr i n p::r,K,z,hnm,hnd,h=>by
  simp only[Aq.rest]at h;split at h;rename_i m q I;obtain⟨F,h⟩:=(Ah h).elim id fun h=>by grind
  simp at F;obtain⟨P,rfl,O⟩:=F;obtain rfl:=Lb _ _ O;obtain⟨y,G,C,D,w⟩:=BT b U r hnm hnd h;refine⟨y,G,C,fun j=>?_,fun c=>?_⟩;show uQ b U _ j (((Aq.enc r y).set i (.ptr m q)).sl j);rw[Eg];split;rename_i e;subst e;exact .same _ I (by simp) (by simp_all);exact(D j).cons _;show vC U _ c ((Aq.enc r y).rt c);cases hrt:(Aq.enc r y).rt c<;>have:=w c<;>rw[hrt]at this<;>cases this;exact .none (by assumption);exact .same _ _ (by assumption) (by omega) (by omega);rename_i E v d a u A B;exact .made E v d a (A4 _ u) A B;simp_all
 |.vp i t::r,K,z,hnm,hnd,h=>by
  simp only[Aq.rest]at h;split at h;rename_i t' x hx;split at h;rename_i X;subst X;obtain⟨y,G,C,D,w⟩:=BT b U r hnm hnd h;refine⟨(x,y),G,C,fun j=>?_,fun n=>?_⟩;show uQ b U _ j (((Aq.enc r y).set i (.vptr t' x)).sl j);rw[Eg];split;rename_i e;subst e;exact .same _ hx (by simp) (by rintro k q (g|g|⟨o,l,g⟩)<;>cases g);exact(D j).cons _;show vC U _ n ((Aq.enc r y).rt n);cases hrt:(Aq.enc r y).rt n<;>have:=w n<;>rw[hrt]at this<;>cases this;exact .none (by assumption);exact .same _ _ (by assumption) (by assumption) (by assumption);rename_i E v d a u A B;exact .made E v d a (A4 _ u) A B;cases h;cases h
 |.ref i n p::r,K,z,hnm,hnd,h=>by
  simp only[Aq.rest]at h;split at h;rename_i m q I;obtain⟨F,h⟩:=(Ah h).elim id fun h=>by grind
  simp at F;obtain⟨P,rfl,O⟩:=F;obtain rfl:=Lb _ _ O;obtain⟨y,G,C,D,w⟩:=BT b U r hnm hnd h;refine⟨y,G,C,fun j=>?_,fun c=>?_⟩;show uQ b U _ j (((Aq.enc r y).set i (.sref m q)).sl j);rw[Eg];split;rename_i e;subst e;exact .same _ I (by simp) (by simp_all);exact(D j).cons _;show vC U _ c ((Aq.enc r y).rt c);cases hrt:(Aq.enc r y).rt c<;>have:=w c<;>rw[hrt]at this<;>cases this;exact .none (by assumption);exact .same _ _ (by assumption) (by omega) (by omega);rename_i E v d a u A B;exact .made E v d a (A4 _ u) A B;simp_all
 |.rfi i n::r,K,z,hnm,hnd,h=>by
  simp only[Aq.rest]at h;split at h;rename_i m k I;obtain⟨F,h⟩:=(Ah h).elim id fun h=>by grind
  simp at F;obtain⟨P,rfl⟩:=F;obtain⟨y,G,C,D,w⟩:=BT b U r hnm hnd h;refine⟨((k:Int),y),G,C,fun j=>?_,fun c=>?_⟩;show uQ b U _ j (((Aq.enc r y).set i (.sref m [.idx (k:Int).toNat])).sl j);rw[Eg];split;rename_i e;subst e;exact .same _ (by simp_all) (by simp) (by simp_all);exact(D j).cons _;show vC U _ c ((Aq.enc r y).rt c);cases hrt:(Aq.enc r y).rt c<;>have:=w c<;>rw[hrt]at this<;>cases this;exact .none (by assumption);exact .same _ _ (by assumption) (by omega) (by omega);rename_i E v d a u A B;exact .made E v d a (A4 _ u) A B;simp_all
 |.win i n p::r,K,z,hnm,hnd,h=>by
  simp only[Aq.rest]at h;split at h;rename_i m q o k I;obtain⟨F,h⟩:=(Ah h).elim id fun h=>by grind
  simp at F;obtain⟨P,rfl,O⟩:=F;obtain rfl:=Lb _ _ O;obtain⟨y,G,C,D,w⟩:=BT b U r hnm hnd h;refine⟨((o:Int),(k:Int),y),G,C,fun j=>?_,fun c=>?_⟩;show uQ b U _ j (((Aq.enc r y).set i (.swin m q (o:Int).toNat (k:Int).toNat)).sl j);rw[Eg];split;rename_i e;subst e;exact .same _ (by simp_all) (by simp) (by simp_all);exact(D j).cons _;show vC U _ c ((Aq.enc r y).rt c);cases hrt:(Aq.enc r y).rt c<;>have:=w c<;>rw[hrt]at this<;>cases this;exact .none (by assumption);exact .same _ _ (by assumption) (by omega) (by omega);rename_i E v d a u A B;exact .made E v d a (A4 _ u) A B;simp_all
 |.clo i f ns::r,K,z,hnm,hnd,h=>by
  simp[Aq.rest]at h;split at h;rename_i f' vs I;obtain⟨F,h5⟩:=(Ah h).elim id fun h=>by grind
  simp at F;obtain⟨rfl,P,O⟩:=F;obtain rfl:=qM _ _ O;obtain⟨y,G,C,D,w⟩:=BT b U r hnm hnd h5;refine⟨y,G,C,fun j=>?_,fun c=>?_⟩;show uQ b U _ j (bif j==i then(SV.cmp (.clo f') (QQ ns))else(Aq.enc r y).sl j);by_cases e:j=i;subst e
  simp
  exact .clo f' ns I P;have v:(j==i)=false:=by simp_all
  simp[v];exact(D j).cons _;show vC U _ c ((Aq.enc r y).rt c);cases hrt:(Aq.enc r y).rt c<;>have:=w c<;>rw[hrt]at this<;>cases this;exact .none (by assumption);exact .same _ _ (by assumption) (by omega) (by omega);rename_i E v d a u A B;exact .made E v d a (A4 _ u) A B;simp_all
end
def xD.fits(N:Nat):xD->Bool
 |.sv i _|.own i _ _|.ptr i _ _|.ref i _ _|.rfi i _|.win i _ _|.vp i _|.clo i _ _=>A6 (i<N)
 |.box _ _=>true
def Aq.fits(N:Nat)(es:Aq):Bool:=es.all (xD.fits N)
section
variable {Z:Type} {B:Base} {N:Nat} {tm:Nat->Value} {w:World}
theorem Fq(h:sK B U N tm w M)(hi:i<N):AA (Ad w M.ov) M.g U.rt (Be B w M) (U.get i) (tm i):=by
 have:=h.slots i hi
 simp[AE.get];revert this;cases U.sl i with
 |one v=>exact fun h=>h
 |cmp c f=>exact fun _=>trivial
theorem sK.vals{q:List Nat}:∀(C:Aq) {U:AE} {M:Gh}(_:sK B U N tm w M)(_:U.pd=none){K:C.ty.sJ->Rs Z}{z:Z}(_:C.fits N=true)(_:∀n∈C.names,n∈q)(_:C.names.Nodup)(_:Aq.vals q C U K=some z),
  ∃x E L,K x=some z/\sK B E N tm w L/\E.pd=none/\(∀(j:Nat) t y,U.get j=.val t y->E.get j=.val t y)/\(C.enc x).pd=none/\(∀i,uQ q E C i ((C.enc x).sl i))/\∀n,vC E C n ((C.enc x).rt n):=by
 intro C
 induction C with
 |nil=>
  intro U M h b K z Q a k o;obtain⟨x,c,d,l,m⟩:=BT q U [] a k o;grind
 |cons e r ih=>
  intro U M h b K z Q a k o;cases e with
  |sv i t=>
   simp only[Aq.fits,List.all_cons,EV,xD.fits,dT]at Q;simp[Aq.vals]at o;obtain⟨F,o⟩:=(Ah o).resolve_right (fun g=>by grind);have S:∃x A D,Aq.vals q r (A.set i (.val t x)) (fun y=>K (x,y))=some z/\sK B A N tm w D/\A.pd=none/\Cg (Ad w D.ov) (Be B w D) t x (tm i)/\
     ∀(j:Nat) u y,U.get j=.val u y->(A.set i (.val t x)).get j=.val u y:=by
    have P:=Fq h Q.1;have G:(∀u y,U.get i≠.val u y)->∃x A D,Aq.vals q r (A.set i (.val t x)) (fun y=>K (x,y))=some z/\sK B A N tm w D/\A.pd=none/\Cg (Ad w D.ov) (Be B w D) t x (tm i)/\
     ∀(j:Nat) u y,U.get j=.val u y->(A.set i (.val t x)).get j=.val u y:=fun R=>by
     obtain⟨x,A,D,c,d,l,m,-,h5⟩:=h.yC (.inl P) o;refine⟨x,A,D,c,d,m.pd.trans b,l,fun j u y H=>?_⟩;have h0:j≠i:=fun e=>R u y (e▸H)
     have:=h5.2 j u y H
     simp_all[AE.get,Eg]
    cases hg:U.get i with
    |val u x=>
     rw[hg]at o P;simp[AE.uT]at o;split at o;rename_i x2 I;rw[hg]at F;simp[AV.exact]at F;subst F;rw[bR]at I;cases I;refine⟨x,U,M,o,h,b,P,fun j t2 y H=>?_⟩;by_cases e:j=i;subst e;rw[hg]at H;simp[AE.get];rw[Eg,if_pos rfl];omega;simp_all[AE.get,Eg];simp_all
    |_=>exact G (by rw[hg];intro u y e;cases e)
   obtain⟨x,A,D,k1,k2,k3,k4,k5⟩:=S;have k6:sK B (A.set i (.val t x)) N tm w D:=k2.put (v:=tm i) (fun _=>k4) (fun j _=>by simp_all);obtain⟨y,E,L,j1,j2,j3,j4,j5,j6,j7⟩:=ih k6 k3 (by simp_all[Aq.fits]) a k k1;have hx:E.get i=.val t x:=j4 i t x (by simp[AE.get];rw[Eg,if_pos rfl]);refine⟨(x,y),E,L,j1,j2,j3,fun j u T H=>j4 j u T (k5 j u T H),j5,fun j=>?_,fun n=>?_⟩;show uQ q E _ j (((Aq.enc r y).set i (.val t x)).sl j);rw[Eg];split;rename_i e;subst e;exact .same _ hx (by simp) (by simp);exact(j6 j).cons _;show vC E _ n ((Aq.enc r y).rt n);cases hrt:(Aq.enc r y).rt n<;>have:=j7 n<;>rw[hrt]at this<;>cases this;exact .none (by assumption);exact .same _ _ (by assumption) (by omega) (by omega);rename_i i' V X O Y g3 g4;exact .made i' V X O (A4 _ Y) g3 g4
  |own i n e=>exact(fun⟨x,c,d,l,m⟩=>⟨x,U,M,c,h,b,fun _ _ _ g=>g,d,l,m⟩) (BT q U _ a k o)
  |box n t=>exact(fun⟨x,c,d,l,m⟩=>⟨x,U,M,c,h,b,fun _ _ _ g=>g,d,l,m⟩) (BT q U _ a k o)
  |ptr i n p=>exact(fun⟨x,c,d,l,m⟩=>⟨x,U,M,c,h,b,fun _ _ _ g=>g,d,l,m⟩) (BT q U _ a k o)
  |vp i n=>exact(fun⟨x,c,d,l,m⟩=>⟨x,U,M,c,h,b,fun _ _ _ g=>g,d,l,m⟩) (BT q U _ a k o)
  |ref i n p=>exact(fun⟨x,c,d,l,m⟩=>⟨x,U,M,c,h,b,fun _ _ _ g=>g,d,l,m⟩) (BT q U _ a k o)
  |rfi i n=>exact(fun⟨x,c,d,l,m⟩=>⟨x,U,M,c,h,b,fun _ _ _ g=>g,d,l,m⟩) (BT q U _ a k o)
  |clo i f ns=>exact(fun⟨x,c,d,l,m⟩=>⟨x,U,M,c,h,b,fun _ _ _ g=>g,d,l,m⟩) (BT q U _ a k o)
  |win i n p=>exact(fun⟨x,c,d,l,m⟩=>⟨x,U,M,c,h,b,fun _ _ _ g=>g,d,l,m⟩) (BT q U _ a k o)
theorem qN:∀(r:Aq){i n e},xD.own i n e∈r->n∈r.names
 |a::r,i,n,e,h=>by
  rcases mC.1 h with h|h;subst h;simp[Aq.names]
  have:=qN r h
  cases a<;>simp[Aq.names,this]
def Vm:Aq->Nat->Nat
 | [],_=>0
 |.own i m _::r,n=>if m=n then i else Vm r n
 |_::r,n=>Vm r n
theorem EH:∀(f:Aq){i n e},f.names.Nodup->xD.own i n e∈f->Vm f n=i
 |.own j m k::r,i,n,e,hnd,h=>by
  simp only[Aq.names,A9]at hnd;simp only[Vm];rcases mC.1 h with h|h;cases h;simp
  have:=qN r h
  rw[if_neg (fun g=>hnd.1 (by rw[g];exact this))];exact EH r hnd.2 h
 |.sv j t::r,i,n,e,hnd,h=>by
  rcases mC.1 h with h|h;cases h;exact EH r hnd h
 |.box m t::r,i,n,e,hnd,h=>by
  simp only[Aq.names,A9]at hnd;rcases mC.1 h with h|h;cases h;exact EH r hnd.2 h
 |.ptr j m p::r,i,n,e,hnd,h=>by
  rcases mC.1 h with h|h;cases h;exact EH r hnd h
 |.vp j m::r,i,n,e,hnd,h=>by
  rcases mC.1 h with h|h;cases h;exact EH r hnd h
 |.ref j m p::r,i,n,e,hnd,h=>by
  rcases mC.1 h with h|h;cases h;exact EH r hnd h
 |.rfi j m::r,i,n,e,hnd,h=>by
  rcases mC.1 h with h|h;cases h;exact EH r hnd h
 |.clo j m p::r,i,n,e,hnd,h=>by
  rcases mC.1 h with h|h;cases h;exact EH r hnd h
 |.win j m p::r,i,n,e,hnd,h=>by
  rcases mC.1 h with h|h;cases h;exact EH r hnd h
theorem sK.cut(h:sK B U N tm w M)(h3:U.pd=none){d:Aq}(hf:d.fits N=true)(K:d.names.Nodup){X:AE}(hX:X.pd=none)(hs:∀i,uQ d.names U d i (X.sl i))(L:∀n,vC U d n (X.rt n)):
  ∃M',sK B X N tm w M':=by
 have h4:=h.sZ h3
 let M':Gh:=⟨fun n=>match U.rt n with|some _=>M.g n|none=>.one (tm (Vm d n)),fun n=>match X.rt n with|some _=>M.ow n|none=>[],none⟩
 have V:∀n r,U.rt n=some r->M'.g n=M.g n:=fun n r e=>by grind
 have I:∀n,U.rt n=none->M'.g n=.one (tm (Vm d n)):=fun n e=>by grind
 have ho:∀n r,X.rt n=some r->M'.ow n=M.ow n:=fun n r e=>by grind
 have h2:∀n,X.rt n=none->M'.ow n=[]:=fun n e=>by grind
 have P:∀n p,p∈M'.ow n->p∈M.ow n:=fun n p hp=>by
  grind
 have a:∀n c,c∈(M'.ow n).map (·.1)->c∈(M.ow n).map (·.1):=fun n c q=>by
  grind
 have x:∀c,Be B w M c->Be B w M' c:=fun c q=>⟨q.1,q.2.1,fun⟨n,l⟩=>q.2.2 ⟨n,a n c l⟩⟩;have t:Ad w M'.ov=Ad w M.ov:=by grind
 have h1:∀n,n∈d.names->∃r,X.rt n=some r:=fun n l=>by
  cases hrt:X.rt n<;>have:=L n<;>rw[hrt]at this<;>cases this;all_goals simp_all
 have C:∀n r,n∈d.names->U.rt n=some r->∃r2,X.rt n=some r2/\Uh r r2:=fun n r l V=>by
  cases hrt:X.rt n<;>have:=L n<;>rw[hrt]at this<;>cases this;all_goals simp_all
 have E:∀i e n,xD.own i n e∈d->i<N:=fun i e n hm=>by
  have:=lA.1 hf _ hm
  simp_all[xD.fits]
 refine⟨M',fun n r l=>?_,fun n l=>h2 n l,fun n=>?_,fun n m y c q h0=>h.sU n m y c (a n c q) (a m c h0),fun n p hp=>h.live n p (P n p hp),fun i Y=>?_,?_,h.size,h.frame,fun c ⟨n,l⟩=>h.mine c ⟨n,a n c l⟩,fun i b hb y=>?_,h.still⟩
 ·have:=L n
  rw[l]at this;rw[t,ho n r l];cases this with
  |same _ r5 v j g5=>
   rw[V n r5 j];rcases g5 with rfl|⟨e1,e2,e3,e4⟩;exact(h.roots n _ j).mono x;obtain⟨O',R,H,Q,Z⟩:=(h.roots n r5 j).rd;have hO:=Pk e3 H;subst hO;refine⟨[],R,Wu e4 H,fun c q=>x c (Q c q),?_⟩;rcases Z with⟨-,b,S,k5⟩|⟨S,-⟩;exact .inl ⟨e2,b,S,by rw[k5,(qE e4).2]⟩;simp_all
  |made i e v g1' j F G=>
   rw[I n F,EH d K j,h.norm n F];have Y:=E i e n j;have o:=Fq h Y;refine⟨[],[],?_,by simp,.inr ⟨rfl,⟨_,rfl⟩,⟨e,rfl⟩,rfl⟩⟩;show Cn _ true e.cells (AO _ e) (some (tm i))=some (([]:List e.sJ),[],[]);rcases G with G|G;rw[G]at o;have o:tm i=.slice none 0 0:=o;rw[o];rfl
   ·rw[G]at o;obtain⟨A,o⟩:=o;rw[o];cases A with
    |none=>rfl
    |some A=>rfl
 ·cases e:X.rt n with
  |none=>simp_all
  |some r=>rw[ho n r e];exact h.nodup n
 ·have D:=hs i;revert D;generalize X.sl i=sv;intro D;have o:=Fq h Y;cases D with
  |dead=>trivial
  |clo f ns v j=>
   have hb:=h.slots i Y;rw[v]at hb;obtain⟨us,H,Q⟩:=hb;refine⟨us,H,fun k T hk=>?_⟩;obtain⟨u,Z,S⟩:=Q k T hk;obtain⟨m,hm,rfl⟩:=iK ns k T hk;refine⟨u,Z,?_⟩;rw[t];refine S.xR x fun n p r q z=>?_
   simp_all
  |same T v j F=>
   rw[v]at o;show AA _ _ _ _ T _;rw[t];exact o.xR x fun n p r q z=>⟨V n r z,C n r (F n p q) z⟩
  |made n e v j F G=>
   obtain⟨r,O⟩:=h1 n F
   have:=L n
   rw[O]at this;cases this with
   |same _ _ H Q=>simp_all
   |made i' e' H k1' Q Z S=>
    refine⟨_,e',.one (tm i),O,?_,rfl⟩;rw[I n j,EH d K v];rfl
 show QR _ _ _ X.pd none;rw[hX];trivial
 ·obtain⟨r,l⟩:=Option.ne_none_iff_exists'.1 y
  have:=L (pinned+i)
  rw[l]at this;cases this with
  |same _ _ v j=>rw[V _ _ j];exact h.pins i b hb (by simp_all)
  |made i' e v g1'=>omega
theorem sK.wY(h:sK B U N tm w M){k:Aq}(c:k.fits N=true){K:k.ty.sJ->Rs Z}{z:Z}(a:k.wY U K=some z):∃x M',K x=some z/\sK B (k.enc x) N tm w M':=by
 unfold Aq.wY at a;split at a;rename_i b;obtain⟨f,a⟩:=(Ah a).elim id fun h=>by grind
 have f:=bZ _ f;obtain⟨x,n,m,o,d,e,-,i,j,l⟩:=sK.vals k h b c (fun _ g=>g) f a;obtain⟨M',p⟩:=d.cut e c f i j l;grind;simp_all
end
structure vB (P:Program) (cx:Cx):Prop extends CxTy P cx where
 C:∀f s,cx.C f=some s->a2S P cx.G f s
section
variable {P:Program} {B:Base} {N:Nat} {Z:Type} {U:AE} {a:Act} {w:World} {M:Gh} {cx:Cx} {ro:Option Nat}
theorem AZ.wp{K:AE->Rs Z}{z:Z}(k:∀c,o.op≠.defer c)(h:AZ P B N o a w K z)(b:∀v w' f M',sK B f N (AJ (a.put o.dst v)) w' M'->K f=some z->next (a.put o.dst v) w'):o.wpIn (Fr ro) 0 P a w next Q:=by
 obtain⟨v,w',f,M',g,d,e⟩:=h;refine a0J k ?_
 rcases g with h|⟨h,rfl⟩;all_goals grind[Oper.uponIn_value,Oper.uponIn_skip]
theorem NX(b:vB P cx)(j:Za cx.G B){o:Oper}{q:Bool}{K:AE->Rs Z}{z:Z}{next:Act->World->Prop}{Q:Exit->Act->World->Prop}
  (h:sK B U N (AJ a) w M)(l:a.tmps.size=N)(m:fits N o=true)(p:Bk cx q o U K=some z)
  (k:∀v w' r M',sK B r N (AJ (a.put o.dst v)) w' M'->K r=some z->next (a.put o.dst v) w'):o.wpIn (Fr ro) 0 P a w next Q:=by
 by_cases d:∃c v,o.op=.call c/\c.callee=.value v
 ·obtain⟨c,v,i,d⟩:=d;have g:(match v with|.func f=>(match cx.C f with|some s=>U.call q o.dst s (c.args.toList.map U.sM) K|none=>none)|.tmp t=>(if q then none else match U.sl t with|.cmp (.clo f) u=>(match cx.C f with|some s=>U.call q o.dst s (c.args.toList.map U.sM++u) K|none=>none)|_=>none)|_=>none)=some z:=by
   cases hd:o.dst<;>simp only[Bk,i,hd,d]at p<;>rw[<-p]<;>cases v<;>rfl
  cases v with
  |func f=>
   simp at g;split at g;rename_i s n;exact a6e i d j (b.C f s n) h l m g k;cases g
  |tmp t=>
   simp only[]at g;split at g;grind;split at g;rename_i f u n;split at g;rename_i s x;exact a9D i d n j (b.C f s x) h l m g k;cases g;cases g
  |_=>simp only[]at g;cases g
 refine(a9C b.toCxTy j (fun c v i e=>d ⟨c,v,i,e⟩) h l m p).wp (fun y e=>?_) k;simp_all[Bk]
theorem iL{U:AE}(h:a2B U x=some n):∃t,x=.tmp t/\U.sl t=.one (.ptr n [])/\pinned<=n:=by
 unfold a2B at h;grind
theorem WA{U:AE}(h:VQ o U=some n):∃t,(o.op=.move (.tmp t)\/o.op=.nilCheck (.tmp t))/\U.sl t=.one (.ptr n [])/\pinned<=n:=by
 unfold VQ at h;split at h;rename_i x k;obtain⟨t,rfl,g,f⟩:=iL h;simp_all;rename_i x k;obtain⟨t,rfl,g,f⟩:=iL h;simp_all;simp_all
theorem qO{Z:Type}{cx:Cx}{o:Oper}{U:AE}{n d:Nat}(h:VQ o U=some n)(f:o.dst=some d){q:Bool}(K:AE->Rs Z):Bk cx q o U K=K (U.put d (.one (.ptr n []))):=by
 obtain⟨t,g|g,k,-⟩:=WA h;simp_all[Bk];simp[Bk,g,f,AE.sM,AE.get,k];rfl
theorem a0K{m:DJ}:∀(p:BN)(t:Ty)(s:Src){f τ s'},loc m t s p=some (f,s')->b7a t p=some τ->f=τ
 | [],t,s,f,τ,s',h,g=>by
  simp only[loc,Cj,sj,pJ]at h;simp only[b7a,sj]at g;rw[<-h.1,g]
 |.fst::p,t,s,f,τ,s',h,g=>by
  obtain⟨a,b,k,o,rfl,rfl,h⟩:=LD h;exact a0K p a _ h g
 |.snd::p,t,s,f,τ,s',h,g=>by
  obtain⟨a,b,k,o,rfl,rfl,h⟩:=LF h;exact a0K p b _ h g
 |.idx i::p,t,s,f,τ,s',h,g=>by cases t<;>cases g
theorem a0L:∀(p:BN)(t:Ty)(x:t.sJ){τ},b7a t p=some τ->(Dc t x p).1=τ
 | [],t,x,τ,h=>by simp only[b7a,sj]at h;subst h;rfl
 |.fst::p,.pair a b,x,τ,h=>a0L p a x.1 h
 |.snd::p,.pair a b,x,τ,h=>a0L p b x.2 h
 |.idx i::p,t,x,τ,h=>by cases t<;>cases h
 |.fst::p,.unit,_,_,h|.fst::p,.int _,_,_,h|.fst::p,.bool,_,_,h|.fst::p,.str,_,_,h|.fst::p,.list _ _,_,_,h|.fst::p,.arr _ _,_,_,h|.fst::p,.nl _,_,_,h=>by cases h
 |.snd::p,.unit,_,_,h|.snd::p,.int _,_,_,h|.snd::p,.bool,_,_,h|.snd::p,.str,_,_,h|.snd::p,.list _ _,_,_,h|.snd::p,.arr _ _,_,_,h|.snd::p,.nl _,_,_,h=>by cases h
theorem sK.cell_of{tm}(h:sK B U N tm w M){n r p b o e}(q:U.rt n=some r)(z:loc (Ad w M.ov) r.t (M.g n) p=some (.list true e,.at b o))(hp:p.all Step.tZ=true)(m:U.uS=true):
  w.cell? ⟨b,o,none⟩=Ad w M.ov b o:=by
 cases hov:M.ov with
 |none=>rfl
 |some K=>
  obtain⟨E,I,u⟩:=K;have k:=h.pend;rw[hov]at k;cases hpd':U.pd with
  |none=>rw[hpd']at k;exact k.elim
  |some x=>
   obtain⟨D,a,Q⟩:=x;rw[hpd']at k;obtain⟨Z,S,v,d⟩:=k;rw[<-hov]at d;have l:a.all Step.tZ=false:=by simpa[AE.uS,hpd']using m
   have A:∀f,p≠a++f:=fun f e=>by rw[e,List.all_append,l]at hp;simp at hp
   have i:¬ (b=E/\o=I):=by
    rintro⟨rfl,rfl⟩;by_cases hn:n=D;subst hn;rw[q]at v;cases v;obtain⟨L,R,C,T,H,V,X,Y⟩:=h.sep q;obtain⟨y,O,P,_,_,_,_,G,-,-,-⟩:=BU a r.t _ C d
    have:=(Sd (m':=fun c j=>if c=b/\j=o then none else Ad w M.ov c j) a p r.t (M.g n) C d G H (fun c j=>by
     by_cases hc:c=b/\j=o;exact .inr (.inl ⟨hc.1,by omega,by simp only[Ty.cells];omega⟩);exact .inl (by simp only[if_neg hc])) (fun f e=>absurd e (A f)) z).2 _ _ rfl A
    have F:Ad w M.ov b o=some u:=by rw[hov];simp[Ad]
    simp[Src.rd,F]at this;exact h.sU n D hn b (h.place q z) (h.place v d)
   simp only[Ad,if_neg i]
theorem So{n p τ}(h:U.wB x=some (n,p,τ)):∃t r,x=.tmp t/\U.sl t=.one (.ptr n p)/\U.rt n=some r/\b7a r.t p=some τ:=by
 unfold AE.wB at h;split at h;rename_i t;split at h;rename_i b c a;split at h;rename_i r k;obtain⟨τ',f,g⟩:=C9.1 h;simp only[pJ]at g;obtain⟨rfl,rfl,rfl⟩:=g;exact⟨t,r,rfl,a,k,f⟩;cases h;cases h;cases h
theorem b5a(i:vB P cx)(hG:Za cx.G B){v:AV}{K:AE->Rs Z}{z:Z}(g:U.stay cx o=some v)(S:o.dst=some d)(hv:v.still=true)(h0:U.uS=true)(h:sK B U N (AJ a) w M)(O:a.tmps.size=N)(V:fits N o=true)(hz:K (U.put d (.one v))=some z)(k:∀v w' U' M',sK B U' N (AJ (a.put o.dst v)) w' M'->K U'=some z->next (a.put o.dst v) w'):o.wpIn (Fr ro) 0 P a w next Q:=by
 unfold AE.stay at g;split at g;rename_i t j;split at g;rename_i u F;obtain⟨-,g⟩:=(Ah g).elim id fun h=>by cases h.2
 cases g;refine NX (q:=true) i hG h O V (z:=z) (K:=K) ?_ k;simp only[Bk,j,S,F];exact hz;cases g;rename_i s x f j;split at g;rename_i n p τ Y;obtain⟨t,r,rfl,I,m,L⟩:=So Y;split at g;rename_i hc;cases g;refine NX (q:=true) i hG h O V (z:=z) (K:=K) ?_ k;have hg:(DW p r.t r.x).1=τ:=a0L p r.t r.x L;simp only[Bk,j,S,AE.sM,AE.get,I,m];show(if Dk (DW p r.t r.x).1 f=true/\cx.T s=some (DW p r.t r.x).1.sh then _ else _)=_
 rw[hg,if_pos hc];exact hz;cases g;cases g;rename_i s x j;split at g;rename_i n p e Y;obtain⟨t,r,rfl,I,m,L⟩:=So Y;split at g;rename_i τ hT;obtain⟨X,g⟩:=(Ah g).elim id fun h=>by cases h.2
 cases g;obtain⟨h6,h5⟩:=i.T s _ hT;have c:∀y∈(o.op.operands.toList),Ch N y=true:=Bl V;rw[j]at c;have ht:t<N:=by simpa[Ch]using c (.tmp t) (by simp[Op.operands])
 have D:=h.slots t ht;rw[I]at D;obtain⟨r',t1,b,l,g1,E,H⟩:=D;rw[m]at g1;cases g1;have h4:=a0K p r.t _ E L;subst h4;obtain⟨O',R,k1,-,-,-,-,-⟩:=h.sep m;obtain⟨y,O2,R2,_,_,_,_,hy,-,-,-⟩:=BU p r.t _ k1 E;obtain⟨u,F,-⟩:=Je _ hy 0 (by simp[Ty.cells]);have hw:w.cell? ⟨b,l,none⟩=some u:=by rw[h.cell_of m E hv h0];exact F
 have A:τ.isAgg=false:=by cases τ<;>first|rfl|cases X
 refine AZ.wp (fun c' C=>by rw[j]at C;cases C) (AZ.set S O (v:=u) (av:=.sref n p) ?_ h ⟨r,e,.at b l,m,E,F⟩ hz) k;have H:a.eval (.tmp t)=.pointer (some ⟨b,l,none⟩):=H;simp[execOp,j,H,Instr.loadAt,Instr.sureAddr,loadVar,KO h5,A,hw];cases g;cases g;cases g
theorem a0M(k:vB P cx)(e:Za cx.G B){o:Oper}{y:Md}{K:AE->Rs Z}{z:Z}{next:Act->World->Prop}{Q:Exit->Act->World->Prop}
  (h:sK B U N (AJ a) w M)(i:a.tmps.size=N)(j:fits N o=true)(g:KM cx y o U K=some z)
  (f:∀v w' c M',sK B c N (AJ (a.put o.dst v)) w' M'->K c=some z->next (a.put o.dst v) w'):o.wpIn (Fr ro) 0 P a w next Q:=by
 cases y with
 |x=>exact NX k e h i j g f
 |w A=>
  simp[KM]at g;split at g;obtain⟨-,g⟩:=(Ah g).elim id fun h=>by grind
  grind[NX];simp_all
 |r H=>
  simp only[KM]at g;obtain⟨-,g⟩:=(Ah g).elim id fun h=>by grind
  split at g;refine NX k e h i j g fun v w' c M' m l=>f v w' c M' m ?_
  grind;simp_all
 |p=>
  simp[KM]at g;split at g;rename_i n d D t;refine NX (q:=true) k e h i j (z:=z) (K:=K) ?_ f;simp_all[qO];simp_all
 |a A=>
  simp[KM]at g;split at g;obtain⟨-,g⟩:=(Ah g).elim id fun h=>by cases h.2
  exact NX k e h i j g f;cases g
 |b A=>
  simp only[KM]at g;split at g;obtain⟨-,g⟩:=(Ah g).elim id fun h=>by cases h.2
  refine NX k e h i j g fun v w' c M' m l=>f v w' c M' m ?_
  split at l;exact((Ah l).elim id fun h=>by cases h.2).2;cases l;cases g
 |s=>
  simp only[KM]at g;split at g;rename_i v d E t;obtain⟨C,g⟩:=(Ah g).elim id fun h=>by cases h.2
  obtain⟨F,u⟩:=Bool.and_eq_true_iff.1 C;exact b5a k e E t F u h i j g f;cases g
 |q=>
  simp only[KM]at g;obtain⟨-,g⟩:=(Ah g).elim id fun h=>by grind
  grind[NX]
 |v=>
  simp only[KM]at g;split at g;rename_i n D;split at g;rename_i d t;refine NX (q:=true) k e h i j (z:=z) (K:=K) ?_ f;simp_all[qO];simp_all;obtain⟨-,g⟩:=(Ah g).elim id fun h=>by grind
  split at g;refine NX k e h i j g fun v w' c M' m l=>f v w' c M' m ?_
  grind;simp_all
def Po(N:Nat)(ops:List Oper)(o:Oper):Bool:=fits N o&&(match o.guard with
 |some (j,_)=>(match Ti ops j with
  |some g=>A6 (g<N)
  |none=>true)
 |none=>true)
theorem Ui{ops:List Oper}(h:Po N ops o=true):fits N o=true:=by
 simp_all[Po]
theorem sK.skip(h:sK B U N (AJ a) w M)(g:a.tmps.size=N)(d:Option Nat):sK B (U.uD d .skp) N (AJ (a.put d undef)) w M:=by
 cases d with
 |none=>exact h
 |some d=>exact h.uN g fun _=>rfl
theorem sK.same(h:sK B U N (AJ a) w M){g:Nat}(k:U.get g=av):sK B (U.set g av) N (AJ a) w M:=by
 refine h.put (v:=AJ a g) (fun f=>?_) (fun i _=>by simp_all)
 have:=Fq h f
 rw[k]at this;exact this
theorem a6g{ops:Array Oper}{j g:Nat}(h:Ti ops.toList j=some g)(f:g<a.tmps.size):yielded ops a.tmps j=match AJ a g with|.bool b=>some b|_=>none:=by
 have h:(ops[j]?).bind (·.dst)=some g:=by simpa[Ti]using h
 simp[yielded,h,AJ,Array.getElem?_eq_getElem f];grind
theorem a8p(l:vB P cx)(u:Za cx.G B){ops:Array Oper}{A:Md}{K:AE->Rs Z}{z:Z}(h:sK B U N (AJ a) w M)(i:a.tmps.size=N)(y:Po N ops.toList o=true)(e:BJ cx A ops.toList o U K=some z)(k:∀v w' t M',sK B t N (AJ (a.put o.dst v)) w' M'->K t=some z->next (a.put o.dst v) w'):
  if Region.wanted o (yielded ops a.tmps)then o.wpIn (Fr ro) 0 P a w next Q else((∀f,o.about P w a.eval=some f->(Fr ro).fn f)/\next (a.put o.dst undef) w):=by
 have m:=Ui y;unfold BJ at e;split at e;rename_i x;rw[if_pos (by simp[Region.wanted,x])];grind[a0M];rename_i j n x;split at e;grind;rename_i g q;have r:g<N:=by
  simp_all[Po]
 have p:=a6g (a:=a) q (by omega);have d:=Fq h r;split at e;rename_i b c;rw[c]at d;have hb:=AA.bool d;rw[hb]at p;simp at p;cases b<;>cases n<;>simp only[cT,cF]at e;rw[if_pos (by simp_all[Region.wanted])];exact a0M l u (h.same c) i m e k;rw[if_neg (by simp_all[Region.wanted])];exact⟨fun _ _=>trivial,k _ w _ _ ((h.same c).skip i o.dst) e⟩;rw[if_neg (by simp_all[Region.wanted])];exact⟨fun _ _=>trivial,k _ w _ _ ((h.same c).skip i o.dst) e⟩;rw[if_pos (by simp_all[Region.wanted])];exact a0M l u (h.same c) i m e k;rename_i c;rw[c]at d;have d:AJ a g=undef:=d;rw[d]at p;simp[undef]at p;rw[if_neg (by simp_all[Region.wanted])];exact⟨fun _ _=>trivial,k _ w _ _ (h.skip i o.dst) e⟩;simp_all
theorem a8q(g:vB P cx)(i:Za cx.G B){ops:Array Oper}{Q:Exit->Act->World->Prop}{D:List Deferred}{z:Z}:∀(l:List (Md×Oper)) {U:AE} {a:Act} {w:World} {M:Gh} {K:AE->Rs Z} (_:sK B U N (AJ a) w M) (_:a.tmps.size=N) (_:a.defers=D)
  (_:∀p∈l,Po N ops.toList p.2=true) (_:QP cx ops.toList l U K=some z) (_:∀f w' b M',sK B b N (AJ f) w' M'->f.tmps.size=N->f.defers=D->K b=some z->Q .normal f w'),
  wpListIn (Fr ro) 0 P ops Q (l.map (·.2)) a w
 | [],U,a,w,M,K,h,c,e,_,k,d=>d a w U M h c e k
 |(md,o)::l,U,a,w,M,K,h,c,e,j,k,d=>by
  simp[QP]at k
  have:=a8p (ro:=ro) (next:=wpListIn (Fr ro) 0 P ops Q (l.map (·.2))) (Q:=Q) g i h c (j (md,o) (by simp)) k fun v w' b M' n m=>
   a8q g i l n (by rw[TR];omega) (by simp_all[Sk]) (fun p q=>j p (by grind)) m d
  simp only[B7,wpListIn];omega
end
theorem MS{B:Base}{N:Nat}{tm:Nat->Value}{w:World}{Z:Type}:∀(os:VE){U:AE}{M:Gh}(_:sK B U N tm w M){e:Ex}{K:os.sJ->Rs Z}{z:Z}(_:os.all (fun p=>p.2.fits N)=true) (_:os.pack e U K=some z),
  ∃y X M',K y=some z/\sK B X N tm w M'/\∀{d:Type}(f:Ex->AE->Rs d),os.open y f=f e X
 | [],U,M,h,e,K,z,c,g=>by simp_all[VE.pack]
 | [(i,s)],U,M,h,e,K,z,c,g=>by
  simp only[VE.pack]at g;split at g;rename_i b;subst b;obtain⟨x,M',k,a⟩:=h.wY (by simp_all) g;exact⟨x,_,M',k,a,fun f=>rfl⟩;simp_all
 |(i,s)::x::r,U,M,h,e,K,z,c,g=>by
  simp[VE.pack]at g;split at g;rename_i b;subst b;obtain⟨y,M',k,a⟩:=h.wY (by simp_all) g;exact⟨.inl y,_,M',k,a,fun f=>rfl⟩;obtain⟨y,X,M',k,a,j⟩:=MS (x::r) h (by
   grind) g
  exact⟨.inr y,X,M',k,a,fun f=>j f⟩
theorem a6h{M β:Type}{f:M->Option (M ⊕ β)}{s:M}{b:β}(h:gP f s=some b):∃n,Ih f n s=some b:=by
 unfold gP at h;split at h;all_goals grind
theorem a9E{M β:Type}{f:M->Option (M ⊕ β)}{s:M}{b:β}(h:Al f s=some b):∃n,Ih f n s=some b:=by
 grind[Al,a6h]
structure Dl where
 rs:List (Nat×sO)
 sv:SV
def Dl.app(δ:Dl)(d:Nat)(U:AE):AE:=⟨fun i=>bif i==d then δ.sv else U.sl i,fun n=>match find δ.rs n with|some r=>some r|none=>U.rt n,U.pd⟩
def AH(o:Oper):List Nat:=o.op.operands.toList.filterMap fun x=>match x with|.tmp t=>some t|_=>none
def Ew(T:List Nat)(U U2:AE):Prop:=U2.pd=U.pd/\∀t∈T,U2.sl t=U.sl t/\∀n∈(U.sl t).refs,U2.rt n=U.rt n
theorem Ew.refl{T U}:Ew T U U:=⟨rfl,fun _ _=>⟨rfl,fun _ _=>rfl⟩⟩
theorem EI{o:Oper}{t:Nat}(h:Operand.tmp t∈o.op.operands.toList):t∈AH o:=List.mem_filterMap.2 ⟨_,h,rfl⟩
theorem Ew.sM{o:Oper}{U U2:AE}(h:Ew (AH o) U U2){x:Operand}(g:x∈o.op.operands.toList):U2.sM x=U.sM x:=by
 cases x with
 |tmp t=>simp[AE.sM,AE.get];rw[(h.2 t (EI g)).1]
 |_=>rfl
theorem Ew.rt(a:Ew (AH o) U U2)(b:x∈o.op.operands.toList)(k:n∈(U.sM x).refs):U2.rt n=U.rt n:=by
 cases x with
 |tmp t=>
  refine(a.2 t (EI b)).2 n ?_
  simp[AE.sM,AE.get]at k;revert k;cases U.sl t with
  |one v=>exact id
  |cmp c d=>exact fun h=>by cases h
 |const v=>
  simp[AE.sM]at k;unfold Xt at k;split at k<;>cases k
 |global g=>cases k
 |func f=>cases k
theorem Ew.look{o:Oper}{U U2:AE}(h:Ew (AH o) U U2){x:Operand}(f:x∈o.op.operands.toList){n:Nat}(g:n∈(U.sM x).refs):U2.look n=U.look n:=by
 simp only[AE.look,h.1,h.rt f g]
def a2X{Z:Type}(r:Option Dl)(d:Nat)(U2:AE)(K:AE->Rs Z):Rs Z:=match r with
 |none=>none
 |some δ=>bif δ.rs.all fun p=>A6 (p.1<pinned)&&(U2.rt p.1).isNone then K (δ.app d U2)else none
def CG(cx:Cx)(o:Oper)(d:Nat)(U:AE):Prop:=
 ∃r:Option Dl,(∀δ,r=some δ->(δ.sv.uA=true->δ.rs=[])/\∀n,find δ.rs n≠none->n∈Kp cx o d)/\∀U2,Ew (AH o) U U2->∀{Z:Type}(K:AE->Rs Z),Bk cx true o U2 K=a2X r d U2 K
theorem CG.none{cx o d U}(h:∀U2,Ew (AH o) U U2->∀{Z:Type}(K:AE->Rs Z),Bk cx true o U2 K=none):CG cx o d U:=
 ⟨.none,by simp,fun U2 g Z K=>h U2 g K⟩
theorem CG.put{cx o d U}(sv:SV)(h:∀U2,Ew (AH o) U U2->∀{Z:Type}(K:AE->Rs Z),Bk cx true o U2 K=K (U2.put d sv)):CG cx o d U:=
 ⟨some ⟨[],sv⟩,fun δ e=>by cases e;exact⟨fun _=>rfl,fun n f=>absurd rfl f⟩,fun U2 g Z K=>by rw[h U2 g K];rfl⟩
theorem CG.of{cx o d U}(r:Option AV)(h:∀U2,Ew (AH o) U U2->∀{Z:Type}(K:AE->Rs Z),Bk cx true o U2 K=r.elim .none fun v=>K (U2.set d v)):CG cx o d U:=by
 cases r with
 |none=>exact CG.none h
 |some v=>exact CG.put (.one v) h
theorem b5b{Z:Type}{U2:AE}{d:Nat}{r:sO}{v:AV}{K:AE->Rs Z}:(U2.fresh true d r fun U=>K (U.set d v))=a2X (some ⟨[(d,r)],.one v⟩) d U2 K:=by
 unfold AE.fresh a2X;cases hd:A6 (d<pinned);grind
 ·simp[hd];cases hr:U2.rt d with
  |some h=>simp
  |none=>
   simp
   congr 1;simp only[AE.uM,hr,AE.sF,AE.set,AE.put,Dl.app];congr 1;funext n;simp[find];grind
theorem CG.vD{cx o d U}(r:sO)(v:AV)(hv:v.uA=false)(h:∀U2,Ew (AH o) U U2->∀{Z:Type}(K:AE->Rs Z),Bk cx true o U2 K=U2.fresh true d r fun U=>K (U.set d v)):CG cx o d U:=
 ⟨some ⟨[(d,r)],.one v⟩,(fun δ e=>by
  cases e;refine⟨fun k=>?_,fun n g=>?_⟩;simp_all[SV.uA];simp only[find]at g;by_cases e:d=n;subst e;exact List.mem_cons_self;grind),fun U2 f Z K=>by simp_all[b5b]⟩
def Rt(t:Ty)(a:AV):Option t.sJ:=match a with
 |.val t' x=>tC t' t x
 |.nils=>match t with
  |.list false _=>some []
  |.nl _=>some []
  |_=>none
 |.empt=>match t with
  |.list false _=>some []
  |_=>none
 |_=>none
theorem qP(U:AE)(t:Ty)(a:AV)(K:t.sJ->AE->Rs Z):U.uT true t a K=(Rt t a).elim none fun x=>K x U:=by
 cases a with
 |val h x=>grind[AE.uT,Rt]
 |nils=>cases t with
  |list o e=>cases o<;>rfl
  |_=>rfl
 |empt=>cases t with
  |list o e=>cases o<;>rfl
  |_=>rfl
 |sref n p=>cases p<;>simp[AE.uT,Rt]
 |swin n p o k=>cases p<;>simp[AE.uT,Rt]
 |_=>rfl
def QT(f:Operand->AV)(t:Ty):List (Nat×Operand)->t.sJ->Option t.sJ
 | [],x=>some x
 |(i,o)::r,x=>bif AE.vL t i then(match Dc t x (AE.pathOf t i)with
  |⟨t',_⟩=>(Rt t' (f o)).elim none fun y=>QT f t r (Fc t x (AE.pathOf t i) t' y))else none
theorem a0N{Z:Type}(U:AE)(t:Ty):∀(h:List (Nat×Operand)) (x:t.sJ) (K:t.sJ->AE->Rs Z),U.fills true t h x K=(QT U.sM t h x).elim none fun y=>K y U
 | [],x,K=>rfl
 |(i,o)::r,x,K=>by
  simp[AE.fills,QT];cases AE.vL t i;rfl
  ·simp
   rw[qP];cases Rt _ (U.sM o)with
   |none=>rfl
   |some y=>exact a0N U t r _ K
theorem Sp(f g:Operand->AV)(t:Ty):∀(k:List (Nat×Operand)) (x:t.sJ),(∀p∈k,f p.2=g p.2)->QT f t k x=QT g t k x
 | [],x,_=>rfl
 |(i,o)::r,x,h=>by
  simp[QT];rw[h (i,o) (by simp)];cases AE.vL t i;rfl
  ·simp
   cases Rt _ (g o)with
   |none=>rfl
   |some y=>exact Sp f g t r _ fun p a=>h p (by simp[a])
def a6i(f:Operand->AV)(e:Ty)(n:Nat):List (Nat×Operand)->List e.sJ->Option (List e.sJ)
 | [],x=>some x
 |(i,o)::r,x=>bif A6 (i<n)then(Rt e (f o)).elim none fun y=>a6i f e n r (x.set i y)else none
theorem a8r{Z:Type}(U:AE)(e:Ty)(n:Nat):∀(h:List (Nat×Operand)) (x:List e.sJ) (K:List e.sJ->AE->Rs Z),U.lit true e n h x K=(a6i U.sM e n h x).elim none fun y=>K y U
 | [],x,K=>rfl
 |(i,o)::r,x,K=>by
  simp[AE.lit,a6i];cases A6 (i<n);rfl
  ·simp
   rw[qP];cases Rt _ (U.sM o)with
   |none=>rfl
   |some y=>exact a8r U e n r _ K
theorem Sq(f g:Operand->AV)(e:Ty)(n:Nat):∀(k:List (Nat×Operand)) (x:List e.sJ),(∀p∈k,f p.2=g p.2)->a6i f e n k x=a6i g e n k x
 | [],x,_=>rfl
 |(i,o)::r,x,h=>by
  simp[a6i];rw[h (i,o) (by simp)];cases A6 (i<n);rfl
  ·simp
   cases Rt _ (g o)with
   |none=>rfl
   |some y=>exact Sq f g e n r _ fun p a=>h p (by simp[a])
def LN(lk:Nat->Option sO)(n:Nat)(p:BN):Option ((e:Ty)×List e.sJ):=match lk n with
 |some r=>match Dc r.t r.x p with
  |⟨.list true e,l⟩=>some ⟨e,l⟩
  |_=>none
 |none=>none
theorem NY(U:AE)(n:Nat)(p:BN)(K:(e:Ty)->List e.sJ->Rs Z):U.body n p K=(LN U.look n p).elim none fun x=>K x.1 x.2:=by
 unfold AE.body LN;grind
theorem gC(U:AE)(n:Nat)(p:BN)(K:(e:Ty)->List e.sJ->Rs Z):U.wS n p K=(LN U.rt n p).elim none fun x=>K x.1 x.2:=by
 unfold AE.wS LN;cases U.rt n with
 |none=>rfl
 |some r=>
  simp only[];generalize Dc r.t r.x p=X;obtain⟨h,l⟩:=X;cases h with
  |list o e=>cases o<;>rfl
  |_=>rfl
def Tk(lk:Nat->Option sO)(t:Ty)(a:AV):Option t.sJ:=match a with
 |.val t' x=>tC t' t x
 |.nils=>match t with
  |.list false _=>some []
  |.nl _=>some []
  |_=>none
 |.empt=>match t with
  |.list false _=>some []
  |_=>none
 |.sref n p=>(LN lk n p).elim none fun x=>if h:Ty.list false x.1.sh=t then some (h▸Ty.wC (.list false x.1) x.2)else none
 |.swin n p o k=>(LN lk n p).elim none fun x=>if h:Ty.list false x.1.sh=t then some (h▸Ty.wC (.list false x.1) ((x.2.drop o).take k))else none
 |_=>none
theorem b1L(U:AE)(t:Ty)(a:AV)(K:t.sJ->Rs Z):U.view t a K=(Tk U.look t a).elim none K:=by
 cases a with
 |val h x=>grind[AE.view,Tk]
 |nils=>cases t with
  |list o e=>cases o<;>rfl
  |_=>rfl
 |empt=>cases t with
  |list o e=>cases o<;>rfl
  |_=>rfl
 |sref n p=>
  simp[AE.view,Tk,LN];grind
 |swin n p o k=>
  simp[AE.view,Tk,LN];grind
 |_=>rfl
theorem GU{f g:Nat->Option sO}{n:Nat}(h:g n=f n)(p:BN):LN g n p=LN f n p:=by simp only[LN,h]
theorem cB{f g:Nat->Option sO}{t:Ty}{a:AV}(h:∀n∈a.refs,g n=f n):Tk g t a=Tk f t a:=by
 cases a with
 |sref n p=>simp_all[Tk,GU,AV.refs]
 |swin n p o k=>simp_all[Tk,GU,AV.refs]
 |_=>rfl
def Pp(lk:Nat->Option sO)(e:Ty)(a:AV):Option (List e.sJ):=match a with
 |.val (.list false t') x=>if h:t'=e then some (h▸(show List t'.sJ from x))else none
 |.nils|.empt=>some []
 |.sref n p=>(LN lk n p).elim none fun x=>if h:x.1=e then some (h▸x.2)else none
 |.swin n p o k=>(LN lk n p).elim none fun x=>if h:x.1=e then some (E3 k (F4 o (h▸x.2)))else none
 |_=>none
theorem XG{Z:Type}(U:AE)(e:Ty)(a:AV)(K:List e.sJ->Rs Z):U.elems e a K=(Pp U.look e a).elim none K:=by
 cases a with
 |val h x=>cases h with
  |list o h=>
   cases o;all_goals grind[AE.elems,Pp]
  |_=>rfl
 |sref n p=>
  simp[AE.elems,Pp,LN];grind
 |swin n p o k=>
  simp[AE.elems,Pp,LN];grind
 |_=>rfl
theorem Sr{f g:Nat->Option sO}{e:Ty}{a:AV}(h:∀n∈a.refs,g n=f n):Pp g e a=Pp f e a:=by
 cases a with
 |sref n p=>simp_all[Pp,GU,AV.refs]
 |swin n p o k=>simp_all[Pp,GU,AV.refs]
 |val b x=>cases b with
  |list o b=>cases o<;>rfl
  |_=>rfl
 |_=>rfl
section
variable {cx:Cx} {o:Oper} {d:Nat} {U:AE}
theorem b1M(h:o.op=.move x)(a:o.dst=some d):CG cx o d U:=by
 have c:x∈o.op.operands.toList:=by simp[h,Op.operands]
 cases x with
 |tmp t=>exact CG.put (U.sl t) fun b k Z K=>by simp[Bk,h,a];rw[(k.2 t (EI c)).1]
 |const v=>exact CG.put (.one (U.sM (.const v))) fun b k Z K=>by simp[Bk,h,a];rfl
 |global g=>exact CG.put (.one (.tY g)) fun b k Z K=>by simp[Bk,h,a];rfl
 |func f=>exact CG.put (.one .dead) fun b k Z K=>by simp[Bk,h,a];rfl
theorem b7b(U:AE)(v:AV)(K:AE->Rs Z):U.yU true cx d v K=K (U.set d v):=by
 unfold AE.yU;split;rename_i r;split;cases hrd:(r==d)
 simp
 simp
 rfl;rename_i r k;split
 simp
 rfl;split
 simp
 rfl;rfl
theorem a6j(f:o.op=.assign x)(k:o.dst=some d):CG cx o d U:=by
 have a:x∈o.op.operands.toList:=by simp[f,Op.operands]
 cases x with
 |tmp t=>
  have b:∀h,Ew (AH o) U h->h.sl t=U.sl t:=fun h g=>(g.2 t (EI a)).1;cases hv:U.sl t with
  |one v=>exact CG.put (.one v) fun h g Z K=>by simp[Bk,f,k,AE.xX,b h g,hv];rw[b7b];rfl
  |cmp c e=>exact CG.put (.cmp c e) fun h g Z K=>by simp_all[Bk,AE.xX]
 |_=>exact CG.put (.one (U.sM _)) fun h g Z K=>by simp only[Bk,f,k,AE.xX];rw[b7b,g.sM a];rfl
theorem a0O{fn:Fn}{first h:Array Operand}(b:o.op=.makeFunc fn first h)(a:o.dst=some d):CG cx o d U:=by
 cases fn with
 |func f=>
  cases hf:first.isEmpty with
  |false=>exact CG.none fun g k Z K=>by simp only[Bk,b,a,hf,cF]
  |true=>
   refine CG.put (.cmp (.clo f) (h.toList.map U.sM)) fun g k Z K=>?_
   simp[Bk,b,a,hf]
   have:h.toList.map g.sM=h.toList.map U.sM:=List.map_congr_left fun x c=>k.sM (by
    simp_all[Op.operands])
   grind
 |_=>simp_all[CG.none,Bk]
theorem b8b(c x y:AV)(K:AV->Rs Z):qB c x y K=(qB c x y some).elim none K:=by
 unfold qB;grind
theorem b1N{c:Operand}(h:o.op=.pick c x y)(k:o.dst=some d):CG cx o d U:=by
 have f:c∈o.op.operands.toList:=by simp[h,Op.operands]
 have a:x∈o.op.operands.toList:=by simp[h,Op.operands]
 have b:y∈o.op.operands.toList:=by simp[h,Op.operands]
 refine CG.of (qB (U.sM c) (U.sM x) (U.sM y) some) fun e g Z K=>?_
 simp[Bk,h,k,g.sM f,g.sM a,g.sM b];exact b8b _ _ _ _
theorem a9F(a:o.op=.alloc t)(k:o.dst=some d):CG cx o d U:=by
 cases ht:cx.own d t with
 |none=>simp_all[CG.none,Bk]
 |some h=>exact CG.vD ⟨true,h,h.dflt⟩ (.ptr d []) rfl fun g f Z K=>by simp_all[Bk]
theorem b5c(g:o.op=.box t x)(f:o.dst=some d):CG cx o d U:=by
 have k:x∈o.op.operands.toList:=by simp[g,Op.operands]
 cases ht:cx.T t with
 |none=>simp_all[CG.none,Bk]
 |some a=>
  cases ha:Rt a (U.sM x)with
  |none=>exact CG.none fun b h Z K=>by simp[Bk,g,f,ht];rw[qP,h.sM k,ha];rfl
  |some y=>
   cases hk:cx.K d with
   |true=>exact CG.put (.one (.vptr a y)) fun b h Z K=>by simp[Bk,g,f,ht];rw[qP,h.sM k,ha];simp[hk,AE.set]
   |false=>exact CG.vD ⟨true,a,y⟩ (.ptr d []) rfl fun b h Z K=>by simp[Bk,g,f,ht];rw[qP,h.sM k,ha];grind
theorem Ld{g:Array (Nat×Operand)}(h:o.op=.build t g\/∃n,o.op=.buildSlice t n g):∀p∈g.toList,p.2∈o.op.operands.toList:=by
 intro p f;rcases h with h|⟨n,h⟩<;>rw[h]<;>simp only[Op.operands]<;>exact B6.2 ⟨p,f,rfl⟩
theorem MT{U U2:AE}:∀(τ:Ty)(k:Nat)(g:List (Nat×Operand)),(∀p∈g,U2.sM p.2=U.sM p.2)->U2.tO k τ g=U.tO k τ g
 |.pair u v,k,[],_=>by simp only[AE.tO];rw[MT v (k+1) [] (by simp)]
 |.pair u v,k,(i,o)::r,h=>by
  simp only[AE.tO];rw[MT v (k+1) r fun p f=>h p (by simp[f]),MT v (k+1) ((i,o)::r) h,h (i,o) (by simp)]
 |.unit,_,[],_=>rfl
 |.unit,_,_::_,_=>rfl
 |.int _,_,_,_=>rfl
 |.bool,_,_,_=>rfl
 |.str,_,_,_=>rfl
 |.list _ _,_,_,_=>rfl
 |.arr _ _,_,_,_=>rfl
 |.nl _,_,_,_=>rfl
theorem a9G{c:Array (Nat×Operand)}(g:o.op=.build t c)(b:o.dst=some d):CG cx o d U:=by
 cases hn:cx.yF d t with
 |some h=>
  cases hagg:h.isAgg with
  |false=>simp_all[CG.none,Bk]
  |true=>
   refine CG.of ((QT U.sM h c.toList h.dflt).map fun y=>.val h y) fun k f Z K=>?_
   simp only[Bk,g,b,hn,hagg,cT];rw[a0N,Sp k.sM U.sM h _ _ fun p a=>f.sM (Ld (.inl g) p a)];cases QT U.sM h c.toList h.dflt<;>rfl
 |none=>
 cases hO:cx.O d with
 |some h=>
  by_cases hT:cx.T t=some h.sh
  ·cases hv:U.tO 0 h c.toList with
   |none=>exact CG.none fun k f Z K=>by simp only[Bk,g,b,hn,hO,if_pos hT,MT h 0 _ fun p a=>f.sM (Ld (.inl g) p a),hv]
   |some e=>
    cases hc:A6 (0<h.cells)with
    |false=>exact CG.none fun k f Z K=>by simp only[Bk,g,b,hn,hO,if_pos hT,MT h 0 _ fun p a=>f.sM (Ld (.inl g) p a),hv,hc,cF]
    |true=>exact CG.put (.cmp .agg e) fun k f Z K=>by simp only[Bk,g,b,hn,hO,if_pos hT,MT h 0 _ fun p a=>f.sM (Ld (.inl g) p a),hv,hc,cT]
  exact CG.none fun k f Z K=>by simp only[Bk,g,b,hn,hO,if_neg hT]
 |none=>
 cases ht:cx.T t with
 |none=>exact CG.none fun k f Z K=>by simp only[Bk,g,b,hn,hO,ht]
 |some h=>
  cases hagg:h.isAgg with
  |false=>exact CG.none fun k f Z K=>by simp[Bk,g,b,hn,hO,ht,hagg]
  |true=>
   refine CG.of ((QT U.sM h c.toList h.dflt).map fun y=>.val h y) fun k f Z K=>?_
   simp only[Bk,g,b,hn,hO,ht,hagg,cT];rw[a0N,Sp k.sM U.sM h _ _ fun p a=>f.sM (Ld (.inl g) p a)];cases QT U.sM h c.toList h.dflt<;>rfl
theorem iM{t:TypeId}{n:Nat}{b:Array (Nat×Operand)}(h:o.op=.buildSlice t n b)(k:o.dst=some d):CG cx o d U:=by
 cases ht:cx.T t with
 |none=>simp_all[CG.none,Bk]
 |some c=>
  cases c with
  |list i e=>
   cases hc:(Bp n&&A6 (n*e.cells<=16777216))with
   |false=>exact CG.none fun g f Z K=>by simp only[Bk,h,k,ht,hc,cF,cT,Bool.true_or]
   |true=>
    cases hl:a6i U.sM e n b.toList (C6 n e.dflt)with
    |none=>
     exact CG.none fun g f Z K=>by
      simp[Bk,h,k,ht,hc];rw[a8r,Sq g.sM U.sM e n _ _ (fun p a=>f.sM (Ld (.inr ⟨n,h⟩) p a)),hl];rfl
    |some y=>
     cases hK:cx.K d with
     |true=>
      exact CG.put (.one (.val (.list false e) y)) fun g f Z K=>by
       simp[Bk,h,k,ht,hc,hK];rw[a8r,Sq g.sM U.sM e n _ _ (fun p a=>f.sM (Ld (.inr ⟨n,h⟩) p a)),hl];rfl
     |false=>
      exact CG.vD ⟨false,.list true e,y⟩ (.sref d []) rfl fun g f Z K=>by
       simp[Bk,h,k,ht,hc,hK];rw[a8r,Sq g.sM U.sM e n _ _ (fun p a=>f.sM (Ld (.inr ⟨n,h⟩) p a)),hl];rfl
  |_=>exact CG.none fun g f Z K=>by simp only[Bk,h,k,ht]
def a6k(lk:Nat->Option sO)(ty:Ty)(a:AV):Option AV:=match a with
 |.vptr t x=>if t=ty then some (.val t x)else none
 |.ptr n p=>match lk n with
  |some r=>match Dc r.t r.x p with
   |⟨.list true _,_⟩=>if ty.isList then some (.sref n p)else none
   |⟨t,y⟩=>if t.sh=ty/\t.tL=t then some (.val t y)else none
  |none=>none
 |_=>none
theorem b9x(U:AE)(ty:Ty)(a:AV)(K:AV->AE->Rs Z):U.xB true ty a K=(a6k U.look ty a).elim none fun v=>K v U:=by
 cases a with
 |vptr t x=>grind[AE.xB,a6k]
 |ptr n p=>
  simp[AE.xB,a6k];grind
 |_=>rfl
theorem b1O(k:o.op=.load t x)(c:o.dst=some d):CG cx o d U:=by
 have a:x∈o.op.operands.toList:=by simp[k,Op.operands]
 cases ht:cx.T t with
 |none=>simp_all[CG.none,Bk]
 |some h=>
  refine CG.of (a6k U.look h (cx.tY (U.sM x))) fun b f Z K=>?_
  simp[Bk,k,c,ht];rw[b9x,f.sM a]
  have:a6k b.look h (cx.tY (U.sM x))=a6k U.look h (cx.tY (U.sM x)):=by
   have e:=fun n i=>f.look (n:=n) a i;revert e;cases U.sM x with
   |ptr n p=>simp_all[Cx.tY,a6k,AV.refs]
   |tY g=>
    intro _;simp[Cx.tY];split<;>rfl
   |_=>intro _;rfl
  grind
theorem a0P(h:o.op=.nilCheck x)(f:o.dst=some d):CG cx o d U:=by
 have k:x∈o.op.operands.toList:=by simp[h,Op.operands]
 refine CG.of (match U.sM x with|.ptr n p=>some (.ptr n p)|.vptr t y=>some (.vptr t y)|_=>none) fun a g Z K=>?_
 simp[Bk,h,f,g.sM k];grind
theorem b1P{Z:Type}(h:BinOp)(k:IntKind)(x y:Int)(K:AV->Rs Z):TJ h k x y K=(TJ h k x y some).elim none K:=by
 cases h<;>simp only[TJ]<;>first|rfl|(cases (y==0)<;>rfl)|grind
theorem b1Q{Z:Type}(g:BinOp)(ty:Nat)(t:Ty)(x:t.sJ)(h:Ty)(y:h.sJ)(K:AV->Rs Z):Zc cx g ty t x h y K=(Zc cx g ty t x h y some).elim none K:=by
 grind[Zc]
theorem b8c(h:BinOp)(ty:Nat)(a b:AV)(K:AV->Rs Z):Xv cx h ty a b K=(Xv cx h ty a b some).elim none K:=by
 unfold Xv;split;grind[b1P];grind;grind;all_goals grind[b1Q]
theorem a9H{c:BinOp}(g:o.op=.binOp c t x y s)(f:o.dst=some d):CG cx o d U:=by
 have k:x∈o.op.operands.toList:=by simp[g,Op.operands]
 have a:y∈o.op.operands.toList:=by simp[g,Op.operands]
 cases hl:a8e (cx.T t)with
 |true=>
  cases hn:a5M (cx.T t) (U.sM x) (U.sM y)with
  |some e=>exact CG.none fun b h Z K=>by simp only[Bk,g,f,h.sM k,h.sM a,hl,hn,cT,if_true]
  |none=>exact CG.none fun b h Z K=>by simp only[Bk,g,f,h.sM k,h.sM a,hl,hn,cT]
 |false=>
  refine CG.of (Xv cx c t (U.sM x) (U.sM y) some) fun b h Z K=>?_
  simp[Bk,g,f,h.sM k,h.sM a,hl];exact b8c _ _ _ _ _
theorem c3b(h:UnOp)(a:AV)(K:AV->Rs Z):AE.un h a K=(AE.un h a some).elim none K:=by
 unfold AE.un;grind
theorem b1R{g:UnOp}(h:o.op=.unOp g t x)(k:o.dst=some d):CG cx o d U:=by
 have a:x∈o.op.operands.toList:=by simp[h,Op.operands]
 refine CG.of (AE.un g (U.sM x) some) fun b f Z K=>?_
 simp[Bk,h,k,f.sM a];exact c3b _ _ _
theorem b8d(U:AE)(s t:Nat)(g f:Option Ty)(a:AV)(K:AV->Rs Z)(h:sO->Rs Z):U.vK s t g f a K h=(U.vK s t g f a (fun v=>some (Sum.inl v)) (fun r=>some (Sum.inr r)):Option (AV ⊕ sO)).elim none fun y=>match y with
  |.inl v=>K v
  |.inr r=>h r:=by
 unfold AE.vK;split;rfl;grind;rfl;grind;rw[XG,XG (Z:=AV ⊕ sO)];generalize Pp U.look (.int .u8) _=r;cases r<;>rfl;rfl
theorem a6l{U:AE}(s t:Nat)(f k:Option Ty)(h:∀n∈a.refs,U2.look n=U.look n)(K:AV->Rs Z)(g:sO->Rs Z):U2.vK s t f k a K g=U.vK s t f k a K g:=by
 unfold AE.vK;grind[AV.refs,XG,Sr]
theorem a2Y(k:o.op=.convert s t x)(b:o.dst=some d):CG cx o d U:=by
 have a:x∈o.op.operands.toList:=by simp[k,Op.operands]
 have h:∀g,Ew (AH o) U g->∀{Z:Type}(K:AE->Rs Z),Bk cx true o g K=(U.vK s t (cx.T s) (cx.T t) (U.sM x) (fun v=>some (Sum.inl v)) (fun r=>some (Sum.inr r)):Option (AV ⊕ sO)).elim none fun y=>match y with
   |.inl v=>K (g.set d v)
   |.inr r=>g.fresh true d r fun U=>K (U.set d (.sref d [])):=fun g f Z K=>by
  simp[Bk,k,b,f.sM a,AE.conv];rw[b8d,a6l s t _ _ fun n c=>f.look a c]
 revert h;generalize (U.vK s t (cx.T s) (cx.T t) (U.sM x) (fun v=>some (Sum.inl v)) (fun r=>some (Sum.inr r)):Option (AV ⊕ sO))=r;cases r with
 |none=>simp_all[CG.none]
 |some y=>
  cases y with
  |inl v=>exact fun h=>CG.put (.one v) h
  |inr r=>exact fun h=>CG.vD r (.sref d []) rfl h
end
section
variable {cx:Cx} {o:Oper} {d:Nat} {U:AE}
theorem a8s{Z:Type}(a:AV)(t:Ty)(K:t.sJ->Rs Z):a.vF t K=(a.vF t some).elim none K:=by
 cases a with
 |val h x=>grind[AV.vF]
 |_=>rfl
theorem nN{t:TypeId}{n c:Operand}(k:o.op=.makeSlice t n c)(a:o.dst=some d):CG cx o d U:=by
 have i:n∈o.op.operands.toList:=by simp[k,Op.operands]
 have b:c∈o.op.operands.toList:=by simp[k,Op.operands]
 cases ht:cx.own d t with
 |none=>simp_all[CG.none,Bk]
 |some j=>
  cases j with
  |list l e=>
   have h:∀g,Ew (AH o) U g->∀{Z:Type}(K:AE->Rs Z),Bk cx true o g K=((U.sM n).vF (.int .i64) some).elim none fun(x:Int)=>((U.sM c).vF (.int .i64) some).elim none fun(y:Int)=>
     bif A6 (0<=x)&&(A6 (x<=y)&&Bp y.toNat)then g.fresh true d ⟨false,.list true e,C6 x.toNat e.dflt⟩ fun U=>K (U.set d (.sref d []))else none:=fun g f Z K=>by
    simp[Bk,k,a,ht,f.sM i,f.sM b];refine(a8s _ (.int .i64) _).trans ?_
    grind[a8s]
   revert h;generalize (U.sM n).vF (.int .i64) some=rx;generalize (U.sM c).vF (.int .i64) some=ry;intro h;cases rx with
   |none=>exact CG.none h
   |some x=>
    cases ry with
    |none=>exact CG.none h
    |some y=>
     cases hb:(A6 (0<=(show Int from x))&&(A6 ((show Int from x)<=(show Int from y))&&Bp (show Int from y).toNat))with
     |false=>
      grind[CG.none]
     |true=>
      refine CG.vD ⟨false,.list true e,C6 (show Int from x).toNat e.dflt⟩ (.sref d []) rfl fun g f Z K=>(h g f K).trans ?_
      grind
  |_=>exact CG.none fun g f Z K=>by simp only[Bk,k,a,ht]
theorem a8t(U:AE)(h g:Nat)(x:Option Operand)(K:Nat->Rs Z):U.bnd h g x K=(U.bnd h g x some).elim none K:=by
 cases x with
 |none=>rfl
 |some x=>
  simp[AE.bnd];grind
theorem NZ(U:AE)(g:Nat)(lo hi:Option Operand)(K:Nat->Nat->Rs Z):U.uU g lo hi K=(U.uU g lo hi fun x y=>some (x,y)).elim none fun p=>K p.1 p.2:=by
 unfold AE.uU;rw[a8t,a8t (Z:=Nat×Nat)];cases U.bnd g g hi some with
 |none=>rfl
 |some h=>
  simp[G3];rw[a8t,a8t (Z:=Nat×Nat)];cases U.bnd h 0 lo some<;>rfl
theorem a6m{U:AE}{lo:Option Operand}(k:∀x,lo=some x->U2.sM x=U.sM x)(f:∀x,hi=some x->U2.sM x=U.sM x)(h:Nat)(K:Nat->Nat->Rs Z):U2.uU h lo hi K=U.uU h lo hi K:=by
 have a:∀(x:Option Operand),(∀y,x=some y->U2.sM y=U.sM y)->∀(l g:Nat){Z:Type}(K:Nat->Rs Z),U2.bnd l g x K=U.bnd l g x K:=by
  intro x b l g Z K;cases x with
  |none=>rfl
  |some y=>simp[AE.bnd];simp_all
 unfold AE.uU;simp_all
theorem b8e{Z:Type}(U:AE)(ty:Option Ty)(a:AV)(lo hi h:Option Operand)(K:AV->Rs Z):U.wQ ty a lo hi h K=(U.wQ ty a lo hi h some).elim none K:=by
 unfold AE.wQ;cases h with
 |some m=>
  simp
  cases (Zd (some m)&&Zd hi&&lo.isNone);rfl;simp[fZ];grind
 |none=>
  simp
  cases a with
  |val t l=>
   cases t with
   |str=>
    simp
    split;rw[NZ,NZ (Z:=AV)];generalize (U.uU _ lo hi fun x y=>some (x,y):Option (Nat×Nat))=r;cases r<;>rfl;rfl
   |list o e=>
    cases o
    simp
    split;rw[NZ,NZ (Z:=AV)];generalize (U.uU _ lo hi fun x y=>some (x,y):Option (Nat×Nat))=r;cases r<;>rfl;rfl;rfl
   |_=>rfl
  |nils=>
   cases ty with
   |none=>rfl
   |some t=>
    cases t with
    |list o e=>
     simp
     rw[NZ,NZ (Z:=AV)];generalize (U.uU _ lo hi fun x y=>some (x,y):Option (Nat×Nat))=r;cases r<;>rfl
    |_=>rfl
  |sref n p=>
   simp
   rw[NY,NY (Z:=AV)];cases LN U.look n p with
   |none=>rfl
   |some x=>
    simp[G3];split;cases lo<;>cases hi<;>simp only[]<;>(try rfl)<;>(rw[NZ,NZ (Z:=AV)];generalize (U.uU _ _ _ fun x y=>some (x,y):Option (Nat×Nat))=r;cases r<;>rfl)
    rfl
  |swin n p o k=>
   simp
   rw[NY,NY (Z:=AV)];cases LN U.look n p with
   |none=>rfl
   |some x=>
    simp[G3];split;rw[NZ,NZ (Z:=AV)];generalize (U.uU _ _ _ fun x y=>some (x,y):Option (Nat×Nat))=r;cases r<;>rfl;rfl
  |vptr t l=>
   cases t with
   |arr n e=>
    simp
    split;rw[NZ,NZ (Z:=AV)];generalize (U.uU _ lo hi fun x y=>some (x,y):Option (Nat×Nat))=r;cases r<;>rfl;rfl
   |_=>rfl
  |_=>rfl
theorem a6n{U:AE}{lo:Option Operand}(c:∀n∈a.refs,U2.look n=U.look n)(g:∀x,lo=some x->U2.sM x=U.sM x)(h:∀x,hi=some x->U2.sM x=U.sM x)(ty:Option Ty)(b:Option Operand)(K:AV->Rs Z):
  U2.wQ ty a lo hi b K=U.wQ ty a lo hi b K:=by
 have hb:=fun(f:Nat) {Z:Type} (K:Nat->Nat->Rs Z)=>a6m (U:=U) (U2:=U2) g h f K;unfold AE.wQ;cases b with
 |some m=>rfl
 |none=>
  simp
  cases a with
  |val t l=>
   cases t with
   |str=>simp_all
   |list o e=>grind
   |_=>rfl
  |nils=>
   simp_all
  |sref n p=>
   simp
   rw[NY,NY,GU (c n (by simp[AV.refs]))];grind
  |swin n p o k=>
   simp only[];rw[NY,NY,GU (c n (by simp[AV.refs]))];simp only[hb]
  |vptr t l=>
   grind
  |_=>rfl
theorem a9I{lo c:Option Operand}(a:o.op=.slice t x lo hi c)(e:o.dst=some d):CG cx o d U:=by
 have b:x∈o.op.operands.toList:=by simp[a,Op.operands]
 have k:∀y,lo=some y->y∈o.op.operands.toList:=fun y h=>by simp_all[Op.operands]
 have f:∀y,hi=some y->y∈o.op.operands.toList:=fun y h=>by simp_all[Op.operands]
 refine CG.of (U.wQ (cx.T t) (U.sM x) lo hi c some) fun j g Z K=>?_
 simp[Bk,a,e,g.sM b];rw[a6n (fun n i=>g.look b i) (fun y h=>g.sM (k y h)) (fun y h=>g.sM (f y h))];grind[b8e]
theorem nO{s:TypeId}{x:Operand}{f:Nat}(k:o.op=.fieldAddr s x f)(b:o.dst=some d):CG cx o d U:=by
 have a:x∈o.op.operands.toList:=by simp[k,Op.operands]
 cases ha:U.sM x with
 |ptr n p=>
  have c:∀g,Ew (AH o) U g->g.rt n=U.rt n:=fun g h=>h.rt a (by rw[ha];simp[AV.refs]);cases hrt:U.rt n with
  |none=>exact CG.none fun g h Z K=>by simp only[Bk,k,b,h.sM a,ha,c g h,hrt]
  |some r=>
   by_cases hc:Dk (Dc r.t r.x p).1 f=true/\cx.T s=some (Dc r.t r.x p).1.sh;exact CG.put (.one (.ptr n (p++BE f))) fun g h Z K=>by
    simp[Bk,k,b,h.sM a,ha,c g h,hrt];rw[if_pos hc];rfl
   exact CG.none fun g h Z K=>by
    simp only[Bk,k,b,h.sM a,ha,c g h,hrt];simp_all
 |vptr t y=>
  by_cases hc:Dk t f=true/\cx.T s=some t;exact CG.put (.one (.vptr (Dc t y (BE f)).1 (Dc t y (BE f)).2)) fun g h Z K=>by
   simp[Bk,k,b,h.sM a,ha];rw[if_pos hc];rfl
  exact CG.none fun g h Z K=>by
   simp only[Bk,k,b,h.sM a,ha];simp_all
 |_=>exact CG.none fun g h Z K=>by simp only[Bk,k,b,h.sM a,ha]
theorem a9J{f:Nat}(g:o.op=.field s x f)(k:o.dst=some d):CG cx o d U:=by
 have a:x∈o.op.operands.toList:=by simp[g,Op.operands]
 cases ha:U.sM x with
 |val t y=>
  by_cases hc:Dk t f=true/\cx.T s=some t;exact CG.put (.one (.val (Dc t y (BE f)).1 (Dc t y (BE f)).2)) fun b h Z K=>by
   simp[Bk,g,k,h.sM a,ha];rw[if_pos hc];rfl
  exact CG.none fun b h Z K=>by
   simp only[Bk,g,k,h.sM a,ha];simp_all
 |_=>exact CG.none fun b h Z K=>by simp only[Bk,g,k,h.sM a,ha]
theorem gD{α β γ:Type}{o:Option α}{f:α->β}{K:β->Option γ}:(o.bind fun x=>K (f x))=(o.bind fun x=>some (f x)).elim none K:=by cases o<;>rfl
theorem b8f(U:AE)(ty:Option Ty)(a:AV)(i:Int)(K:AV->Rs Z):U.uI ty a i K=(U.uI ty a i some).elim none K:=by
 cases a with
 |val t l=>
  cases t with
  |list o e=>
   cases o;simp[AE.uI];split;exact gD;rfl;rfl
  |_=>rfl
 |sref n p=>
  simp only[AE.uI];rw[gC,gC (Z:=AV)];cases LN U.rt n p with
  |none=>rfl
  |some x=>
   grind
 |swin n p o k=>
  simp[AE.uI];rw[NY,NY (Z:=AV)];cases LN U.look n p with
  |none=>rfl
  |some x=>
   grind
 |ptr n p=>
  simp[AE.uI];grind
 |vptr t l=>
  cases t with
  |arr k e=>
   simp[AE.uI];split;exact gD;rfl
  |_=>rfl
 |_=>rfl
theorem a6o{U:AE}(h:∀n∈a.refs,U2.look n=U.look n)(g:∀n∈a.refs,U2.rt n=U.rt n)(ty:Option Ty)(i:Int)(K:AV->Rs Z):U2.uI ty a i K=U.uI ty a i K:=by
 cases a with
 |sref n p=>simp only[AE.uI];rw[gC,gC,GU (g n (by simp[AV.refs]))]
 |swin n p o k=>simp only[AE.uI];rw[NY,NY,GU (h n (by simp[AV.refs]))]
 |ptr n p=>simp_all[AE.uI,AV.refs]
 |val t l=>
  cases t with
  |list o e=>cases o<;>rfl
  |_=>rfl
 |vptr t l=>cases t<;>rfl
 |_=>rfl
theorem nP{t:TypeId}{x i:Operand}(c:o.op=.indexAddr t x i)(j:o.dst=some d):CG cx o d U:=by
 have e:x∈o.op.operands.toList:=by simp[c,Op.operands]
 have l:i∈o.op.operands.toList:=by simp[c,Op.operands]
 have m:(∀k y,U.sM i≠.val (.int k) y)->CG cx o d U:=fun h=>CG.none fun p f Z K=>by
  simp[Bk,c,j,f.sM l];grind
 cases ha:U.sM i with
 |val q y=>
  cases q with
  |int k=>
   refine CG.of (U.uI (cx.T t) (cx.tY (U.sM x)) (show Int from y) some) fun p f Z K=>?_
   simp[Bk,c,j,f.sM l,f.sM e,ha];have a:∀n∈(cx.tY (U.sM x)).refs,n∈(U.sM x).refs:=fun n b=>by
    revert b;cases U.sM x with
    |tY g=>
     simp[Cx.tY];split<;>exact fun h=>h
    |_=>exact id
   exact(a6o (fun n b=>f.look e (a n b)) (fun n b=>f.rt e (a n b)) (cx.T t) (show Int from y) _).trans (b8f _ _ _ _ _)
  |_=>exact m (by rw[ha];intro k y h;cases h)
 |_=>exact m (by rw[ha];intro k y h;cases h)
def iN{Z:Type}(ty:Option Ty)(x i:AV)(K:AV->Rs Z):Rs Z:=match x,i with
 |.val (.arr n t) l,.val (.int _) (i:Int)=>if ty=some (.arr n t)then(Az l i).bind fun y=>K (.val t y)else none
 |.val .str (l:List Int),.val (.int _) (i:Int)=>if ty=some .str then(Az l i).bind fun y=>K (.val (.int .u8) y)else none
 |_,_=>none
theorem b1S{Z:Type}(ty:Option Ty)(x i:AV)(K:AV->Rs Z):iN ty x i K=(iN ty x i some).elim none K:=by
 unfold iN;split;split;exact gD;rfl;split;exact gD;rfl;rfl
theorem a9K{i:Operand}(h:o.op=.index s x i)(k:o.dst=some d):CG cx o d U:=by
 have b:x∈o.op.operands.toList:=by simp[h,Op.operands]
 have a:i∈o.op.operands.toList:=by simp[h,Op.operands]
 refine CG.of (iN (cx.T s) (U.sM x) (U.sM i) some) fun g f Z K=>?_
 have:Bk cx true o g K=iN (cx.T s) (U.sM x) (U.sM i) fun v=>K (g.set d v):=by
  simp[Bk,h,k,f.sM b,f.sM a];rfl
 grind[b1S]
theorem a2Z(k:o.op=.extract x i)(a:o.dst=some d):CG cx o d U:=by
 have e:x∈o.op.operands.toList:=by simp[k,Op.operands]
 cases x with
 |tmp t=>
  have b:∀h,Ew (AH o) U h->h.sl t=U.sl t:=fun h g=>(g.2 t (EI e)).1;cases hv:U.sl t with
  |one v=>simp_all[CG.none,Bk]
  |cmp c j=>
   cases c with
   |agg=>simp_all[CG.none,Bk]
   |clo f=>simp_all[CG.none,Bk]
   |tup=>
   cases hi:j[i]? with
   |none=>simp_all[CG.none,Bk]
   |some v=>exact CG.put (.one v) fun h g Z K=>by simp[Bk,k,a,b h g,hv,hi];rfl
 |_=>simp_all[CG.none,Bk]
end
end Go.Ab
