/- Part of the proof: LibS. Conditions: as each statement tells. -/
import Derived.Laws.AppendOwn
import Derived.CallsIn
import Derived.Tactics
import Derived.Deep.LoopGhost
import Derived.TacticsIn
import Derived.Test.YtkikcohfbelmeacGreatDoorMA
noncomputable section
set_option linter.unusedSimpArgs false
set_option linter.unusedVariables false
open Array renaming getElem?_toList->B8,length_toList->E5,range->F9
open Bool renaming true->ka,false->kc,not_eq_true'->E6,and_eq_true_iff->F2,not_eq_true->G3
open Decidable renaming decide->A6
open List renaming mem_map_of_mem->A3,mem_cons_of_mem->A4,length_eq_zero_iff->A7,getElem?_append_left->A8,nodup_cons->A9,mem_of_getElem?->B3,mem_map->B6,map_cons->B7,getElem?_append_right->B9,nodup_append->C1,append->C3,length->C4,replicate->C6,getElem?_toArray->C7,pairwise_iff_getElem->C8,getD->D0,mem_append_left->D2,drop_eq_getElem_cons->D4,getElem?_map->D7,take_succ_eq_append_getElem->D8,mem_append_right->D9,mem_iff_getElem?->E1,take->E2,length_nil->E3,map_nil->E8,nil_append->E9,length_eq_one_iff->F0,take_set_of_le->F3,drop->F5,size_toArray->F6,take_length->F8,append_nil->G5,set->G6,drop_zero->G7
open Nat renaming le_refl->B4,lt_of_lt_of_le->C0,zero_add->C2,add_mul->C5,le_trans->D1,mul_le_mul_right->D3,add_sub_cancel_left->D6,mul_le_mul->F1,le_of_lt->F4,lt_trichotomy->F7
open Option renaming some->kd,none->ke,map_eq_some_iff->C9,bind_eq_some_iff->D5,map_some->E4,isSome_iff_exists->E7,elim->G4
namespace Go.Ab
variable {A:Option Addr}{G:Xn}{M:Gh}{P:Program}{Q:Exit->Act->World->Prop}{Sh Sh':Nat->Prop}{U U2:AE}{Z:Type}{a av:AV}{b d i n:Nat}{c:Call}{e:Ty}{f:FuncId}{hi:Option Operand}{k:IntKind}{m:Es}{next:Act->World->Prop}{o:Oper}{p:BB}{ps:List PA}{q:Bool}{r:sK}{s t t':TypeId}{tm:Nat->Value}{ts:Array TypeId}{v vy:Value}{w w' w2:World}{x y:Operand}{l ys:List e.sI}
theorem Sv{o:Nat}{os R}(h:Ao (λi=>AM m e λj=>m b (o+(i*e.cells+j))) n 0=kd (l,os,R)):∃cs:List Value,cs.length=n*e.cells/\(∀j u,cs[j]?=kd u->m b (o+j)=kd u)/\(∀u∈cs,CL u=ka)/\Ao (λi=>AM m e λj=>cs[i*e.cells+j]?) n 0=kd (l,os,R):=by
 have k:AM m (.arr n e) (λj=>m b (o+j))=kd (l,os,R):=h;have d:∀j,j<n*e.cells->∃u,m b (o+j)=kd u/\CL u=ka:=JK (.arr n e) k;let cs:List Value:=(List.range (n*e.cells)).map λj=>(m b (o+j)).getD undef
 have f:∀j,j<n*e.cells->cs[j]?=m b (o+j):=λj a=>by grind
 have g:cs.length=n*e.cells:=by grind
 refine⟨cs,g,λj u c=>?_,λu c=>?_,?_⟩;grind;grind;exact AI (.arr n e) k (rd':=λj=>cs[j]?) (λj a=>f j a) (λ_ _ _=>rfl)
theorem a3l{o:Bool}(A:e.sh=e){O R}(h:AM m (.list o e) ((Src.one v).rd m)=kd (l,O,R)):(v=.slice ke 0 0/\l=[])\/∃a n c g,v=.slice (kd a) n c/\(c=0\/a.spot=ke)/\n<=c/\n=l.length/\Ao (λi=>AM m e λj=>m a.block (a.off+(i*e.cells+j))) n 0=kd (l,[],g)/\(∀x∈g,x∈R)/\(o=kc->0<n->a.block∈R):=by(have h:CW m o e.cells (AM m e) (kd v)=kd (l,O,R):=h;unfold CW at h;split at h;simp_all;rename_i a n c u;simp at u;split at h;rename_i z;split at h;grind;rename_i p d g b;have f:d=[]:=by have q:AM m (.arr n e) (λj=>m a.block (a.off+j))=kd (p,d,g):=b;exact PN (by simp_all[Ty.tK]) q);(subst f;have k:p=l/\(∀x∈g,x∈R)/\(o=kc->0<n->a.block∈R):=by split at h;grind;split at h;rename_i r;subst r;simp[Ao]at b;simp_all;grind);obtain⟨rfl,w,y⟩:=k;grind[Bb];simp_all;simp_all
def Uy(w:World)(m:Es)(Sh:Nat->Prop)(e:Ty)(l:List e.sI)(v:Value):Prop:=∃A n c,∃cs:List Value,v=.slice A n c/\n=l.length/\cs.length=n*e.cells/\(∀u∈cs,CL u=ka)/\(∃R,Ao (λi=>AM m e λj=>cs[i*e.cells+j]?) n 0=kd (l,[],R)/\∀c∈R,Sh c)/\(∀b,A=kd b->∀j u,cs[j]?=kd u->w.cell? (b.add j)=kd u)/\(A=ke->n=0)/\(∀b,A=kd b->n=0\/b.spot=ke)
theorem Uy.nil{w m Sh e}{A:Option Addr}{c:Nat}:Uy w m Sh e [] (.slice A 0 c):=⟨A,0,c,[],rfl,rfl,by simp,by simp,⟨[],rfl,by simp⟩,by simp,λ_=>rfl,λ_ _=>.inl rfl⟩
section
variable {P:Program} {B:Base} {N:Nat} {Z:Type} {U:AE} {a:Act} {w:World} {M:Gh}
theorem sH.sW{tm}(h:sH B U N tm w M)(hp:U.pd=ke):M.ov=ke:=by have:=h.pend;rw[hp]at this;cases hov:M.ov with|none=>rfl|some x=>rw[hov]at this;exact this.elim
theorem sH.xU{tm}(h:sH B U N tm w M){c j:Nat}(a:Bh B w M c):Ag w M.ov c j=w.cell? ⟨c,j,ke⟩:=by unfold Ag;split;(rename_i b o v g;have f:=h.pend;rw[g]at f;cases hpd:U.pd with|none=>rw[hpd]at f;exact f.elim|some x=>have⟨n,p,d⟩:=x;rw[hpd]at f;have⟨r,e,i,k⟩:=f;rw[<-g]at k;have hb:=h.place i k;rw[if_neg];rintro⟨rfl,-⟩;exact a.2.2 ⟨n,hb⟩);rfl
theorem Vm{A:Addr}(h:A.spot=ke)(j:Nat):w.cell? (A.add j)=w.cell? ⟨A.block,A.off+j,ke⟩:=by rw[Gm h]
theorem sH.elems{tm}{e:Ty}(he:e.sh=e)(h:sH B U N tm w M){av v}{K:List e.sI->Rs Z}{z:Z}(d:AA (Ag w M.ov) M.g U.rt (Bh B w M) av v)(f:U.elems e av K=kd z):∃l,K l=kd z/\Uy w (Ag w M.ov) (Bh B w M) e l v:=by
 unfold AE.elems at f;split at f;rename_i t' x;split at f;rename_i ht;subst ht;refine⟨_,f,?_⟩;have⟨R,h1,h2⟩:=CK.rd (t:=.list kc t') d rfl rfl;rcases a3l he h1 with⟨rfl,h3⟩|⟨A,n,c,rs,rfl,g1,g2,T,G,V,g6⟩;simp_all[Uy.nil];have⟨F,E,Y,O,P⟩:=Sv G;refine⟨kd A,n,c,F,rfl,T,E,O,⟨rs,P,λb hb=>h2 b (V b hb)⟩,λb hb j u I=>?_,by simp,λb hb=>by grind⟩;simp at hb;subst hb;have H:0<n:=by grind
 rw[Vm (g1.resolve_left (by omega)),<-h.xU (h2 _ (g6 rfl H))];simp_all;simp_all;refine⟨[],f,?_⟩;have d:v=.slice ke 0 0:=d;rw[d];exact Uy.nil;refine⟨[],f,?_⟩;have⟨A,L⟩:=d;rw[L];exact Uy.nil;rename_i n p;split at f;rename_i r D;have⟨C,D⟩:=AY D;split at f;rename_i a l hg;split at f;rename_i m;subst m;have⟨s,O',R',g1,g2,T,G,V,g6⟩:=h.slice d D hg;refine⟨l,f,?_⟩;have y:=h.sW C;rcases a3l he G with⟨rfl,h3⟩|⟨A,n,c,rs,rfl,f1,f2,f3,S,f5,-⟩;rw[h3];exact Uy.nil;have⟨F,E,Y,O,P⟩:=Sv S;refine⟨kd A,n,c,F,rfl,f3,E,O,⟨rs,P,λb hb=>V b (f5 b hb)⟩,λb hb j u I=>?_,by simp,λb hb=>by grind⟩;simp at hb;subst hb;have H:0<n:=by grind
 rw[Vm (f1.resolve_left (by omega))];have:=Y j u I;rw[y]at this;exact this;simp_all;simp_all;simp_all;rename_i n p o k;split at f;rename_i r D;have⟨C,D⟩:=AY D;split at f;rename_i a l hg;split at f;rename_i m;subst m;obtain⟨s,O',R',A0,n0,c,g1,g2,T,G,V,g6,a',rfl,g7,g8⟩:=h.window d D hg;refine⟨_,f,?_⟩;show Uy _ _ _ _ (E2 k (F5 o l)) _;have y:=h.sW C;rcases a3l he T with⟨L,h3⟩|⟨A,n,c',rs,L,f1,f2,f3,S,f5,-⟩;simp_all[Uy.nil]
 simp at L;obtain⟨rfl,rfl,rfl⟩:=L;rw[show n0=o+(k+(n0-o-k))from by omega]at S;obtain⟨h7,g0,h8,g9,j1,j2,e1,rfl⟩:=Gk o _ 0 S;obtain⟨h5,Q,h9,k0,j3,j4,rfl,rfl⟩:=Gk k _ (0+o) j2;have h4:h5=[]:=by simp_all
 subst h4;have X:∀(q i:Nat),Ao (λi=>AM (Ag w M.ov) a λj=>Ag w M.ov A.block (A.off+o*a.cells+(i*a.cells+j))) q i=Ao (λi=>AM (Ag w M.ov) a λj=>Ag w M.ov A.block (A.off+(i*a.cells+j))) q (o+i):=by intro q;induction q with|zero=>intro i;rfl|succ q ih=>(intro i;have hf:(λj=>Ag w M.ov A.block (A.off+o*a.cells+(i*a.cells+j)))=λj=>Ag w M.ov A.block (A.off+((o+i)*a.cells+j)):=by funext j;grind);simp[Ao];rw[ih (i+1),hf,show o+(i+1)=o+i+1 from by rfl]
 have hc:Ao (λi=>AM (Ag w M.ov) a λj=>Ag w M.ov A.block (A.off+o*a.cells+(i*a.cells+j))) k 0=kd (E2 k (F5 o l),[],Q):=by grind
 have⟨F,E,Y,O,P⟩:=Sv hc;refine⟨a',k,c-o,F,rfl,?_,E,O,⟨Q,P,λb hb=>G b (f5 b (by grind))⟩,λb hb j u I=>?_,λhn=>?_,λb hb=>(g7 b hb).imp (λe=>by omega) id⟩;have e0:n0=l.length:=f3;have e1:(E2 k (F5 o l)).length=min k (l.length-o):=List.length_take.trans (cG (min k) List.length_drop);omega;have h0:=(lS.1 I).1;rw[E]at h0;have h6:0<k:=Nat.pos_of_ne_zero λe0=>by grind
 rcases g8 with g8|g8;omega;rw[g8]at hb;simp at hb;rw[<-hb,Gm (f1.resolve_left (by omega)),Vm rfl];have:=Y j u I;rw[y]at this;exact this;grind;simp_all;simp_all;simp_all;simp_all
theorem PD{w:World}{c:Nat}{cs:List Value}(hv:v=.slice A n c)(i:∀x,w2.cell? x=w.cell? x)(h:cs.length=n*e.cells)(g:∀b,A=kd b->∀j u,cs[j]?=kd u->w.cell? (b.add j)=kd u)(a:A=ke->n=0)(k:Nat)(f:k<=n):(Builtin.firstCells e.cells k v).run P w2=.ok (cs.take (k*e.cells)).toArray w2:=by subst hv;cases A with|none=>(have:k=0:=by simp_all);simp_all[Builtin.firstCells]|some b=>(refine run_firstCells_some w2 e.cells k b n c _ ?_ λj u d=>?_);simp_all;grind
end
theorem b3N{τ:Ty}(h:AU P τ (.inl t)=ka):∃d,P.underlying t=kd d:=by cases hu:P.underlying t with|some d=>simp|none=>cases τ<;>simp[AU,hu]at h
theorem PO(h:AU P (.int k) (.inl t)=ka):P.underlying t=kd (.int k):=by simp[AU]at h;grind
theorem Vn(h:AU P .str (.inl t)=ka):P.underlying t=kd .string:=by simp[AU]at h;grind
theorem Tr{m:Es}{k:IntKind}:∀(l:List Int)(n i:Nat){cs:List Value}{R},cs.length=i+n->Ao (λi=>AM m (.int k) λj=>cs[i*1+j]?) n i=kd (l,[],R)->cs.drop i=l.map (Value.int k)|l,0,i,cs,R,u,h=>by have y:[]=l:=cG (·.1) (Option.some.inj h);simp_all|l,n+1,i,cs,R,u,h=>by(simp only[Ao]at h;split at h;grind;rename_i x o r g;split at h;grind;rename_i e w B p;have c:i<cs.length:=by omega);(simp[AM,lG c]at g;split at g;rename_i A v d;split at g;rename_i q;subst q;have b:v=x:=cG (·.1) (Option.some.inj g);have f:x::e=l:=cG (·.1) (Option.some.inj h);have z:o=[]:=by simp_all);(have a:w=[]:=by grind);subst a;rw[D4 c,Tr e n (i+1) (by omega) p,<-f];simp at d;rw[d,b];rfl;simp_all;simp_all
section
variable {P:Program} {B:Base} {N:Nat} {Z:Type} {U:AE} {a:Act} {w:World} {M:Gh}
theorem a8r(ns:List Int):∀(s:ByteArray),((ns.foldl (λr n=>r.push (UInt8.ofNat n.toNat)) s).data.toList.map λb=>(b.toNat:Int))=(s.data.toList.map λb=>(b.toNat:Int))++a4V ns:=by induction ns with|nil=>intro s;simp[a4V]|cons n ns h=>simp_all[a4V]
theorem Vo(w:World)(a:Addr)(c:Nat):(w.freeze a 1).heap[c]?=if c=a.block then(w.heap[c]?).map (λ|.cells cs elem (lo,hi)=>.cells cs elem (if lo==hi then(a.off,a.off+1)else(min lo a.off,max hi (a.off+1)))|o=>o)else w.heap[c]?:=by unfold World.freeze;grind
theorem a5f(w:World)(a p:Addr):(w.freeze a 1).cell? p=w.cell? p:=by unfold World.cell?;rw[Vo];grind
theorem Vp(w:World)(a:Addr)(ov):Ag (w.freeze a 1) ov=Ag w ov:=by funext b o;simp_all[a5f,Ag]
theorem sH.frozen{U:AE}{w:World}{M:Gh}(h:sH B U N tm w M)(l:BP M b){cs:Array Value}{k:TypeId}{lo hi:Nat}(v:w.heap[b]?=kd (.cells cs k (lo,hi))):
  sH B U N tm (w.freeze { block:=b,off:=cs.size } 1) M:=by
 have f:(w.freeze { block:=b,off:=cs.size } 1).heap.size=w.heap.size:=by
  simp_all[World.freeze]
 refine h.mem (λc j _=>by rw[Vp]) (λn p m=>?_) (Nat.le_of_eq f.symm) (λc d a=>?_);have⟨c,e,o,i,q,r,u⟩:=h.live n p m;unfold Cv;rw[Vo];grind
 ·rw[Vo,if_neg (λe=>?_)];exact h.frame c d a
  ·rcases h.mine b l with g|g;all_goals grind
theorem a3m{o:Oper}{t t2:TypeId}{x:Operand}{d:Nat}{cx:Cx}{q:Bool}{K:AE->Rs Z}{z:Z}(f:CxTy P cx)(ho:o.op=.convert t t2 x)(hd:o.dst=kd d) (h:sH B U N (AJ a) w M)(hN:a.tmps.size=N)(hf:fits N o=ka)(g:Bg cx q o U K=kd z):AW P B N o a w K z:=by
 have I:=h.sJ (Bl hf x (by simp[ho,Op.operands]));simp[Bg,ho,hd]at g;have p:∀v w',(convert t t2 (a.eval x)).run P w=.ok v w'->(execOp a.eval o).run P w=.ok (.value v) w':=λv w' V=>by simp[execOp,ho,V]
 unfold AE.conv AE.vJ at g;split at g;rename_i τ k k' n L m H;rw[H]at I;have V:=AA.int I;have⟨u,S⟩:=b3N (f.T _ _ L).2;have C:=PO (f.T _ _ m).2;refine AW.set hd hN (p (.int k (k.wrap n)) w ?_) h (AA.tF _) g;rw[V];simp[convert,run_underlying S,run_underlying C,Conv.intToInt];rename_i o' l L m H;suffices main:∀l:List Int,U.sJ x=.val .str l->(bif BM (C4 l)then U.fresh q d ⟨kc,.list ka (.int .u8),l⟩ λU=>K (U.set d (.sref d []))else ke)=kd z->AW P B N o a w K z from main l H g
 clear H g;intro l H g;rw[H]at I;have⟨s,V,hl⟩:=AA.str I;have S:=Vn (f.T _ _ L).2;have⟨h9,g4⟩:=f.T _ _ m;obtain⟨e,C,F,-⟩:=Cj g4;have G:=PO F;rcases Ah g with⟨-,g⟩|⟨-,g⟩;have hr:=run_bytes_of_string (P:=P) w t t2 e s S C G;rw[<-V]at hr;have hg:=grownCap_ge w s.size 0 e;have E:(bytesRow s (grownCap w s.size 0 e)).size=grownCap w s.size 0 e:=by have:s.data.size=s.size:=rfl;simp_all[bytesRow]
 have g9:C4 l=s.size:=by simp_all
 have h7:@List.length (Ty.int .u8).sI l=s.size:=g9;have y:Ao (λi=>AM (Ag w M.ov) (.int .u8) λj=>(bytesRow s (grownCap w s.size 0 e))[i*(Ty.int .u8).cells+j]?) (C4 l) 0=kd (l,[],[]):=by(have a3:∀(n i:Nat)(l':List Int),l'=l.drop i->l'.length=n->i+n=s.size->Ao (λi=>AM (Ag w M.ov) (.int .u8) λj=>(bytesRow s (grownCap w s.size 0 e))[i*(Ty.int .u8).cells+j]?) n i=kd (l',[],[]):=by intro n;induction n with|zero=>intro i l' _ h2 _;rw[A7.1 h2];rfl|succ n ih=>(intro i l' h1 h2 h3;have hi:i<s.data.toList.length:=by grind);(have k7:i<(List.map (λb:UInt8=>(b.toNat:Int)) s.data.toList).length:=by simp_all);(have X:(bytesRow s (grownCap w s.size 0 e))[i]?=kd (.int .u8 ((s.data.toList[i]).toNat:Int)):=by simp_all[bytesRow,Array.getElem?_append_left]);(have g7:l'=((s.data.toList[i]).toNat:Int)::l.drop (i+1):=by simp_all[D4]);subst g7;have h4:=ih (i+1) (l.drop (i+1)) rfl (by grind) (by omega);simp only[Ao];rw[h4];simp only[AM,Ty.cells,Nat.mul_one,Nat.add_zero,X,if_true];rfl);grind
 obtain⟨U',M',g1,g2,g3,-,-⟩:=h.uU (c:=grownCap w s.size 0 e) g (w':=w.drew.alloc (.cells (bytesRow s (grownCap w s.size 0 e)) e ((bytesRow s (grownCap w s.size 0 e)).size,(bytesRow s (grownCap w s.size 0 e)).size+1))) (λc hc=>BF (w:=w.drew) _ c hc) (BZ (w:=w.drew) _) (Bv (w:=w.drew) _) (.inr (by simp[E,Ty.cells])) (by simp[E,Ty.cells]) (D1 (Nat.le_of_eq h7) hg) y (by simp);grind[AW.set];simp_all;rename_i l L m H;rw[H]at I;have⟨s,V,hl⟩:=AA.str I;have S:=Vn (f.T _ _ L).2;have C:=Vn (f.T _ _ m).2;refine AW.set hd hN (p (.string s) w ?_) h (hl▸AA.vV s) g;simp_all[convert,run_underlying];rename_i o1 o2 n L m H;split at g;rename_i k5;subst k5;split at g;rename_i l hl;have⟨Q,g⟩:=(Ah g).elim id λh=>by grind
 have Q:0<C4 l:=by simp_all
 have⟨a2,hr⟩:=AY hl;rw[H]at I;have⟨h9,h6⟩:=f.T _ _ L;obtain⟨e,S,F,-⟩:=Cj h6;have G:=PO F;have⟨s,O',R',f1,f2,f3,f4,f5,f6⟩:=h.slice I hr (show CQ (.list ka (.int .u8)) l []=⟨.list ka (.int .u8),l⟩from rfl);have⟨b,n1,c1,g5,hb,k9,k6,O⟩:∃(b:Addr)(n1 c1:Nat),a.eval x=.slice (kd b) n1 c1/\b.spot=ke/\n1<=c1/\c1≠0/\b.block∈(M.ow n).map (·.1):=by rcases Da f4 with⟨hs,k8,-,-⟩|⟨b,n1,c1,os,hs,hA,hn,y,ho⟩;simp_all;simp[Src.rd]at hs;grind[Bb]
 have h8:BP M b.block:=⟨n,O⟩;have⟨p0,k0,k4⟩:=B6.1 O;obtain⟨cs,el,lo,hi,D,-,-⟩:=h.live n p0 k0;rw[k4]at D;have h5:(convert t t (a.eval x)).run P w=.ok (a.eval x) (w.freeze { block:=b.block,off:=cs.size } 1):=by(have g0:w.shape? b.block=kd (el,cs.size):=by simp_all[World.shape?]);rw[g5];simp[convert,run_underlying S,run_underlying G,markStringish,g0]
 exact AW.set hd hN (p _ _ h5) (h.frozen h8 D) (av:=.sref n []) (by have⟨r,e',s',k1,k2,k3⟩:=I;exact⟨r,e',s',k1,by simp_all[Vp],by simp_all[Vp]⟩) g;simp_all;simp_all;rename_i o' L m;have⟨h9,h6⟩:=f.T _ _ L;obtain⟨e,S,F,-⟩:=Cj h6;have G:=PO F;have C:=Vn (f.T _ _ m).2;obtain⟨l,g,A,n,c,cs,V,hn,Q,-,⟨R,y,-⟩,hc,hnil,-⟩:=h.elems rfl I g;have Y:cs.length=n:=by simp_all[Ty.cells]
 have g6:cs=l.map (Value.int .u8):=by have:=Tr (k:=.u8) l n 0 (cs:=cs) (by omega) y;grind
 cases A with|none=>(have h0:l=[]:=by grind);refine AW.set hd hN (p (.string .empty) w ?_) h (av:=.val .str (a4V l)) (by rw[h0];exact AA.vV .empty) g;simp_all[run_convert_bytes_string,Conv.bytesToString]|some b=>refine AW.set hd hN (p (.string (l.foldl (λr n=>r.push (UInt8.ofNat n.toNat)) ByteArray.empty)) w ?_) h (av:=.val .str (a4V l)) ?_ g;rw[V,run_convert_bytes_string w t t2 e _ n c S G C];refine run_bytesToString w b n c l ?_;rw[<-g6,<-Y];exact run_loadCells_list w b cs (hc b rfl);have:=a8r l ByteArray.empty;(have e1:a4V l=((l.foldl (λr n=>r.push (UInt8.ofNat n.toNat)) ByteArray.empty).data.toList.map λb=>(b.toNat:Int)):=by exact(this.trans (E9 _)).symm);simp_all[AA.vV]
 simp_all
theorem WO{b:Builtin}(h:o.op=.call c)(hb:c.callee=.builtin b):∃cs,(execOp a.eval o).run P w=(builtin b c.argTypes o.type cs (c.args.map a.eval)).run P w:=by exact⟨_,by simp[execOp,h,resolve,hb,invoke];rfl⟩
theorem b3O{o:Oper}{c:Call}{d:Nat}{cx:Cx}{q:Bool}{K:AE->Rs Z}{z:Z}(e:CxTy P cx)(u:o.op=.call c)(hb:c.callee=.builtin .len)(r:o.dst=kd d) (h:sH B U N (AJ a) w M)(v:a.tmps.size=N)(A:fits N o=ka)(g:Bg cx q o U K=kd z):AW P B N o a w K z:=by(have⟨D,k⟩:=WO (P:=P) (a:=a) (w:=w) u hb;have f:=Bl A;have i:∃x,c.args.toList=[x]:=by cases i:c.args.toList with|nil=>simp_all[Bg,AE.uN]|cons x l=>cases l with|nil=>simp|cons y l=>simp_all[Bg,AE.uN]);(have⟨x,C⟩:=i;have b:c.args=#[x]:=by grind);have p:Cw N x=ka:=f x (by simp_all[Op.operands,Call.operands]);simp[Bg,u,r,hb,C,AE.uN]at g;cases ht:c.argTypes.toList.head? with|none=>simp_all[AE.vX]|some t=>(rw[ht]at g;simp at g;have⟨n,g,E⟩:=b1w e h p g o.type;have m:c.argTypes[0]?=kd t:=by rw[<-B8];cases i:c.argTypes.toList with|nil=>simp_all|cons y l=>simp_all);(refine AW.set r v (k.trans ?_) h (AA.tF _) g;have j:Builtin.len_ c.argTypes o.type #[a.eval x]=Builtin.len_ #[t] o.type #[a.eval x]:=by simp[Builtin.len_,m]);simp_all[builtin]
theorem b3P{o:Oper}{c:Call}{d:Nat}{cx:Cx}{q:Bool}{K:AE->Rs Z}{z:Z}(C:CxTy P cx)(m:o.op=.call c)(hb:c.callee=.builtin .cap)(r:o.dst=kd d) (h:sH B U N (AJ a) w M)(G:a.tmps.size=N)(H:fits N o=ka)(k:Bg cx q o U K=kd z):AW P B N o a w K z:=by
 have⟨Q,v⟩:=WO (P:=P) (a:=a) (w:=w) m hb;have u:=Bl H;have i:∃x,c.args.toList=[x]/\U.sJ x=.nils:=by cases i:c.args.toList with|nil=>(simp only[Bg,m,r,hb,i,E8,AE.uN]at k;cases k)|cons x l=>cases l with|nil=>(refine⟨x,rfl,?_⟩;cases p:U.sJ x<;>first|rfl|(simp only[Bg,m,r,hb,i,B7,E8,AE.uN,p]at k;cases k))|cons y l=>simp only[Bg,m,r,hb,i,B7,AE.uN]at k;cases p:U.sJ x<;>(rw[p]at k;cases k)
 have⟨x,p,j⟩:=i;have f:c.args=#[x]:=by rw[<-Array.toList_inj];simpa using p
 have F:Cw N x=ka:=u x (by simp[m,Op.operands,hb,f,Call.operands]);simp only[Bg,m,r,hb,p,B7,E8,AE.uN,j]at k;have A:=h.sJ F;rw[j]at A;obtain A:a.eval x=.slice ke 0 0:=A;rcases Ah k with⟨b,k⟩|⟨-,g⟩;cases ht:c.argTypes.toList.head? with|none=>(rw[ht]at b;cases b)|some t=>rw[ht]at b;simp only[oB]at b;cases hc:cx.T t with|none=>(rw[hc]at b;cases b)|some τ=>rw[hc]at b;cases τ with|list o e=>(have⟨I,E⟩:=C.T t _ hc;obtain⟨R,O,L,-⟩:=Cj E;have D:c.argTypes[0]?=kd t:=by rw[<-B8];cases i:c.argTypes.toList with|nil=>(rw[i]at ht;cases ht)|cons y l=>rw[i]at ht;simpa using ht);exact AW.set r G (v.trans (by simp[builtin,f,A,Builtin.cap_,D,run_underlying O,goInt])) h (AA.tF _) k|_=>cases b
 cases g
theorem WP{b:Builtin}(g:o.op=.call c)(hb:c.callee=.builtin b)(h:fits N o=ka):∀y∈c.args.toList,Cw N y=ka:=λy f=>Bl h y (by simp_all[Op.operands,Call.operands])
theorem b3Q{o:Oper}{c:Call}{d:Nat}{cx:Cx}{q:Bool}{K:AE->Rs Z}{z:Z}(m:o.op=.call c)(hb:c.callee=.builtin .max)(p:o.dst=kd d) (h:sH B U N (AJ a) w M)(C:a.tmps.size=N)(D:fits N o=ka)(e:Bg cx q o U K=kd z):AW P B N o a w K z:=by have⟨F,i⟩:=WO (P:=P) (a:=a) (w:=w) m hb;have b:=WP m hb D;cases hl:c.args.toList with|nil=>simp_all[Bg,AE.uN]|cons x l=>(simp[Bg,m,p,hb,hl,AE.uN]at e;split at e;all_goals first|(rename_i j;cases j;done)|(rename_i j _;cases j;done)|(cases e;done)|skip);(rename_i k n r j A;have u:=h.sJ (b x (by simp_all));obtain⟨v,rfl⟩:=List.cons.inj A;rw[v]at u;have⟨r,e,G⟩:=dK (P:=P) (f:=Fk) (g:=Builtin.max2) (k:=k) (λx y w=>by simp[Builtin.max2,Fk]) l n h (λy H=>b y (by simp_all)) e;refine AW.set p C (i.trans ?_) h (AA.tF _) e;have E:(c.args.map a.eval).toList=a.eval x::l.map a.eval:=by simp_all);simp only[builtin,Builtin.max_,E,AA.int u,Sem.run_bind];simp_all
theorem b3R{o:Oper}{c:Call}{d:Nat}{cx:Cx}{q:Bool}{K:AE->Rs Z}{z:Z}(m:o.op=.call c)(hb:c.callee=.builtin .min)(p:o.dst=kd d) (h:sH B U N (AJ a) w M)(C:a.tmps.size=N)(D:fits N o=ka)(e:Bg cx q o U K=kd z):AW P B N o a w K z:=by have⟨F,i⟩:=WO (P:=P) (a:=a) (w:=w) m hb;have b:=WP m hb D;cases hl:c.args.toList with|nil=>simp_all[Bg,AE.uN]|cons x l=>(simp[Bg,m,p,hb,hl,AE.uN]at e;split at e;all_goals first|(rename_i j;cases j;done)|(rename_i j _;cases j;done)|(cases e;done)|skip);(rename_i k n r j A;have u:=h.sJ (b x (by simp_all));obtain⟨v,rfl⟩:=List.cons.inj A;rw[v]at u;have⟨r,e,G⟩:=dK (P:=P) (f:=OH) (g:=Builtin.min2) (k:=k) (λx y w=>by simp[Builtin.min2,OH]) l n h (λy H=>b y (by simp_all)) e;refine AW.set p C (i.trans ?_) h (AA.tF _) e;have E:(c.args.map a.eval).toList=a.eval x::l.map a.eval:=by simp_all);simp only[builtin,Builtin.min_,E,AA.int u,Sem.run_bind];simp_all
end
open IntKind renaming wrap->zN
theorem Sw{m:Es}:∀(p:BB)(t:Ty)(s:Src){x O R l b o y O' R'},AM m t (s.rd m)=kd (x,O,R)->loc m t s p=kd (l,.at b o)->AM m l ((Src.at b o).rd m)=kd (y,O',R')->(O.map (·.1)).Nodup->(∀c∈O.map (·.1),s.wC c)->b∉O'.map (·.1)|[],t,s,x,O,R,l,b,o,y,O',R',h,g,d,f,k=>(by simp[CR]at g;obtain⟨rfl,rfl⟩:=g;rw[h]at d;simp at d;obtain⟨-,rfl,-⟩:=d;exact λhb=>k b hb rfl)|.fst::p,t,s,x,O,R,l,b,o,y,O',R',h,g,d,f,k=>(by obtain⟨a,C,r,u,rfl,rfl,g⟩:=Mc g;obtain⟨U,N,S,V,P,T,D,z,rfl,rfl,rfl⟩:=Dz h;simp only[WK]at f k;exact Sw p a (.at r u) D g d (C1.1 f).1 (λc e=>k c (D2 _ e)))|.snd::p,t,s,x,O,R,l,b,o,y,O',R',h,g,d,f,k=>(by obtain⟨a,C,r,u,rfl,rfl,g⟩:=Me g;obtain⟨U,N,S,V,P,T,D,z,rfl,rfl,rfl⟩:=Dz h;rw[Nh]at z;simp only[WK]at f k;exact Sw p C (.at r (u+a.cells)) z g d (C1.1 f).2.1 (λc e=>k c (D9 _ e)))|.idx i::p,t,s,x,O,R,l,b,o,y,O',R',h,g,d,f,k=>by rcases Lb g with⟨n,B,r,u,rfl,rfl,A,g⟩|⟨B,a,n,c,rfl,j,A,g⟩;simp[AM,Nh]at h;obtain⟨X,M,Q,F,G,v,w,q,-,rfl,rfl⟩:=Bc n 0 i h A;simp at q;simp only[WK]at f k;exact Sw p B _ q g d (C1.1 (C1.1 f).2.1).1 (λc e=>k c (D9 _ (D2 _ e)));rcases Da h with⟨E,-⟩|⟨Y,L,Z,os,E,ha,H,K,I⟩;simp_all;rw[E]at j;simp at j;obtain⟨rfl,rfl,rfl⟩:=j;obtain⟨X,M,Q,F,G,v,w,q,-,rfl,rfl⟩:=Bc L 0 i K A;simp at q;rcases I with⟨e,-⟩|⟨-,rfl⟩;omega;simp only[WK,B7,A9]at f k;exact Sw p B _ q g d (C1.1 (C1.1 f.2).2.1).1 (λc e=>by rintro rfl;simp_all)
section
variable {P:Program} {B:Base} {N:Nat} {Z:Type} {U:AE} {a:Act} {w:World} {M:Gh}
theorem sH.own{tm}(h:sH B U N tm w M){n p v r}(L:AA (Ag w M.ov) M.g U.rt (Bh B w M) (.sref n p) v)(D:U.rt n=kd r)(O:CQ r.t r.x p=⟨.list ka e,l⟩):∃s f k,loc (Ag w M.ov) r.t (M.g n) p=kd (.list ka e,s)/\s.rd (Ag w M.ov) 0=kd v/\AM (Ag w M.ov) (.list ka e) (s.rd (Ag w M.ov))=kd (l,f,k)/\AM (Ag w M.ov) (.list ka e) ((Src.one v).rd (Ag w M.ov))=kd (l,f,k)/\(∀c∈k,Bh B w M c)/\(∀q∈f,q∈M.ow n)/\(f.map (·.1)).Nodup/\(∀b o,s=.at b o->b∉f.map (·.1)):=by
 have⟨r',I,s,i,m,C⟩:=L;rw[D]at i;simp at i;subst i;have⟨H,V,F,R,z,k4,k5,k6⟩:=h.sep D;have⟨y,f,k,A,T,S,G,d,a,X,Y⟩:=Cd p r.t _ F m;rw[O]at a;have K:e=I:=by grind
 subst K;have a:=eq_of_heq (Sigma.mk.inj a).2;subst a;have E:∀q∈f,q∈H:=λq P=>by simp_all
 refine⟨s,f,k,m,C,d,AI _ d (λj hj=>?_) (λ_ _ _=>rfl),λc Z=>R c (by simp_all),λq P=>?_,?_,λb o Q=>?_⟩;have u:j=0:=by simp_all[Ty.cells]
 subst u;rw[C];rfl;grind;have:=z.nodup;grind;subst Q;exact Sw p r.t _ F m d z.nodup z.src
theorem Vq{l1 l2:List e.sI}{cs1 cs2 rest:List Value}{n1 n2:Nat}{o1 o2 R1 R2}(a:Ao (λi=>AM m e λj=>cs1[i*e.cells+j]?) n1 0=kd (l1,o1,R1))(g:cs1.length=n1*e.cells)(b:Ao (λi=>AM m e λj=>cs2[i*e.cells+j]?) n2 0=kd (l2,o2,R2))(f:cs2.length=n2*e.cells):Ao (λi=>AM m e λj=>(cs1++(cs2++rest))[i*e.cells+j]?) (n1+n2) 0=kd (C3 l1 l2,o1++o2,R1++R2):=by(have a1:Ao (λi=>AM m e λj=>(cs1++(cs2++rest))[i*e.cells+j]?) n1 0=kd (l1,o1,R1):=by refine AI (.arr n1 e) (show AM m (.arr n1 e) (λj=>cs1[j]?)=_ from a) (rd':=λj=>(cs1++(cs2++rest))[j]?) (λj h=>?_) (λ_ _ _=>rfl);exact A8 (by rw[g];exact h));(have d:Ao (λi=>AM m e λj=>(cs1++(cs2++rest))[i*e.cells+j]?) n2 n1=kd (l2,o2,R2):=by(have c:∀(k i:Nat),i+k<=n2->Ao (λi=>AM m e λj=>(cs1++(cs2++rest))[i*e.cells+j]?) k (n1+i)=Ao (λi=>AM m e λj=>(cs2++rest)[i*e.cells+j]?) k i:=by intro k;induction k with|zero=>intro i _;rfl|succ k p=>(intro i o;have l:(λj=>(cs1++(cs2++rest))[(n1+i)*e.cells+j]?)=λj=>(cs2++rest)[i*e.cells+j]?:=by grind);grind[Ao]);have:=c n2 0 (by omega);rw[Nat.add_zero]at this;rw[this];refine AI (.arr n2 e) (show AM m (.arr n2 e) (λj=>cs2[j]?)=_ from b) (rd':=λj=>(cs2++rest)[j]?) (λj h=>?_) (λ_ _ _=>rfl);exact A8 (by rw[f];exact h));have:=Ve n1 n2 0 a1 (by rw[C2];omega);omega
theorem a5g{cx:Cx}(g:CxTy P cx)(h:mH cx ts.toList=ka):ts[1]?=ke\/∃t2,ts[1]?=kd t2/\(P.underlying t2=kd .string\/∃e,P.underlying t2=kd (.slice e)):=by rw[<-B8];unfold mH at h;split at h;simp_all;rename_i t2 _ k;rw[k];refine .inr ⟨t2,rfl,?_⟩;split at h;rename_i f;obtain⟨e,a,-⟩:=Cj (g.T _ _ f).2;simp_all;rename_i f;exact .inl (Vn (g.T _ _ f).2);simp_all;simp_all
theorem HZ{ty:TypeId}{x:Value}(I:vF P e t')(i:ts[0]?=kd t)(j:P.underlying t=kd (.slice t'))(a:ts[1]?=ke\/∃t2,ts[1]?=kd t2/\(P.underlying t2=kd .string\/∃e,P.underlying t2=kd (.slice e))){c k:Nat}{new:List Value}(g:(Builtin.lenOf x).run P w=.ok k w)(f:(Builtin.firstCells e.cells k x).run P w=.ok new.toArray w)(h:n+k<=c)(m:∀b,A=kd b->(storeCells (b.add (n*e.cells)) new).run P w=.ok () w2)(l:A=ke->w2=w):(Builtin.append_ ts ty #[.slice A n c,x]).run P w=.ok (.slice A (n+k) c) w2:=by(have q:∀A,(A=ke->w2=w)->(∀b,A=kd b->(storeCells (b.add (n*e.cells)) new).run P w=.ok () w2)->(Builtin.append_ ts ty #[.slice A n c,x]).run P w=.ok (.slice A (n+k) c) w2:=by intro A l m;cases A with|none=>(have:=l rfl;subst this;rcases a with a|⟨t2,a,d|⟨p,d⟩⟩;simp[Builtin.append_,i,a,run_underlying j,I.sizeOf,g,h,f];simp[Builtin.append_,i,a,run_underlying j,run_underlying d,I.sizeOf,g,h,f];simp[Builtin.append_,i,a,run_underlying j,run_underlying d,I.sizeOf,g,h,f])|some b=>have o:=m b rfl;rcases a with a|⟨t2,a,d|⟨p,d⟩⟩;simp[Builtin.append_,i,a,run_underlying j,I.sizeOf,g,h,f,o];simp[Builtin.append_,i,a,run_underlying j,run_underlying d,I.sizeOf,g,h,f,o];simp[Builtin.append_,i,a,run_underlying j,run_underlying d,I.sizeOf,g,h,f,o]);simp_all
theorem Nm{ty:TypeId}{x:Value}(I:vF P e t')(l:ts[0]?=kd t)(q:P.underlying t=kd (.slice t'))(d:ts[1]?=ke\/∃t2,ts[1]?=kd t2/\(P.underlying t2=kd .string\/∃e,P.underlying t2=kd (.slice e))){c k:Nat}{old new:List Value}(h:(Builtin.lenOf x).run P w=.ok k w)(g:(Builtin.firstCells e.cells k x).run P w.drew=.ok new.toArray w.drew)(f:(Builtin.firstCells e.cells n (.slice A n c)).run P w.drew=.ok old.toArray w.drew)(u:c<n+k)(j:n+k<2147483648):(Builtin.append_ ts ty #[.slice A n c,x]).run P w=.ok (.slice (kd ⟨w.heap.size,0,ke⟩) (n+k) (grownCap w (n+k) c t')) (w.drew.alloc (.cells (old++(new++(Builtin.zeroCells I.z.cells (grownCap w (n+k) c t'-(n+k))).toList)).toArray t')):=by
 have p:¬ (n+k<=c):=by omega
 have o:Builtin.nextslicecap (n+k) c*I.i.bytes<=281474976710656:=growslice_fits u (by have:=F1 (F4 j) I.bytes;omega);have a:¬ (281474976710656<Builtin.nextslicecap (n+k) c*I.i.bytes):=by omega
 have b:¬ (9223372036854775807<((n:Int)+(k:Int))):=by omega
 have r:∀X Y:Array Value,X.toList=Y.toList->w.drew.alloc (Obj.cells X t')=w.drew.alloc (Obj.cells Y t'):=λX Y e=>by simp_all
 rcases d with d|⟨t2,d,m|⟨v,m⟩⟩;simp[Builtin.append_,l,d,run_underlying q,I.sizeOf,I.typeInfo,I.zeroValue,h,p,g,f,a,b,Question.forced,newRow,grownCap];grind;simp[Builtin.append_,l,d,run_underlying q,run_underlying m,I.sizeOf,I.typeInfo,I.zeroValue,h,p,g,f,a,b,Question.forced,newRow,grownCap];grind;simp[Builtin.append_,l,d,run_underlying q,run_underlying m,I.sizeOf,I.typeInfo,I.zeroValue,h,p,g,f,a,b,Question.forced,newRow,grownCap];grind
theorem dM{t2 ty:TypeId}(I:vF P e t')(j:ts[0]?=kd t)(p:P.underlying t=kd (.slice t'))(l:ts[1]?=kd t2)(m:P.underlying t2=kd (.int .i64))(d:0<e.cells)(o:0<n)(h:n<2147483648):(Builtin.append_ ts ty #[.slice ke 0 0,.int .i64 (n:Int)]).run P w=.ok (.slice (kd ⟨w.heap.size,0,ke⟩) n (grownCap w n 0 t')) (w.drew.alloc (.cells (([]:List Value)++((Builtin.zeroCells I.z.cells n).toList++(Builtin.zeroCells I.z.cells (grownCap w n 0 t'-n)).toList)).toArray t')):=by
 have b:Builtin.nextslicecap n 0*I.i.bytes<=281474976710656:=growslice_fits o (by have:=F1 (F4 h) I.bytes;omega);have hb:n*I.i.bytes<=281474976710656:=D1 (F1 (F4 h) I.bytes) (by simp);have f:¬ (281474976710656<Builtin.nextslicecap n 0*I.i.bytes):=by omega
 have k:¬ (9223372036854775807<(n:Int)):=by omega
 have q:IntKind.i64.wrap (n:Int)=n:=by grind[zN,IntKind.bits]
 have g:¬ ((n:Int)<0):=by omega
 have a:¬ (281474976710656<(n:Int)*(I.i.bytes:Int)):=by omega
 have r:¬ (n*e.cells=0):=by grind[Nat.mul_eq_zero]
 have c:¬ (n=0):=by omega
 simp[Builtin.append_,j,l,run_underlying p,run_underlying m,I.sizeOf,I.typeInfo,I.zeroValue,asInt,asIntOf,q,g,a,r,c,f,k,Question.forced,newRow,grownCap,Builtin.firstCells];exact cG (λX=>w.drew.alloc (Obj.cells X t')) (Array.ext' (by simp))
end
theorem a3n(B:e.sh=e){O R}(h:AM m (.list ka e) ((Src.one v).rd m)=kd (l,O,R)):(v=.slice ke 0 0/\l=[]/\O=[]/\R=[])\/∃b n c,∃cs:List Value,v=.slice (kd b) n c/\(c=0\/b.spot=ke)/\n<=c/\n=l.length/\O=(if c=0 then[]else[(b.block,b.off+c*e.cells)])/\cs.length=n*e.cells/\(∀j u,cs[j]?=kd u->m b.block (b.off+j)=kd u)/\(∀u∈cs,CL u=ka)/\Ao (λi=>AM m e λj=>cs[i*e.cells+j]?) n 0=kd (l,[],R):=by(rcases Da h with⟨k,y,z,A⟩|⟨b,n,c,a,k,hb,o,p,C⟩;simp_all[Src.rd];simp[Src.rd]at k;have g:Ao (λi=>AM m e λj=>m b.block (b.off+(i*e.cells+j))) n 0=kd (l,a,R):=by simp_all[mL]);(have f:a=[]:=by have d:AM m (.arr n e) (λj=>m b.block (b.off+j))=kd (l,a,R):=g;exact PN (by simp_all[Ty.tK]) d);subst f;have⟨cs,q,r,w,x⟩:=Sv g;refine .inr ⟨b,n,c,cs,k,hb,o,(Bb n 0 p).symm,?_,q,r,w,x⟩;grind
theorem lH{m0:Es}{b:Addr}{c:Nat}{cs:List Value}{os R}(hb:c=0\/b.spot=ke)(g:n<=c)(k:n*e.cells<=cs.length)(p:∀j u,j<n*e.cells->cs[j]?=kd u->m b.block (b.off+j)=kd u)(a:Ao (λi=>AM m0 e λj=>cs[i*e.cells+j]?) n 0=kd (l,os,R))(o:∀c∈R,∀j,m c j=m0 c j)(d:∀c∈os.map (·.1),∀j,m c j=m0 c j:=by simp):AM m (.list ka e) ((Src.one (.slice (kd b) n c)).rd m)=kd (l,if c=0 then[]else(b.block,b.off+c*e.cells)::os,R):=by
 have h:AM m (.arr n e) (λj=>m b.block (b.off+j))=kd (l,os,R):=AI (.arr n e) (show AM m0 (.arr n e) (λj=>cs[j]?)=_ from a) (λj f=>by
  have f:j<n*e.cells:=f;grind) (λc j hb=>by
  grind)
 have h:Ao (λi=>AM m e λj=>m b.block (b.off+(i*e.cells+j))) n 0=kd (l,os,R):=h;show CW m ka e.cells (AM m e) (kd (.slice (kd b) n c))=_;simp only[CW];rw[if_pos ⟨hb,g⟩,h]
 simp;split;all_goals simp_all[Ao]
theorem mZ{m:Es}:∀(p:BB)(t:Ty)(s:Src){g s'},loc m t s p=kd (g,s')->p≠[]->∃b o,s'=.at b o|[],_,_,_,_,_,j=>absurd rfl j|.fst::p,t,s,g,s',h,_=>(by obtain⟨a,d,f,k,rfl,rfl,h⟩:=Mc h;cases p with|nil=>simp[CR]at h;grind|cons x p=>exact mZ (x::p) _ _ h (by simp))|.snd::p,t,s,g,s',h,_=>(by obtain⟨a,d,f,k,rfl,rfl,h⟩:=Me h;cases p with|nil=>simp[CR]at h;grind|cons x p=>exact mZ (x::p) _ _ h (by simp))|.idx i::p,t,s,g,s',h,_=>by rcases Lb h with⟨n,q,f,k,rfl,rfl,e,h⟩|⟨q,a,n,c,rfl,l,e,h⟩;(cases p with|nil=>simp[CR]at h;grind|cons x p=>exact mZ (x::p) _ _ h (by simp));cases p with|nil=>simp[CR]at h;grind|cons x p=>exact mZ (x::p) _ _ h (by simp)
theorem Nn(r:Option sK):(U.sD n r).rt n=r:=by simp[AE.sD]
section
variable {P:Program} {B:Base} {N:Nat} {Z:Type} {U:AE} {a:Act} {w:World} {M:Gh}
structure xZ (P:Program) (w:World) (m:Es) (Sh:Nat->Prop) (e:Ty) (ys:List e.sI) (x:Value) where
 cs:List Value
 len:(Builtin.lenOf x).run P w=.ok ys.length w
 size:cs.length=ys.length*e.cells
 one:∀u∈cs,CL u=ka
 R:List Nat
 rd:Ao (λi=>AM m e λj=>cs[i*e.cells+j]?) ys.length 0=kd (ys,[],R)
 shr:∀c∈R,Sh c
 run:(Builtin.firstCells e.cells ys.length x).run P w=.ok cs.toArray w
 drew:(Builtin.firstCells e.cells ys.length x).run P w.drew=.ok cs.toArray w.drew
theorem sH.turn{K:AE->Rs Z}{z:Z}{l':List e.sI}{v':Value}{s R R' O2 R2}(h:sH B U N (AJ a) w M)(hN:a.tmps.size=N)(P:U.look n=kd r)(hl:loc (Ag w M.ov) r.t (M.g n) p=kd (.list ka e,s))(hg:CQ r.t r.x p=⟨.list ka e,l⟩)(hv:s.rd (Ag w M.ov) 0=kd v)(hd:AM (Ag w M.ov) (.list ka e) (s.rd (Ag w M.ov))=kd (l,R,R'))(h4:∀q∈R,q∈M.ow n)(k0:∀b o,s=.at b o->b∉R.map (·.1))(h7:AM (Ag w2 ke) (.list ka e) ((Src.one v').rd (Ag w2 ke))=kd (l',O2,R2))(g5:∀c j,Ag w2 ke c j=Ag w ke c j\/c∈R.map (·.1)\/w.heap.size<=c)(H:∀c∈O2.map (·.1),c∈R.map (·.1)\/w.heap.size<=c)(h0:(O2.map (·.1)).Nodup)(A:∀p∈O2,Cv w2 p.1 p.2)(y:∀c k,Cv w c k->BP M c->Cv w2 c k)(L:w.heap.size<=w2.heap.size)(Y:∀b,b<B.size->¬ B.F b->w2.heap[b]?=B.hp b)(T:∀c∈R2,Bh B w M c)(D:(let u:=((U.sG (AV.kill n p)).sD n (kd ⟨r.bx,r.t,FK r.t r.x p (.list ka e) l'⟩)).set d (.sref n p)
   match p,r.bx with
   | [],kc=>bif A6 (n<pinned)then K u else ke
   |p,_=>match U.pd with
    |none=>K { u with pd:=kd (n,p,d) }
    |some _=>ke)=kd z)(hio:EK w2=EK w:=by first|rfl|assumption):
  ∃u Q,sH B u N (AJ (a.put (kd d) v')) w2 Q/\K u=kd z:=by
 have⟨C,P⟩:=AY P;have k1:=h.sW C;have E:∀c∈R2,c<w2.heap.size/\(B.S c\/B.F c\/B.size<=c)/\¬ BP M c/\c∉O2.map (·.1):=λc I=>by
  have hs:=T c I;refine⟨C0 hs.1 L,hs.2.1,hs.2.2,λg=>?_⟩;rcases H c g with g|g;obtain⟨q,hq,rfl⟩:=B6.1 g;exact hs.2.2 ⟨n,A3 (h4 q hq)⟩
  have:=hs.1;omega
 have top:p=[]->r.bx=kc->∃u Q,sH B u N (AJ (a.put (kd d) v')) w2 Q/\K u=kd z:=by
  intro hp X;subst hp;have⟨bx,t,x⟩:=r;simp only at X;subst X;simp[CQ,Dv]at hg;cases hg;have D:(bif A6 (n<pinned)then K (((U.sG (AV.kill n [])).sD n (kd ⟨kc,.list ka e,FK (.list ka e) l [] (.list ka e) l'⟩)).set d (.sref n []))else ke)=kd z:=D;have⟨h3,D⟩:=(Ah D).elim id λh=>by grind
  have h3:n<pinned:=by simp_all
  have g6:FK (.list ka e) l [] (.list ka e) l'=l':=mM _ _ _;replace D:K (((U.sG (AV.kill n [])).sD n (kd ⟨kc,.list ka e,l'⟩)).set d (.sref n []))=kd z:=by
   simp_all
  have i:=h.top P h3 C (w':=w2) (v':=v') (l':=l') (by grind) (λc j I hn=>by
    grind) (λc I=>(H c I).imp (λg=>by
     grind) id) h0 A y L Y E (f:=AV.kill n []) (λav=>by
    cases av with
    |ptr m q=>
     simp only[AV.kill];by_cases hm:m=n
     ·subst hm;cases q with
      |nil=>simp
      |cons=>left;simp[IF]
     simp_all
    |sref m q=>
     grind[AV.kill,IF]
    |swin m q o k=>
     grind[AV.kill,IF]
    |_=>exact .inr ⟨rfl,λk q G _=>by rcases G with G|G|⟨_,_,G⟩<;>cases G⟩)
  refine⟨_,_,i.uL (sv:=.one (.sref n [])) (v:=v') hN (λ_=>⟨⟨kc,.list ka e,l'⟩,e,.one v',Nn _,?_,rfl⟩),D⟩;show kd (_,if n=n then Src.one v' else _)=_
  simp
 have g0:(∃b o,s=.at b o)->K { (((U.sG (AV.kill n p)).sD n (kd ⟨r.bx,r.t,FK r.t r.x p (.list ka e) l'⟩)).set d (.sref n p))with pd:=kd (n,p,d) }=kd z->
   ∃u Q,sH B u N (AJ (a.put (kd d) v')) w2 Q/\K u=kd z:=by
  rintro⟨b,o,rfl⟩ D;have hb:=h.place P hl;have V:BP M b:=⟨n,hb⟩;have g4:=h.lt V;have g2:b∉O2.map (·.1):=λg=>by
   grind
  have g3:b∉R2:=λg=>(T b g).2.2 V;have h9:∀c j,c≠b->Ag w2 (kd (b,o,v')) c j=Ag w2 ke c j:=λc j I=>by
   simp_all[Ag]
  have h8:AM (Ag w2 (kd (b,o,v'))) (.list ka e) ((Src.at b o).rd (Ag w2 (kd (b,o,v'))))=kd (l',O2,R2):=AI _ h7 (λj hj=>by
   simp_all[Ty.cells,Src.rd,Ag]) (λc j I=>h9 c j λe=>by
    simp_all)
  have⟨k3,k2,i⟩:=h.zI P hl hd (w':=w2) (ov':=kd (b,o,v')) (pd':=kd (n,p,d)) (.new d v' e C rfl) h8 (λc j=>by
    by_cases I:c=b/\j=o;simp_all[Ty.cells];have e1:Ag w2 (kd (b,o,v')) c j=Ag w2 ke c j:=by
     simp_all[Ag]
    grind) H h0 A y L Y E (f:=AV.kill n p) (λav=>Yk n p _ av)
  have⟨g1,h5,G,h2⟩:=i.pend;exact⟨_,_,i.uL (sv:=.one (.sref n p)) (v:=v') hN (λ_=>⟨g1,h5,.at b o,G,h2,by simp[Src.rd,Ag]⟩),D⟩
 cases p with
 |nil=>
  cases hb:r.bx with
  |false=>
   simp_all
  |true=>
   have O:(match U.pd with
    |none=>K { (((U.sG (AV.kill n [])).sD n (kd ⟨r.bx,r.t,FK r.t r.x [] (.list ka e) l'⟩)).set d (.sref n []))with pd:=kd (n,[],d) }
    |some _=>ke)=kd z:=by
    simp_all
   rw[C]at O;refine g0 ?_ O;simp[CR]at hl;obtain⟨g7,g9,-,-,-,-,-,h6⟩:=h.sep P;grind
 |cons x p=>
  have O:(match U.pd with
   |none=>K { (((U.sG (AV.kill n (x::p))).sD n (kd ⟨r.bx,r.t,FK r.t r.x (x::p) (.list ka e) l'⟩)).set d (.sref n (x::p)))with pd:=kd (n,x::p,d) }
   |some _=>ke)=kd z:=D
  grind[mZ]
theorem KB(b:Nat):∀(h:List Value)(o:Nat)(w:World),EK (w.setCells b o h)=EK w|[],_,_=>rfl|v::r,o,w=>(KB b r (o+1) (w.setCell ⟨b,o,ke⟩ v)).trans rfl
theorem Tt{z:Array Value}(n:Nat):Builtin.zeroCells z n=madeCells z (n*z.size):=rfl
theorem b1A(he:e.sh=e){ty:TypeId}(I:vF P e t')(h0:ts[0]?=kd t)(H:P.underlying t=kd (.slice t'))(h1:ts[1]?=ke\/∃t2,ts[1]?=kd t2/\(P.underlying t2=kd .string\/∃e,P.underlying t2=kd (.slice e))){s x:Value}{K:AE->Rs Z}{z:Z}(h:sH B U N (AJ a) w M)(hN:a.tmps.size=N)(h7:AA (Ag w M.ov) M.g U.rt (Bh B w M) av s)(Y:xZ P w (Ag w M.ov) (Bh B w M) e ys x)(D:U.uD q d e av ys K=kd z):
  ∃v w' T M',(Builtin.append_ ts ty #[s,x]).run P w=.ok v w'/\sH B T N (AJ (a.put (kd d) v)) w' M'/\K T=kd z:=by

 have k8:∀(l:List e.sI)(n:Nat)(cs:List Value)(R:List Nat)(k0:List Value),cs.length=n*e.cells->Ao (λi=>AM (Ag w M.ov) e λj=>cs[i*e.cells+j]?) n 0=kd (l,[],R)->
   Ao (λi=>AM (Ag w M.ov) e λj=>(cs++(Y.cs++k0)).toArray[i*e.cells+j]?) (n+ys.length) 0=kd (C3 l ys,[],R++Y.R):=by
  intro l n cs R k0 hl E;simp only[C7];exact Vq E hl Y.rd Y.size
 have a6:∀k,(Builtin.zeroCells I.z.cells k).size=k*e.cells:=λk=>by rw[Tt,size_madeCells,I.uY]
 have b9:∀A:Option Addr,s=.slice A 0 0->(bif BM ys.length then U.fresh q d ⟨kc,.list ka e,ys⟩ λU=>K (U.set d (.sref d []))else ke)=kd z->
   ∃v w' T M',(Builtin.append_ ts ty #[s,x]).run P w=.ok v w'/\sH B T N (AJ (a.put (kd d) v)) w' M'/\K T=kd z:=by
  intro A hs D;subst hs;have⟨h3,D⟩:BM ys.length=ka/\_:=(Ah D).elim id λh=>by grind
  simp[BM]at h3;by_cases hk:ys.length=0
  ·have k9:Y.cs=[]:=A7.1 (by rw[Y.size,hk];omega);have hy:ys=[]:=A7.1 hk;have o:=HZ (P:=P) (w2:=w) (ty:=ty) I h0 H h1 (A:=A) (n:=0) (c:=0) Y.len Y.run (by omega) (λb _=>by rw[k9];rfl) (λ_=>rfl);have⟨T,M',g1,g2,g3,g4,g5,g6⟩:=h.fresh D (λ_ _=>rfl) (B4 _) (s:=.one (.slice A (0+ys.length) 0)) (O:=[]) (by simp) (by simp) (by simp) ⟨[],[],by
    show CW (Ag w M.ov) ka e.cells (AM (Ag w M.ov) e) (kd (.slice A (0+ys.length) 0))=kd (ys,[],[]);rw[hk,hy];cases A with
    |none=>rfl
    |some b=>rfl,by simp,.inr ⟨rfl,⟨_,rfl⟩,⟨e,rfl⟩,rfl⟩⟩
   exact⟨_,w,_,M',o,g2.uL (sv:=.one (.sref d [])) hN (λ_=>⟨_,e,_,g3,by rw[g4];rfl,rfl⟩),g1⟩
  have h5:(Builtin.firstCells e.cells 0 (.slice A 0 0)).run P w.drew=.ok ([]:List Value).toArray w.drew:=by
   have:=PD (P:=P) (w:=w) (w2:=w.drew) (e:=e) (v:=.slice A 0 0) (cs:=[]) rfl (λ_=>rfl) (by simp) (by simp) (λ_=>rfl) 0 (by omega)
   simp_all
  have o:=Nm (P:=P) (w:=w) (ty:=ty) I h0 H h1 (A:=A) (n:=0) (c:=0) Y.len Y.drew h5 (by omega) (by omega);have hg:=grownCap_ge w (0+ys.length) 0 t';obtain⟨T,M',g1,g2,g3,-,-⟩:=h.uU (c:=grownCap w (0+ys.length) 0 t') D (λc E=>BF (w:=w.drew) _ c E) (BZ (w:=w.drew) _)
   (Bv (w:=w.drew) (Obj.cells (([]:List Value)++(Y.cs++(Builtin.zeroCells I.z.cells (grownCap w (0+ys.length) 0 t'-(0+ys.length))).toList)).toArray t')) (.inl rfl) (by
    have:(([]:List Value)++(Y.cs++(Builtin.zeroCells I.z.cells (grownCap w (0+ys.length) 0 t'-(0+ys.length))).toList)).length=grownCap w (0+ys.length) 0 t'*e.cells:=by
     simp only[E9,lN,Y.size,E5,a6];rw[<-C5];simp_all
    simp_all) (by omega) (by
    have:=k8 [] 0 [] [] (Builtin.zeroCells I.z.cells (grownCap w (0+ys.length) 0 t'-(0+ys.length))).toList (by simp) rfl
    simp_all) Y.shr
  refine⟨_,_,_,M',o,g2.uL (sv:=.one (.sref d [])) hN (λ_=>?_),g1⟩;rw[C2]at g3|-;exact g3
 unfold AE.uD at D;split at D;have h7:s=.slice ke 0 0:=h7;simp_all;have⟨A,hv⟩:=h7;simp_all
 ·rename_i n p;obtain⟨-,D⟩:q=kc/\_:=by
   by_cases hq:q;rw[hq]at D;simp at D;exact⟨by simp_all,(Ah D).elim (λh=>absurd h.1 hq) (·.2)⟩
  split at D
  ·rename_i r hr;have⟨b6,b7⟩:=AY hr;have g0:=h.sW b6;split at D
   ·rename_i e' l hg;split at D
    ·rename_i b3;subst b3;have⟨h3,D⟩:BM (C4 l+ys.length)=ka/\_:=(Ah D).elim id λh=>by grind
     simp[BM]at h3;have⟨s',O',R',f1,f2,f3,f4,f5,f6,f7,f8⟩:=h.own h7 b7 hg;have g7:∀c∈R'++Y.R,Bh B w M c:=λc E=>(mA.1 E).elim (f5 c) (Y.shr c);have k6:∀c∈O'.map (·.1),BP M c:=λc E=>by
      obtain⟨q,hq,rfl⟩:=B6.1 E;exact⟨n,A3 (f6 q hq)⟩

     have g9:∀(A:Option Addr)(f c:Nat)(cs:List Value),s=.slice A f c->f=C4 l->cs.length=f*e.cells->(∀b,A=kd b->∀j u,cs[j]?=kd u->w.cell? (b.add j)=kd u)->(A=ke->f=0)->
       Ao (λi=>AM (Ag w M.ov) e λj=>cs[i*e.cells+j]?) f 0=kd (l,[],R')->c<f+ys.length->
       ∃v w' T M',(Builtin.append_ ts ty #[s,x]).run P w=.ok v w'/\sH B T N (AJ (a.put (kd d) v)) w' M'/\K T=kd z:=by
      intro A f c cs hs a4 F C k5 Q b4;subst hs;have h5:(Builtin.firstCells e.cells f (.slice A f c)).run P w.drew=.ok cs.toArray w.drew:=by
       have:=PD (P:=P) (w:=w) (w2:=w.drew) (e:=e) (v:=.slice A f c) (cs:=cs) rfl (λ_=>rfl) F C k5 f (B4 _)
       grind
      have o:=Nm (P:=P) (w:=w) (ty:=ty) I h0 H h1 (A:=A) (n:=f) (c:=c) Y.len Y.drew h5 b4 (by omega);have k4:=grownCap_ge w (f+ys.length) c t';generalize hw2:w.drew.alloc _=w2 at o;generalize hgc:grownCap w (f+ys.length) c t'=gc at o k4;have h6:∀c,c<w.heap.size->w2.heap[c]?=w.heap[c]?:=λc E=>by rw[<-hw2];exact BF (w:=w.drew) _ c E
      have G:=Bv (w:=w.drew) (.cells (cs++(Y.cs++(Builtin.zeroCells I.z.cells (gc-(f+ys.length))).toList)).toArray t');have G:w2.heap[w.heap.size]?=kd (.cells (cs++(Y.cs++(Builtin.zeroCells I.z.cells (gc-(f+ys.length))).toList)).toArray t'):=by
       rw[<-hw2,hgc];simp_all
      have a5:w.heap.size<=w2.heap.size:=by grind
      have a2:(cs++(Y.cs++(Builtin.zeroCells I.z.cells (gc-(f+ys.length))).toList)).length=gc*e.cells:=by
       simp[F,Y.size,a6];rw[<-C5,<-C5];grind
      have h2:=lH (m:=Ag w2 ke) (m0:=Ag w M.ov) (b:=⟨w.heap.size,0,ke⟩) (n:=f+ys.length) (c:=gc) (cs:=cs++(Y.cs++(Builtin.zeroCells I.z.cells (gc-(f+ys.length))).toList)) (.inr rfl) k4 (by
        rw[a2];exact D3 _ k4) (λj u _ H=>by
        simp only[Ag,C2,World.cell?,G];grind) (by
        have:=k8 l f cs R' (Builtin.zeroCells I.z.cells (gc-(f+ys.length))).toList F Q
        simpa only[C7]using this) (λc E j=>by
        rw[g0];exact BV ke (h6 c (g7 c E).1) j)
      have a3:gc≠0:=by omega
      rw[if_neg a3]at h2;have k3:∀c k,Cv w c k->Cv w2 c k:=λc k hf=>by
       have⟨cc,e1,lo,hi,g1,g2⟩:=hf;exact⟨cc,e1,lo,hi,by grind,g2⟩
      have⟨T,M',k1,k2⟩:=h.turn (w2:=w2) hN hr f1 hg f2 f3 f6 f8 h2 (λc j=>by
        grind[BV]) (λc E=>by
        grind) (by simp) (λp hp=>by
        simp only[List.mem_singleton]at hp;subst hp;exact⟨_,t',0,0,G,by grind,.inl rfl⟩) (λc k hf _=>k3 c k hf) a5 (λb hb hF=>by
        have:=h.size
        rw[h6 b (by omega)];exact h.frame b hb hF) g7 D (hio:=by rw[<-hw2];rfl)
      grind
     rcases a3n he f4 with⟨hs,b5,c0,a8⟩|⟨b,f,c,cs,hs,hb,c2,a4,hO,F,C,b8,Q⟩;by_cases hk:ys.length=0;have k9:Y.cs=[]:=A7.1 (by rw[Y.size,hk];omega);have hy:ys=[]:=A7.1 hk;have o:=HZ (P:=P) (w2:=w) (ty:=ty) I h0 H h1 (A:=ke) (n:=0) (c:=0) Y.len Y.run (by omega) (λb hb=>by grind) (λ_=>rfl);subst hs;have⟨T,M',k1,k2⟩:=h.turn (w2:=w) (v':=.slice ke (0+ys.length) 0) (O2:=[]) (R2:=[]) (l':=C3 l ys) hN hr f1 hg f2 f3 f6 f8 (by
       grind[C3]) (λc j=>.inl rfl) (by simp) (by simp) (by simp) (λ_ _ hf _=>hf) (B4 _) h.frame (by simp) D
     grind;exact g9 ke 0 0 [] hs (by grind) (by simp) (by simp) (λ_=>rfl) (by rw[b5,a8];rfl) (by omega)
     ·have h8:∀b',kd b=kd b'->∀j u,cs[j]?=kd u->w.cell? (b'.add j)=kd u:=λb' V j u H=>by
       simp at V;subst V;have b0:c≠0:=λe0=>by
        grind
       rw[Vm (hb.resolve_left b0)]
       have:=C j u H
       rw[g0]at this;exact this
      by_cases hfit:f+ys.length<=c
      ·
       let w2:=w.setCells b.block (b.off+f*e.cells) Y.cs
       have h4:c≠0->Cv w b.block (b.off+c*e.cells):=λE=>h.live n (b.block,b.off+c*e.cells) (f6 _ (by grind));have k7:Y.cs≠[]->c≠0/\b.off+f*e.cells+Y.cs.length<=b.off+c*e.cells:=λy=>by
        have:ys.length≠0:=λe0=>y (A7.1 (by rw[Y.size,e0];omega))
        refine⟨by omega,?_⟩
        have:=D3 e.cells hfit
        rw[C5,<-Y.size]at this;omega
       have a7:(storeCells (b.add (f*e.cells)) Y.cs).run P w=.ok () w2:=by
        by_cases y:Y.cs=[];simp[w2,y];rfl;have⟨E,c1⟩:=k7 y;rw[Gm (hb.resolve_left E)]
        have:=run_storeCells_cells (P:=P) b.block (b.off+f*e.cells) Y.cs 0 w (λj hj=>((h4 E).cell (by omega)).1) (λj hj=>((h4 E).cell (by omega)).2) (λu H=>Ld (Y.one u H))
        omega
       have h9:∀L j,w2.cell? ⟨L,j,ke⟩=if L=b.block/\b.off+f*e.cells<=j/\j<b.off+f*e.cells+Y.cs.length then Y.cs[j-(b.off+f*e.cells)]? else w.cell? ⟨L,j,ke⟩:=λL j=>by
        by_cases y:Y.cs=[];simp only[w2,y,World.setCells,E3];grind;grind[KA]
       have o:=HZ (P:=P) (w2:=w2) (ty:=ty) I h0 H h1 (A:=kd b) (n:=f) (c:=c) Y.len Y.run hfit (λb' V=>by
        grind) (λhn=>by grind)
       have S:∀L,L≠b.block->w2.heap[L]?=w.heap[L]?:=λL X=>ET _ _ _ _ _ X;have a9:Y.cs≠[]->b.block∈O'.map (·.1):=λy=>by grind
       have h2:=lH (m:=Ag w2 ke) (m0:=Ag w M.ov) (b:=b) (n:=f+ys.length) (c:=c) (cs:=cs++(Y.cs++[])) (l:=C3 l ys) (R:=R'++Y.R) hb hfit (by
         simp only[lN,F,Y.size,E3];grind) (λj u hj H=>by
         simp only[Ag,h9];by_cases hj2:j<f*e.cells;rw[if_neg (by omega)];rw[A8 (by omega)]at H
         have:=C j u H
         rw[g0]at this;exact this;rw[C5,<-Y.size]at hj;rw[if_pos ⟨trivial,by omega,by omega⟩];rw[B9 (by omega),G5,F]at H;rw[<-H];congr 1;omega) (by
         have:=k8 l f cs R' [] F Q
         simpa only[C7]using this) (λL X j=>by
         rw[g0];by_cases y:Y.cs=[];grind[World.setCells];exact BV ke (S L λe1=>(g7 L X).2.2 (by grind)) j)
       rw[<-hO]at h2;subst hs;have⟨T,M',k1,k2⟩:=h.turn (w2:=w2) hN hr f1 hg f2 f3 f6 f8 h2 (λL j=>by
         grind[World.setCells,BV]) (λL X=>.inl X) f7 (λp hp=>(h.live n p (f6 p hp)).setCells _ _ _) (λ_ _ hf _=>hf.setCells _ _ _) (by rw[Iu];simp) (λb' V hF=>by
         by_cases y:Y.cs=[];simp[w2,y,World.setCells];exact h.frame b' V hF
         ·rw[S b' ?_];exact h.frame b' V hF
          ·rintro rfl;rcases h.mine _ (k6 _ (a9 y))with g|g;all_goals grind) g7 D (hio:=KB _ _ _ _)
       grind
      exact g9 (kd b) f c cs hs a4 F h8 (by simp) Q (by omega)
    simp_all
   simp_all
  simp_all
 simp_all
end
theorem b0j{O R}(h:AM m (.list ka e) ((Src.one v).rd m)=kd (l,O,R)):∃A n c,∃cs:List Value,∃os,v=.slice A n c/\n=l.length/\n<=c/\cs.length=n*e.cells/\(∀u∈cs,CL u=ka)/\Ao (λi=>AM m e λj=>cs[i*e.cells+j]?) n 0=kd (l,os,R)/\(∀b,A=kd b->(c=0\/b.spot=ke)/\O=(if c=0 then[]else(b.block,b.off+c*e.cells)::os)/\∀j u,cs[j]?=kd u->m b.block (b.off+j)=kd u)/\(A=ke->c=0)/\(c=0->O=[]/\os=[]/\R=[]):=by
 rcases Da h with⟨f,rfl,rfl,rfl⟩|⟨b,n,c,os,f,hb,p,q,B⟩;simp[Src.rd]at f;exact⟨ke,0,0,[],[],f,rfl,B4 _,by simp,by simp,rfl,by simp,λ_=>rfl,λ_=>⟨rfl,rfl,rfl⟩⟩;simp[Src.rd]at f;have a:Ao (λi=>AM m e λj=>m b.block (b.off+(i*e.cells+j))) n 0=kd (l,os,R):=by simp_all[mL]
 have⟨cs,r,C,w,x⟩:=Sv a;have d:c=0->os=[]/\R=[]:=λk=>by simp_all[Ao]
 have z:O=if c=0 then[]else(b.block,b.off+c*e.cells)::os:=by grind
 exact⟨kd b,n,c,cs,os,f,(Bb n 0 q).symm,p,r,w,x,λy o=>by simp_all,λg=>(by grind),λk=>⟨by simp_all,(d k).1,(d k).2⟩⟩
section
variable {P:Program} {B:Base} {N:Nat} {Z:Type} {U:AE} {a:Act} {w:World} {M:Gh}
theorem sH.one{tm}(h:sH B U N tm w M){n}(d:U.rt n=kd ⟨kc,.list ka e,l⟩):∃v R,M.g n=.one v/\AM (Ag w M.ov) (.list ka e) ((Src.one v).rd (Ag w M.ov))=kd (l,M.ow n,R)/\∀c∈R,Bh B w M c:=by obtain⟨i,R,f,a,-,-,-,b⟩:=h.sep d;rcases b with⟨g,-⟩|⟨-,⟨v,k⟩,-,hO⟩;grind;rw[k]at f;exact⟨v,R,k,by rw[hO];exact f,a⟩
theorem nC{m:Nat}{es:Ty}(e4:e.sh=es){ty:TypeId}(I:vF P es t')(h0:ts[0]?=kd t)(hu:P.underlying t=kd (.slice t'))(h1:ts[1]?=ke\/∃t2,ts[1]?=kd t2/\(P.underlying t2=kd .string\/∃e,P.underlying t2=kd (.slice e))){s x:Value}{K:AE->Rs Z}{z:Z}(h:sH B U N (AJ a) w M)(hN:a.tmps.size=N)(e6:M.g n=.one s)(e5:M.g m=.one x)(hm:U.rt m=kd ⟨kc,.list ka e,ys⟩)(hz:U.wZ d m e ys n K=kd z):
  ∃v w' U' M',(Builtin.append_ ts ty #[s,x]).run P w=.ok v w'/\sH B U' N (AJ (a.put (kd d) v)) w' M'/\K U'=kd z:=by
 have a8:es.cells=e.cells:=by rw[<-e4,Ty.sU]
 unfold AE.wZ at hz;split at hz;rotate_left;cases hz;rename_i e' l hl;split at hz;rotate_left;cases hz;rename_i e3;subst e3;have⟨c7,hr⟩:=AY hl;have⟨C,hz⟩:=(Ah hz).elim id λh=>by cases h.2
 simp only[HC,BM,dT,E6,beq_eq_false_iff_ne]at C;have⟨⟨f7,h3⟩,hlim⟩:=C;have h9:=h.sW c7;have⟨s',Rn,g1,g2,g3⟩:=h.one hr;rw[e6]at g1;cases g1;have⟨x',Rm,f1,f2,f3⟩:=h.one hm;rw[e5]at f1;cases f1;have⟨An,S,cn,g0,h7,hs,f4,f6,k4,i3,f9,a5,g5,k5⟩:=b0j g2;have⟨Am,k0,cm,r,h6,hx,f0,c6,X,i0,c8,g9,h8,b5⟩:=b0j f2;subst hs;subst hx;have c9:∀{A:Option Addr}{cs:List Value}{c:Nat}{O os:Dw},(∀b,A=kd b->(c=0\/b.spot=ke)/\O=(if c=0 then[]else(b.block,b.off+c*e.cells)::os)/\∀j u,cs[j]?=kd u->Ag w M.ov b.block (b.off+j)=kd u)->(∃n,cs.length=n*e.cells/\n<=c)->
   ∀b,A=kd b->∀j u,cs[j]?=kd u->w.cell? (b.add j)=kd u:=λ{A cs c O os} hA ⟨n,hl,k7⟩ b hb j u hu=>by
  obtain⟨q1,-,q2⟩:=hA b hb;have a7:c≠0:=λe0=>by
   have:=(lS.1 hu).1
   rw[hl,show n=0 from by omega,Nat.zero_mul]at this;omega
  rw[Vm (q1.resolve_left a7)]
  have:=q2 j u hu
  rw[h9]at this;exact this
 have g7:∀(w2:World),(∀x,w2.cell? x=w.cell? x)->∀{A:Option Addr}{cs:List Value}{n c:Nat}{O os:Dw},(∀b,A=kd b->(c=0\/b.spot=ke)/\O=(if c=0 then[]else(b.block,b.off+c*e.cells)::os)/\∀j u,cs[j]?=kd u->Ag w M.ov b.block (b.off+j)=kd u)->
   cs.length=n*e.cells->n<=c->(A=ke->c=0)->(Builtin.firstCells es.cells n (.slice A n c)).run P w2=.ok cs.toArray w2:=λw2 hw A cs n c O os hA hl k7 h0=>by
  have:=PD (P:=P) (w:=w) (w2:=w2) (e:=e) (v:=.slice A n c) rfl hw hl (c9 hA ⟨n,hl,k7⟩) (λg=>by have:=h0 g;omega) n (B4 _)
  rw[<-hl,F8]at this;rw[a8];exact this
 have k8:(Builtin.lenOf (.slice Am k0 cm)).run P w=.ok k0 w:=rfl;have a2:∀b9,Ao (λi=>AM (Ag w M.ov) e λj=>(g0++(r++b9))[i*e.cells+j]?) (S+k0) 0=kd (C3 l ys,h7++h6,Rn++Rm):=λb9=>Vq f9 k4 c8 X;have a4:∀p∈h7,p∈M.ow n:=λp D=>by
  by_cases e0:cn=0;rw[(k5 e0).2.1]at D;cases D
  ·cases hA:An with
   |none=>exact absurd (g5 hA) e0
   |some b=>rw[(a5 b hA).2.1,if_neg e0];exact A4 _ D
 have h5:∀p∈h6,p∈M.ow m:=λp D=>by
  by_cases e0:cm=0;rw[(b5 e0).2.1]at D;cases D
  ·cases hA:Am with
   |none=>exact absurd (h8 hA) e0
   |some b=>rw[(g9 b hA).2.1,if_neg e0];exact A4 _ D
 have b3:∀p∈h7++h6,p∈M.ow n\/p∈M.ow m:=λp D=>(mA.1 D).imp (a4 p) (h5 p);have b7:∀c∈(h7++h6).map (·.1),BP M c:=λc C=>by
  obtain⟨p,D,rfl⟩:=B6.1 C;rcases b3 p D with g|g;exact⟨n,A3 g⟩;exact⟨m,A3 g⟩
 have d5:(h7.map (·.1)).Nodup:=by
  have:=h.nodup n
  by_cases e0:cn=0;rw[(k5 e0).2.1];simp
  ·cases hA:An with
   |none=>exact absurd (g5 hA) e0
   |some b=>rw[(a5 b hA).2.1,if_neg e0]at this;exact(A9.1 this).2
 have d4:(h6.map (·.1)).Nodup:=by
  have:=h.nodup m
  by_cases e0:cm=0;rw[(b5 e0).2.1];simp
  ·cases hA:Am with
   |none=>exact absurd (h8 hA) e0
   |some b=>rw[(g9 b hA).2.1,if_neg e0]at this;exact(A9.1 this).2
 have d3:((h7++h6).map (·.1)).Nodup:=by
  rw[WK];refine C1.2 ⟨d5,d4,λc C L Q e=>?_⟩;subst e;obtain⟨p,D,rfl⟩:=B6.1 C;have⟨p',f8,e⟩:=B6.1 Q;exact h.sQ n m h3 p.1 (A3 (a4 p D)) (by rw[<-e];exact A3 (h5 p' f8))
 have a3:∀c∈Rn++Rm,Bh B w M c:=λc C=>(mA.1 C).elim (g3 c) (f3 c)

 have c0:∀{w2:World}{v':Value}{O2:Dw},AM (Ag w2 ke) (.list ka e) ((Src.one v').rd (Ag w2 ke))=kd (C3 l ys,O2,Rn++Rm)->
   (∀c j,c<w.heap.size->c∉(M.ow n).map (·.1)->Ag w2 ke c j=Ag w ke c j)->(∀c∈O2.map (·.1),(c∈(M.ow n).map (·.1)\/c∈(M.ow m).map (·.1))\/w.heap.size<=c)->(O2.map (·.1)).Nodup->
   (∀p∈O2,Cv w2 p.1 p.2)->(∀c k,Cv w c k->BP M c->Cv w2 c k)->w.heap.size<=w2.heap.size->(∀b,b<B.size->¬ B.F b->w2.heap[b]?=B.hp b)->EK w2=EK w->
   ∃U' M',sH B U' N (AJ (a.put (kd d) v')) w2 M'/\K U'=kd z:=by
  intro w2 v' O2 q1 q2 q3 q4 q5 q6 q7 q8 q9;have b8:=h.yY (w':=w2) (v':=v') (l':=C3 l ys) (O2:=O2) (R2:=Rn++Rm) (G:=λj=>j==m) hr f7 c7 (by simpa using h3) (by rw[h9];exact q1) (λc j c1 c2 _=>by rw[h9];exact q2 c j c1 c2)
   (λc C=>(q3 c C).imp (λg=>g.imp id λg=>⟨m,by simp,g⟩) id) q4 q5 q6 q7 q8 (λc C=>by
    have hs:=a3 c C;refine⟨C0 hs.1 q7,hs.2.1,hs.2.2,λg=>?_⟩;rcases q3 c g with(g|g)|g;exact hs.2.2 ⟨n,g⟩;exact hs.2.2 ⟨m,g⟩
    have:=hs.1;omega) (f:=λav=>(av.kill n []).drop m) (λav=>by
    have d7:(∀k q,(av=.ptr k q\/av=.sref k q\/∃o l,av=.swin k q o l)->False)->(av.kill n []).drop m=av->(av.kill n []).drop m=.dead\/((av.kill n []).drop m=av/\∀k q,(av=.ptr k q\/av=.sref k q\/∃o l,av=.swin k q o l)->(k=n->av=.ptr n [])/\(k==m)=kc):=
     λh1 h2=>.inr ⟨h2,λk q hk=>(h1 k q hk).elim⟩
    cases av with
    |sref k q=>
     by_cases E:k=n;left;simp[AV.kill,AV.drop,E,IF];by_cases e2:k=m;left;simp[AV.kill,AV.drop,e2,Ne.symm h3];right;simp[AV.kill,AV.drop,E,e2]
    |swin k q o l=>
     by_cases E:k=n;left;simp[AV.kill,AV.drop,E,IF];by_cases e2:k=m;left;simp[AV.kill,AV.drop,e2,Ne.symm h3];right;simp[AV.kill,AV.drop,E,e2]
    |ptr k q=>
     by_cases e2:k=m;left;by_cases E:k=n;exact absurd (E.symm.trans e2) h3;simp[AV.kill,AV.drop,e2,Ne.symm h3]
     ·by_cases E:k=n
      ·cases q with
       |nil=>right;simp[AV.kill,AV.drop,E,h3,IF]
       |cons=>left;simp[AV.kill,AV.drop,E,IF]
      right;simp[AV.kill,AV.drop,E,e2]
    |_=>exact d7 (by rintro k q (g|g|⟨_,_,g⟩)<;>cases g) rfl) q9
  have d8:(⟨(U.sG λav=>(av.kill n []).drop m).sl,λj=>if j=n then kd ⟨kc,.list ka e,C3 l ys⟩else bif j==m then ke else U.rt j,ke⟩:AE) =
    (((U.sG (AV.kill n [])).sG (AV.drop m)).sD m ke).sD n (kd ⟨kc,.list ka e,C3 l ys⟩):=by
   simp only[AE.sD,AE.sG,c7];congr 1;funext j;cases U.sl j<;>simp[SV.sG];funext j;by_cases E:j=n;simp[E];have e2:(j==n)=kc:=by simpa using E
   simp[E,e2]
  rw[d8]at b8;refine⟨_,_,b8.uL (sv:=.one (.sref n [])) (v:=v') hN (λ_=>⟨_,e,.one v',Nn _,?_,rfl⟩),hz⟩;show kd (_,if n=n then Src.one v' else _)=_
  rw[if_pos rfl]
 by_cases hfit:S+k0<=cn
 ·cases hA:An with
  |none=>
   have a7:=g5 hA;have c5:k0=0:=by omega
   have d2:S=0:=by omega
   have e9:C3 l ys=[]:=by
    have E:l=[]:=A7.1 (by omega);have e2:ys=[]:=A7.1 (by omega);rw[E,e2];rfl
   have i2:r=[]:=A7.1 (by rw[X,c5];omega);have d9:Rm=[]:=by
    subst c5;simp only[Ao,sj,pJ]at c8;exact c8.2.2.symm
   have V:=HZ (P:=P) (w:=w) (w2:=w) (ty:=ty) (A:=ke) (n:=S) (c:=cn) (k:=k0) (new:=r) I h0 hu h1 k8 (g7 w (λ_=>rfl) g9 X c6 h8) hfit (λb hb=>by cases hb) (λ_=>rfl);have⟨U',M',k1,k2⟩:=c0 (w2:=w) (v':=.slice ke (S+k0) cn) (O2:=[]) (by
    rw[e9,c5,d2,a7,(k5 a7).2.2,d9];rfl) (λ_ _ _ _=>rfl) (by simp) (by simp) (by simp) (λ_ _ hf _=>hf) (B4 _) h.frame rfl
   exact⟨_,w,U',M',V,k1,k2⟩
  |some b=>
   have⟨hb,hO,c3⟩:=a5 b hA;have⟨w2,H⟩:∃w2,w2=w.setCells b.block (b.off+S*e.cells) r:=⟨_,rfl⟩;have g4:cn≠0->Cv w b.block (b.off+cn*e.cells):=λC=>h.live n (b.block,b.off+cn*e.cells) (by rw[hO,if_neg C];simp);have h4:r≠[]->cn≠0/\b.off+S*e.cells+r.length<=b.off+cn*e.cells:=λy=>by
    have:k0≠0:=λe0=>y (A7.1 (by rw[X,e0];omega))
    refine⟨by omega,?_⟩
    have:=D3 e.cells hfit
    rw[C5,<-X]at this;omega
   have b4:(storeCells (b.add (S*es.cells)) r).run P w=.ok () w2:=by
    rw[a8,H];by_cases y:r=[];simp only[y];rfl;have⟨C,k7⟩:=h4 y;rw[Gm (hb.resolve_left C)]
    have:=run_storeCells_cells (P:=P) b.block (b.off+S*e.cells) r 0 w (λj hj=>((g4 C).cell (by omega)).1) (λj hj=>((g4 C).cell (by omega)).2) (λu hu=>Ld (i0 u hu))
    simpa using this
   have a9:∀L j,w2.cell? ⟨L,j,ke⟩=if L=b.block/\b.off+S*e.cells<=j/\j<b.off+S*e.cells+r.length then r[j-(b.off+S*e.cells)]? else w.cell? ⟨L,j,ke⟩:=λL j=>by
    rw[H];by_cases y:r=[];simp only[y,World.setCells,E3];rw[if_neg (by omega)];have⟨C,k7⟩:=h4 y;exact KA _ _ _ w _ (g4 C) k7 L j
   have V:=HZ (P:=P) (w:=w) (w2:=w2) (ty:=ty) (A:=kd b) (n:=S) (c:=cn) (k:=k0) (new:=r) I h0 hu h1 k8 (g7 w (λ_=>rfl) g9 X c6 h8) hfit (λb' k3=>by
    simp only[sj]at k3;subst k3;exact b4) (λhn=>by cases hn)
   have g6:∀L,L≠b.block->w2.heap[L]?=w.heap[L]?:=λL Q=>by rw[H];exact ET _ _ _ _ _ Q
   have a6:r≠[]->b.block∈(M.ow n).map (·.1):=λy=>by rw[hO,if_neg (h4 y).1];simp
   have k9:∀L,(r≠[]->L≠b.block)->∀j,Ag w2 ke L j=Ag w M.ov L j:=λL Q j=>by
    rw[h9];by_cases y:r=[];rw[H,y];rfl;exact BV ke (g6 L (Q y)) j
   have b0:=lH (m:=Ag w2 ke) (m0:=Ag w M.ov) (b:=b) (n:=S+k0) (c:=cn) (cs:=g0++(r++[])) (l:=C3 l ys) (os:=h7++h6) (R:=Rn++Rm) hb hfit (by
     simp only[lN,k4,X,E3];rw[C5];omega) (λj u hj hu=>by
     simp only[Ag,a9];by_cases hj2:j<S*e.cells;rw[if_neg (by omega)];rw[A8 (by omega)]at hu
     have:=c3 j u hu
     rw[h9]at this;exact this;rw[C5,<-X]at hj;rw[if_pos ⟨trivial,by omega,by omega⟩];rw[B9 (by omega),G5,k4]at hu;rw[<-hu];congr 1;omega) (a2 []) (λL Q j=>k9 L (λy E=>(a3 L Q).2.2 ⟨n,by rw[E];exact a6 y⟩) j) (λL Q j=>k9 L (λy E=>by
     obtain⟨p,D,rfl⟩:=B6.1 Q;rcases mA.1 D with D|D
     have:=h.nodup n
     rw[hO,if_neg (h4 y).1,B7,A9]at this;exact this.1 (by show b.block∈_;rw[<-E];exact A3 D);exact h.sQ n m h3 b.block (a6 y) (by rw[<-E];exact A3 (h5 p D))) j)
   have d0:∀p∈(if cn=0 then[]else(b.block,b.off+cn*e.cells)::(h7++h6)),p∈M.ow n\/p∈M.ow m:=λp D=>by
    split at D;cases D;rename_i C;rcases mC.1 D with rfl|D;left;rw[hO,if_neg C];simp;exact b3 p D
   have⟨U',M',k1,k2⟩:=c0 (w2:=w2) b0 (λL j Q f5=>by
     have:=k9 L (λy E=>f5 (by rw[E];exact a6 y)) j
     rw[h9]at this;exact this) (λL Q=>by
     obtain⟨p,D,rfl⟩:=B6.1 Q;exact .inl ((d0 p D).imp A3 A3)) (by
     split
     simp
     rename_i C;rw[B7,A9];refine⟨λg=>?_,d3⟩;have⟨p,D,E⟩:=B6.1 g;have E:p.1=b.block:=E;rcases mA.1 D with D|D
     have:=h.nodup n
     rw[hO,if_neg C,B7,A9]at this;exact this.1 (by show b.block∈_;rw[<-E];exact A3 D);exact h.sQ n m h3 b.block (by rw[hO,if_neg C];simp) (by rw[<-E];exact A3 (h5 p D))) (λp D=>by
     have:Cv w p.1 p.2:=(d0 p D).elim (h.live n p) (h.live m p)
     rw[H];exact this.setCells _ _ _) (λ_ _ hf _=>by rw[H];exact hf.setCells _ _ _) (by rw[H,Iu];exact B4 _) (λb' k3 hF=>by
     by_cases y:r=[];rw[H,y];exact h.frame b' k3 hF;rw[g6 b' ?_];exact h.frame b' k3 hF;rintro rfl;rcases h.mine _ ⟨n,a6 y⟩with g|g;exact hF g;omega) (by rw[H];exact KB _ _ _ _)
   exact⟨_,w2,U',M',V,k1,k2⟩
 have e7:cn<S+k0:=by omega
 have V:=Nm (P:=P) (w:=w) (ty:=ty) (A:=An) (n:=S) (c:=cn) (k:=k0) (old:=g0) (new:=r) I h0 hu h1 k8 (g7 w.drew (λ_=>rfl) g9 X c6 h8) (g7 w.drew (λ_=>rfl) a5 k4 f6 g5) e7 (by rw[f4,f0];exact hlim);have c4:=grownCap_ge w (S+k0) cn t';generalize H:w.drew.alloc _=w2 at V;generalize hgc:grownCap w (S+k0) cn t'=gc at V c4;have T:∀c,c<w.heap.size->w2.heap[c]?=w.heap[c]?:=λc C=>by rw[<-H];exact BF (w:=w.drew) _ c C
 have Y:=Bv (w:=w.drew) (.cells (g0++(r++(Builtin.zeroCells I.z.cells (gc-(S+k0))).toList)).toArray t');have Y:w2.heap[w.heap.size]?=kd (.cells (g0++(r++(Builtin.zeroCells I.z.cells (gc-(S+k0))).toList)).toArray t'):=by
  rw[<-H,hgc];exact Y
 have d6:w.heap.size<=w2.heap.size:=by rw[<-H];exact BZ (w:=w.drew) _
 have i1:∀k,(Builtin.zeroCells I.z.cells k).size=k*e.cells:=λk=>by rw[Tt,size_madeCells,I.uY,a8]
 have b6:(g0++(r++(Builtin.zeroCells I.z.cells (gc-(S+k0))).toList)).length=gc*e.cells:=by
  simp only[lN,k4,X,E5,i1];rw[<-C5,<-C5];congr 1;omega
 have b0:=lH (m:=Ag w2 ke) (m0:=Ag w M.ov) (b:=⟨w.heap.size,0,ke⟩) (n:=S+k0) (c:=gc) (cs:=g0++(r++(Builtin.zeroCells I.z.cells (gc-(S+k0))).toList)) (os:=h7++h6) (.inr rfl) c4 (by
   rw[b6];exact D3 _ c4) (λj u _ hu=>by
   simp only[Ag,C2,World.cell?,Y];simpa using hu) (a2 _) (λc C j=>by
   rw[h9];exact BV ke (T c (a3 c C).1) j) (λc C j=>by
   rw[h9];exact BV ke (T c (h.lt (b7 c C))) j)
 have d1:gc≠0:=by omega
 rw[if_neg d1]at b0;have k6:∀c k,Cv w c k->Cv w2 c k:=λc k hf=>by
  have⟨cc,E,lo,hi,g1,g2⟩:=hf;exact⟨cc,E,lo,hi,by rw[T c (Array.getElem?_eq_some_iff.1 g1).1];exact g1,g2⟩
 have⟨U',M',k1,k2⟩:=c0 (w2:=w2) b0 (λc j C _=>BV ke (T c C) j) (λc C=>by
   rw[B7,mC]at C;rcases C with C|C;exact .inr (by have C:c=w.heap.size:=C;omega);obtain⟨p,D,rfl⟩:=B6.1 C;exact .inl ((b3 p D).imp A3 A3)) (by
   rw[B7,A9];refine⟨λg=>?_,d3⟩
   have:=h.lt (b7 _ g)
   exact absurd this (Nat.lt_irrefl _)) (λp D=>by
   rcases mC.1 D with rfl|D;exact⟨_,t',0,0,Y,by show 0+gc*e.cells<=_;rw[F6,b6];omega,.inl rfl⟩;exact k6 _ _ ((b3 p D).elim (h.live n p) (h.live m p))) (λc k hf _=>k6 c k hf) d6 (λb hb hF=>by
   have:=h.size
   rw[T b (by omega)];exact h.frame b hb hF) (by rw[<-H];rfl)
 exact⟨_,w2,U',M',by rw[<-a8]at *;exact V,k1,k2⟩
theorem b1B{m:Nat}{q:BB}(h:U.sJ y=.sref m q)(g:d≠m):(U.uK d r).sJ y=.sref m q:=by unfold AE.uK;split;exact h;cases y with|tmp t=>((have e:(m==d)=kc:=by grind);simp[AE.sJ,AE.get,AE.sD,AE.sG]at h|-;grind[SV.sG,AV.drop])|_=>exact h
theorem sH.xY{tm}(h:sH B U N tm w M){k:Nat}(a:U.rt k=kd r)(hb:r.bx=kc)(hv:AA (Ag w M.ov) M.g U.rt (Bh B w M) (.sref k []) v):M.g k=.one v:=by have⟨l,j,m,b,c,e⟩:=hv;rw[a]at b;cases b;simp[CR]at c;obtain⟨i,R,-,-,d⟩:=(h.roots k r a).rd;rcases d with⟨g,-⟩|⟨-,⟨o,f⟩,-⟩;simp_all;rw[<-c.2,f]at e;simp_all[Src.rd]
theorem b1C{m:Nat}{C:Ty}(c:e.sh=C){ty:TypeId}(I:vF P C t')(D:ts[0]?=kd t)(G:P.underlying t=kd (.slice t'))(E:ts[1]?=ke\/∃t2,ts[1]?=kd t2/\(P.underlying t2=kd .string\/∃e,P.underlying t2=kd (.slice e))){s:Value}{K:AE->Rs Z}{z:Z}(h:sH B U N (AJ a) w M)(F:a.tmps.size=N)(k:AA (Ag w M.ov) M.g U.rt (Bh B w M) av s)(p:Cw N y=ka)(L:U.sJ y=.sref m [])(i:U.look m=kd ⟨kc,.list ka e,ys⟩)(f:U.yI d m e ys av K=kd z):∃v w' A M',(Builtin.append_ ts ty #[s,a.eval y]).run P w=.ok v w'/\sH B A N (AJ (a.put (kd d) v)) w' M'/\K A=kd z:=by
 have⟨T,i⟩:=AY i;unfold AE.yI at f;split at f;have k:s=.slice ke 0 0:=k;subst k;rcases Ah f with⟨-,g⟩|⟨b,f⟩;cases g;have b:d≠m:=by simpa using b
 have⟨Q,Y,V,u,k3,X,k5,x⟩:=h.fresh f (λ_ _=>rfl) (B4 _) (s:=.one (.slice ke 0 0)) (O:=[]) (by simp) (by simp) (by simp) ⟨[],[],rfl,by simp,.inr ⟨rfl,⟨_,rfl⟩,⟨e,rfl⟩,rfl⟩⟩;have j:Q.rt m=kd ⟨kc,.list ka e,ys⟩:=by(have R:(m==d)=kc:=by simpa using Ne.symm b);rw[x];unfold AE.uK;split<;>simp[AE.sD,AE.sG,R,i]
 have o:=u.sJ p;rw[x,b1B L b,<-x]at o;exact nC c I D G E u F X (u.xY j rfl o) j V;rename_i n;have H:=h.sJ p;rw[L]at H;have r:∃l,U.rt n=kd ⟨kc,.list ka e,l⟩:=by unfold AE.wZ at f;split at f;rename_i e' l S;split at f;rename_i q;subst q;exact⟨l,(AY S).2⟩;cases f;cases f
 have⟨l,r⟩:=r;exact nC c I D G E h F (h.xY r rfl k) (h.xY i rfl H) i f;simp_all
theorem Uy.news{m Sh}(h:Uy w m Sh e l v):Nonempty (xZ P w m Sh e l v):=by obtain⟨A,n,c,cs,hv,hn,hlen,hone,⟨R,g,a⟩,hc,hnone,-⟩:=h;have f:=PD (P:=P) (w:=w) (w2:=w) (e:=e) hv (λ_=>rfl) hlen hc hnone n (B4 _);have k:=PD (P:=P) (w:=w) (w2:=w.drew) (e:=e) hv (λ_=>rfl) hlen hc hnone n (B4 _);rw[<-hlen,F8]at f k;refine⟨⟨cs,?_,by simp_all,hone,R,by simp_all,a,by simp_all,by simp_all⟩⟩;rw[hv,<-hn];rfl
theorem b3S{m Sh}(s:ByteArray){l:List (Ty.int .u8).sI}(e:l=(s.data.toList.map λb=>(b.toNat:Int):List Int)):Nonempty (xZ P w m Sh (.int .u8) l (.string s)):=by
 have k:(s.data.toList.map λb=>(b.toNat:Int)).length=s.size:=by simp
 have g:l.length=s.size:=(cG C4 e).trans k;have a:∀w:World,(Builtin.firstCells (Ty.int .u8).cells s.size (.string s)).run P w=.ok (s.data.toList.map λb=>Value.int .u8 (b.toNat:Int)).toArray w:=λw=>by(have p:s.extract 0 s.size=s:=by simp);simp only[Builtin.firstCells,p,Sem.run_pure];congr 1;grind
 refine⟨⟨s.data.toList.map λb=>Value.int .u8 (b.toNat:Int),?_,?_,?_,[],?_,by simp,?_,?_⟩⟩;rw[g];rfl;rw[g,List.length_map];show s.data.toList.length=s.size*1
 simp;intro u o;obtain⟨b,-,rfl⟩:=B6.1 o;rfl;have c:∀(l:List UInt8)(h:List Value)(i:Nat),h.length=i->Ao (λi=>AM m (.int .u8) λj=>(h++l.map λb=>Value.int .u8 (b.toNat:Int))[i*(Ty.int .u8).cells+j]?) l.length i =kd ((l.map λb=>(b.toNat:Int):List Int),[],[]):=by intro l;induction l with|nil=>intro h i _;rfl|cons b l q=>(intro h i r;have d:=q (h++[Value.int .u8 (b.toNat:Int)]) (i+1) (by grind);simp at d;have f:(h++(b::l).map λb=>Value.int .u8 (b.toNat:Int))[i*(Ty.int .u8).cells+0]?=kd (.int .u8 (b.toNat:Int)):=by show(h++_)[i*1+0]?=_;simp_all);simp only[lC,Ao];rw[show AM m (.int .u8) (λj=>(h++(b::l).map λb=>Value.int .u8 (b.toNat:Int))[i*(Ty.int .u8).cells+j]?)=kd ((b.toNat:Int),[],[])from by simp only[AM];rw[f];rfl];simp only[B7];rw[d];rfl
 have:=c s.data.toList [] 0 rfl;rw[g];rw[show s.data.toList.length=s.size from rfl]at this;rw[e];exact this;all_goals simp_all
theorem a8s{t2 ty:TypeId}{K:AE->Rs Z}{z:Z}(I:vF P e t')(y:ts[0]?=kd t)(E:P.underlying t=kd (.slice t'))(A:ts[1]?=kd t2)(C:P.underlying t2=kd (.int .i64))(b:0<e.cells)(h:sH B U N (AJ a) w M)(D:a.tmps.size=N)(l:U.uD q d e .nils (C6 n e.dflt) K=kd z):∃v w' o M',(Builtin.append_ ts ty #[.slice ke 0 0,.int .i64 (n:Int)]).run P w=.ok v w'/\sH B o N (AJ (a.put (kd d) v)) w' M'/\K o=kd z:=by
 simp only[AE.uD]at l;have⟨f,l⟩:BM (C6 n e.dflt).length=ka/\_:=(Ah l).elim id λh=>by grind
 simp[BM]at f;by_cases hk:n=0;subst hk;have g:(Builtin.append_ ts ty #[.slice ke 0 0,.int .i64 ((0:Nat):Int)]).run P w=.ok (.slice ke 0 0) w:=by have L:IntKind.i64.wrap (0:Int)=0:=rfl;simp[Builtin.append_,y,A,run_underlying E,run_underlying C,I.sizeOf,I.typeInfo,asInt,asIntOf,L]
 have⟨o,M',r,u,p,F,S,T⟩:=h.fresh l (λ_ _=>rfl) (B4 _) (s:=.one (.slice ke 0 0)) (O:=[]) (by simp) (by simp) (by simp) ⟨[],[],by rfl,by simp,.inr ⟨rfl,⟨_,rfl⟩,⟨e,rfl⟩,rfl⟩⟩;exact⟨_,w,_,M',g,u.uL (sv:=.one (.sref d [])) D (λ_=>⟨_,e,_,p,by rw[F];rfl,rfl⟩),r⟩;have g:=dM (P:=P) (w:=w) (ty:=ty) I y E A C b (n:=n) (by omega) f;have V:=grownCap_ge w n 0 t';have x:∀k,(Builtin.zeroCells I.z.cells k).size=k*e.cells:=λk=>by rw[Tt,size_madeCells,I.uY]
 have Q:Ao (λi=>AM (Ag w M.ov) e λj=>(Builtin.zeroCells I.z.cells n).toList[i*e.cells+j]?) n 0=kd (C6 n e.dflt,[],[]):=by have:=mT (m:=Ag w M.ov) I.zok I.uY n;rw[Tt,I.uY];simp_all
 have H:(C6 n e.dflt).length=n:=List.length_replicate;obtain⟨o,M',r,u,p,-,-⟩:=h.uU (c:=grownCap w n 0 t') l (λc G=>BF (w:=w.drew) _ c G) (BZ (w:=w.drew) _) (Bv (w:=w.drew) (Obj.cells (([]:List Value)++((Builtin.zeroCells I.z.cells n).toList++(Builtin.zeroCells I.z.cells (grownCap w n 0 t'-n)).toList)).toArray t')) (.inl rfl) (by
  have:(([]:List Value)++((Builtin.zeroCells I.z.cells n).toList++(Builtin.zeroCells I.z.cells (grownCap w n 0 t'-n)).toList)).length=grownCap w n 0 t'*e.cells:=by simp[x];rw[<-C5];simp_all
  simp_all) (by omega) (R:=[]) (by
  have:=Vq (m:=Ag w M.ov) (e:=e) (l1:=[]) (l2:=C6 n e.dflt) (cs1:=[]) (cs2:=(Builtin.zeroCells I.z.cells n).toList) (rest:=(Builtin.zeroCells I.z.cells (grownCap w n 0 t'-n)).toList) (n1:=0) (n2:=n) (o1:=[]) (o2:=[]) (R1:=[]) (R2:=[]) rfl (by simp) Q (by simp_all);simp_all) (by simp)
 rw[H]at p;exact⟨_,_,_,M',g,u.uL (sv:=.one (.sref d [])) D (λ_=>p),r⟩
theorem a5h{o:Oper}{c:Call}{d:Nat}{cx:Cx}{q:Bool}{K:AE->Rs Z}{z:Z}(C:CxTy P cx)(ho:o.op=.call c)(hb:c.callee=.builtin .append)(hd:o.dst=kd d)
  (h:sH B U N (AJ a) w M)(hN:a.tmps.size=N)(hf:fits N o=ka)(b:Bg cx q o U K=kd z):AW P B N o a w K z:=by
 have⟨cs,r⟩:=WO (P:=P) (a:=a) (w:=w) ho hb;have hl:∃x y,c.args.toList=[x,y]:=by
  cases hl:c.args.toList with
  |nil=>simp_all[Bg,AE.uN]
  |cons x l=>
   cases l with
   |nil=>simp_all[Bg,AE.uN]
   |cons y l=>
    cases l with
    |nil=>simp
    |cons u l=>simp_all[Bg,AE.uN]
 have⟨x,y,S⟩:=hl;have h5:c.args=#[x,y]:=by grind
 have i:=WP ho hb hf;rw[S]at i;have R:=h.sJ (i x (by simp));have hy:=h.sJ (i y (by simp));simp[Bg,ho,hd,hb,S,AE.uN]at b;rcases Ah b with⟨h8,b⟩|⟨-,b⟩;rotate_left;rw[Zl]at b;split at b;rename_i e F j;unfold b3I at j;split at j;rename_i t t2 rr n Q h6 h7;split at j;rename_i o2 e2 L h4;rcases Ah j with⟨hc,j⟩|⟨-,g⟩;cases j;simp at hc;have⟨h9,A⟩:=C.T t _ L;have⟨t',hu,E,D⟩:=Cj A;have⟨I⟩:=AL (AZ E);have h0:c.argTypes[0]?=kd t:=by rw[<-B8,Q];rfl
 have h1:c.argTypes[1]?=kd t2:=by rw[<-B8,Q];rfl
 have h2:P.underlying t2=kd (.int .i64):=by
  have A:=(C.T t2 _ h4).2;simp[AU]at A;grind
 rw[h6]at R;obtain R:a.eval x=.slice ke 0 0:=R;rw[h7]at hy;have hy:=AA.int hy;have⟨v,X,H,G,k1,k2,V⟩:=a8s (ty:=o.type) I h0 hu h1 h2 D h hN b;rw[Int.toNat_of_nonneg hc.1]at k1;refine⟨v,X,H,G,.inl (r.trans ?_),by simp_all,V⟩;simp_all[builtin];simp_all;simp_all;simp_all;simp_all;have h1:=a5g C h8;split at b
 ·rename_i o' e L;have⟨t,ht,L⟩:=D5.1 L;have O:c.argTypes[0]?=kd t:=by
   rw[<-B8];cases hl:c.argTypes.toList with
   |nil=>simp_all
   |cons y l=>simp_all
  have⟨h9,A⟩:=C.T t _ L;have⟨t',hu,E,D⟩:=Cj A;have⟨I⟩:=AL (AZ E);have he:e.sh=e:=by
   simp_all[Ty.sh]
  have h3:∀F,Nonempty (xZ P w (Ag w M.ov) (Bh B w M) e F (a.eval y))->U.uD q d e (U.sJ x) F K=kd z->AW P B N o a w K z:=by
   rintro F ⟨Y⟩ b;have⟨v,X,H,G,k1,k2,V⟩:=b1A (ty:=o.type) he I O hu h1 h hN R Y b;refine⟨v,X,H,G,.inl (r.trans ?_),by simp_all,V⟩;simp_all[builtin]
  split at b;grind[AA.str,b3S]
  ·split at b
   ·rename_i m e' F f;have g0:=b;cases q with
    |true=>simp_all
    |false=>
     cases hel:e.isList with
     |false=>simp_all
     |true=>
      rw[hel]at f;have f:U.ownB e (U.sJ y)=kd (m,⟨e',F⟩):=f;have g1:U.sJ y=.sref m []/\U.look m=kd ⟨kc,.list ka e',F⟩/\e'.sh=e:=by
       revert f;cases U.sJ y with
       |sref k p=>
        cases p with
        |cons=>simp_all[AE.ownB]
        |nil=>
         intro f;simp[AE.ownB]at f;grind
       |_=>intro f;simp[AE.ownB]at f
      have⟨k1,k2,V⟩:=g1;have⟨v,X,H,G,j1,j2,j3⟩:=b1C (ty:=o.type) V I O hu h1 h hN R (i y (by simp)) k1 k2 g0;exact⟨v,X,H,G,.inl (r.trans (by simp_all[builtin])),by simp_all,j3⟩
   have⟨l,b,hE⟩:=h.elems he hy b;exact h3 l hE.news b
 simp_all
end
theorem b3T(n:Nat)(av:AV):AV.kill n [] av=.dead\/(AV.kill n [] av=av/\∀k q,(av=.ptr k q\/av=.sref k q\/∃o l,av=.swin k q o l)->k=n->av=.ptr n []):=by cases av with|ptr m q=>(simp only[AV.kill];by_cases hm:m=n;(subst hm;cases q with|nil=>simp|cons=>left;simp[IF]);simp_all)|sref m q=>grind[AV.kill,IF]|swin m q o k=>grind[AV.kill,IF]|_=>exact .inr ⟨rfl,λk q h _=>by rcases h with h|h|⟨_,_,h⟩<;>cases h⟩
section
variable {P:Program} {B:Base} {N:Nat} {Z:Type} {U:AE} {a:Act} {w:World} {M:Gh}
theorem a5i{o:Oper}{x:Operand}{d:Nat}{cx:Cx}{q:Bool}{K:AE->Rs Z}{z:Z}(Q:o.op=.assign x)(V:o.dst=kd d)
  (h:sH B U N (AJ a) w M)(Y:a.tmps.size=N)(hf:fits N o=ka)(m:Bg cx q o U K=kd z):AW P B N o a w K z:=by
 have S:=h.sJ (Bl hf x (by simp[Q,Op.operands]));have y:(execOp a.eval o).run P w=.ok (.value (a.eval x)) w:=by simp[execOp,Q]
 simp[Bg,Q,V]at m;have C:∀av,U.sJ x=av->K (U.set d av)=kd z->AW P B N o a w K z:=λav u m=>AW.set V Y y h (u▸S) m;split at m
 case h_2=>
  rename_i c vs D;cases x with
  |tmp t=>
   have D:U.sl t=.cmp c vs:=D;have ht:t<N:=by have:=Bl hf (.tmp t) (by simp[Q,Op.operands]);simpa[Cw]using this
   have h5:=h.slots t ht;rw[D]at h5;exact⟨_,w,_,M,.inl y,by rw[V];exact h.uL Y (λ_=>h5),m⟩
  |_=>cases D
 rename_i vx H;have H:vx=U.sJ x:=by
  cases x with
  |tmp t=>
   have H:U.sl t=.one vx:=H;simp_all[AE.sJ,AE.get]
  |_=>exact(SV.one.inj H).symm
 subst H;unfold AE.zB at m;split at m;rename_i r u;split at m;rename_i t x0 hl;have⟨F,X⟩:=AY hl;rcases Ah m with⟨-,m⟩|⟨R,m⟩;simp_all;rcases Ah m with⟨-,m⟩|⟨-,m⟩;simp_all;have⟨g0,m⟩:=(Ah m).elim id λh=>by grind
 have g0:d<pinned:=by simp_all
 have k8:r≠d:=by
  simp_all
 have h1:=h.drop (n:=d) (by simp_all);have g5:((U.sG (AV.drop d)).sD d ke).rt r=kd ⟨kc,t,x0⟩:=by
  grind[AE.sD,AE.sG]
 have h2:=h1.rename g5 (d:=d) (Nn _) (λi b e _=>by omega) (by simp_all[AE.sD,AE.sG]);have hΓ:((((U.sG (AV.drop d)).sD d ke).sG (AV.ren r d)).sD r ke).sD d (kd ⟨kc,t,x0⟩)=(((U.sG (AV.drop d)).sG (AV.ren r d)).sD r ke).sD d (kd ⟨kc,t,x0⟩):=by
  simp only[AE.sD,AE.sG];grind
 rw[hΓ]at h2;rw[u]at S;have⟨r',e',s',g1,g2,g3⟩:=S;rw[X]at g1;simp at g1;subst g1;simp[CR]at g2;have E:loc (Ag w M.ov) t (if d=d then M.g r else M.g d) []=kd (.list ka e',s'):=by
  show kd (t,if d=d then M.g r else _)=_
  simp_all
 have h3:=h2.uL (sv:=.one (.sref d [])) (v:=a.eval x) (d:=d) Y (λ_=>⟨⟨kc,t,x0⟩,e',s',Nn _,E,g3⟩);exact⟨_,w,_,_,.inl y,by rw[V];exact h3,m⟩;simp_all
 ·rename_i r k u;split at m
  ·rename_i e l hl;have⟨F,X⟩:=AY hl;rcases Ah m with⟨R,m⟩|⟨-,m⟩
   ·simp only[HC,beq_iff_eq]at R;obtain⟨rfl,-⟩:=R;have⟨O,m⟩:=(Ah m).elim id λh=>by grind
    simp at O;replace O:=O.symm;rw[u]at S;have⟨s,O',R',a0,n0,c,f1,f2,f3,f4,f5,f6,I,hv,f7,f8⟩:=h.window S X (show CQ (.list ka e) l []=⟨.list ka e,l⟩from rfl);rw[C2]at f6;rw[Nat.sub_zero]at hv;have k9:=h.sW F;simp[CR]at f1;have⟨O1,R1,k1,k2,k3,k4,k5,k6⟩:=h.sep X;rw[f1]at k1;have h9:AM (Ag w M.ov) (.list ka e) (s.rd (Ag w M.ov))=kd (l,O',R'):=AI _ f3 (λj hj=>by
     have g4:j=0:=by simp_all[Ty.cells]
     subst g4;rw[f2];rfl) (λ_ _ _=>rfl)
    rw[h9]at k1;simp at k1;obtain⟨rfl,rfl⟩:=k1;have g6:∃T R2,AM (Ag w M.ov) (.list ka e) ((Src.one (.slice I k c)).rd (Ag w M.ov))=kd (E2 k l,T,R2)/\(∀p∈T,p∈O')/\(T.map (·.1)).Nodup/\(∀c∈R2,c∈R'):=by
     rcases Da f3 with⟨D,k0,-,-⟩|⟨A,n1,c1,os,D,hA,hn,h7,Q⟩
     ·simp[Src.rd]at D;obtain⟨rfl,rfl,rfl⟩:=D;have hk:k=0:=by omega
      subst hk;refine⟨[],[],?_,by simp,by simp,by simp⟩;show CW (Ag w M.ov) ka e.cells (AM (Ag w M.ov) e) (kd (.slice I 0 0))=kd (([]:List e.sI),[],[]);cases I with
      |none=>rfl
      |some b=>rfl
     ·simp[Src.rd]at D;obtain⟨rfl,rfl,rfl⟩:=D;rw[show n0=k+(n0-k)from by omega]at h7;obtain⟨g7,g9,a2,a3,j1,-,rfl,rfl⟩:=Gk k _ 0 h7;have k7:=k3.nodup;by_cases L:c=0
      ·subst L;have hk:k=0:=by omega
       subst hk;refine⟨[],[],?_,by simp,by simp,by simp⟩;show CW (Ag w M.ov) ka e.cells (AM (Ag w M.ov) e) (kd (.slice I 0 0))=kd (([]:List e.sI),[],[]);cases I with
       |none=>rfl
       |some b=>rfl
      ·rcases Q with⟨h0,-⟩|⟨-,Q⟩;omega
       ·have h8:I=kd ⟨A.block,A.off,ke⟩:=by
         simp_all[Gm]
        subst h8;refine⟨(A.block,A.off+c*e.cells)::g7,g9,Yi (a:=⟨A.block,A.off,ke⟩) rfl rfl (by omega) L j1,?_,?_,λc L=>D2 _ L⟩;all_goals grind
    have⟨T,R2,j1,j2,j3,j4⟩:=g6;have h6:∀p∈T,p∈M.ow r:=λp hp=>by
     simp_all
    have G:∀c∈T.map (·.1),c∈(M.ow r).map (·.1):=λc L=>by
     grind
    have h4:=h.top X O.2 F (w':=w) (v':=.slice I k c) (l':=E2 k l) j1 (λ_ _ _ _=>rfl) (λc L=>.inl (G c L)) j3 (λp hp=>h.live r p (h6 p hp)) (λ_ _ hf _=>hf) (B4 _) h.frame
     (λc L=>by
      have D:=f4 c (j4 c L);exact⟨D.1,D.2.1,D.2.2,λg=>D.2.2 ⟨r,G c g⟩⟩) (f:=AV.kill r []) (b3T r)
    have E:loc (Ag w M.ov) (.list ka e) (if r=r then Src.one (.slice I k c)else M.g r) []=kd (.list ka e,.one (.slice I k c)):=by
     show kd (_,if r=r then Src.one _ else _)=_
     simp
    have h3:=h4.uL (sv:=.one (.sref r [])) (v:=a.eval x) (d:=r) Y (λ_=>⟨⟨kc,.list ka e,E2 k l⟩,e,.one (.slice I k c),Nn _,E,by rw[hv];rfl⟩);exact⟨_,w,_,_,.inl y,by rw[V];exact h3,m⟩
   exact C _ u m
  exact C _ u m
 rename_i u;split at m;rename_i t x0 hl;have⟨F,X⟩:=AY hl;rcases Ah m with⟨-,m⟩|⟨-,m⟩;exact C _ u m;exact AW.set V Y y (h.drop (n:=d) (by simp[F])) (av:=.nils) (by rw[u]at S;exact S) m;exact C _ u m;exact C _ rfl m
end
theorem sH.move{B U N tm w M}(h:sH B U N tm w M){n r p ε b o y O1 R1}(hr:U.rt n=kd r)(hl:loc (Ag w M.ov) r.t (M.g n) p=kd ((.list ka ε),.at b o))(hy:AM (Ag w M.ov) (.list ka ε) ((Src.at b o).rd (Ag w M.ov))=kd (y,O1,R1)){m0:Nat}{y':List ε.sI}(c3:U.rt m0=kd ⟨kc,(.list ka ε),y'⟩)(c1:M.g m0=.one v)(Q:m0≠n)(b3:U.pd=ke){f:AV->AV}(hf:∀a,f a=.dead\/(f a=a/\b0g n p (.list ka ε) a/\∀k q,(a=.ptr k q\/a=.sref k q\/∃o l,a=.swin k q o l)->k≠m0)):
  ∃z,sH B (((U.sG f).sD m0 ke).sD n (kd ⟨r.bx,r.t,FK r.t r.x p (.list ka ε) y'⟩)) N tm (w.setCell ⟨b,o,ke⟩ v) ⟨M.g,z,ke⟩:=by
 have c5:M.ov=ke:=h.sW b3;have⟨O2,R2,i1,i2,i3,i4,i5,i6⟩:=h.sep c3;have i6:M.ow m0=O2:=by
  simp_all
 rw[c1]at i1;have⟨D,g7⟩:∃D,D=w.setCell ⟨b,o,ke⟩ v:=⟨_,rfl⟩;rw[<-g7];have k9:b∈(M.ow n).map (·.1):=h.place hr hl;have a6:=h.room hr hl;have a9:(Ty.list ka ε).cells=1:=rfl;have a3:∀c j,Ag D ke c j=if c=b/\j=o then kd v else Ag w M.ov c j:=λc j=>by
  rw[c5,g7];simp[Ag];by_cases I:c=b/\j=o;obtain⟨rfl,rfl⟩:=I
  have:=(a6.cell (o:=j) (by omega)).1
  grind[E7,World.cell?_setCell_same];rw[if_neg I,World.cell?_setCell_other];grind
 have c8:∀c j,Ag D ke c j=Ag w M.ov c j\/(c=b/\o<=j/\j<o+(Ty.list ka ε).cells)\/c∈O1.map (·.1)\/w.heap.size<=c:=λc j=>by
  grind
 have c7:AM (Ag D ke) (.list ka ε) ((Src.at b o).rd (Ag D ke))=kd (y',O2,R2):=by
  refine AI _ i1 (λj hj=>?_) (λc j C=>?_);simp_all[Src.rd];rw[a3,if_neg];rintro⟨rfl,-⟩;rcases C with C|C;exact h.sQ n m0 (Ne.symm Q) c k9 (i4 c C);exact(i2 c C).2.2 ⟨n,k9⟩
 have h0:∀c∈O2.map (·.1),c∈(M.ow m0).map (·.1):=i4;have c4:(O2.map (·.1)).Nodup:=i3.nodup;have O:∀c k,Cv w c k->BP M c->Cv D c k:=λc k hf _=>by rw[g7];exact hf.setCell _ _
 have c2:∀p∈O2,Cv D p.1 p.2:=λp hp=>by
  rw[<-i6]at hp;exact O _ _ (h.live m0 p hp) ⟨m0,A3 hp⟩
 have b6:w.heap.size<=D.heap.size:=by simp_all
 have b9:∀b,b<B.size->¬ B.F b->D.heap[b]?=B.hp b:=λc C hF=>by
  rw[g7,Mi,if_neg];exact h.frame c C hF
  ·rintro rfl;rcases h.mine c ⟨n,k9⟩with g|g;all_goals grind
 have⟨O',R,h1,h2,h3,h4,h5,h6⟩:=h.sep hr;have⟨y1,d3,d4,A1,B1,d1,d2,hd,hg,I,e2⟩:=Cd p r.t _ h1 hl;rw[hy]at hd;simp at hd;obtain⟨rfl,rfl,rfl⟩:=hd;have d5:∀c,c∈O1.map (·.1)->c∈(M.ow n).map (·.1):=λc C=>h4 c (by grind);have hb:b∈(M.ow n).map (·.1):=h.place hr hl;have a8:c1P (Ag w M.ov) (Ag D ke) (M.g n) O' R b o (Ty.list ka ε).cells O1:=λc j=>by
  grind
 have⟨A,B',R',e3,h7,h8⟩:=a8e p r.t (M.g n) h1 hl hy c7 h3 a8

 have T:∀c j,c∉(M.ow n).map (·.1)->c<w.heap.size->Ag D ke c j=Ag w M.ov c j:=λc j C d7=>by
  grind
 have S:∀m,m≠n->∀c j,c∈(M.ow m).map (·.1)->Ag D ke c j=Ag w M.ov c j:=λm hm c j C=>
  T c j (h.sQ m n hm c C) (h.lt ⟨m,C⟩)
 have b5:∀c j,Bh B w M c->Ag D ke c j=Ag w M.ov c j:=λc j C=>T c j (λg=>C.2.2 ⟨n,g⟩) C.1

 let on:Dw:=match r.bx with|true=>(match M.g n with|.at b0 _=>[(b0,r.t.cells)]|_=>[])++(A++(O2++B'))|false=>A++(O2++B')
 let z:Nat->Dw:=λm=>if m=n then on else if m=m0 then[]else M.ow m
 have k0:z n=on:=by grind
 have H:∀m,m≠n->m≠m0->z m=M.ow m:=λm hm d8=>by grind
 have d0:z m0=[]:=by grind
 have k7:∀c,c∈on.map (·.1)->c∈(M.ow n).map (·.1)\/c∈O2.map (·.1):=by
  grind
 have P:∀c,(∃m,c∈(z m).map (·.1))->BP M c:=by
  rintro c ⟨m,hm⟩;by_cases e:m=n;subst e;rw[k0]at hm;rcases k7 c hm with g|g;exact⟨m,g⟩;exact⟨m0,h0 c g⟩;by_cases Y:m=m0;grind;rw[H m e Y]at hm;exact⟨m,hm⟩
 have a7:∀c,Bh B w M c->Bh B D ⟨M.g,z,ke⟩ c:=λc ⟨g1,g2,g3⟩=>⟨C0 g1 b6,g2,λg4=>g3 (P c g4)⟩;have c6:∀c∈R2,Bh B D ⟨M.g,z,ke⟩ c:=λc C=>a7 c (i2 c C)

 have k6:∀m q L tq s,U.rt m=kd L->loc (Ag w M.ov) L.t (M.g m) q=kd (tq,s)->(m=n->∀d,q=p++d->d=[]\/(Ty.list ka ε).tK=(Ty.list ka ε))->
   loc (Ag D ke) L.t (M.g m) q=kd (tq,s)/\∀e,tq=.list ka e->(m=n->∀d,q=p++d->(Ty.list ka ε).tK=(Ty.list ka ε))->s.rd (Ag D ke) 0=s.rd (Ag w M.ov) 0:=by
  intro m q L tq s hrm G hq;by_cases e:m=n;subst e;rw[hr]at hrm;simp at hrm;subst hrm
  have:=Tj p q r.t (M.g m) h1 hl hy h3 a8 (hq rfl) G
  refine⟨this.1,λe ht g9=>this.2 e s (by grind) (λd he=>?_)⟩;have hp:=g9 rfl d he;grind[Ty.tK]
  ·obtain⟨Om,Rm,g1,g2,g3,g4,g5,-⟩:=h.sep hrm;have g0:∀j,j<L.t.cells->(M.g m).rd (Ag D ke) j=(M.g m).rd (Ag w M.ov) j:=λj _=>by
    cases es:M.g m with
    |one v=>rfl
    |_=>rename_i b' o';exact S m e b' _ (g5 _ _ es)
   refine⟨DG q L.t _ g1 G g0 (λc j C=>S m e c j (g4 c C)),λY ht _=>?_⟩;rw[ht]at G;exact PB g1 G g0 (λc j C=>S m e c j (g4 c C))
 have a2:∀a v,AA (Ag w M.ov) M.g U.rt (Bh B w M) a v->AA (Ag D ke) M.g (λj=>bif j==n then kd ⟨r.bx,r.t,FK r.t r.x p (Ty.list ka ε) y'⟩else bif j==m0 then ke else U.rt j) (Bh B D ⟨M.g,z,ke⟩) (f a) v:=by
  intro a v ha;rcases hf a with g|⟨g,hk,d6⟩;rw[g];trivial
  ·rw[g];refine ha.frame b5 a7 λm q L tq s h9 hrm G=>?_
   have hq:m=n->∀d,q=p++d->d=[]\/(Ty.list ka ε).tK=(Ty.list ka ε):=by
    intro e d he;rcases h9 with rfl|rfl|⟨o',l',rfl⟩;exact hk e d he;exact .inr (hk e d he);exact .inr (hk e d he)
   have hp:=k6 m q L tq s hrm G hq;refine⟨if m=n then⟨r.bx,r.t,FK r.t r.x p (Ty.list ka ε) y'⟩else L,?_,?_,?_⟩
   grind
   ·by_cases e:m=n;all_goals grind
   intro u g9 hu;rcases h9 with rfl|rfl|⟨o',l',rfl⟩;grind;have⟨r0,e0,s0,k1,k2,k3⟩:=ha;rw[hrm]at k1;simp at k1;subst k1;rw[G]at k2;simp at k2;rw[hp.2 e0 k2.1 (λe d he=>hk e d he)];omega;have⟨r0,e0,s0,a0,l0,c0,k1,k2,k3⟩:=ha;rw[hrm]at k1;simp at k1;subst k1;rw[G]at k2;simp at k2;rw[hp.2 e0 k2.1 (λe d he=>hk e d he)];omega
 have a5:∀i b,B.pin i=kd b->(bif pinned+i==n then kd (sK.mk r.bx r.t (FK r.t r.x p (Ty.list ka ε) y'))else bif pinned+i==m0 then ke else U.rt (pinned+i))≠ke->M.g (pinned+i)=b:=λi b hb g9=>by
  refine h.pins i b hb λe=>g9 ?_
  by_cases Y:pinned+i=n;grind;have b8:(pinned+i==n)=kc:=by grind
  rw[b8,e];simp
 refine⟨z,?_,?_,?_,?_,?_,?_,?_,D1 h.size b6,b9,?_,a5,by rw[g7];exact h.still⟩
 ·intro m L hrm;by_cases e:m=n;subst e;simp[AE.sD]at hrm;subst hrm;refine⟨_,R',h7,λc C=>?_,?_⟩;grind;rcases h6 with⟨V,b0,hs,ho⟩|⟨V,hs,ht,ho⟩;grind;grind
  ·have I:m≠m0:=by
    rintro rfl;have Y:(m==n)=kc:=by grind
    simp[AE.sD,Y,AE.sG]at hrm
   have b4:U.rt m=kd L:=by
    have Y:(m==n)=kc:=by grind
    have k8:(m==m0)=kc:=by grind
    simpa[AE.sD,Y,k8,AE.sG]using hrm
   have⟨Om,Rm,g1,g2,g3,g4,g5,g6⟩:=h.sep b4;refine⟨Om,Rm,AI L.t g1 (λj _=>?_) (λc j C=>?_),λc C=>a7 c (g2 c C),?_⟩
   ·cases es:M.g m with
    |one v=>rfl
    |_=>rename_i b' o';exact S m e b' _ (g5 _ _ es)
   grind;show(L.bx=ka/\∃b,M.g m=.at b 0/\z m=(b,L.t.cells)::Om)\/(L.bx=kc/\(∃v,M.g m=.one v)/\(∃e,L.t=.list ka e)/\z m=Om);rw[H m e I];omega
 intro m hm;by_cases e:m=n;grind[AE.sD];by_cases I:m=m0;grind;have Y:(m==n)=kc:=by grind
 have k8:(m==m0)=kc:=by grind
 show z m=[];rw[H m e I];exact h.norm m (by simpa[AE.sD,Y,k8,AE.sG]using hm);intro m;show((z m).map (·.1)).Nodup;by_cases e:m=n;subst e;rw[k0];have a4:=h.nodup m;have b7:((A++(O2++B')).map (·.1)).Nodup:=by
  have Z:=h3.nodup;rw[e3]at Z;simp only[WK,C1,mA]at Z|-;have⟨k1,⟨k2,k3,k4⟩,k5⟩:=Z;refine⟨k1,⟨c4,k3,λa ha c C e=>?_⟩,λa ha c C e=>?_⟩;subst e;exact h.sQ m m0 (Ne.symm Q) a (h4 a (by grind)) (h0 a ha);subst e;rcases C with C|C;exact h.sQ m m0 (Ne.symm Q) a (h4 a (by grind)) (h0 a C);grind
 rcases h6 with⟨V,b0,hs,ho⟩|⟨V,-,-,ho⟩;simp only[on,V,hs,List.singleton_append,B7,A9];refine⟨λg=>?_,b7⟩;rw[ho]at a4;simp only[B7,A9]at a4;simp only[WK,mA]at g;rcases g with g|g|g;grind;exact h.sQ m m0 (Ne.symm Q) b0 (by grind) (h0 b0 g);exact a4.1 (by rw[e3];simp only[WK,mA];grind);grind;by_cases I:m=m0;grind;rw[H m e I];exact h.nodup m;have one:∀m K,m≠K->m=n->∀c,c∈(z m).map (·.1)->c∉(z K).map (·.1):=by
  intro m K X e c C E;subst e;by_cases I:K=m0;grind;rw[k0]at C;rw[H K (Ne.symm X) I]at E;rcases k7 c C with g|g;exact h.sQ m K X c g E;exact h.sQ m0 K (Ne.symm I) c (h0 c g) E
 intro m K X c C E;by_cases e:m=n;exact one m K X e c C E;by_cases Y:K=n;exact one K m (Ne.symm X) Y c E C;by_cases I:m=m0;grind;by_cases e2:K=m0;grind;rw[show(Gh.mk M.g z ke).ow m=z m from rfl,H m e I]at C;rw[show(Gh.mk M.g z ke).ow K=z K from rfl,H K Y e2]at E;exact h.sQ m K X c C E;intro m q hq;rw[show(Gh.mk M.g z ke).ow m=z m from rfl]at hq;by_cases e:m=n;subst e;rw[k0]at hq;have c9:q∈M.ow m->Cv D q.1 q.2:=λg=>O _ _ (h.live m q g) ⟨m,A3 g⟩;have b7:q∈A++(O2++B')->Cv D q.1 q.2:=by
  grind
 rcases h6 with⟨V,b0,hs,ho⟩|⟨V,-,-,ho⟩;grind;grind;by_cases I:m=m0;grind;rw[H m e I]at hq;exact O _ _ (h.live m q hq) ⟨m,A3 hq⟩;intro i hi;exact(h.slots i hi).sG a2;show RX _ _ _ U.pd ke;rw[b3];trivial;rintro c ⟨m,hm⟩;exact h.mine c (P c ⟨m,hm⟩)
section
variable {P:Program} {B:Base} {N:Nat} {Z:Type} {U:AE} {a:Act} {w:World} {M:Gh}
theorem Yo{τ:Ty}{c o k:Nat}(e:AU P τ (.inl t)=ka)(i:τ.cells=1)(f:Cv w b k)(l:o+1<=k):(Instr.storeAt t (.pointer (kd ⟨b,o,ke⟩)) (.slice A n c)).run P w=.ok () (w.setCell ⟨b,o,ke⟩ (.slice A n c)):=by have⟨I⟩:=AL (AZ e);have h:(Value.slice A n c).cells=#[Value.slice A n c]:=rfl;have:=run_storeCells_cells (P:=P) b o [Value.slice A n c] 0 w (λj d=>(f.cell (o:=o+0+j) (by grind)).1) (λj d=>(f.cell (o:=o+0+j) (by grind)).2) (λu a=>by simp at a;subst a;rfl);(have g:(Value.slice A n c).cells.size=τ.cells:=by simp_all);simp[Instr.storeAt,Instr.sureAddr,storeVar,I.sizeOf,g];rw[h];simp at this;exact this
theorem a3o{o k:Nat}(h:Cv w b k)(g:o<k)(v:Value)(c j:Nat):Ag (w.setCell ⟨b,o,ke⟩ v) ke c j=if c=b/\j=o then kd v else Ag w ke c j:=by simp[Ag];by_cases e1:c=b/\j=o;obtain⟨rfl,rfl⟩:=e1;have⟨u,f⟩:=E7.1 (h.cell g).1;simp_all[World.cell?_setCell_same];rw[if_neg e1,World.cell?_setCell_other];grind
theorem b7c(U:AE):U.sG id=U:=by(have:∀s:SV,s.sG id=s:=λs=>by cases s<;>simp[SV.sG]);simp_all[AE.sG]
theorem AW.skip{K:AE->Rs Z}{z:Z}{f:AE}{M':Gh}(b:a.tmps.size=N)(g:(execOp a.eval o).run P w=.ok .skip w')(h:sH B f N (AJ a) w' M')(k:K (f.tY o.dst .dead)=kd z):AW P B N o a w K z:=by cases hd:o.dst with|none=>exact⟨undef,w',f,M',.inr ⟨g,rfl⟩,by rw[hd];exact h,by rw[hd]at k;exact k⟩|some d=>exact⟨undef,w',f.set d .dead,M',.inr ⟨g,rfl⟩,by rw[hd];exact h.uL b (λ_=>trivial),by rw[hd]at k;exact k⟩
theorem Pb{t:Ty}(h:t.isList=ka):t.cells=1:=by cases t<;>first|rfl|cases h
theorem Iv:∀(p q:BB),OG p q=ka->p=q|[],[],_=>rfl|.fst::p,.fst::q,h=>by rw[Iv p q h]|.snd::p,.snd::q,h=>by rw[Iv p q h]|.idx i::p,.idx j::q,h=>by simp[OG]at h;rw[h.1,Iv p q h.2]|[],_::_,h=>(by cases h)|.fst::_,[],h=>(by cases h)|.fst::_,.snd::_,h=>(by cases h)|.fst::_,.idx _::_,h=>(by cases h)|.snd::_,[],h=>(by cases h)|.snd::_,.fst::_,h=>(by cases h)|.snd::_,.idx _::_,h=>(by cases h)|.idx _::_,[],h=>(by cases h)|.idx _::_,.fst::_,h=>(by cases h)|.idx _::_,.snd::_,h=>by cases h
theorem a5j(n:Nat)(U:AE)(r g:Option sK):(((U.sG (AV.sN [n] [])).sD n r).sG (AV.sN [n] [])).sD n g=(U.sG (AV.sN [n] [])).sD n g:=by(have h:∀a:AV,(a.sN [n] []).sN [n] []=a.sN [n] []:=λa=>by cases a with|sref m q=>(by_cases hm:m=n;subst hm;cases q<;>simp[AV.sN];simp[AV.sN,hm])|swin m q o l=>grind[AV.sN]|ptr m q=>(by_cases hm:m=n;subst hm;cases q<;>simp[AV.sN];simp[AV.sN,hm])|_=>rfl);simp only[AE.sD,AE.sG];congr 1;(funext i;cases U.sl i with|one v=>simp[SV.sG,h]|cmp c f=>simp[SV.sG,h]);grind
theorem sH.yM(h:sH B U N tm w M)(hr:U.rt n=kd r)(hg:M.g n=.at b 0)(ho:M.ow n=[(b,r.t.cells)])(I:U.pd=ke){t2:Ty}{z:t2.sI}{R2}(y:t2.cells=r.t.cells)(hd:AM (Ag w' ke) t2 ((Src.at b 0).rd (Ag w' ke))=kd (z,[],R2))(hR:∀c∈R2,Bh B w M c)(x:∀c,c≠b->w'.heap[c]?=w.heap[c]?)(G:∀c k,Cv w c k->Cv w' c k)(R:w.heap.size<=w'.heap.size)(hio:EK w'=EK w):
  sH B ((U.sG (AV.sN [n] [])).sD n (kd ⟨ka,t2,z⟩)) N tm w' M:=by
 have h0:=h.sW I;have D:b∈(M.ow n).map (·.1):=by simp_all
 have K:∀c,Bh B w M c->Bh B w' M c:=λc y=>⟨C0 y.1 R,y.2⟩;have O:∀c j,c≠b->Ag w' M.ov c j=Ag w M.ov c j:=λc j T=>BV _ (x c T) j;have Z:∀c j,Bh B w M c->Ag w' M.ov c j=Ag w M.ov c j:=λc j X=>O c j λe=>X.2.2 ⟨n,e▸D⟩;have C:∀m c j,m≠n->c∈(M.ow m).map (·.1)->Ag w' M.ov c j=Ag w M.ov c j:=λm c j f V=>O c j λe=>h.sQ n m (Ne.symm f) c (e▸D) V;have Q:∀k,k≠n->((U.sG (AV.sN [n] [])).sD n (kd ⟨ka,t2,z⟩)).rt k=U.rt k:=λk Y=>a1G Y _;have P:((U.sG (AV.sN [n] [])).sD n (kd ⟨ka,t2,z⟩)).rt n=kd ⟨ka,t2,z⟩:=by simp[AE.sD]
 have CL:∀m:Nat,[n].contains m=(m==n):=λm=>by grind
 refine⟨λm r' d=>?_,λm O=>?_,h.nodup,h.sQ,λm p hp=>G _ _ (h.live m p hp),λi hi=>(h.slots i hi).sG λa v ha=>?_,?_,D1 h.size R,λc S hF=>?_,h.mine,λi A hb h1=>h.pins i A hb λe=>?_,hio.trans h.still⟩
 ·by_cases f:m=n;subst f;rw[P]at d;simp at d;subst d;refine⟨[],R2,?_,λc y=>K c (hR c y),.inl ⟨rfl,b,hg,by simp_all⟩⟩;simp_all
  ·rw[Q m f]at d;have⟨O1,R1,l1,l2,l3,l4,l5,l6⟩:=h.sep d;refine⟨O1,R1,AI _ l1 (λj _=>?_) (λc j y=>?_),λc y=>K c (l2 c y),l6⟩
   ·cases es:M.g m with
    |one v=>rfl
    |_=>rename_i A o;exact C m A _ f (l5 _ _ es)
   grind
 by_cases f:m=n;simp_all;rw[Q m f]at O;exact h.norm m O
 ·have L:(∀k q,(a=.ptr k q\/a=.sref k q\/∃o l,a=.swin k q o l)->k≠n)->AA (Ag w' M.ov) M.g ((U.sG (AV.sN [n] [])).sD n (kd ⟨ka,t2,z⟩)).rt (Bh B w' M) a v:=λY=>by
   refine ha.frame Z K λk q rk t s E hrk hl=>?_
   have H:=Y k q E;have⟨O1,R1,l1,l2,l3,l4,l5,l6⟩:=h.sep hrk;have F:∀j,(M.g k).rd (Ag w' M.ov) j=(M.g k).rd (Ag w M.ov) j:=λj=>by
    cases es:M.g k with
    |one v=>rfl
    |_=>rename_i A o;exact C k A _ H (l5 _ _ es)
   refine⟨rk,by simp_all,DG q rk.t _ l1 hl (λj _=>F j) (λc j y=>C k c j H (l4 c y)),λu _ hu=>?_⟩;rw[<-hu];cases s with
   |one v=>rfl
   |_=>rename_i A o;exact C k A _ H (h.place hrk hl)
  cases a with
  |ptr m q=>
   simp only[AV.sN,CL];split
   ·rename_i f;have f:m=n:=by simp_all
    subst f;cases q with
    |cons=>trivial
    |nil=>
     have⟨r',t',A,o',p1,p2,p3⟩:=ha;simp[CR]at p2;exact⟨⟨ka,t2,z⟩,t2,A,o',P,by show kd (t2,M.g m)=_;grind,p3⟩
   simp_all
  |sref m q=>
   simp only[AV.sN,CL];split;cases q<;>exact True.intro;simp_all
  |swin m q o l=>
   simp only[AV.sN,CL];split;trivial;simp_all
  |_=>exact L (by rintro k q' (g|g|⟨o,l,g⟩)<;>cases g)
 have:=h.pend
 rw[I]at this;show RX _ _ _ U.pd M.ov;rw[I,h0];trivial
 ·rw[x c λe=>?_];exact h.frame c S hF
  ·subst e;rcases h.mine c ⟨n,D⟩with g|g;all_goals grind
 grind
theorem sH.yX{ty:Ty}{yv:AV}{E:Value}{K:AE->Rs Z}{z:Z}(hty:AU P ty (.inl t)=ka)(h:sH B U N tm w M)(T:U.rt n=kd r)(hx:AA (Ag w M.ov) M.g U.rt (Bh B w M) (.ptr n []) E)(D:AA (Ag w M.ov) M.g U.rt (Bh B w M) yv vy)(G:U.over ty n r yv K=kd z):∃w' i M' b o,E=.pointer (kd ⟨b,o,ke⟩)/\w'=w.setCells b o vy.cells.toList/\(Instr.storeAt t E vy).run P w=.ok () w'/\sH B i N tm w' M'/\K i=kd z:=by
 unfold AE.over at G;split at G;rename_i e y rr hl;obtain⟨l,-⟩:=AY hl;have S:=h.sW l;split at G;rename_i L;have⟨I,h6,h5,h0⟩:=L;have D:CK (Ag w M.ov) (Bh B w M) e y vy:=D;have O:e.cells=r.t.cells:=by grind[Ty.sU]
 have⟨b,F,R⟩:=h.xS T I l;have⟨r',t1,b1,o1,q1,q2,q3⟩:=hx;simp[CR,F]at q2;obtain⟨-,rfl,rfl⟩:=q2;have d:Cv w b (0+r.t.cells):=by have:=h.room (p:=[]) (t:=r.t) (b:=b) (o:=0) T (by rw[F];rfl);omega
 have v:AU P e (.inl t)=ka:=by grind[Gl]
 have q:=fR v D (b:=b) (o:=0) (by rw[O];omega) (B4 _);rw[<-q3]at q;obtain⟨h7,-⟩:=D.cells;have X:vy.cells.toList.length=r.t.cells:=by simp_all
 obtain⟨-,-,Y,V,A⟩:=id D;have⟨w',C⟩:∃w',w'=w.setCells b 0 vy.cells.toList:=⟨_,rfl⟩;have hm:∀c j,Ag w' ke c j=if c=b/\0<=j/\j<0+r.t.cells then vy.cells.toList[j-0]? else Ag w ke c j:=λc j=>by have:=KA b vy.cells.toList 0 w _ d (by omega) c j;rw[X]at this;rw[C];exact this
 have k:BP M b:=⟨n,h.place (p:=[]) (t:=r.t) (b:=b) (o:=0) T (by rw[F];rfl)⟩;have Q:AM (Ag w' ke) e ((Src.at b 0).rd (Ag w' ke))=kd (y,[],Y):=AI e V (λj hj=>by
  show Ag w' ke b (0+j)=_;simp_all) (λc j f=>by
  rcases f with f|f;simp_all;rw[hm,if_neg,S];rintro⟨rfl,-⟩;exact(A c f).2.2 k)
 have h1:∀(t2:Ty)(H:t2.sI),sZ e t2 y=kd H->t2.cells=r.t.cells->K ((U.sG (AV.sN [n] [])).sD n (kd ⟨ka,t2,H⟩))=kd z->∃w' i M' b o,E=.pointer (kd ⟨b,o,ke⟩)/\w'=w.setCells b o vy.cells.toList/\(Instr.storeAt t E vy).run P w=.ok () w'/\sH B i N tm w' M'/\K i=kd z:=λt2 H a h2 hK=>by(have u:∀c,Bh B w M c->Bh B w ⟨M.g,λm=>if m=n then[(b,r.t.cells)]else M.ow m,M.ov⟩ c:=λc ⟨g1,g2,g3⟩=>⟨g1,g2,λ⟨m,h4⟩=>g3 ⟨m,by grind⟩⟩);have:=R.yM (w':=w') (b:=b) (r:=⟨ka,r.t.tK,Ty.vH r.t r.x⟩) (by simp[AE.sD]) F (by simp[Ty.uC]) (by simp_all[AE.sD,AE.sG]) (t2:=t2) (z:=H) (R2:=Y) (by simp_all[Ty.uC]) (Yl a Q) (λc L=>u c (A c L)) (λc h3=>by simp_all[ET]) (λ_ _ hf=>by rw[C];exact hf.setCells _ _ _) (by simp_all[Iu]) (by simp_all[KB]);grind[a5j]
 split at G;grind;grind[Ty.uC,fQ];simp_all;simp_all
theorem sH.xL{ty:Ty}{yv:AV}{vx:Value}{K:AE->Rs Z}{z:Z}(_hsh:ty.sh=ty)(hty:AU P ty (.inl t)=ka)(h:sH B U N tm w M)(hx:AA (Ag w M.ov) M.g U.rt (Bh B w M) (.ptr n p) vx)(Q:AA (Ag w M.ov) M.g U.rt (Bh B w M) yv vy)(D:U.vI ty n p yv K=kd z):
  ∃w' U' M' b o,vx=.pointer (kd ⟨b,o,ke⟩)/\w'=w.setCells b o vy.cells.toList/\(Instr.storeAt t vx vy).run P w=.ok () w'/\sH B U' N tm w' M'/\K U'=kd z:=by
 have⟨yw,h8⟩:∃f:AV->AV,f yv=yv:=⟨λv=>v,rfl⟩;rw[<-h8]at Q D;clear h8;have⟨r,t0,b,u,hr,hl,I⟩:=id hx;have⟨O1,R1,k1,k2,k3,k4,k5,k6⟩:=h.sep hr;have⟨y0,O',R',A1,B1,a5,a7,hd,hg,e1,e2⟩:=Cd p r.t _ k1 hl;unfold AE.vI at D;rw[hr]at D;simp only at D;split at D
 ·rename_i e l g6;split at D
  ·rename_i H;have k7:t0=.list ka e:=by
    simp_all
   subst k7;have d:=h.room hr hl;have y:BP M b:=⟨n,h.place hr hl⟩;split at D
   ·
    rename_i h5;rw[h5]at Q;have Q:vy=.slice ke 0 0:=Q;split at D;grind
    ·rename_i r2 h2;obtain⟨F,-⟩:=AY h2;have i:=h.sW F;have a:=Yo (A:=ke) (n:=0) (c:=0) hty (Pb H) d (o:=u) (B4 _);rw[<-I,<-Q]at a;have hm:=a3o (v:=vy) d (o:=u) (Nat.lt_succ_self _);obtain⟨h9,-,x⟩:=h.zI hr hl hd (w':=w.setCell ⟨b,u,ke⟩ vy) (ov':=M.ov) (pd':=U.pd) (y':=([]:List e.sI)) (O2:=[]) (R2:=[]) (.same (by simp_all)) (by
       rw[i];show CW _ ka e.cells _ (Ag _ ke b (u+0))=_;rw[hm,if_pos ⟨rfl,rfl⟩,Q];rfl) (λc j=>by
       rw[i,hm];by_cases e1:c=b/\j=u;simp_all[Ty.cells];simp_all) (by simp) (by simp) (by simp) (λc k hf _=>hf.setCell _ _) (by simp) (λc E hF=>by
       rw[Mi,if_neg];exact h.frame c E hF
       ·rintro rfl;rcases h.mine _ y with g|g;all_goals grind) (by simp) (f:=AV.kill n p) (λO=>Yk n p _ O)
     exact⟨_,_,_,b,u,I,by rw[Q];rfl,a,x,D⟩
   ·
    rename_i m p' h5;rw[h5]at Q;rcases Ah D with⟨E,G⟩|⟨-,G⟩<;>clear D
    ·simp at E;obtain⟨rfl,E⟩:=E;have h3:=Iv _ _ E;subst h3;split at G
     ·rename_i m2 p2 d2 F;rcases Ah G with⟨Y,L⟩|⟨-,L⟩<;>clear G
      ·simp at Y;obtain⟨rfl,Y⟩:=Y;have h3:=Iv _ _ Y;subst h3;have hp:=h.pend;rw[F]at hp;cases i:M.ov with
       |none=>rw[i]at hp;exact hp.elim
       |some ov=>
        have⟨b2,o2,v2⟩:=ov;rw[i]at hp;have⟨r2,e2,q1,T⟩:=hp;rw[hr]at q1;simp at q1;subst q1;rw[<-i,hl]at T;simp only[sj,pJ,Src.at.injEq]at T;obtain⟨-,rfl,rfl⟩:=T;have⟨r3,e3,s3,V,q4,q5⟩:=Q;rw[hr]at V;simp at V;subst V;rw[hl]at q4;simp only[sj,pJ]at q4;obtain⟨-,rfl⟩:=q4;have hv:v2=vy:=by
         simp_all[Src.rd,Ag]
        have C:∃A n' X,vy=.slice A n' X:=by
         rcases Da hd with⟨g,-⟩|⟨A,n',X,os,g,-⟩;all_goals simp_all
        have⟨A,n',X,C⟩:=C;have a:=Yo (A:=A) (n:=n') (c:=X) hty (Pb H) d (o:=u) (B4 _);rw[<-I,<-C,<-hv]at a
        have:=h.done F i
        refine⟨_,_,_,b,u,I,?_,?_,this,L⟩;rw[hv,C];rfl;simp_all
      simp_all
     simp_all
    ·split at G
     ·rename_i r2 e' l' b5 g7;split at G
      ·rename_i g3;subst g3;rcases Ah G with⟨-,L⟩|⟨h7,L⟩<;>clear G;grind
       ·have h7:m≠n:=by simp_all
        have⟨F,h4⟩:=AY g7;have⟨r3,e3,s3,V,q4,q5⟩:=Q;rw[h4]at V;simp at V;subst V;simp only[loc,CR,sj,pJ]at q4;obtain⟨q4,rfl⟩:=q4;obtain⟨O3,R3,i1,-,-,-,-,i6⟩:=h.sep h4;have g5:M.g m=.one vy:=by
         rcases i6 with⟨a9,-⟩|⟨-,⟨v,hs⟩,-⟩;all_goals simp_all[Src.rd]
        have C:∃A n' X,vy=.slice A n' X:=by
         rcases Da i1 with⟨g,-⟩|⟨A,n',X,os,g,-⟩;all_goals simp_all
        have⟨A,n',X,C⟩:=C;have a:=Yo (A:=A) (n:=n') (c:=X) hty (Pb H) d (o:=u) (B4 _);rw[<-I,<-C]at a;have⟨h9,x⟩:=h.move hr hl hd h4 g5 h7 F (f:=λO=>AV.drop m (AV.kill n p O)) (λO=>by
         rcases Yk n p (.list ka e') O with g|⟨g,g2⟩;left;rw[g];rfl
         ·rw[g];cases O with
          |ptr m2 T=>
           grind[AV.drop]
          |sref m2 T=>
           grind[AV.drop]
          |swin m2 T o2 k2=>
           grind[AV.drop]
          |_=>exact .inr ⟨rfl,g2,λk q hh=>by rcases hh with hh|hh|⟨_,_,hh⟩<;>cases hh⟩)
        have g9:(U.sG (AV.kill n p)).sG (AV.drop m)=U.sG λO=>AV.drop m (AV.kill n p O):=by
         have:∀s:SV,(s.sG (AV.kill n p)).sG (AV.drop m)=s.sG λO=>AV.drop m (AV.kill n p O):=λs=>by
          cases s<;>simp[SV.sG]
         simp_all[AE.sG]
        rw[g9]at L;exact⟨_,_,_,b,u,I,by rw[C];rfl,a,x,L⟩
      simp_all
     simp_all
   simp_all
  simp_all
 ·rename_i t1 y1 b6 g6;split at D
  ·rename_i k0;have⟨R,a4⟩:=k0;have hty:AU P t1 (.inl t)=ka:=by grind[Gl]
   obtain⟨yv,U1,M1,D,h1,hv,g4,-⟩:=h.uR (.inl Q) D;split at D
   ·rename_i r1 h2;have⟨F,S⟩:=AY h2;have i:=h1.sW F;split at D
    ·rename_i b4;have a3:AA (Ag w M1.ov) M1.g U1.rt (Bh B w M1) (.ptr n p) vx:=by
      rcases g4.live (.inl hx)with g|⟨k,q,g1,g2⟩;all_goals grind
     have⟨r3,t3,b3,o3,q1,T,V⟩:=a3;rw[S]at q1;simp at q1;subst q1;have⟨O4,R4,j1,j2,j3,j4,j5,j6⟩:=h1.sep S;obtain⟨y4,O5,R5,A5,B5,a6,a8,h6,b0,-,-⟩:=Cd p r1.t _ j1 T;have k8:t3=t1:=by
      simp_all
     subst k8;have g0:=PN R h6;subst g0;have d:=h1.room S T;have y:BP M1 b3:=⟨n,h1.place S T⟩;have a:=fR hty hv d (o:=o3) (B4 _);rw[<-V]at a;obtain⟨b7,-⟩:=hv.cells;obtain⟨-,-,R6,k9,h0⟩:=id hv;have a2:vy.cells.toList.length=t3.cells:=by omega
     have hm:∀c j,Ag (w.setCells b3 o3 vy.cells.toList) ke c j=if c=b3/\o3<=j/\j<o3+t3.cells then vy.cells.toList[j-o3]? else Ag w ke c j:=λc j=>by
      have:=KA b3 vy.cells.toList o3 w _ d (by omega) c j
      rw[a2]at this;exact this
     obtain⟨h9,-,x⟩:=h1.zI S T h6 (w':=w.setCells b3 o3 vy.cells.toList) (ov':=M1.ov) (pd':=U1.pd) (y':=yv) (O2:=[]) (R2:=R6) (.same (by simp_all)) (by
       rw[i];refine AI t3 k9 (λj hj=>?_) (λc j E=>?_);show Ag _ ke b3 (o3+j)=_;simp_all;rcases E with E|E;simp_all;rw[hm,if_neg,i];rintro⟨rfl,-⟩;exact(h0 c E).2.2 y) (λc j=>by
       grind) (by simp) (by simp) (by simp) (λc k hf _=>hf.setCells _ _ _) (by simp_all[Iu]) (λc E hF=>by
       rw[ET];exact h1.frame c E hF
       ·rintro rfl;rcases h1.mine _ y with g|g;all_goals grind) (λc E=>⟨by rw[Iu];exact(h0 c E).1,(h0 c E).2.1,(h0 c E).2.2,by simp⟩) (f:=id) (λO=>.inr ⟨rfl,a8f n p R O⟩) (hio:=KB _ _ _ _)
     rw[b7c]at x;exact⟨_,_,_,b3,o3,V,rfl,a,x,D⟩
    simp_all
   simp_all
  ·cases p with
   |nil=>exact h.yX (hty:=hty) hr hx Q D
   |cons=>cases D
theorem nD{o:Oper}{t:TypeId}{x y:Operand}{cx:Cx}{q:Bool}{K:AE->Rs Z}{z:Z}(e:CxTy P cx)(c:o.op=.store t x y)(d:U.tH y=ke) (h:sH B U N (AJ a) w M)(v:a.tmps.size=N)(m:fits N o=ka)(g:Bg cx q o U K=kd z):AW P B N o a w K z:=by
 have r:=h.sJ (Bl m x (by simp[c,Op.operands]));have C:=h.sJ (Bl m y (by simp[c,Op.operands]));have g:(if q then ke else match U.sJ x with
  |.ptr n p=>match cx.T t with|some t=>(U.vI t n p (U.sJ y) λU=>K (U.tY o.dst .dead))|none=>ke
  |_=>ke)=kd z:=by
  simp only[Bg,c,d]at g;omega
 split at g;grind;split at g;rename_i n p l;rw[l]at r;split at g;rename_i G A;have⟨i,j⟩:=e.T t _ A;obtain⟨H,F,E,b,D,-,-,k,f,u⟩:=sH.xL i j h r C g;exact AW.skip v (by simp[execOp,c,k]) f u;simp_all;simp_all
theorem XC(w:World)(cs:Array Value)(t:TypeId)(k:Nat)(u:Value):
  (w.alloc (.cells cs t)).setCell ⟨w.heap.size,k,ke⟩ u=w.alloc (.cells (cs.setIfInBounds k u) t):=by
 have:(w.heap.push (.cells cs t)).modify w.heap.size (fun
   |.cells c elem frozen=>.cells (if(ke:Option Nat).isSome then c else c.setIfInBounds k u) elem frozen
   |o=>o)=w.heap.push (.cells (cs.setIfInBounds k u) t):=by
  grind
 simp only[World.setCell,World.alloc];grind
theorem uV:∀τ:Ty,τ.sh.sh=τ.sh|.int _|.bool|.str|.unit=>rfl|.list _ e=>by simp only[Ty.sh,uV e]|.nl e=>by simp only[Ty.sh,uV e]|.arr _ e=>by simp only[Ty.sh,uV e]|.pair a b=>by simp only[Ty.sh,uV a,uV b]
def Tu:Nat->Ty->Option Ty|0,τ=>kd τ|k+1,.pair a b=>if a.cells=1 then Tu k b else none|_+1,_=>ke
theorem fU:∀(k:Nat)(τ:Ty){a b:Ty},Tu k τ=kd (.pair a b)->CZ τ k=ka/\(a.cells=1->Tu (k+1) τ=kd b)/\∀(m:Es) bl o,loc m τ (.at bl o) (BA k)=kd (a,.at bl (o+k))|0,τ,a,b,h=>by simp[Tu]at h;subst h;exact⟨rfl,λh=>by simp[Tu,h],λm bl o=>rfl⟩|k+1,τ,a,b,h=>by cases τ with|pair u v=>(simp only[Tu]at h;split at h;rename_i c;have⟨g,d,f⟩:=fU k v h;refine⟨g,λe=>by simp_all[Tu],λm bl o=>?_⟩;have:=f m bl (o+u.cells);rw[c]at this;show loc m v (.at bl (o+u.cells)) (BA k)=_;grind;simp_all)|_=>simp[Tu]at h
theorem nE{τ0:Ty}{t:TypeId}(hty:AU P τ0 (.inl t)=ka){i d q:Nat}(hi:i<N)(x:d<N){us:Array Value}{tm:Nat->Value}(p:tm i=.agg us)(y:tm d=.pointer (kd ⟨q,0,ke⟩)){z:Z}{K:AE->Rs Z}:∀(τ:Ty)(k:Nat){U:AE}{M:Gh}{w:World},sH B U N tm w M->Tu k τ0=kd τ->AE.uM (.tmp i) d τ0 k τ U K=kd z->us.size=k+τ.cells/\∃D M',sH B D N tm (w.setCells q k (us.toList.drop k)) M'/\K D=kd z|.unit,k,U,M,w,h,_,f=>by(simp[AE.uM]at f;split at f;rename_i C c;have⟨hk,R⟩:=(Ah f).elim id λh=>by grind);(have j:=h.slots i hi;simp[AE.tH]at c;split at c;rename_i V I;simp at c;subst c;rw[I]at j;have⟨us',⟨Y,A,h3⟩,h4⟩:=j;rw[p]at A;cases A;have hk:V.length=k:=by simp_all);refine⟨by simp_all[Ty.cells],U,M,?_,R⟩;rw[List.drop_of_length_le (by simp_all)];exact h;simp_all;simp_all|.pair a b,k,U,M,w,h,htl,f=>by(simp[AE.uM]at f;split at f;rename_i r n v hr G hv;split at f;rename_i hc;obtain⟨h0,rfl,ha⟩:=hc;have⟨Y,A,h3⟩:=fU k τ0 htl;have m:=h.slots n x;rw[y]at m;have H:AA (Ag w M.ov) M.g U.rt (Bh B w M) (.ptr n []) (.pointer (kd ⟨q,0,ke⟩)):=by simp[AE.get]at G;split at G;rename_i v' l;subst G;rw[l]at m;exact m;simp_all);(have⟨r',t',b',o',S,T,p3⟩:=H;rw[hr]at S;simp at S;subst S;simp[CR]at T;obtain⟨rfl,T⟩:=T;simp at p3;obtain⟨rfl,rfl⟩:=p3;have hx:AA (Ag w M.ov) M.g U.rt (Bh B w M) (.ptr n (BA k)) (.pointer (kd ⟨q,k,ke⟩)):=by refine⟨r,a,q,0+k,hr,?_,by simp⟩;simp_all);(have j:=h.slots i hi;have c:∃C,U.sl i=.cmp .agg C/\C[k]?=kd v:=by grind[AE.tH]);(have⟨C,I,Q⟩:=c;rw[I]at j;have⟨us',⟨g1,X,g3⟩,g4⟩:=j;rw[p]at X;cases X;have⟨u,O,hu⟩:=g4 k v Q;have⟨E,h5,l⟩:∃E,P.underlying t=kd (.struct E)/\AU P τ0 (.inr (E.toList,0))=ka:=by grind[Rh]);(have⟨fl,τ',k',q1,q2,q3,q4,q5⟩:=Tp k τ0 _ 0 l Y;have e:=(q5 (Ag w ke) 0 0).symm.trans (h3 (Ag w ke) 0 0);simp only[sj,pJ]at e;obtain⟨rfl,-⟩:=e;have L:AU P τ'.sh (.inl fl.type)=ka:=by rw[Gl];omega);(have o:τ'.sh.sh=τ'.sh:=uV τ';have⟨w',D,M',b2,o2,s1,s2,s3,s4,s5⟩:=sH.xL o L h hx hu f;simp at s1;obtain⟨rfl,rfl⟩:=s1;rw[Zq (g3 k u O)]at s2;subst s2;have⟨c1,U2,M2,c2,c3⟩:=nE hty hi x p y b (k+1) s4 (A ha) s5;refine⟨by grind[Ty.cells],U2,M2,?_,c3⟩;have F:us.toList.drop k=u::us.toList.drop (k+1):=by grind[D4]);rw[F];exact c2;simp_all;simp_all|.int _,k,U,M,w,_,_,f=>by simp[AE.uM]at f|.bool,k,U,M,w,_,_,f=>by simp[AE.uM]at f|.str,k,U,M,w,_,_,f=>by simp[AE.uM]at f|.list _ _,k,U,M,w,_,_,f=>by simp[AE.uM]at f|.arr _ _,k,U,M,w,_,_,f=>by simp[AE.uM]at f
theorem Vr(w:World)(t:TypeId):∀(l:List Value)(k:Nat)(cs:Array Value),k+l.length=cs.size->(w.alloc (.cells cs t)).setCells w.heap.size k l=w.alloc (.cells (cs.toList.take k++l).toArray t)|[],k,cs,h=>by simp_all[World.setCells,List.take_of_length_le]|u::l,k,cs,h=>by(simp only[World.setCells,lC]at h|-;rw[XC,Vr w t l (k+1) _ (by simp;omega)];congr 2;have g:k<cs.toList.length:=by simp;omega);simp only[Array.toList_setIfInBounds];rw[D8 (by simpa using g)];simp[F3]
theorem a5k{o:Oper}{t:TypeId}{x:Operand}{d:Nat}{cx:Cx}{q:Bool}{K:AE->Rs Z}{z:Z}{r:List AV}(l:CxTy P cx)(C:o.op=.box t x)(V:o.dst=kd d)(j:(bif q then ke else U.tH x)=kd r) (h:sH B U N (AJ a) w M)(Q:a.tmps.size=N)(Y:fits N o=ka)(e:Bg cx q o U K=kd z):AW P B N o a w K z:=by
 have g:U.tH x=kd r:=by grind
 have p:=Bl Y x (by simp[C,Op.operands]);have m:d<N:=by simp_all[fits]
 simp[Bg,C,V,j]at e;split at e;rename_i τ hrd hO;split at e;rename_i R;have b:AU P τ (.inl t)=ka:=by rw[<-Gl];exact(l.T t _ R).2
 obtain⟨I⟩:=AL (AZ b);cases x with|tmp i=>((have A:i<N:=by simpa[Cw]using p);(have k:=h.slots i A;have hs:U.sl i=.cmp .agg r:=by grind[AE.tH]);(rw[hs]at k;obtain⟨us,⟨h1,O,h3⟩,h4⟩:=k;have X:a.eval (.tmp i)=.agg us:=O;have f:(execOp a.eval o).run P w=.ok (.value (.pointer (kd ⟨w.heap.size,0,ke⟩))) (w.alloc (.cells us t)):=by simp_all[execOp,Instr.box,newVar,newRow,Value.cells]);(obtain⟨U1,M1,u,F,G⟩:=h.xG e (λc S=>BF _ c S) (BZ _) (Bv (w:=w) (.cells I.z.cells t)) I.uY (JJ _ I.zok) (by simp);have h0:i≠d:=by rintro rfl;cases τ<;>simp[AE.uM,AE.tH,AE.set,AE.put]at u);have H:=F.uL (sv:=.one (.ptr d [])) (v:=.pointer (kd ⟨w.heap.size,0,ke⟩)) (d:=d) Q (λ_=>G);obtain⟨g0,E,D,y,L⟩:=nE b A m (us:=us) (tm:=AJ (a.put (kd d) (.pointer (kd ⟨w.heap.size,0,ke⟩)))) (by simp_all[Vg]) (by rw[Vg d (by omega),if_pos rfl]) τ 0 H rfl u;rw[G7,Vr w t us.toList 0 I.z.cells (by rw[I.uY,E5];omega)]at y;simp at y;exact⟨_,_,E,D,.inl f,by simp_all,L⟩)|_=>simp[AE.tH]at g
 simp_all;simp_all
theorem XD{o:Oper}{t:TypeId}{x y:Operand}{cx:Cx}{q:Bool}{K:AE->Rs Z}{z:Z}{vs:List AV}(I:CxTy P cx)(L:o.op=.store t y x)(p:U.tH x=kd vs)
  (h:sH B U N (AJ a) w M)(hN:a.tmps.size=N)(hf:fits N o=ka)(f:Bg cx q o U K=kd z):AW P B N o a w K z:=by
 have R:=Bl hf x (by simp[L,Op.operands]);have S:=Bl hf y (by simp[L,Op.operands]);have f:(if q then ke else match y with
   |.tmp s=>match U.rt s with
    |some r=>if cx.T t=kd r.t.sh/\0<r.t.cells then AE.uM x s r.t 0 r.t U λU=>K (U.tY o.dst .dead)else ke
    |none=>ke
   |_=>ke)=kd z:=by
  simp only[Bg,L,p]at f;omega
 split at f;grind
 ·cases y with
  |tmp d=>
   simp at f;have A:d<N:=by simpa[Cw]using S
   split at f
   ·rename_i r O;split at f
    ·rename_i H;have⟨H,c⟩:=H;have G:AU P r.t (.inl t)=ka:=by rw[<-Gl];exact(I.T t _ H).2
     cases x with
     |tmp i=>
      have hi:i<N:=by simpa[Cw]using R
      have E:=h.slots i hi;have hs:U.sl i=.cmp .agg vs:=by
       grind[AE.tH]
      rw[hs]at E;have⟨us,⟨h1,Y,h3⟩,h4⟩:=E;have h6:a.eval (.tmp i)=.agg us:=Y

      have D:∃e,AJ a d=.pointer (kd ⟨e,0,ke⟩)/\loc (Ag w M.ov) r.t (M.g d) []=kd (r.t,.at e 0):=by
       have j:U.get d=.ptr d []:=by
        revert f c;cases r.t with
        |pair u v=>
         grind[AE.uM]
        |unit=>simp_all[Ty.cells]
        |_=>intro c f;simp[AE.uM]at f
       have b:AA (Ag w M.ov) M.g U.rt (Bh B w M) (.ptr d []) (AJ a d):=by
        have b:=h.slots d A;simp[AE.get]at j;split at j;rename_i v' Q;subst j;rw[Q]at b;exact b;simp_all
       have⟨r',t',b',o',V,m,p3⟩:=b;rw[O]at V;simp at V;subst V;simp[CR]at m;obtain⟨rfl,m⟩:=m;obtain⟨O',R',-,-,hb⟩:=(h.roots d r O).rd;rcases hb with⟨-,e,q1,-⟩|⟨-,⟨v,q1⟩,-⟩;rw[q1]at m;simp at m;obtain⟨rfl,rfl⟩:=m;simp_all[CR];simp_all
      have⟨e,F,C⟩:=D;have l:=h.room O C;have⟨g0,U',M',X,g6⟩:=nE G hi A (us:=us) Y F r.t 0 h rfl f;rw[G7]at X;have h0:(Instr.storeAt t (.pointer (kd ⟨e,0,ke⟩)) (.agg us)).run P w=.ok () (w.setCells e 0 us.toList):=
       Zp G (by simp_all[Value.cells]) (λu hu=>by
        have⟨k,hk⟩:=E1.1 hu;exact h3 k u (by rw[<-B8];exact hk)) l (B4 _)
      have h5:a.eval (.tmp d)=.pointer (kd ⟨e,0,ke⟩):=F;exact AW.skip hN (by simp_all[execOp]) X g6
     |_=>simp[AE.tH]at p
    simp_all
   simp_all
  |_=>grind
end
theorem Sx:∀(p q:BB)(t:Ty)(x:t.sI),Dv (p++q) t x=Dv q (Dv p t x).1 (Dv p t x).2|[],_,_,_=>rfl|.fst::p,q,t,x=>(by cases t with|pair a b=>exact Sx p q a x.1|_=>cases q with|nil=>rfl|cons s q=>cases s<;>rfl)|.snd::p,q,t,x=>(by cases t with|pair a b=>exact Sx p q b x.2|_=>cases q with|nil=>rfl|cons s q=>cases s<;>rfl)|.idx i::p,q,t,x=>by cases t with|arr n e=>exact Sx p q e _|list o e=>(cases o with|true=>exact Sx p q e _|false=>cases q with|nil=>rfl|cons s q=>cases s<;>rfl)|_=>cases q with|nil=>rfl|cons s q=>cases s<;>rfl
theorem Vs(t:Ty)(x y:t.sI):Gj [] t x t y=y:=mM t x y
theorem Vt:∀(p q:BB)(t:Ty)(x:t.sI)(h:Ty)(y:h.sI),Gj (p++q) t x h y=Gj p t x (Dv p t x).1 (Gj q (Dv p t x).1 (Dv p t x).2 h y)|[],q,t,x,h,y=>(Vs t x (Gj q t x h y)).symm|.fst::p,q,t,x,h,y=>(by cases t with|pair a b=>show(Gj (p++q) a x.1 h y,x.2)=(Gj p a x.1 (Dv p a x.1).1 (Gj q (Dv p a x.1).1 (Dv p a x.1).2 h y),x.2);simp_all[Vt]|_=>rfl)|.snd::p,q,t,x,h,y=>(by cases t with|pair a b=>show(x.1,Gj (p++q) b x.2 h y)=(x.1,Gj p b x.2 (Dv p b x.2).1 (Gj q (Dv p b x.2).1 (Dv p b x.2).2 h y));simp_all[Vt]|_=>rfl)|.idx i::p,q,t,x,h,y=>by cases t with|arr n e=>show G6 x i (Gj (p++q) e (D0 x i e.dflt) h y)=G6 x i (Gj p e (D0 x i e.dflt) (Dv p e (D0 x i e.dflt)).1 (Gj q (Dv p e (D0 x i e.dflt)).1 (Dv p e (D0 x i e.dflt)).2 h y));simp_all[Vt]|list o e=>(cases o with|true=>show G6 x i (Gj (p++q) e (D0 x i e.dflt) h y)=G6 x i (Gj p e (D0 x i e.dflt) (Dv p e (D0 x i e.dflt)).1 (Gj q (Dv p e (D0 x i e.dflt)).1 (Dv p e (D0 x i e.dflt)).2 h y));simp_all[Vt]|false=>rfl)|_=>rfl
theorem dN:∀(p:BB)(t:Ty)(x:t.sI)(g:Ty)(y:g.sI),Yh p=ka->(Dv p t x).1=g->Dv p t (Gj p t x g y)=⟨g,y⟩|[],t,x,g,y,_,h=>by have h:t=g:=h;subst h;exact cG (Sigma.mk t) (Vs t x y)|.fst::p,t,x,g,y,f,h=>(by cases t with|pair a b=>exact dN p a x.1 g y f h|_=>have h:Ty.unit=g:=h;subst h;rfl)|.snd::p,t,x,g,y,f,h=>(by cases t with|pair a b=>exact dN p b x.2 g y f h|_=>have h:Ty.unit=g:=h;subst h;rfl)|.idx _::_,_,_,_,_,f,_=>by cases f
theorem dO:∀(p:BB)(t:Ty)(x:t.sI)(g:Ty)(y z:g.sI),Yh p=ka->(Dv p t x).1=g->Gj p t (Gj p t x g y) g z=Gj p t x g z|[],t,x,g,y,z,_,h=>by have h:t=g:=h;grind[Vs]|.fst::p,t,x,g,y,z,f,h=>(by cases t with|pair a b=>show(Gj p a (Gj p a x.1 g y) g z,x.2)=(Gj p a x.1 g z,x.2);rw[dO p a x.1 g y z f h]|_=>rfl)|.snd::p,t,x,g,y,z,f,h=>(by cases t with|pair a b=>show(x.1,Gj p b (Gj p b x.2 g y) g z)=(x.1,Gj p b x.2 g z);rw[dO p b x.2 g y z f h]|_=>rfl)|.idx _::_,_,_,_,_,_,f,_=>by cases f
theorem WQ:∀(p:BB)(t:Ty)(x:t.sI),Yh p=ka->Gj p t x (Dv p t x).1 (Dv p t x).2=x|[],t,x,_=>Vs t x x|.fst::p,t,x,h=>(by cases t with|pair a b=>show(Gj p a x.1 (Dv p a x.1).1 (Dv p a x.1).2,x.2)=x;rw[WQ p a x.1 h];rfl|_=>rfl)|.snd::p,t,x,h=>(by cases t with|pair a b=>show(x.1,Gj p b x.2 (Dv p b x.2).1 (Dv p b x.2).2)=x;rw[WQ p b x.2 h];rfl|_=>rfl)|.idx _::_,_,_,h=>by cases h
section
variable {P:Program} {B:Base} {N:Nat} {Z:Type} {U:AE} {a:Act} {w:World} {M:Gh}
theorem a1K(h:sH B U N tm w M){n p v r k}{l:List Int}(u:AA (Ag w M.ov) M.g U.rt (Bh B w M) (.sref n p) v)(m:U.rt n=kd r)(z:CQ r.t r.x p=⟨.list ka (.int k),l⟩):∃A c,v=.slice A l.length c/\∀j,j<l.length->∃f,A=kd f/\f.spot=ke/\AA (Ag w M.ov) M.g U.rt (Bh B w M) (.ptr n (p++[.idx (0+j)])) (.pointer (kd ⟨f.block,f.off+j,ke⟩)):=by obtain⟨s,E,F,o,G,H,q,-,-⟩:=h.slice u m z;rcases Da q with⟨a,b⟩|⟨f,D,c,I,a,d,C,y,-⟩;simp[Src.rd]at a;obtain⟨b,-⟩:=b;subst b;exact⟨ke,0,a,λj e=>absurd e (Nat.not_lt_zero j)⟩;simp[Src.rd]at a;have i:l.length=D:=Bb _ _ y;refine⟨kd f,c,by simp_all,λj e=>⟨f,rfl,d.resolve_left (by omega),r,.int k,f.block,f.off+j,m,?_,rfl⟩⟩;rw[Fp p _ _ _ o];simp_all[CR,Ty.cells]
theorem a1L(h:sH B U N tm w M){n p v r k off a}{l:List Int}(y:AA (Ag w M.ov) M.g U.rt (Bh B w M) (.swin n p off a) v)(i:U.rt n=kd r)(C:CQ r.t r.x p=⟨.list ka (.int k),l⟩):off+a<=l.length/\∃A c,v=.slice A a c/\∀j,j<a->∃b,A=kd b/\b.spot=ke/\AA (Ag w M.ov) M.g U.rt (Bh B w M) (.ptr n (p++[.idx (off+j)])) (.pointer (kd ⟨b.block,b.off+j,ke⟩)):=by(have⟨s,G,H,A,m,c,q,K,u,L,O,P,o,F,Q,g8⟩:=h.window y i C;rcases Da u with⟨f,S⟩|⟨b,T,I,V,f,d,E,z,-⟩;simp[Src.rd]at f;simp_all;simp[Src.rd]at f;obtain⟨rfl,rfl,rfl⟩:=f;have e:l.length=m:=Bb _ _ z;refine⟨by omega,o,_,F,λj R=>?_⟩;rcases g8 with g8|g8;omega;simp[Gm (d.resolve_left (by omega))]at g8;refine⟨_,g8,rfl,r,.int k,b.block,b.off+off*1+j,i,?_,rfl⟩;rw[Fp p _ _ _ q];have D:off+j<m:=by omega);simp_all[CR,Ty.cells,Nat.add_assoc]
theorem nF{U:AE}(h:U.rt n=kd r):U.sD n (kd r)=U:=by(have:(λj=>bif j==n then kd r else U.rt j)=U.rt:=by grind);simp_all[AE.sD]
theorem a5l{U:AE}{r h:Option sK}:(U.sD n r).sD n h=U.sD n h:=by simp only[AE.sD];grind
theorem a5m(l:List Int)(i:Nat):Dv [.idx i] (.list ka (.int k)) l=⟨.int k,l.getD i 0⟩:=rfl
theorem b3U(l:List Int)(i:Nat)(y:Int):Gj [.idx i] (.list ka (.int k)) l (.int k) y=l.set i y:=by show l.set i (Gj [] (.int k) (l.getD i 0) (.int k) y)=_;exact cG _ (Vs (.int k) _ y)
theorem b3V{l:List Int}{y:Int}(b:U.pd=ke)(e:U.rt n=kd r)(h:CQ r.t r.x p=⟨.list ka (.int k),l⟩):U.vI (.int k) n (p++[.idx i]) (.val (.int k) y) kd=kd (U.sD n (kd ⟨r.bx,r.t,FK r.t r.x p (.list ka (.int k)) (l.set i y)⟩)):=by(have h:Dv p r.t r.x=⟨.list ka (.int k),l⟩:=h;have f:Dv (p++[.idx i]) r.t r.x=⟨.int k,l.getD i 0⟩:=by rw[Sx,h,a5m]);(have a:Gj (p++[.idx i]) r.t r.x (.int k) y=Gj p r.t r.x (.list ka (.int k)) (l.set i y):=by have g:=Vt p [.idx i] r.t r.x (.int k) y;rw[h]at g;exact g.trans (cG (λz:List Int=>Gj p r.t r.x (.list ka (.int k)) z) (b3U l i y)));have c:CQ r.t r.x (p++[.idx i])=⟨.int k,l.getD i 0⟩:=f;have d:FK r.t r.x (p++[.idx i]) (.int k) y=FK r.t r.x p (.list ka (.int k)) (l.set i y):=a;simp_all[AE.vI,Ty.sh,Ty.tK,AE.uR,AE.look,sZ]
theorem b3W{n:Nat}{p:BB}{k:IntKind}{V:TypeId}{i:Nat}{av:AV}{tm:Nat->Value}{b o off m L:Nat}(hp:Yh p=ka)(hty:AU P (.int k) (.inl V)=ka) (f:∀{U:AE}{M:Gh}{w:World}{r:sK}{l:List Int},sH B U N tm w M->U.sl i=.one av->U.rt n=kd r->CQ r.t r.x p=⟨.list ka (.int k),l⟩->l.length=L->∀j,j<m->AA (Ag w M.ov) M.g U.rt (Bh B w M) (.ptr n (p++[.idx (off+j)])) (.pointer (kd ⟨b,o+j,ke⟩)))(c:off+m<=L):∀(ys:List Int)(s:Nat){U:AE}{M:Gh}{w:World}{r:sK}{l:List Int},s+ys.length<=m->sH B U N tm w M->U.pd=ke->U.sl i=.one av->U.rt n=kd r->CQ r.t r.x p=⟨.list ka (.int k),l⟩->l.length=L->∃M',sH B (U.sD n (kd ⟨r.bx,r.t,FK r.t r.x p (.list ka (.int k)) (l.take (off+s)++(ys++l.drop (off+s+ys.length)))⟩)) N tm (w.setCells b (o+s) (ys.map (Value.int k))) M'|[],s,U,M,w,r,l,_,h,_,_,d,a,_=>by(refine⟨M,?_⟩;have a:Dv p r.t r.x=⟨.list ka (.int k),l⟩:=a;have e:FK r.t r.x p (.list ka (.int k)) (l.take (off+s)++([]++l.drop (off+s+([]:List Int).length)))=r.x:=by(have C:=WQ p r.t r.x hp;rw[a]at C;have v:l.take (off+s)++([]++l.drop (off+s+([]:List Int).length))=l:=by simp);exact(cG (λz:List Int=>Gj p r.t r.x (.list ka (.int k)) z) v).trans C);(have H:sH B (U.sD n (kd ⟨r.bx,r.t,r.x⟩)) N tm w M:=by rw[show(⟨r.bx,r.t,r.x⟩:sK)=r from rfl,nF d];omega);exact(cG (λz=>sH B (U.sD n (kd ⟨r.bx,r.t,z⟩)) N tm w M) e).mpr H|y::ys,s,U,M,w,r,l,Q,h,hpd,hsl,d,a,K=>by(simp at Q;have R:=f h hsl d a K s (by omega);have S:=b3V (i:=off+s) (y:=y) hpd d a;obtain⟨X,Y,M',Z,o',D,A,-,T,E⟩:=sH.xL rfl hty h R (AA.tF (k:=k) y) S;simp at D E;obtain⟨rfl,rfl⟩:=D;subst E;have A:X=w.setCell ⟨b,o+s,ke⟩ (.int k y):=A;subst A;have I:Dv p r.t r.x=⟨.list ka (.int k),l⟩:=a;have u:=dN p r.t r.x (.list ka (.int k)) (l.set (off+s) y) hp (by grind);have⟨F,q⟩:=b3W hp hty f c ys (s+1) (r:=⟨r.bx,r.t,FK r.t r.x p (.list ka (.int k)) (l.set (off+s) y)⟩) (l:=l.set (off+s) y) (by omega) T hpd hsl (Nn _) u (by simp_all);refine⟨F,?_⟩;rw[a5l]at q;have G:FK r.t (FK r.t r.x p (.list ka (.int k)) (l.set (off+s) y)) p (.list ka (.int k)) ((l.set (off+s) y).take (off+(s+1))++(ys++(l.set (off+s) y).drop (off+(s+1)+ys.length))) =FK r.t r.x p (.list ka (.int k)) (l.take (off+s)++(y::ys++l.drop (off+s+(y::ys).length))):=by(refine(dO p r.t r.x (.list ka (.int k)) _ _ hp (by grind)).trans (cG _ ?_);have O:off+s<l.length:=by omega);rw[show off+(s+1)=off+s+1 from rfl,D8 (by simp_all)];rw[List.drop_set_of_lt (by omega)];simp only[List.getElem_set_self,F3 (B4 _),aA,lC,List.cons_append,E9];grind);rw[G]at q;exact q
theorem b3X{t0:TypeId}{off D c:Nat}{l ys:List Int}(hty:AU P (.int k) (.inl t0)=ka)(h:sH B U N (AJ a) w M)(h9:U.pd=ke)(hp:Yh p=ka)(K:U.sl i=.one av)(Q:U.rt n=kd r)(T:CQ r.t r.x p=⟨.list ka (.int k),l⟩)(g1:off+D<=l.length)(G:∀{U:AE}{M:Gh}{w:World}{r:sK}{l':List Int},sH B U N (AJ a) w M->U.sl i=.one av->U.rt n=kd r->CQ r.t r.x p=⟨.list ka (.int k),l'⟩->l'.length=l.length->∀j,j<D->∃f,A=kd f/\f.spot=ke/\AA (Ag w M.ov) M.g U.rt (Bh B w M) (.ptr n (p++[.idx (off+j)])) (.pointer (kd ⟨f.block,f.off+j,ke⟩)))(hE:Uy w (Ag w M.ov) (Bh B w M) (.int k) ys vy){ty:TypeId}(h0:ts[0]?=kd t)(hu:P.underlying t=kd (.slice t'))(I:vF P (.int k) t'):∃w' M',(Builtin.copy_ ts ty #[.slice A D c,vy]).run P w=.ok (goInt ((min D ys.length:Nat):Int)) w'/\sH B (U.sD n (kd ⟨r.bx,r.t,FK r.t r.x p (.list ka (.int k)) (Zk l off D ys)⟩)) N (AJ a) w' M':=by
 obtain⟨Y,ny,cy,cs,rfl,hn,hlen,hone,⟨R,S,hR⟩,hc,hnone,hsp⟩:=hE;have h5:cs=ys.map (Value.int k):=by have:=Tr ys ny 0 (by simp_all[Ty.cells]) S;simp_all
 have⟨m,Z⟩:∃m,m=min D ys.length:=⟨_,rfl⟩;have h8:m<=ny:=by rw[hn,Z];exact Nat.min_le_right _ _
 have d:=PD (P:=P) (w:=w) (w2:=w) (e:=.int k) rfl (λ_=>rfl) hlen hc hnone m h8 (c:=cy);simp[Ty.cells]at d;have O:cs.take m=(ys.take m).map (Value.int k):=by simp_all
 have V:Zk l off D ys=l.take (off+0)++(ys.take m++l.drop (off+0+(ys.take m).length)):=by simp_all[Zk]
 have E:Nat.min ny D=m:=by rw[Z,hn];exact Nat.min_comm _ _
 have C:(sizeOf t').run P w=.ok 1 w:=by have:=I.sizeOf (w:=w);simp_all[Ty.cells]
 by_cases hm0:m=0;refine⟨w,M,?_,?_⟩;rw[<-Z];simp only[Builtin.copy_,h0];have h6:(Builtin.firstCells 1 0 (.slice Y ny cy)).run P w=.ok #[] w:=by simp_all
 simp[run_underlying hu,Builtin.lenOf,E,hm0,C,h6];cases A<;>simp[storeCells];have e:Zk l off D ys=l:=by rw[V,hm0];simp
 have h1:=WQ p r.t r.x hp;have v:Dv p r.t r.x=⟨.list ka (.int k),l⟩:=T;rw[v]at h1;have h4:sH B (U.sD n (kd ⟨r.bx,r.t,r.x⟩)) N (AJ a) w M:=by rw[show(⟨r.bx,r.t,r.x⟩:sK)=r from rfl,nF Q];omega
 exact(cG (λz:List Int=>sH B (U.sD n (kd ⟨r.bx,r.t,FK r.t r.x p (.list ka (.int k)) z⟩)) N (AJ a) w M) e).mpr ((cG (λz=>sH B (U.sD n (kd ⟨r.bx,r.t,z⟩)) N (AJ a) w M) h1).mpr h4);obtain⟨f,rfl,g2,-⟩:=G h K Q T rfl 0 (by omega);have⟨M',h2⟩:=b3W (b:=f.block) (o:=f.off) (off:=off) (m:=m) (L:=l.length) hp hty (λhR hs g0 v h7 j hj=>by obtain⟨A1,e1,-,g⟩:=G hR hs g0 v h7 j (by omega);simp_all) (by omega) (ys.take m) 0 (by simp_all) h h9 K Q T rfl;refine⟨_,M',?_,(cG (λz=>sH B (U.sD n (kd ⟨r.bx,r.t,FK r.t r.x p (.list ka (.int k)) z⟩)) N (AJ a) (w.setCells f.block (f.off+0) ((ys.take m).map (Value.int k))) M') V).mpr h2⟩;have q:∀j,j<m->∃kk,Cv w f.block kk/\f.off+j<kk:=λj hj=>by(obtain⟨A1,e1,-,r1,t1,b1,o1,F,q2,q3⟩:=G h K Q T rfl j (by omega);simp at e1;subst e1;simp at q3;obtain⟨rfl,rfl⟩:=q3;have H:=h.room F q2;refine⟨_,H,?_⟩;have g3:t1=.int k:=by rw[Q]at F;simp at F;subst F;obtain⟨O1,R1,k1,-⟩:=h.sep Q;obtain⟨y,O',R',_,_,_,_,-,g4,-⟩:=Cd _ r.t _ k1 q2;have g5:Dv (p++[.idx (off+j)]) r.t r.x=⟨t1,y⟩:=g4;have v:Dv p r.t r.x=⟨.list ka (.int k),l⟩:=T;rw[Sx,v,a5m]at g5;grind);grind
 have X:=run_storeCells_cells (P:=P) f.block f.off (cs.take m) 0 w (λj hj=>by
  have⟨kk,F,q2⟩:=q j (by simp_all);exact(F.cell (o:=f.off+0+j) (by omega)).1) (λj hj=>by
  have⟨kk,F,q2⟩:=q j (by simp_all);exact(F.cell (o:=f.off+0+j) (by omega)).2) (λu hu=>Ld (hone u (List.mem_of_mem_take hu)))
 have h3:f=⟨f.block,f.off,ke⟩:=by cases f;grind
 rw[<-h3,h5]at X;rw[<-Z];simp only[Builtin.copy_,h0];simp only[C7]at *;simp[run_underlying hu,Builtin.lenOf,E,C,d,X,O]
theorem b1D{o:Oper}{c:Call}{d:Nat}{cx:Cx}{q:Bool}{K:AE->Rs Z}{z:Z}(h6:CxTy P cx)(ho:o.op=.call c)(hb:c.callee=.builtin .copy)(hd:o.dst=kd d) (h:sH B U N (AJ a) w M)(hN:a.tmps.size=N)(hf:fits N o=ka)(H:Bg cx q o U K=kd z):AW P B N o a w K z:=by
 have⟨cs,h0⟩:=WO (P:=P) (a:=a) (w:=w) ho hb;have hl:∃x y,c.args.toList=[x,y]:=by cases hl:c.args.toList with|nil=>simp_all[Bg,AE.uN]|cons x l=>cases l with|nil=>simp_all[Bg,AE.uN]|cons y l=>cases l with|nil=>simp|cons u l=>simp_all[Bg,AE.uN]
 have⟨x,y,h3⟩:=hl;have S:c.args=#[x,y]:=by grind
 have G:=WP ho hb hf;rw[h3]at G;have hx:=h.sJ (G x (by simp));have hy:=h.sJ (G y (by simp));simp only[Bg,ho,hd,hb,h3,B7,E8,AE.uN]at H;split at H;grind;split at H;rename_i o' k hT;have⟨t,ht,hT⟩:=D5.1 hT;have g0:c.argTypes[0]?=kd t:=by rw[<-B8];cases hl:c.argTypes.toList with|nil=>simp_all|cons y l=>simp_all
 have⟨g6,g1⟩:=h6.T t _ hT;have⟨t',hu,h2,g4⟩:=Cj g1;have⟨I⟩:=AL (AZ h2);have⟨ys,H,hE⟩:=h.elems rfl hy H;have g5:∀(n:Nat)(p:BB)(C:Nat)(L:Option Nat),(U.sJ x=.sref n p/\C=0/\L=ke\/∃D,U.sJ x=.swin n p C D/\L=kd D)->U.xK n p C L k ys (λm O=>K (O.set d (.val (.int .i64) (m:Int))))=kd z->AW P B N o a w K z:=by intro n p C L E H;unfold AE.xK at H;split at H;rename_i r h7;have⟨h8,hr⟩:=AY h7;split at H;(rename_i k' l hg;have⟨hc,h4⟩:=(Ah H).elim id λh=>by grind);(simp at hc;obtain⟨rfl,hp⟩:=hc;have g3:∃i,x=.tmp i/\U.sl i=.one (U.sJ x):=by cases x with|tmp i=>refine⟨i,rfl,?_⟩;grind[AE.sJ,AE.get]|const v=>exfalso;simp[AE.sJ]at E;unfold WL at E;grind|global g=>(rcases E with⟨h1,-⟩|⟨_,h1,-⟩<;>cases h1)|func f=>rcases E with⟨h1,-⟩|⟨_,h1,-⟩<;>cases h1);(obtain⟨i,rfl,h9⟩:=g3;have hi:i<N:=by simp_all[Cw]);(have R:∀(A:Option Addr)(D Q:Nat),a.eval (.tmp i)=.slice A D Q->L.getD (C4 l)=D->C+D<=C4 l->(∀{O:AE}{M:Gh}{w:World}{r:sK}{l':List Int},sH B O N (AJ a) w M->O.sl i=.one (U.sJ (.tmp i))->O.rt n=kd r->CQ r.t r.x p=⟨.list ka (.int k'),l'⟩->l'.length=C4 l->∀j,j<D->∃A0,A=kd A0/\A0.spot=ke/\AA (Ag w M.ov) M.g O.rt (Bh B w M) (.ptr n (p++[.idx (C+j)])) (.pointer (kd ⟨A0.block,A0.off+j,ke⟩)))->AW P B N o a w K z:=by intro A D Q X h5 F V;have⟨w',M',k1,k2⟩:=b3X (ty:=o.type) h2 h h8 hp h9 hr hg F V hE g0 hu I (c:=Q);rw[h5]at h4;refine AW.set hd hN (w':=w') (M':=M') (h0.trans ?_) k2 (AA.tF _) h4;rw[S];have g2:a.eval (.tmp i)=.slice A D Q:=X;simp[builtin,g2,k1];rfl);(rcases E with⟨he,rfl,rfl⟩|⟨D,he,rfl⟩;rw[he]at hx;obtain⟨A,Q,X,-⟩:=a1K h hx hr hg;refine R A (C4 l) Q X rfl (by omega) λ{O M w r l'} hR hs hr' hg' hl' j hj=>?_);(have b:=hR.slots i hi;rw[hs,he]at b;have⟨A2,c2,Y,V⟩:=a1K hR b hr' hg';have e:=Y.symm.trans X;simp_all;rw[he]at hx;obtain⟨F,A,Q,X,-⟩:=a1L h hx hr hg;refine R A D Q X rfl F λ{O M w r l'} hR hs hr' hg' hl' j hj=>?_);have b:=hR.slots i hi;rw[hs,he]at b;obtain⟨-,A2,c2,Y,V⟩:=a1L hR b hr' hg';have e:=Y.symm.trans X;simp_all;simp_all;simp_all
 unfold AE.yQ at H;grind;simp_all
theorem a0y{o:Oper}{f:Nat}{first g:Array Operand}{d:Nat}{cx:Cx}{q:Bool}{K:AE->Rs Z}{z:Z}(m:o.op=.makeFunc (.func f) first g)(l:o.dst=kd d) (h:sH B U N (AJ a) w M)(p:a.tmps.size=N)(r:fits N o=ka)(j:Bg cx q o U K=kd z):AW P B N o a w K z:=by
 have b:=Bl r;rw[m]at b;simp[Bg,m,l]at j;have⟨c,j⟩:=(Ah j).elim id λh=>by grind
 have c:first=#[]:=by simp_all
 subst c;have e:(execOp a.eval o).run P w=.ok (.value (.func (.func f) #[] (g.map a.eval))) w:=by simp_all[execOp,Instr.makeFunc]
 refine⟨_,w,_,M,.inl e,?_,j⟩;rw[l];refine h.uL p (λ_=>⟨g.map a.eval,⟨by simp,rfl⟩,λk u i=>?_⟩);rw[D7]at i;cases hp:g.toList[k]? with|none=>simp_all|some x=>rw[hp]at i;simp at i;subst i;refine⟨a.eval x,?_,h.sJ (b x (by grind[Op.operands]))⟩;simp_all
theorem a0z{o:Oper}{t:TypeId}{n:Nat}{ps:Array (Nat×Operand)}{d:Nat}{cx:Cx}{q:Bool}{K:AE->Rs Z}{z:Z}{o':Bool}{e t0:Ty}(Y:CxTy P cx)(ho:o.op=.buildSlice t n ps)(hd:o.dst=kd d)
  (hT:cx.T t=kd (.list o' e))(hO:(bif q || !e.isList then ke else cx.O d)=kd t0)
  (h:sH B U N (AJ a) w M)(hN:a.tmps.size=N)(hf:fits N o=ka)(L:Bg cx q o U K=kd z):AW P B N o a w K z:=by
 have k:∀y∈(o.op.operands.toList),Cw N y=ka:=Bl hf;rw[ho]at k;simp[Bg,ho,hd,hT,hO]at L;split at L
 ·rename_i f x hl;split at L
  ·rename_i X;obtain⟨h2,rfl⟩:=X;have h1:e.isList=ka:=by
    grind
   have h5:ps=#[(0,x)]:=by grind
   have⟨g3,h6⟩:=Y.T t _ hT;have⟨H,hu,F,g1⟩:=Cj h6;have⟨I⟩:=AL (AZ F);have he:e.sh=e:=by
    simp_all[Ty.sh]
   have u:e.cells=1:=Pb h1;have g0:f.cells=1:=by grind[Ty.sU]
   have h9:Cw N x=ka:=k x (by simp[Op.operands,h5]);have⟨z0,G⟩:∃z0,I.z.cells=#[z0]:=by
    have:=I.uY
    rw[u]at this;have⟨z0,G⟩:=F0.1 (show I.z.cells.toList.length=1 by omega);grind
   have h0:Ao (λi=>AM (Ag w M.ov) f λj=>(#[z0]:Array Value)[i*f.cells+j]?) 1 0=kd ([f.dflt],[],[]):=by
    have:=JJ (m:=Ag w M.ov) f (rd:=λj=>I.z.cells[j]?) (by rw[<-a4Z,h2];exact I.zok)
    simp_all[Ao]
   obtain⟨U1,S,k1,Q,k3,-,k5⟩:=h.uU (c:=1) L (λc X=>BF _ c X) (BZ _) (Bv (Obj.cells #[z0] H)) (.inl rfl) (by simp_all) (by simp) h0 (by simp);have D:U1.rt d=kd ⟨kc,.list ka f,[f.dflt]⟩:=by
    grind[AE.uK,AE.sD]
   have g2:=Q.xY D rfl k3;have C:AA (Ag (w.alloc (.cells #[z0] H)) S.ov) S.g U1.rt (Bh B (w.alloc (.cells #[z0] H)) S) (.ptr d [.idx 0]) (.pointer (kd ⟨w.heap.size,0,ke⟩)):=
    ⟨_,f,w.heap.size,0,D,by simp_all[CR,Src.rd],rfl⟩
   have p:=Q.sJ h9;split at k1
   ·rename_i m hy;rw[hy]at p;have h7:∃A n c,a.eval x=.slice A n c:=by
     have⟨r,e2,s2,q1,q2,q3⟩:=p;obtain⟨O',R,q4,-⟩:=(Q.roots m r q1).rd;simp[CR]at q2;have⟨bx,tr,xr⟩:=r;obtain⟨rfl,rfl⟩:tr=.list ka e2/\_=s2:=q2;rcases Da q4 with⟨q5,-⟩|⟨A,n,c,os,q5,-⟩;all_goals grind
    have⟨A,nA,cA,hv⟩:=h7;have k6:=Q.uL (sv:=.one (.sref d [])) (v:=.slice (kd ⟨w.heap.size,0,ke⟩) 1 1) (d:=d) hN (λ_=>k3);obtain⟨w',U',M',b,g4,j1,j2,-,j4,j5⟩:=k6.xL he F C p k1;simp at j1;obtain⟨rfl,rfl⟩:=j1;have h8:w'=w.alloc (.cells #[a.eval x] H):=by
     simp_all[Value.cells,World.setCells,XC]
    have E:(execOp a.eval o).run P w=.ok (.value (.slice (kd ⟨w.heap.size,0,ke⟩) 1 1)) (w.alloc (.cells #[a.eval x] H)):=by
     have l:Instr.fill (λi=>kd (i*1,1)) ((F9 (1*1)).map (I.z.cells[·%I.z.cells.size]!)) [(0,a.eval x)]=kd #[a.eval x]:=by
      have hr:(F9 (1*1)).map (I.z.cells[·%I.z.cells.size]!)=#[z0]:=by rw[G];simp[Array.range_succ,show F9 0=#[]from rfl]
      rw[hr,hv];rfl
     have h3:¬ (1*1 > 2^24):=by simp
     have V:¬ (1*1=0):=by simp
     have h4:(ps.map λ(i,x)=>(i,a.eval x)).toList=[(0,a.eval x)]:=by simp_all
     simp only[execOp,ho,Instr.buildSlice,Sem.run_bind,run_underlying hu,Result.andThen_ok,I.sizeOf,u,if_neg h3,if_neg V,Sem.run_pure,I.zeroValue,h4,l,newRow]
     simp
    rw[h8]at j4;exact⟨_,_,U',M',.inl E,by simp_all,j5⟩
   simp_all
  simp_all
 simp_all
theorem b1E{cx:Cx}{K:AE->Rs Z}{z:Z}(j:CxTy P cx)(F:Ym cx.G B)(E:∀c v,o.op=.call c->c.callee≠.value v)(h:sH B U N (AJ a) w M)(l:a.tmps.size=N)(p:fits N o=ka)(g:Bg cx q o U K=kd z):AW P B N o a w K z:=by
 cases hd:o.dst with
 |none=>
  cases ho:o.op
  case store t x y=>
   cases hag:U.tH y with
   |none=>grind[nD]
   |some D=>grind[XD]
  case call c=>
   cases hc:c.callee with
   |value v=>simp_all
   |builtin b=>simp_all[Bg]
   |invoke r n=>simp_all[Bg]
  all_goals (simp only[Bg,ho,hd]at g;cases g)
 |some d=>
  cases ho:o.op
  case store t x y=>
   cases hag:U.tH y with
   |none=>grind[nD]
   |some D=>grind[XD]
  case call c=>
   cases hc:c.callee with
   |value v=>simp_all
   |builtin b=>
    cases b
    case len=>grind[b3O]
    case cap=>grind[b3P]
    case max=>grind[b3Q]
    case min=>grind[b3R]
    case append=>grind[a5h]
    case copy=>grind[b1D]
    all_goals (simp only[Bg,ho,hd,hc]at g;unfold AE.uN at g;first|(cases g;done)|(split at g<;>first|(cases g;done)|(rename_i k;cases k;done)|(rename_i k _;cases k;done)))
   |invoke r n=>simp_all[Bg]
  case move x=>grind[b1p]
  case assign x=>grind[a5i]
  case pick x y u=>grind[b1q]
  case alloc t=>grind[a8p]
  case box t x=>
   cases hag:(bif q then ke else U.tH x)with
   |none=>exact b3M ho hd hag h l p g
   |some D=>grind[a5k]
  case build t x=>
   cases hnl:cx.yL d t with
   |some τ=>grind[mY]
   |none=>
    cases hO:cx.O d with
    |none=>grind[mY]
    |some τ=>grind[a0x]
  case makeFunc fn first caps=>
   cases fn with
   |func f=>grind[a0y]
   |_=>simp_all[Bg]
  case buildSlice t n x=>
   by_cases hO:∃A e C,cx.T t=kd (.list A e)/\(bif q || !e.isList then ke else cx.O d)=kd C;grind[a0z]
   ·refine jG j ho hd (λA e H=>?_) h l p g;cases k:(bif q || !e.isList then ke else cx.O d)with
    |none=>rfl
    |some C=>simp_all
  case load t x=>grind[b1u]
  case nilCheck x=>grind[a0v]
  case binOp op t x y s=>grind[a8k]
  case unOp op t x=>grind[b1r]
  case convert s t x=>grind[a3m]
  case makeSlice t x y=>grind[mV]
  case slice t x u v m=>grind[a8m]
  case fieldAddr s x f=>grind[mR]
  case field s x f=>grind[a8n]
  case indexAddr t x i=>grind[mQ]
  case index t x i=>grind[a8o]
  case extract x i=>
   cases x with
   |tmp t=>grind[a3e]
   |_=>simp_all[Bg]
  all_goals (simp only[Bg,ho,hd]at g;cases g)
end
def cells(w:World):Es:=λb o=>w.cell? ⟨b,o,ke⟩
structure wF where
 r:sK
 s:Src
 O:Dw
def PP(U:AE)(f:AV->AV)(E:Nat->Option wF):AE:=⟨(U.sG f).sl,λn=>match E n with|some e=>kd e.r|none=>U.rt n,ke⟩
def HG(M:Gh)(E:Nat->Option wF):Gh:=⟨λn=>match E n with|some e=>e.s|none=>M.g n,λn=>match E n with|some e=>e.O|none=>M.ow n,ke⟩
theorem Mk{U f E n}(h:E n=ke):(PP U f E).rt n=U.rt n:=by simp[PP,h]
theorem He{U f E n e}(h:E n=kd e):(PP U f E).rt n=kd e.r:=by simp[PP,h]
theorem PQ{M E n}(h:E n=ke):(HG M E).g n=M.g n:=by simp[HG,h]
theorem Hf{M E n e}(h:E n=kd e):(HG M E).g n=e.s:=by simp[HG,h]
theorem DI{M E n}(h:E n=ke):(HG M E).ow n=M.ow n:=by simp[HG,h]
theorem EL{M E n e}(h:E n=kd e):(HG M E).ow n=e.O:=by simp[HG,h]
structure yP (w w':World) (M:Gh) (F':Nat->Prop) (E:Nat->Option wF):Prop where
 own:∀c,F' c->∃n e,E n=kd e/\c∈(M.ow n).map (·.1)
 size:w.heap.size<=w'.heap.size
 same:∀b,b<w.heap.size->¬ F' b->w'.heap[b]?=w.heap[b]?
 mine:∀n e c,E n=kd e->c∈e.O.map (·.1)->(F' c\/c∈(M.ow n).map (·.1))\/w.heap.size<=c
 nodup:∀n e,E n=kd e->(e.O.map (·.1)).Nodup
 sQ:∀n e n' e',E n=kd e->E n'=kd e'->n≠n'->∀c,c∈e.O.map (·.1)->c∉e'.O.map (·.1)
 live:∀n e p,E n=kd e->p∈e.O->Cv w' p.1 p.2
 still:EK w'=EK w
theorem sH.yT{B U N tm w M}(h:sH B U N tm w M)(h6:M.ov=ke){K:Nat->Prop}{E:Nat->Option wF}(W:yP w w' M K E)(V:∀n e,E n=kd e->tT (cells w') (λc=>c<w'.heap.size/\(Bh B w M c\/K c\/w.heap.size<=c)/\∀n e,E n=kd e->c∉e.O.map (·.1)) e.r e.s e.O)(h8:∀i b e,B.pin i=kd b->E (pinned+i)=kd e->e.s=b){f:AV->AV}(hf:∀a v,AA (Ag w M.ov) M.g U.rt (Bh B w M) a v->f a=.dead\/(f a=a/\∀k q,(a=.ptr k q\/a=.sref k q\/∃o l,a=.swin k q o l)->E k=ke\/(a=.ptr k []/\∃e b,E k=kd e/\e.s=.at b 0/\M.g k=.at b 0)\/
   (a=.sref k []/\∃e v ε,E k=kd e/\e.s=.one v/\M.g k=.one v/\e.r.t=.list ka ε))):
  sH B (PP U f E) N tm w' (HG M E)/\
   (∀c,c<w'.heap.size/\(Bh B w M c\/K c\/w.heap.size<=c)/\(∀n e,E n=kd e->c∉e.O.map (·.1))->Bh B w' (HG M E) c):=by
 have D:∀c,K c->BP M c:=λc m=>by obtain⟨n,e,-,z⟩:=W.own c m;exact⟨n,z⟩
 have h7:∀c,K c->c<w.heap.size:=λc m=>h.lt (D c m)

 have P:∀n c,E n=ke->c∈(M.ow n).map (·.1)->¬ K c:=λn c z m S=>by
  have⟨G,H,Z,x⟩:=W.own c S;have A:n≠G:=by grind
  exact h.sQ n G A c m x
 have h0:∀c,BP (HG M E) c->(∃n,E n=ke/\c∈(M.ow n).map (·.1))\/∃n e,E n=kd e/\c∈e.O.map (·.1):=by
  rintro c ⟨n,z⟩;cases d:E n with
  |none=>grind[DI]
  |some e=>grind[EL]
 have X:∀c,c<w'.heap.size/\(Bh B w M c\/K c\/w.heap.size<=c)/\(∀n e,E n=kd e->c∉e.O.map (·.1))->Bh B w' (HG M E) c:=by
  rintro c ⟨Z,x,Y⟩;refine⟨Z,?_,λho=>?_⟩;rcases x with x|x|x;exact x.2.1;exact .inr (h.mine c (D c x));exact .inr (.inr (D1 h.size x));rcases h0 c ho with⟨n,d,z⟩|⟨n,e,d,z⟩;rcases x with x|x|x;exact x.2.2 ⟨n,z⟩;grind
  have:=h.lt ⟨n,z⟩;omega
  grind
 have R:∀c,Bh B w M c->Bh B w' (HG M E) c:=λc m=>X c ⟨C0 m.1 W.size,.inl m,λn e d z=>by
  rcases W.mine n e c d z with(g|g)|g;exact m.2.2 (D c g);exact m.2.2 ⟨n,g⟩
  have:=m.1;omega⟩
 have L:∀c j,c<w.heap.size->¬ K c->Ag w' ke c j=Ag w M.ov c j:=λc j m S=>by
  rw[h6];exact BV ke (W.same c m S) j
 have y:∀n c j,E n=ke->c∈(M.ow n).map (·.1)->Ag w' ke c j=Ag w M.ov c j:=λn c j z m=>L c j (h.lt ⟨n,m⟩) (P n c z m);have T:∀c j,Bh B w M c->Ag w' ke c j=Ag w M.ov c j:=λc j m=>L c j m.1 λS=>m.2.2 (D c S);have I:∀n q r t s,E n=ke->U.rt n=kd r->loc (Ag w M.ov) r.t (M.g n) q=kd (t,s)->loc (Ag w' ke) r.t (M.g n) q=kd (t,s)/\s.rd (Ag w' ke) 0=s.rd (Ag w M.ov) 0:=by
  intro n q r t s d hr hl;have⟨O1,R1,l1,l2,l3,l4,l5,l6⟩:=h.sep hr;refine⟨DG q r.t _ l1 hl (λj _=>?_) (λc j m=>y n c j d (l4 c m)),?_⟩
  ·cases es:M.g n with
   |one v=>rfl
   |_=>rename_i b o;exact y n b _ d (l5 _ _ es)
  ·cases s with
   |one v=>rfl
   |_=>rename_i b o;exact y n b _ d (h.place hr hl)
 refine⟨⟨λn r hr=>?_,λn z=>?_,λn=>?_,λn G A c m F=>?_,λn p Q=>?_,λi hi=>?_,trivial,D1 h.size W.size,λb hb S=>?_,λc m=>?_,λi b hb A=>?_,W.still.trans h.still⟩,X⟩
 ·cases d:E n with
  |none=>
   rw[Mk d]at hr;rw[PQ d,DI d];have⟨O1,R1,l1,l2,l3,l4,l5,l6⟩:=h.sep hr;refine⟨O1,R1,?_,λc m=>R c (l2 c m),l6⟩;show AM (Ag w' ke) r.t ((M.g n).rd (Ag w' ke))=_;refine AI r.t l1 (λj _=>?_) (λc j m=>?_)
   ·cases es:M.g n with
    |one v=>rfl
    |_=>rename_i b o;exact y n b _ d (l5 _ _ es)
   grind
  |some e=>
   rw[He d]at hr;rw[Hf d,EL d];simp at hr;subst hr;exact(V n e d).mono X
 ·cases d:E n with
  |none=>rw[Mk d]at z;rw[DI d];exact h.norm n z
  |some e=>grind[He]
 ·cases d:E n with
  |none=>rw[DI d];exact h.nodup n
  |some e=>rw[EL d];exact W.nodup n e d
 ·have h4:∀n G,E n=ke->∀H,E G=kd H->c∈(M.ow n).map (·.1)->c∈H.O.map (·.1)->False:=λn G d H C m F=>by
   rcases W.mine G H c C F with(g|g)|g;grind;exact h.sQ n G (by grind) c m g
   have:=h.lt ⟨n,m⟩;omega
  cases d:E n with
  |none=>
   rw[DI d]at m;cases C:E G with
   |none=>rw[DI C]at F;exact h.sQ n G A c m F
   |some H=>grind[EL]
  |some e=>
   rw[EL d]at m;cases C:E G with
   |none=>grind[DI]
   |some H=>rw[EL C]at F;exact W.sQ n e G H d C A c m F
 ·cases d:E n with
  |none=>
   rw[DI d]at Q;have⟨c,e,lo,hi,Z,x,Y⟩:=h.live n p Q;have m:=A3 (f:=(·.1)) Q;exact⟨c,e,lo,hi,by rw[W.same p.1 (h.lt ⟨n,m⟩) (P n p.1 d m)];omega,x,Y⟩
  |some e=>rw[EL d]at Q;exact W.live n e p d Q
 refine(h.slots i hi).sG λa v ha=>?_
 rcases hf a v ha with g|⟨g,hk⟩;rw[g];trivial;rw[g];by_cases hz:∃k e b,a=.ptr k []/\E k=kd e/\e.s=.at b 0/\M.g k=.at b 0;obtain⟨k,e,b,rfl,d,hs,hg⟩:=hz;have⟨r,t,b',o,Z,x,Y⟩:=ha;simp[CR,hg]at x;obtain⟨rfl,rfl,rfl⟩:=x;refine⟨e.r,e.r.t,b,0,He d,?_,Y⟩;rw[Hf d,hs];rfl;by_cases hy:∃k e u ε,a=.sref k []/\E k=kd e/\e.s=.one u/\M.g k=.one u/\e.r.t=.list ka ε;obtain⟨k,e,u,ε,rfl,d,hs,hg,ht⟩:=hy;have⟨r,H,s,Z,x,Y⟩:=ha;simp[CR,hg]at x;obtain⟨-,rfl⟩:=x;refine⟨e.r,ε,.one u,He d,?_,Y⟩;rw[Hf d,hs,ht];rfl;refine ha.frame T R λk q r t s h5 hr hl=>?_
 have d:E k=ke:=by
  grind
 have Q:=I k q r t s d hr hl;refine⟨r,by grind[Mk],by rw[PQ d];exact Q.1,λu _ hu=>by rw[<-hu];exact Q.2⟩
 ·rw[W.same b (C0 hb h.size) ?_];exact h.frame b hb S
  ·intro g;rcases h.mine b (D b g)with g|g;all_goals grind
 rcases h0 c m with⟨n,d,z⟩|⟨n,e,d,z⟩;exact h.mine c ⟨n,z⟩;rcases W.mine n e c d z with(g|g)|g;exact h.mine c (D c g);exact h.mine c ⟨n,g⟩;exact .inr (D1 h.size g)
 ·cases d:E (pinned+i)with
  |none=>rw[Mk d]at A;rw[PQ d];exact h.pins i b hb A
  |some e=>grind[Hf]
def a5n:Src->Value->Prop|.at b o,v=>o=0/\v=.pointer (kd ⟨b,0,ke⟩)|.one u,v=>v=u
theorem a5n.yN:∀{s:Src}{u v:Value},a5n s u->a5n s v->u=v|.at _ _,_,_,h,g=>h.2.trans g.2.symm|.one _,_,_,h,g=>h.trans (show _=_ from g).symm
def lg(w:World)(M:Gh)(n:Nat)(bx:Bool):Src:=match bx,M.g n with|false,.at b _=>.one ((w.cell? ⟨b,0,ke⟩).getD undef)|_,s=>s
def lo(M:Gh)(n:Nat)(bx:Bool):Dw:=match bx,M.g n with|false,.at _ _=>(M.ow n).tail|_,_=>M.ow n
theorem c0B{g:Bool}{p}(h:p∈lo M n g):p∈M.ow n:=by unfold lo at h;grind[List.mem_of_mem_tail]
def a5o(w:World)(U:AE)(M:Gh)(n:Nat)(r:sK)(v:Value):Prop:=(U.rt n=kd r/\a5n (M.g n) v)\/∃b,(r.bx=kc/\∃e,r.t=.list ka e)/\U.rt n=kd ⟨ka,r.t,r.x⟩/\M.g n=.at b 0/\w.cell? ⟨b,0,ke⟩=kd v
theorem a5o.keep{a:AE}{M':Gh}(h:a5o w U M n r v)(d:∀r,U.rt n=kd r->a.rt n=kd r/\M'.g n=M.g n):a5o w a M' n r v:=by rcases h with⟨f,c⟩|⟨b,f,c,i,j⟩;have⟨k,e⟩:=d _ f;exact .inl ⟨k,by simp_all⟩;have⟨k,e⟩:=d _ c;exact .inr ⟨b,f,k,e.trans i,j⟩
structure xN (fz:Bool) (B:Base) (w:World) (U':AE) (M':Gh) (ps:List PA) (x:(Eh (ps.map PA.ty)).sI) (vs:List Value) (used us:List Nat) (i0:Nat):Prop where
 vals:∀(i:Nat)(t:Ty)(y:t.sI)(v:Value),(BJ ps x)[i]?=kd ⟨.v t,y⟩->vs[i]?=kd v->
  CK (Ag w M'.ov) (λc=>Bh B w M' c\/(fz=kc/\∃n,n∉used/\n∉us/\c∈(M'.ow n).map (·.1))) t y v
 refs:∀(k n:Nat),us[k]?=kd n->∃(i:Nat)(c:Bool)(a:RA)(y:a.ty.sI)(v:Value)(r:sK),(Ba ps i0)[k]?=kd (i0+i)/\(BJ ps x)[i]?=kd ⟨.r c a,y⟩/\vs[i]?=kd v/\
  Bq ⟨a,y⟩=kd r/\a5o w U' M' n r v/\(c=ka->U'.rt n=kd r/\r.bx=kc/\n<pinned)
 len:us.length=(Ba ps i0).length
 nodup:us.Nodup
 apart:∀n∈us,n∉used
section
variable {B:Base} {N:Nat} {tm:Nat->Value} {w:World} {U:AE} {M:Gh}
theorem sH.uE(h:sH B U N tm w M)(f:U.rt n=kd r):(r.bx=ka/\∃b,M.g n=.at b 0)\/(r.bx=kc/\∃v e,M.g n=.one v/\r.t=.list ka e):=by obtain⟨k,R,-,-,a⟩:=(h.roots n r f).rd;grind
theorem sH.xF(h:sH B U N tm w M)(x:M.ov=ke)(q:a5o w U M n r v):
  tT (Ag w M.ov) (Bh B w M) r (lg w M n r.bx) (lo M n r.bx)/\a5n (lg w M n r.bx) v/\(∀p∈lo M n r.bx,p∈M.ow n)/\((lo M n r.bx).map (·.1)).Nodup/\
   ((r.bx=ka/\∃b,lg w M n r.bx=.at b 0)\/(r.bx=kc/\∃u e,lg w M n r.bx=.one u/\r.t=.list ka e)):=by
 rcases q with⟨f,i⟩|⟨b,f,i,E,F⟩
 ·have k:lg w M n r.bx=M.g n/\lo M n r.bx=M.ow n:=by
   rcases h.uE f with⟨d,b,c⟩|⟨d,u,e,c,-⟩;all_goals simp_all[lg,lo]
  rw[k.1,k.2];exact⟨h.roots n r f,i,λ_ g=>g,h.nodup n,h.uE f⟩
 have⟨f,l⟩:=f;have⟨o,R,z,A,C⟩:=(h.roots n _ i).rd;have k:lg w M n r.bx=.one v/\lo M n r.bx=(M.ow n).tail:=by simp_all[lg,lo]
 rcases C with⟨-,D,d,c⟩|⟨d,-⟩;rw[k.1,k.2,c];have a:=h.nodup n;rw[c,B7]at a;have⟨e,m⟩:=l;refine⟨⟨o,R,?_,A,.inr ⟨f,⟨v,rfl⟩,⟨e,m⟩,rfl⟩⟩,rfl,λp y=>A4 _ y,(A9.1 a).2,.inr ⟨f,v,e,rfl,m⟩⟩;refine AI r.t z (λj G=>?_) (λ_ _ _=>rfl);simp_all[Ty.cells,Src.rd,Ag];simp_all
end
section
variable {Z:Type} {B:Base} {N:Nat} {tm:Nat->Value} {w:World}
theorem sH.arg(h:sH B U N tm w M){fz:Bool}{used seen:List Nat}{p:PA}{K:p.ty.sI->AE->List Nat->List Nat->Rs Z}{z:Z}(y:AA (Ag w M.ov) M.g U.rt (Bh B w M) a v\/Zo U a)(f:U.arg fz q used seen p a K=kd z):
  ∃x j M' i d,K x j i d=kd z/\sH B j N tm w M'/\Ev B w U M j M'/\II (·∉used) U M j M'/\(fz=kc\/q=ka->j=U/\M'=M)/\(∀n∈seen,n∈d)/\
   match p,x with
   |.v t,x=>i=used/\CK (Ag w M'.ov) (λc=>Bh B w M' c\/(fz=kc/\∃n,n∉used/\n∈d/\c∈(M'.ow n).map (·.1))) t x v
   |.r c b,x=>∃n r,i=n::used/\n∉used/\n∉seen/\d=seen/\Bq ⟨b,x⟩=kd r/\a5o w j M' n r v/\(c=ka->j.rt n=kd r/\r.bx=kc/\n<pinned):=by
 cases p with
 |v t=>
  simp only[AE.arg]at f;obtain⟨hv,f⟩:(a.sP.any λn=>used.contains n)=kc/\_:=by
   rcases Ah f with⟨-,g⟩|⟨C,u⟩;cases g;exact⟨C,u⟩
  have F:∀n∈a.sP,n∉used:=λn O hu=>by
   simp_all
  cases fz with
  |true=>
   simp at f;obtain⟨x,j,M',H,I,S,T,V,X⟩:=h.yH y f;exact⟨x,j,M',used,seen,H,I,T,X.mono F,λg=>V (g.resolve_left (by simp)),λ_ g=>g,rfl,S.frame (λ_ _ _=>rfl) (λc l=>.inl l)⟩
  |false=>
   simp at f;obtain⟨x,H,I⟩:=h.yZ y f;exact⟨x,U,M,used,a.sP++seen,H,h,Ev.refl,II.refl,λ_=>⟨rfl,rfl⟩,λ_ g=>D9 _ g,rfl,
    I.frame (λ_ _ _=>rfl) (λc l=>l.imp id λ⟨n,O,l⟩=>⟨rfl,n,F n O,D2 _ O,l⟩)⟩
 |r c b=>
  cases b with
  |v t=>cases a<;>simp only[AE.arg]at f<;>cases f
  |b t=>
   cases a with
   |ptr n p=>
    cases p with
    |cons=>simp only[AE.arg]at f;cases f
    |nil=>
     simp only[AE.arg]at f;split at f;grind;rename_i A;simp at A;split at f;rename_i t' x L;obtain⟨D,m⟩:=AY L;split at f;rename_i P;subst P;rcases y with⟨r',t1,b,o,C,u,G⟩|⟨k,q',l,hk⟩;rw[m]at C;simp at C;subst C;obtain⟨O',R,-,-,l⟩:=(h.roots n _ m).rd;rcases l with⟨-,b',E,-⟩|⟨hb,-⟩;simp[CR,E]at u;obtain⟨-,rfl,rfl⟩:=u;exact⟨x,U,M,n::used,seen,f,h,Ev.refl,II.refl,λ_=>⟨rfl,rfl⟩,λ_ g=>g,n,_,rfl,A.1.2,A.2,rfl,rfl,.inl ⟨m,by rw[E];exact⟨rfl,G⟩⟩,λg=>by simp_all⟩;simp_all;simp_all;simp_all;simp_all
   |_=>simp only[AE.arg]at f;cases f
  |o e=>
   cases a with
   |sref n p=>
    cases p with
    |cons=>simp only[AE.arg]at f;cases f
    |nil=>
     simp only[AE.arg]at f;split at f;grind
     ·rename_i A;simp only[Bool.or_eq_true,HC,List.contains_iff_mem,not_or,G3,dT,not_and]at A;split at f
      ·rename_i Q e' x L;obtain⟨D,m⟩:=AY L;split at f
       ·rename_i P;subst P;rcases y with y|⟨k,q',l,hk⟩
        ·obtain⟨Y,f⟩:=(Ah f).elim (λh=>by grind) id;refine⟨x,U,M,n::used,seen,f,h,Ev.refl,II.refl,λ_=>⟨rfl,rfl⟩,λ_ g=>g,n,_,rfl,A.1.2,A.2,rfl,rfl,?_,λg=>⟨?_,rfl,by simp_all⟩⟩
         ·cases Q with
          |false=>exact .inl ⟨m,by rw[h.xY m rfl y];rfl⟩
          |true=>
           rcases h.uE m with⟨-,b,E⟩|⟨g,-⟩;refine .inr ⟨b,⟨rfl,_,rfl⟩,m,E,?_⟩;obtain⟨r',e2,s2,C,u,G⟩:=y;simp[CR]at u;rw[<-u.2,E,h.sW D]at G;exact G;simp_all
         simp_all
        simp_all
       simp_all
      simp_all
   |_=>simp only[AE.arg]at f;cases f
theorem sH.args:∀(O:List PA) (as:List AV)(u:List Value){U:AE}{M:Gh}(_:sH B U N tm w M){fz q:Bool}{used seen:List Nat}{i0:Nat}{K:(Eh (O.map PA.ty)).sI->AE->List Nat->Rs Z} {z:Z} (_:∀(i:Nat)(a:AV)(v:Value),as[i]?=kd a->u[i]?=kd v->AA (Ag w M.ov) M.g U.rt (Bh B w M) a v\/Zo U a) (_:u.length=as.length) (_:U.args fz q used seen O as K=kd z),O.length=as.length/\∃x f M' us,K x f (us.reverse++used)=kd z/\sH B f N tm w M'/\Ev B w U M f M'/\II (·∉used) U M f M'/\(fz=kc\/q=ka->f=U/\M'=M)/\(∀n∈seen,n∉us)/\xN fz B w f M' O x u used us i0|[],as,u,U,M,h,fz,q,used,seen,i0,K,z,has,hlen,D=>(by cases as with|nil=>exact⟨rfl,(),U,M,[],D,h,Ev.refl,II.refl,λ_=>⟨rfl,rfl⟩,by simp,⟨λi t y v j=>by simp_all,by simp,rfl,by simp,by simp⟩⟩|cons=>simp_all[AE.args])|[p],as,u,U,M,h,fz,q,used,seen,i0,K,z,has,hlen,D=>(by match as,u,hlen with|[a],[v],_=>(simp[AE.args]at D;have⟨x,f,M',g6,h9,h1,h2,L,R,S,h6,o⟩:=h.arg (has 0 a v rfl rfl) D;cases p with|v t=>(obtain⟨rfl,o⟩:=o;refine⟨rfl,x,f,M',[],h1,h2,L,R,S,by simp,⟨λi V y l j A=>?_,by simp,rfl,by simp,by simp⟩⟩;cases i with|zero=>(simp[BJ]at j A;cases j;cases A;exact o.frame (λ_ _ _=>rfl) (λc E=>E.imp id λ⟨e,n,C,Q,I⟩=>⟨e,n,C,by simp,I⟩))|succ i=>simp_all)|r c b=>obtain⟨n,r,rfl,C,Q,I,g4,g5,X⟩:=o;refine⟨rfl,x,f,M',[n],h1,h2,L,R,S,λm G=>by grind,⟨λi V y l j A=>?_,λk m F=>?_,rfl,by simp,by simp_all⟩⟩;grind[BJ];cases k with|zero=>simp at F;subst F;exact⟨0,c,b,x,v,r,rfl,rfl,rfl,g4,g5,X⟩|succ k=>simp_all)|[],_,_=>simp_all[AE.args]|_::_::_,_,_=>simp_all[AE.args])|p::p'::O,as,u,U,M,h,fz,q,used,seen,i0,K,z,has,hlen,D=>by match as,u,hlen with|[],_,_=>simp_all[AE.args]|a::as,v::u,hlen=>simp[AE.args]at D;have⟨x,U1,M1,g9,g0,h1,h2,L,R,S,h6,o⟩:=h.arg (has 0 a v rfl rfl) D;have ⟨hl,y,f,M',us,k1,k2,k3,k4,k5,k6,k7⟩:=sH.args (p'::O) as u (i0:=i0+1) h2 (λi P l j A=>L.live (has (i+1) P l (by simp_all) (by simp_all))) (by simp_all) h1;refine⟨by simp_all,?_⟩;have d:fz=kc\/q=ka->f=U/\M'=M:=λg=>⟨(k5 g).1.trans (S g).1,(k5 g).2.trans (S g).2⟩;cases p with|v t=>(obtain⟨rfl,o⟩:=o;refine⟨(x,y),f,M',us,k1,k2,L.trans k3,R.trans k4,d,λn T=>k6 n (h6 n T),⟨λi V H l j A=>?_,λk n F=>?_,k7.len,k7.nodup,k7.apart⟩⟩;(cases i with|zero=>(simp[BJ]at j A;cases j;cases A;cases fz with|false=>(obtain⟨rfl,rfl⟩:=k5 (.inl rfl);exact o.frame (λ_ _ _=>rfl) (λc E=>E.imp id λ⟨e,n,C,Q,I⟩=>⟨e,n,C,k6 n Q,I⟩))|true=>have h8:CK (Ag w M1.ov) (Bh B w M1) t x v:=o.frame (λ_ _ _=>rfl) (λc E=>E.resolve_right (by simp));have k0:=k3.zM h8;simp_all)|succ i=>exact k7.vals i V H l (by simpa[BJ]using j) (by simp_all));have⟨i,c',P,H,l,r',j1,j2,j3,j4⟩:=k7.refs k n F;exact⟨i+1,c',P,H,l,r',by grind[Ba],by simpa[BJ]using j2,by simp_all,j4⟩)|r c b=>(obtain⟨n,r,rfl,C,Q,rfl,g4,g5,X⟩:=o;have T:=λr0 Y=>k4.1 n r0 (.inr (by simp)) Y;refine⟨(x,y),f,M',n::us,by simp_all,k2,L.trans k3,R.trans (k4.mono λm G g=>G (A4 _ g)),d,λm G=>?_,⟨λi V H l j A=>?_,λk m F=>?_,by simp[Ba,k7.len],?_,?_⟩⟩;grind);(cases i with|zero=>grind[BJ]|succ i=>exact(k7.vals i V H l (by simpa[BJ]using j) (by simp_all)).frame (λ_ _ _=>rfl) (λc E=>E.imp id λ⟨e,m,C,Q,I⟩=>⟨e,m,λg=>C (A4 _ g),by simp_all,I⟩));(cases k with|zero=>simp at F;subst F;exact⟨0,c,b,x,v,r,rfl,rfl,rfl,g4,g5.keep λr0 Y=>⟨(T r0 Y).1,(T r0 Y).2.1⟩,λg=>⟨(T r (X g).1).1,(X g).2⟩⟩|succ k=>have⟨i,c',P,H,l,r',j1,j2,j3,j4⟩:=k7.refs k m (by simp_all);exact⟨i+1,c',P,H,l,r',by grind[Ba],by simpa[BJ]using j2,by simp_all,j4⟩);simp;exact⟨λg=>k7.apart n g (by simp),k7.nodup⟩;intro m G;rcases mC.1 G with rfl|G;omega;exact λg=>k7.apart m G (A4 _ g)
end
def a3p(m:Es)(Sh:Nat->Prop):((r:RA)×r.ty.sI)->Value->Src×Dw->Prop|⟨.v t,x⟩,v,L=>CK m Sh t x v/\L.2=[]|⟨.o e,x⟩,v,L=>L.1=.one v/\tT m Sh ⟨kc,.list ka e,x⟩ L.1 L.2|⟨.b t,x⟩,v,L=>tT m Sh ⟨ka,t,x⟩ L.1 L.2/\∃b,L.1=.at b 0/\v=.pointer (kd ⟨b,0,ke⟩)
structure wV (B:Base) (w':World) (its:List ((r:RA)×r.ty.sI)) (vs:List Value) (Ls:List (Src×Dw)):Prop where
 lv:vs.length=its.length
 ll:Ls.length=its.length
 ok:∀(k:Nat)(it:(r:RA)×r.ty.sI) (v:Value) (L:Src×Dw),its[k]?=kd it->vs[k]?=kd v->Ls[k]?=kd L->
  a3p (cells w') (λc=>c<w'.heap.size/\(B.S c\/B.F c\/B.size<=c)/\∀L∈Ls,c∉L.2.map (·.1)) it v L
 nodup:∀L∈Ls,(L.2.map (·.1)).Nodup
 sQ:∀(k k':Nat)(L L':Src×Dw),Ls[k]?=kd L->Ls[k']?=kd L'->k≠k'->∀c,c∈L.2.map (·.1)->c∉L'.2.map (·.1)
 live:∀L∈Ls,∀p∈L.2,Cv w' p.1 p.2
 mine:∀L∈Ls,∀c∈L.2.map (·.1),B.F c\/B.size<=c
 size:B.size<=w'.heap.size
 frame:∀b,b<B.size->¬ B.F b->w'.heap[b]?=B.hp b
 still:EK w'=B.io
def fV:List Value->Value|[v]=>v|vs=>.tuple vs.toArray
def GV(ps:List PA)(args:Array Value)(i:Nat):Value:=match jF ps i with|some ka=>.slice ke 0 0|_=>args.getD i undef
def b0k(B:Base)(ps:List PA)(args:Array Value):Prop:=∀i∈Ba ps 0,jF ps i=kd kc->∃s,B.pin i=kd s/\a5n s (args.getD i undef)
def c0C(C:Array Value->World->(Ending->World->Prop)->Prop)(G:Xn)(s:rZ):Prop:=∀(w:World)(B:Base)(M:Gh)(args:Array Value) x y,Ym G B->s.F x=kd y->B.size=w.heap.size->(∀b,B.hp b=w.heap[b]?)->M.ov=ke->args.size=s.ps.length->sH B (Ux s.ps x) s.ps.length (λi=>args.getD i undef) w M->b0k B s.ps args->C args w λe w'=>∃vr Ls,e=.returned (fV vr)/\vr.length=s.rs.length/\wV B w' (Fg (RA.all s.ps s.rs) y) (vr++(Ba s.ps 0).map (GV s.ps args)) Ls
def HH(P:Program)(G:Xn)(f:FuncId)(s:rZ):Prop:=c0C (Calls P f) G s
def b3Y(P:Program)(G:Xn)(f:FuncId)(s:rZ):Prop:=c0C (λargs w R=>∃v w',(callFunc f args).run P w=.ok (.value v) w'/\R (.returned v) w') G s
def Yp (P : Program) (f : FuncId) : Prop := ∃ fn c, P.funcs[f]? = kd fn /\ fn.body = kd c /\ (fn.name == "runtime.NumGoroutine") = kc
def a5p(P:Program)(G:Xn)(f:FuncId)(s:rZ):Prop:=(HH P G f s/\Yp P f)\/b3Y P G f s
theorem Ml:∀(h:List RA)(x:(Eh (h.map RA.ty)).sI),(Fg h x).length=h.length|[],_=>rfl|[_],_=>rfl|_::g::h,x=>by simp only[Fg,lC];rw[Ml (g::h) x.2];rfl
theorem Sy:∀(g:List RA)(x:(Eh (g.map RA.ty)).sI) (k:Nat) it,(Fg g x)[k]?=kd it->g[k]?=kd it.1|[],_,k,it,h=>by simp[Fg]at h|[r],x,0,it,h=>by grind[Fg]|[r],x,k+1,it,h=>by simp[Fg]at h|r::f::g,x,0,it,h=>by grind[Fg]|r::f::g,x,k+1,it,h=>by simpa using Sy (f::g) x.2 k it (by simpa[Fg]using h)
theorem Iw:∀(h:List PA)(x:(Eh (h.map PA.ty)).sI),(BJ h x).length=h.length|[],_=>rfl|[_],_=>rfl|_::g::h,x=>by simp only[BJ,lC];rw[Iw (g::h) x.2];rfl
theorem Je:∀(g:List PA)(x:(Eh (g.map PA.ty)).sI) (k:Nat) it,(BJ g x)[k]?=kd it->g[k]?=kd it.1|[],_,k,it,h=>by simp[BJ]at h|[r],x,0,it,h=>by grind[BJ]|[r],x,k+1,it,h=>by simp[BJ]at h|r::f::g,x,0,it,h=>by grind[BJ]|r::f::g,x,k+1,it,h=>by simpa using Je (f::g) x.2 k it (by simpa[BJ]using h)
theorem dP:∀(g:List PA)(i0 i:Nat){c a},g[i]?=kd (.r c a)->∃k:Nat,(Ba g i0)[k]?=kd (i0+i)/\(Ko g)[k]?=kd a|[],_,i,c,a,h=>by grind|p::g,i0,0,c,a,h=>by simp at h;subst h;exact⟨0,rfl,rfl⟩|p::g,i0,i+1,c,a,h=>by(obtain⟨k,f,b⟩:=dP g (i0+1) i (by simpa using h);have f:(Ba g (i0+1))[k]?=kd (i0+(i+1)):=by rw[f];congr 1;omega);cases p with|v d=>exact⟨k,f,b⟩|r c d=>exact⟨k+1,by simpa[Ba]using f,by simpa[Ko]using b⟩
theorem Sz:∀(h:List PA)(i0:Nat),(Ba h i0).Pairwise (·<·)/\∀i∈Ba h i0,i0<=i|[],_=>⟨List.Pairwise.nil,by simp[Ba]⟩|.v _::h,i0=>(by have⟨f,k⟩:=Sz h (i0+1);exact⟨f,λi g=>by have:=k i g;omega⟩)|.r _ _::h,i0=>by have⟨f,k⟩:=Sz h (i0+1);refine⟨List.Pairwise.cons (λi g=>by grind) f,λi g=>?_⟩;rcases mC.1 g with rfl|g;all_goals grind
theorem nG(g:List PA){i0 k k':Nat}(h:(Ba g i0)[k]?=kd i)(f:(Ba g i0)[k']?=kd i):k=k':=by have b:=(Sz g i0).1;obtain⟨a,rfl⟩:=lS.1 h;grind[C8]
theorem NF(h:List PA):∀i0,(Ba h i0).length=(Ko h).length:=by induction h with|nil=>intro i0;rfl|cons p h g=>intro i0;cases p<;>simp[Ba,Ko,g]
def RY:List Nat->List Nat->Nat->Option Nat|i::is,n::ns,j=>if j=i then kd n else RY is ns j|_,_,_=>ke
theorem PE:∀(is ns:List Nat)(j n:Nat),RY is ns j=kd n->∃k:Nat,is[k]?=kd j/\ns[k]?=kd n|[],ns,j,n,h=>by simp[RY]at h|i::is,[],j,n,h=>by simp[RY]at h|i::is,m::ns,j,n,h=>by simp only[RY]at h;split at h;rename_i e;simp only[sj]at h;exact⟨0,by simp[e],by simp[h]⟩;have⟨k,g,f⟩:=PE is ns j n h;exact⟨k+1,by simpa using g,by simpa using f⟩
theorem a3q:∀(is ns:List Nat)(k j n:Nat),is[k]?=kd j->ns[k]?=kd n->(∀k',is[k']?=kd j->k'=k)->RY is ns j=kd n|[],ns,k,j,n,h,_,_=>by grind|i::is,[],k,j,n,_,h,_=>by grind|i::is,m::ns,0,j,n,h,a,_=>by simp_all[RY]|i::is,m::ns,k+1,j,n,h,a,f=>by(have g:j≠i:=λe=>by have:=f 0 (by grind);omega);simp[RY,if_neg g];exact a3q is ns k j n (by simp_all) (by simp_all) (λk' b=>by have:=f (k'+1) (by simp_all);omega)
section
variable {B:Base} {N:Nat} {tm:Nat->Value} {w:World} {U:AE} {M:Gh}
def Vu(ps:List PA)(i:Nat):Bool:=match ps[i]? with|some (.r _ (.b _))=>true|_=>kc
def Bw(fz:Bool)(B:Base)(w:World)(M:Gh)(ps:List PA)(us:List Nat):Base where
 size:=w.heap.size
 hp:=λb=>w.heap[b]?
 F:=λc=>∃i n,RY (Ba ps 0) us i=kd n/\c∈(lo M n (Vu ps i)).map (·.1)
 S:=λc=>Bh B w M c\/(fz=kc/\BP M c)
 io:=EK w
 pin:=λi=>match jF ps i with
  |some kc=>(RY (Ba ps 0) us i).map λn=>lg w M n (Vu ps i)
  |_=>ke
def Hg(w:World)(M:Gh)(ps:List PA)(us:List Nat):Gh where
 g:=λm=>match dH ps m with
  |some i=>(match RY (Ba ps 0) us i with
   |some n=>lg w M n (Vu ps i)
   |none=>.one undef)
  |none=>.one undef
 ow:=λm=>match dH ps m with
  |some i=>(match RY (Ba ps 0) us i with
   |some n=>lo M n (Vu ps i)
   |none=>[])
  |none=>[]
 ov:=ke
theorem a1M{a:List PA}{m i:Nat}(h:dH a m=kd i):∃c,jF a i=kd c/\m=a7Z c i/\(c=ka->i<pinned):=by unfold dH at h;rcases Ah h with⟨b,h⟩|⟨b,h⟩;split at h;rename_i f;cases h;exact⟨ka,f,rfl,λ_=>by simp_all⟩;simp_all;obtain⟨k,rfl⟩:=Nat.exists_eq_add_of_le (show pinned<=m by simp_all);rw[D6]at h;split at h;rename_i f;obtain rfl:=Option.some.inj h;exact⟨kc,f,rfl,λg=>by grind⟩;simp_all
theorem b0l{c:Bool}(h:jF ps i=kd c)(hi:c=ka->i<pinned):dH ps (a7Z c i)=kd i:=by unfold dH;cases c with|true=>have:A6 (a7Z ka i<pinned)=ka:=dE (show a7Z ka i<pinned from hi rfl);simp_all[a7Z]|false=>have:A6 (a7Z kc i<pinned)=kc:=dF (by show ¬ pinned+i<pinned;omega);simp_all[a7Z]
theorem Ri{g:List PA}{i:Nat}{c a}(h:g[i]?=kd (.r c a)):jF g i=kd c:=by simp[jF,h]
theorem a8t{x:(Eh (ps.map PA.ty)).sI}{m:Nat}(h:(Ux ps x).rt m=kd r):∃i c a y,dH ps m=kd i/\(BJ ps x)[i]?=kd ⟨.r c a,y⟩/\Bq ⟨a,y⟩=kd r:=by simp[Ux]at h;rcases Ah h with⟨f,h⟩|⟨f,h⟩;grind[Ri,Je,dH];split at h;rename_i a y g;have k:=Ri (Je _ _ _ _ g);exact⟨m-pinned,kc,a,y,by simp[dH,f,k],g,h⟩;simp_all
theorem b3Z{g:List PA}{x:(Eh (g.map PA.ty)).sI}{i:Nat}{c a y}(h:(BJ g x)[i]?=kd ⟨.r c a,y⟩)(hi:c=ka->i<pinned):(Ux g x).rt (a7Z c i)=Bq ⟨a,y⟩:=by cases c with|true=>have:A6 (a7Z ka i<pinned)=ka:=dE (show a7Z ka i<pinned from hi rfl);simp[Ux,this];show(match (BJ g x)[i]? with|some ⟨.r ka a,y⟩=>Bq ⟨a,y⟩|_=>ke)=_;rw[h]|false=>have:A6 (a7Z kc i<pinned)=kc:=dF (by show ¬ pinned+i<pinned;omega);(have e:a7Z kc i-pinned=i:=by simp[a7Z]);simp only[Ux,this,cF,e,h]
theorem WR{g:List PA}{x:(Eh (g.map PA.ty)).sI}{i:Nat}{c a y r}(h:(BJ g x)[i]?=kd ⟨.r c a,y⟩)(f:Bq ⟨a,y⟩=kd r):Vu g i=r.bx:=by have h:=Je _ _ _ _ h;cases a with|v t=>simp[Bq]at f|o e=>grind[Bq,Vu]|b t=>grind[Bq,Vu]
theorem sH.enter(h:sH B U N tm w M)(A:M.ov=ke){fz:Bool}{x:(Eh (ps.map PA.ty)).sI}{D:List Value}{us:List Nat}(Y:xN fz B w U M ps x D [] us 0)(hl:D.length=ps.length):sH (Bw fz B w M ps us) (Ux ps x) ps.length (λi=>D.toArray.getD i undef) w (Hg w M ps us)/\b0k (Bw fz B w M ps us) ps D.toArray:=by
 have g5:∀k i,(Ba ps 0)[k]?=kd i->∀k',(Ba ps 0)[k']?=kd i->k'=k:=λk i f k' d=>nG ps d f;have T:∀(i:Nat) v,D[i]?=kd v->D.toArray.getD i undef=v:=λi v hv=>by simp_all
 have X:∀(i:Nat) c a y,(BJ ps x)[i]?=kd ⟨.r c a,y⟩->∃n v r,RY (Ba ps 0) us i=kd n/\n∈us/\D[i]?=kd v/\Bq ⟨a,y⟩=kd r/\a5o w U M n r v/\Vu ps i=r.bx:=by(intro i c a y P;obtain⟨k,V,-⟩:=dP ps 0 i (Je _ _ _ _ P);rw[C2]at V;have G:k<us.length:=by rw[Y.len];grind);have I:us[k]?=kd us[k]:=lG G;obtain⟨i',c',a',y',v,r,j1,j2,j3,j4,j5,-⟩:=Y.refs k _ I;rw[V]at j1;simp at j1;grind[a3q,WR]
 have R:∀i n,RY (Ba ps 0) us i=kd n->n∈us/\∃c a y v r,(BJ ps x)[i]?=kd ⟨.r c a,y⟩/\D[i]?=kd v/\Bq ⟨a,y⟩=kd r/\a5o w U M n r v/\Vu ps i=r.bx:=by intro i n P;have⟨k,f,d⟩:=PE _ _ _ _ P;obtain⟨i',c,a,y,v,r,j1,j2,j3,j4,j5,-⟩:=Y.refs k n d;grind
 have g7:∀i i' n,RY (Ba ps 0) us i=kd n->RY (Ba ps 0) us i'=kd n->i=i':=by intro i i' n f d;have⟨k,f,O⟩:=PE _ _ _ _ f;have⟨k',d,C⟩:=PE _ _ _ _ d;have⟨a1,b1⟩:=lS.1 O;have⟨a2,b2⟩:=lS.1 C;(have:k=k':=by have Q:=C8.1 Y.nodup;grind);grind
 have K:∀m p,p∈(Hg w M ps us).ow m->∃i n,dH ps m=kd i/\RY (Ba ps 0) us i=kd n/\p∈lo M n (Vu ps i)/\p∈M.ow n:=by intro m p Q;cases P:dH ps m with|none=>grind[Hg]|some i=>cases I:RY (Ba ps 0) us i with|none=>grind[Hg]|some n=>(have e:(Hg w M ps us).ow m=lo M n (Vu ps i):=by simp[Hg,P,I]);rw[e]at Q;obtain⟨-,c,a,y,v,r,-,-,-,hL,hb⟩:=R _ _ I;exact⟨i,n,rfl,I,Q,(h.xF A hL).2.2.1 p (hb▸Q)⟩
 have L:∀c,BP (Hg w M ps us) c->(Bw fz B w M ps us).F c/\∃n∈us,c∈(M.ow n).map (·.1):=by rintro c ⟨m,hm⟩;obtain⟨p,Q,rfl⟩:=B6.1 hm;obtain⟨i,n,-,f,d,O⟩:=K m p Q;exact⟨⟨i,n,f,A3 d⟩,n,(R _ _ f).1,A3 O⟩
 have g4:∀c,Bh B w M c->Bh (Bw fz B w M ps us) w (Hg w M ps us) c:=λc z=>⟨z.1,.inl (.inl z),λg=>by obtain⟨-,n,-,d⟩:=L c g;exact z.2.2 ⟨n,d⟩⟩
 have H:Ag w M.ov=Ag w (Hg w M ps us).ov:=by rw[A];rfl
 have E:∀m i n,dH ps m=kd i->RY (Ba ps 0) us i=kd n->(Hg w M ps us).g m=lg w M n (Vu ps i)/\(Hg w M ps us).ow m=lo M n (Vu ps i):=λm i n f d=>by simp[Hg,f,d]
 have h9:∀i b,(Bw fz B w M ps us).pin i=kd b->jF ps i=kd kc/\∃n,RY (Ba ps 0) us i=kd n/\b=lg w M n (Vu ps i):=λi b hb=>by simp[Bw]at hb;split at hb;rename_i V;obtain⟨n,I,rfl⟩:=C9.1 hb;grind;grind
 refine⟨⟨λm r hr=>?_,λm hm=>?_,λm=>?_,λm m' k8 c z g1=>?_,λm p Q=>?_,λi P=>?_,trivial,B4 _,λb _ _=>rfl,λc z=>.inl (L c z).1,λi b hb _=>?_,rfl⟩,λi P V=>?_⟩;have⟨i,c,a,y,f,d,O⟩:=a8t hr;have⟨n,v,r',k1,k2,k3,k4,k5,k6⟩:=X i c a y d;rw[O]at k4;cases k4;rw[<-H,(E m i n f k1).1,(E m i n f k1).2,k6];exact(h.xF A k5).1.mono g4;cases ho:(Hg w M ps us).ow m with|nil=>rfl|cons p l=>obtain⟨i,n,f,d,-⟩:=K m p (by grind);obtain⟨-,c,a,y,v,r,h5,-,S,-⟩:=R _ _ d;obtain⟨c',h7,rfl,h8⟩:=a1M f;have:=Ri (Je _ _ _ _ h5);grind[b3Z]
 cases P:dH ps m with|none=>grind|some i=>cases I:RY (Ba ps 0) us i with|none=>grind|some n=>obtain⟨-,c,a,y,v,r,-,-,-,hL,hb⟩:=R _ _ I;rw[(E m i n P I).2,hb];exact(h.xF A hL).2.2.2.1
 obtain⟨p,Q,rfl⟩:=B6.1 z;have⟨p',g3,e'⟩:=B6.1 g1;obtain⟨i,n,f,d,-,C⟩:=K m p Q;obtain⟨i',n',g9,k0,-,k7⟩:=K m' p' g3;by_cases e:n=n';grind[a1M];exact h.sQ n n' e p.1 (A3 C) (by grind);have⟨i,n,f,d,O,C⟩:=K m p Q;exact h.live n p C;have G:i<(BJ ps x).length:=by grind[Iw]
 have g6:i<D.length:=by omega
 have hv:D[i]?=kd D[i]:=lG g6;have q:(BJ ps x)[i]?=kd (BJ ps x)[i]:=lG G;show Yj _ _ _ _ ((Ux ps x).sl i) (D.toArray.getD i undef);rw[T i _ hv];revert q;generalize (BJ ps x)[i]=it;intro q;have⟨p,y⟩:=it;cases p with|v t=>((have e:(Ux ps x).sl i=.one (wJ t y):=by simp only[Ux,q]);rw[e];have:=Y.vals i t y _ q hv;refine CK.wJ (this.frame (λc j _=>by rw[H]) (λc z=>?_));rcases z with z|⟨hf,n,-,I,z⟩;grind;refine⟨h.lt ⟨n,z⟩,.inl (.inr ⟨hf,n,z⟩),λg=>?_⟩;obtain⟨-,n',f,d⟩:=L c g;exact h.sQ n n' (λe=>I (e▸f)) c z d)|r c b=>(have e:(Ux ps x).sl i=bif c&&A6 (pinned<=i)then .one .dead else .one (b1n (a7Z c i) ⟨b,y⟩):=by simp only[Ux,q]);rw[e];cases hcp:c&&A6 (pinned<=i)with|true=>trivial|false=>(have h0:c=ka->i<pinned:=λg=>by grind);have⟨n,v,r,f,d,O,C,h5,g0⟩:=X i c b y q;rw[hv]at O;simp at O;rw[O];have V:=Ri (Je _ _ _ _ q);have Z:=b3Z q h0;rw[C]at Z;obtain⟨hg,-⟩:=E _ i n (b0l V h0) f;obtain⟨-,S,-,-,h7⟩:=h.xF A h5;rw[<-g0]at S h7;show AA _ _ _ _ (b1n (a7Z c i) ⟨b,y⟩) v;cases b with|v t=>simp[Bq]at C|o e0=>(simp[Bq]at C;subst C;rcases h7 with⟨g,-⟩|⟨-,u,e2,g,-⟩;grind;rw[g]at S;have S:v=u:=S;refine⟨_,e0,.one u,Z,?_,by rw[S];rfl⟩;rw[hg,g];rfl)|b t=>simp[Bq]at C;subst C;rcases h7 with⟨-,bb,g⟩|⟨g,-⟩;rw[g]at S;refine⟨_,t,bb,0,Z,?_,S.2⟩;rw[hg,g];rfl;grind
 obtain⟨V,n,f,rfl⟩:=h9 i b hb;exact(E _ i n (b0l (c:=kc) V (λg=>by grind)) f).1;have⟨k,g2⟩:=E1.1 P;have G:k<us.length:=by rw[Y.len];grind
 obtain⟨i',c',a',y',v,r,j1,j2,j3,j4,j5,-⟩:=Y.refs k _ (lG G);rw[g2]at j1;simp at j1;subst j1;refine⟨lg w M us[k] (Vu ps i),?_,by rw[T _ _ j3,WR j2 j4];exact(h.xF A j5).2.1⟩;grind[Bw,a3q]
end
theorem Vv{α:Type}{f:Nat->Option (α×Dw×List Nat)}:∀(n i:Nat){k os g},Ao f n i=kd (k,os,g)->(∀j x o r,f j=kd (x,o,r)->o=[]/\r=[])->os=[]/\g=[]|0,i,k,os,g,h,_=>by simp_all[Ao]|n+1,i,k,os,g,h,a=>by simp[Ao]at h;split at h;grind;rename_i x o r b;split at h;grind;rename_i l d e c;simp at h;obtain⟨rfl,rfl,rfl⟩:=h;obtain⟨rfl,rfl⟩:=a _ _ _ _ b;obtain⟨rfl,rfl⟩:=Vv n (i+1) c a;simp
theorem Np{m:Es}:∀(t:Ty){rd:Nat->Option Value}{x O R},t.sO=kc->AM m t rd=kd (x,O,R)->O=[]/\R=[]|.int k,rd,x,O,R,_,h=>by simp[AM]at h;grind|.bool,rd,x,O,R,_,h=>by simp[AM]at h;grind|.str,rd,x,O,R,_,h=>by simp[AM]at h;grind|.unit,rd,x,O,R,_,h=>by simp only[AM]at h;grind|.pair a b,rd,x,O,R,g,h=>(by simp[Ty.sO]at g;obtain⟨q,e,l,u,i,p,f,c,-,rfl,rfl⟩:=Dz h;obtain⟨rfl,rfl⟩:=Np a g.1 f;obtain⟨rfl,rfl⟩:=Np b g.2 c;simp)|.arr n t,rd,x,O,R,g,h=>(Vv n 0 h λj x o r d=>Np t g d)|.list o t,rd,x,O,R,g,h=>by simp[Ty.sO]at g|.nl t,rd,x,O,R,g,h=>by grind[mK]
theorem fW{rd:Nat->Option Value}{x O R}(f:e.sO=kc)(h:AM m (.list ka e) rd=kd (x,O,R)):R=[]:=by rcases Da h with⟨-,-,-,b⟩|⟨A,n,c,j,d,g,k,i,a⟩;all_goals grind[Vv,Np]
theorem tT.xQ{s O}(h:tT m Sh r s O)(g:(r.bx=ka/\r.t.sO=kc)\/∃e,r.t=.list ka e/\e.sO=kc):tT m Sh' r s O:=by(have⟨k,R,f,i,a⟩:=h.rd;have b:R=[]:=by rcases g with⟨-,g⟩|⟨e,c,g⟩;grind[Np];have⟨d,t,x⟩:=r;obtain rfl:t=.list ka e:=c;exact fW g f);subst b;exact⟨k,[],f,by simp,a⟩
theorem CK.xQ{t:Ty}{x:t.sI}(h:CK m Sh t x v)(a:t.sO=kc):CK m Sh' t x v:=by have⟨f,k,R,g,b⟩:=h;obtain⟨-,rfl⟩:=Np t a g;exact⟨f,k,[],g,by simp⟩
theorem Zr:∀(g:List RA)(n k m:Nat),(BO g n)[k]?=kd m->m=n+1000*k/\k<g.length|[],_,k,m,h=>by simp[BO]at h|_::g,n,0,m,h=>by simp_all[BO]|_::g,n,k+1,m,h=>by have⟨f,a⟩:=Zr g (n+1000) k m (by simpa[BO]using h);grind
theorem OI:∀(h:List RA)(n:Nat),(BO h n).length=h.length|[],_=>rfl|_::h,n=>by simp[BO,OI h]
theorem Zs:∀(g:List RA)(n k m:Nat)(r:RA),(BO g n)[k]?=kd m->g[k]?=kd r->(∀t,r≠.v t)->m∈DR g n|[],_,k,m,r,h,_,_=>by simp_all|a::g,n,0,m,r,h,f,c=>(by simp[BO]at h f;subst h;subst f;cases a with|v t=>simp_all|o e=>simp[DR]|b t=>simp[DR])|a::g,n,k+1,m,r,h,f,c=>by have:=Zs g (n+1000) k m r (by simpa[BO]using h) (by simpa using f) c;cases a<;>simp[DR,this]
section
variable {Z:Type} {B:Base} {N:Nat} {tm:Nat->Value} {w:World}
theorem sH.tV:∀(ns:List Nat) {U:AE}{M:Gh}(_:sH B U N tm w M)(_:U.pd=ke){q:Bool}{us:List Nat}{K:AE->Rs Z}{z:Z}(_:U.tV q us ns K=kd z),(∀n∈ns,n<pinned/\n∉us)/\∃k M',K k=kd z/\sH B k N tm w M'/\k.pd=ke/\M'.ov=M.ov/\(∀c,Bh B w M c->Bh B w M' c)/\(∀n∈ns,k.rt n=ke)/\((∀n,n∉ns->k.rt n=U.rt n/\M'.ow n=M.ow n)/\M'.g=M.g)/\(∀n,U.rt n=ke->k.rt n=ke)|[],U,M,h,hpd,q,us,K,z,f=>⟨by simp,U,M,f,h,hpd,rfl,λ_ g=>g,by simp,⟨λ_ _=>⟨rfl,rfl⟩,rfl⟩,λ_ g=>g⟩|n::ns,U,M,h,hpd,q,us,K,z,f=>by(simp only[AE.tV]at f;have⟨p,f⟩:=(Ah f).elim id λh=>by grind);(simp at p;split at f;rename_i u;have ⟨k1,k,M',h1,h2,h3,h4,h5,h6,⟨h7,h8⟩,h9⟩:=sH.tV ns h hpd f;grind;rename_i r u;rcases Ah f with⟨-,g⟩|⟨-,f⟩;grind;have l:=h.drop (n:=n) (by simp_all);have ⟨k1,k,M',h1,h2,h3,h4,h5,h6,⟨h7,h8⟩,h9⟩:=sH.tV ns l (by simp_all[AE.sD,AE.sG]) f;have d:((U.sG (AV.drop n)).sD n ke).rt n=ke:=by simp[AE.sD]);(refine⟨λm a=>?_,k,M',h1,h2,h3,h4,λc j=>h5 c (sH.tQ c j),λm a=>?_,⟨λm a=>?_,h8⟩,λm a=>h9 m ?_⟩;grind;grind;have o:m≠n:=λe=>a (by grind);have b:m∉ns:=λg=>a (A4 _ g);have⟨a1,i⟩:=h7 m b;have e:(m==n)=kc:=by simp_all);exact⟨a1.trans (by simp[AE.sD,AE.sG,e]),i.trans (by simp_all)⟩;simp_all[AE.sD,AE.sG]
end
def Yq:List Nat->List ((r:RA)×r.ty.sI)->List (Src×Dw)->Nat->Option wF|k::ns,it::its,L::Ls,n=>(match Bq it with|some r=>bif n==k then kd ⟨r,L.1,L.2⟩else Yq ns its Ls n|none=>Yq ns its Ls n)|_,_,_,_=>ke
theorem a1N:∀(ns:List Nat) its (f:List (Src×Dw)) (n:Nat) (e:wF),Yq ns its f n=kd e->∃(k:Nat)(it:(r:RA)×r.ty.sI) (L:Src×Dw),ns[k]?=kd n/\its[k]?=kd it/\f[k]?=kd L/\Bq it=kd e.r/\e.s=L.1/\e.O=L.2|[],its,f,n,e,h=>by simp[Yq]at h|k::ns,[],f,n,e,h=>by simp[Yq]at h|k::ns,it::its,[],n,e,h=>by simp[Yq]at h|k::ns,it::its,L::f,n,e,h=>by(have b:Yq ns its f n=kd e->∃(j:Nat)(g:(r:RA)×r.ty.sI) (a:Src×Dw),(k::ns)[j]?=kd n/\(it::its)[j]?=kd g/\(L::f)[j]?=kd a/\Bq g=kd e.r/\e.s=a.1/\e.O=a.2:=λh=>by have⟨j,g,a,c,d,i,l⟩:=a1N ns its f n e h;exact⟨j+1,g,a,by simpa using c,by simpa using d,by simpa using i,l⟩);simp[Yq]at h;split at h;rename_i r m;rcases Ah h with⟨o,h⟩|⟨-,h⟩;simp at h;subst h;exact⟨0,it,L,by simp_all,rfl,rfl,m,rfl,rfl⟩;simp_all;simp_all
theorem a3r:∀(ns:List Nat) its (g:List (Src×Dw)) (k n:Nat) it L r,ns[k]?=kd n->its[k]?=kd it->g[k]?=kd L->Bq it=kd r->(∀(k':Nat) it',ns[k']?=kd n->its[k']?=kd it'->Bq it'≠ke->k'=k)->Yq ns its g n=kd ⟨r,L.1,L.2⟩|[],its,g,k,n,it,L,r,h,_,_,_,_=>by grind|m::ns,[],g,k,n,it,L,r,_,h,_,_,_=>by grind|m::ns,it'::its,[],k,n,it,L,r,_,_,h,_,_=>by grind|m::ns,it'::its,L'::g,0,n,it,L,r,f,a,b,d,_=>by simp_all[Yq]|m::ns,it'::its,L'::g,k+1,n,it,L,r,f,a,b,d,i=>by(simp at f a b;have q:=a3r ns its g k n it L r f a b d λk' c o p j=>by have:=i (k'+1) c (by simp_all) (by grind) j;omega);simp[Yq];cases hr:Bq it' with|none=>omega|some u=>(have l:n≠m:=λe=>by have:=i 0 it' (by grind) rfl (by simp_all);omega);grind
theorem XE:∀(ns:List Nat) its (g:List (Src×Dw)) (n:Nat),g.length=its.length->Dy ns its n=(Yq ns its g n).map (·.r)|[],its,g,n,h=>by rfl|k::ns,[],g,n,h=>by rfl|k::ns,a::its,[],n,h=>by grind|k::ns,a::its,L::g,n,h=>by have f:=XE ns its g n (by simpa using h);simp only[Dy,Yq];cases Bq a with|none=>exact f|some r=>cases hk:(n==k)<;>simp[f]
theorem a1O:∀(ns:List Nat) its (k:Nat) av,(Kz ns its)[k]?=kd av->∃(n:Nat)(it:(r:RA)×r.ty.sI),ns[k]?=kd n/\its[k]?=kd it/\av=b1n n it|[],its,k,av,h=>by simp[Kz]at h|_::_,[],k,av,h=>by simp[Kz]at h|n::ns,it::its,0,av,h=>by simp[Kz]at h;simp_all|n::ns,it::its,k+1,av,h=>by have⟨m,g,f,a,b⟩:=a1O ns its k av (by simpa[Kz]using h);exact⟨m,g,by simpa using f,by simpa using a,b⟩
theorem Zt:∀(ns:List Nat)(g:List ((r:RA)×r.ty.sI)),ns.length<=g.length->(Kz ns g).length=ns.length|[],g,h=>by rfl|_::_,[],h=>by grind|_::ns,_::g,h=>by simp only[Kz,lC];rw[Zt ns g (by simpa using h)]
theorem a5q:∀{it:(r:RA)×r.ty.sI} {r:sK},Bq it=kd r->it.1.sO=kc->(r.bx=ka/\r.t.sO=kc)\/∃e,r.t=.list ka e/\e.sO=false|⟨.v t,x⟩,r,h,_=>by simp[Bq]at h|⟨.o e,x⟩,r,h,g=>by simp[Bq]at h;subst h;exact .inr ⟨e,rfl,g⟩|⟨.b t,x⟩,r,h,g=>by simp[Bq]at h;subst h;exact .inl ⟨rfl,g⟩
theorem a3p.root{m Sh}:∀{it:(r:RA)×r.ty.sI} {v L r},a3p m Sh it v L->Bq it=kd r->tT m Sh r L.1 L.2|⟨.v t,x⟩,v,L,r,h,g=>by simp[Bq]at g|⟨.o e,x⟩,v,L,r,h,g=>by simp[Bq]at g;subst g;exact h.2|⟨.b t,x⟩,v,L,r,h,g=>by simp[Bq]at g;subst g;exact h.1
@[reducible] def Fr(ro:Option Nat):Fence:={ fn:=λ_=>True,depth:=ke,alive:=kc,round:=ro }
theorem a5r{ro:Option Nat}{args:Array Value}{R:Ending->World->Prop}(h:Calls P f args w R):CallsIn (Fr ro) n P f args w R:=(callsIn_wide (n:=n)).2 h
theorem a3s{ro:Option Nat}{P:Program}{o:Oper}{a:Act}{w:World}{next:Act->World->Prop}{Q:Exit->Act->World->Prop}(g:∀c,o.op≠.defer c)(h:o.uponIn (Fr ro) 0 P a next Q ((execOp a.eval o).run P w)):
  o.wpIn (Fr ro) 0 P a w next Q:=
 ⟨λ_ _=>trivial,by simp_all[Oper.semAt_eq]⟩
theorem a5s(hb:Yp P f)(ho:o.op=.call c)(hc:c.callee=.value (.func f))(a:Act)(w:World):
  (execOp a.eval o).run P w=.ok (.enter f (c.args.map a.eval)) w:=by
 obtain ⟨fn,c',h1,h2,h3⟩:=hb;have h4 : ¬ fn.name = "runtime.NumGoroutine" := by simp_all
 simp [execOp,ho,resolve,hc,Act.eval,Deferred.ofValue,invoke,callFunc,program,Sem.run,h1,h2,h4,Result.andThen]
theorem a5t(hb:Yp P f){t:Nat}(ho:o.op=.call c)(hc:c.callee=.value (.tmp t))(a:Act)(w:World){us:Array Value}(hv:a.eval (.tmp t)=.func (.func f) #[] us):
  (execOp a.eval o).run P w=.ok (.enter f (c.args.map a.eval++us)) w:=by
 obtain ⟨fn,c',h1,h2,h3⟩:=hb;have h4 : ¬ fn.name = "runtime.NumGoroutine" := by simp_all
 simp [execOp,ho,resolve,hc,hv,Deferred.ofValue,invoke,callFunc,program,Sem.run,h1,h2,h4,Result.andThen]
section
variable {P:Program} {B:Base} {N:Nat} {Z:Type} {U:AE} {a:Act} {w:World} {M:Gh} {ro:Option Nat}
theorem Ym.callee(j:Ym G B)(h:sH B U N tm w M)(fz:Bool)(u:List PA)(us:List Nat):Ym G (Bw fz B w M u us):=by(intro g t x l;have⟨a,b,c,v,d,e⟩:=j g t x l;have f:¬ BP M g:=λo=>by rcases h.mine _ o with q|q;all_goals grind);have k:=h.size;exact⟨C0 a k,.inl ⟨C0 a k,.inl b,f⟩,λ⟨i,n,_,m⟩=>by obtain⟨p,r,rfl⟩:=B6.1 m;exact f ⟨n,A3 (c0B r)⟩,v,d.trans (h.frame g a c).symm,e⟩
theorem lI:∀(g:List PA)(us:List Nat)(i0 n:Nat),n∈XA g us->∃(k i:Nat)(e:Ty),us[k]?=kd n/\(Ba g i0)[k]?=kd (i0+i)/\g[i]?=kd (.r kc (.o e))|[],us,i0,n,h=>by simp[XA]at h|.v _::g,us,i0,n,h=>(by have⟨k,i,e,f,d,j⟩:=lI g us (i0+1) n (by simpa[XA]using h);exact⟨k,i+1,e,f,by grind[Ba],by simp_all⟩)|.r c a::g,[],i0,n,h=>by simp_all[XA]|.r c a::g,u::us,i0,n,h=>by(have b:n∈XA g us->∃(k i:Nat)(e:Ty),(u::us)[k]?=kd n/\(Ba (.r c a::g) i0)[k]?=kd (i0+i)/\(PA.r c a::g)[i]?=kd (.r kc (.o e)):=λh=>by have⟨k,i,e,f,d,j⟩:=lI g us (i0+1) n h;exact⟨k+1,i+1,e,by simp_all,by grind[Ba],by simp_all⟩);cases c with|true=>simp_all[XA]|false=>cases a with|o e=>(rcases mC.1 (show n∈u::XA g us from h)with rfl|h;exact⟨0,0,e,rfl,rfl,rfl⟩;simp_all)|_=>simp_all[XA]
def Yr(o:Option sK)(s:Src)(e:wF):wF:=match o,s with|some ⟨ka,_,_⟩,.at b _=>if e.r.bx=ka then e else⟨⟨ka,e.r.t,e.r.x⟩,s,(b,1)::e.O⟩|_,_=>e
theorem WS{C:Array Value->World->(Ending->World->Prop)->Prop}{d6:List AV}{vals:List Value}{s:rZ}{K:AE->Rs Z}{z:Z}(n0:∀R,C vals.toArray w R->(∀e w',R e w'->∃v,e=.returned v/\next (a.put o.dst v) w')->o.wpIn (Fr ro) 0 P a w next Q)(k4:d6.length=vals.length)(l1:∀(i:Nat) av v,d6[i]?=kd av->vals[i]?=kd v->AA (Ag w M.ov) M.g U.rt (Bh B w M) av v)(hG:Ym G B)(hF:c0C C G s)(h:sH B U N (AJ a) w M)(hN:a.tmps.size=N)(hz:U.call q o.dst s d6 K=kd z)(g5:∀v w' U' M',sH B U' N (AJ (a.put o.dst v)) w' M'->K U'=kd z->next (a.put o.dst v) w'):o.wpIn (Fr ro) 0 P a w next Q:=by
 unfold AE.call at hz;split at hz;cases hz;rename_i m0;have n5:=h.sW m0;obtain⟨hl,x,U',M',A,m6,h',ev,bx,k8,-,ha⟩:=sH.args s.ps d6 vals (i0:=0) h (λi av v h1 h2=>.inl (l1 i av v h1 h2)) (by omega) hz;clear hz;obtain⟨fz,l4⟩:∃fz,(s.rs.any RA.sO || (Ko s.ps).any RA.sO)=fz:=⟨_,rfl⟩;rw[l4]at ha k8;have m1:U'.pd=ke:=ev.pd.trans m0;have b4:M'.ov=ke:=ev.ov.trans n5;obtain⟨hnames,U1,M1,hz2,h1,hpd1,hov1,hshr,hnone,⟨d0,e4⟩,hnone'⟩:=sH.tV _ h' m1 m6;clear m6;obtain⟨y,hy,m7⟩:=D5.1 hz2;clear hz2;obtain⟨f7,e6⟩:=h'.enter b4 ha (by omega);obtain⟨ns,d2⟩:∃ns,BO s.rs (o.dst.getD 0+1000)=ns:=⟨_,rfl⟩;have n7:(A.reverse++[]).reverse=A:=by simp
 obtain⟨rn,m3⟩:∃rn,DR s.rs (o.dst.getD 0+1000)=rn:=⟨_,rfl⟩;rw[m3]at hnames hnone d0;refine n0 _ (hF w _ _ _ x y (hG.callee h' _ _ _) hy rfl (λ_=>rfl) rfl (by rw[F6];omega) f7 e6) ?_
 rintro e w' ⟨vr,Ls,rfl,f9,bk⟩;refine⟨_,rfl,?_⟩;obtain⟨V,k0⟩:∃V,Fg (RA.all s.ps s.rs) y=V:=⟨_,rfl⟩;obtain⟨vs,i8⟩:∃vs,vr++(Ba s.ps 0).map (GV s.ps vals.toArray)=vs:=⟨_,rfl⟩;rw[k0,i8]at bk;have n9:V.length=s.rs.length+A.length:=by
  rw[<-k0,Ml,RA.all,lN,ha.len,NF]
 have b0:ns.length=s.rs.length:=by rw[<-d2,OI]
 have h9:∀n∈rn,n<pinned/\n∉A:=λn hn=>by
  have:=hnames n hn
  simpa using this

 have h7:∀(k n:Nat) X,(ns++A)[k]?=kd n->V[k]?=kd X->Bq X≠ke->(k<ns.length/\n∈rn/\n=o.dst.getD 0+1000+1000*k)\/(ns.length<=k/\A[k-ns.length]?=kd n):=by
  intro k n X h1 h2 h3;by_cases hk:k<ns.length;rw[A8 hk]at h1;have hf:=Sy (RA.all s.ps s.rs) y k X (by rw[k0];exact h2);rw[RA.all,A8 (by omega)]at hf;refine .inl ⟨hk,?_,?_⟩;rw[<-m3];exact Zs s.rs _ k n X.1 (by rw[d2];exact h1) hf λt ht=>h3 (by
   obtain⟨r,xx⟩:=X;obtain rfl:r=.v t:=ht;rfl)
  exact(Zr s.rs _ k n (by rw[d2];exact h1)).1;rw[B9 (by omega)]at h1;exact .inr ⟨by omega,h1⟩
 have d4:∀(k k' n:Nat) X g6,(ns++A)[k]?=kd n->V[k]?=kd X->Bq X≠ke->(ns++A)[k']?=kd n->V[k']?=kd g6->Bq g6≠ke->k'=k:=by
  intro k k' n X g6 h1 h2 h3 h4 h5 h6;rcases h7 k n X h1 h2 h3 with⟨a1,a2,a3⟩|⟨a1,a2⟩;rcases h7 k' n g6 h4 h5 h6 with⟨b1,b2,b3⟩|⟨b1,b2⟩;omega;exact absurd (B3 b2) (h9 n a2).2;rcases h7 k' n g6 h4 h5 h6 with⟨b1,b2,b3⟩|⟨b1,b2⟩;exact absurd (B3 a2) (h9 n b2).2;obtain⟨c1,c2⟩:=lS.1 a2;obtain⟨c3,c4⟩:=lS.1 b2;have hp:=C8.1 ha.nodup;rcases F7 (k-ns.length) (k'-ns.length)with g|g|g;exact absurd (c2.trans c4.symm) (hp _ _ c1 c3 g);omega;exact absurd (c4.trans c2.symm) (hp _ _ c3 c1 g)
 let E0:Nat->Option wF:=Yq (ns++A) V Ls
 have k5:∀n∈A,U1.rt n=U'.rt n/\M1.ow n=M'.ow n:=λn hn=>d0 n λg=>(h9 n g).2 hn;have f3:∀c,(Bw fz B w M' s.ps A).F c->∃n∈A,c∈(M'.ow n).map (·.1):=by
  rintro c ⟨i,n,h1,h2⟩;obtain⟨k,q1,q2⟩:=PE _ _ _ _ h1;obtain⟨i',c',ra,y',v,r,j1,j2,j3,j4,j5,-⟩:=ha.refs k n q2;rw[q1]at j1;simp only[C2,sj]at j1;subst j1;obtain⟨p,hp,rfl⟩:=B6.1 h2;rw[WR j2 j4]at hp;exact⟨n,B3 q2,A3 ((h'.xF b4 j5).2.2.1 p hp)⟩
 have f0:∀n∈A,∃D r0,E0 n=kd D/\U'.rt n=kd r0/\
   ((D.r.bx=r0.bx/\(D.s=M'.g n\/(r0.bx=kc/\n<pinned/\n∉XA s.ps A))/\(r0.bx=kc->∃ε,D.r.t=.list ka ε))\/
    ∃b v ε,r0.bx=ka/\D.r.bx=kc/\D.r.t=.list ka ε/\M'.g n=.at b 0/\w.cell? ⟨b,0,ke⟩=kd v/\D.s=.one v/\b∈(M'.ow n).map (·.1)/\Cv w b 1/\¬ (Bw fz B w M' s.ps A).F b):=by
  intro n hn;obtain⟨k,hk⟩:=E1.1 hn;obtain⟨i,c,ra,y',v,r,j1,j2,j3,j4,j5,j7⟩:=ha.refs k n hk;rw[C2]at j1;have b9:=Je _ _ _ _ j2;have o0:k<A.length:=(lS.1 hk).1;have l5:(ns.length+k)<V.length:=by omega
  have g9:=lG l5;have f5:ns.length+k<Ls.length:=by rw[bk.ll];exact l5
  have c5:=lG f5;have k9:=Sy (RA.all s.ps s.rs) y (ns.length+k) _ (by rw[k0];exact g9);have b8:(ns++A)[ns.length+k]?=kd n:=by rw[B9 (by omega)];simpa using hk
  have l0:(RA.all s.ps s.rs)[ns.length+k]?=kd ra:=by
   rw[RA.all,B9 (by omega),b0,D6];obtain⟨k2,q1,q2⟩:=dP s.ps 0 i b9;rw[C2]at q1;rw[nG s.ps j1 q1];exact q2
  rw[l0]at k9;simp only[sj]at k9;have e7:vs[ns.length+k]?=kd (GV s.ps vals.toArray i):=by
   rw[<-i8,B9 (by omega),f9,b0,D6,D7,j1];rfl
  have d5:vals.toArray.getD i undef=v:=by simp only[Array.getD_eq_getD_getElem?,C7,j3,Option.getD_some]
  have k8:∀k3,A[k3]?=kd n->k=k3:=λk3 q1=>by
   obtain⟨c1,c2⟩:=lS.1 hk;obtain⟨c3,c4⟩:=lS.1 q1;have hp:=C8.1 ha.nodup;rcases F7 k k3 with g|g|g;exact absurd (c2.trans c4.symm) (hp _ _ c1 c3 g);exact g;exact absurd (c4.trans c2.symm) (hp _ _ c3 c1 g)
  have g0:=bk.ok _ _ _ _ g9 e7 c5;revert k9 g0 g9;generalize V[ns.length+k]=X;obtain⟨r0,xx⟩:=X;intro g9 k9 g0;obtain rfl:ra=r0:=k9;have f2:∀r',Bq ⟨ra,xx⟩=kd r'->E0 n=kd ⟨r',Ls[ns.length+k].1,Ls[ns.length+k].2⟩:=λr' m2=>
   a3r (ns++A) V Ls (ns.length+k) n _ _ _ b8 g9 c5 m2 (λk' g6 g1 Y g3=>d4 _ k' n _ g6 b8 g9 (by rw[m2];simp) g1 Y g3)
  cases ra with
  |v t=>simp[Bq]at j4
  |b t=>
   simp only[Bq,sj]at j4;subst j4;cases c with
   |true=>have:=(j7 rfl).2.1;cases this
   |false=>
    have c6:GV s.ps vals.toArray i=v:=by simp only[GV,Ri b9,d5]
    rw[c6]at g0;obtain⟨hr,b',hs,hv⟩:=g0;rcases j5 with⟨j5,j6⟩|⟨_,⟨g,-⟩,-⟩;refine⟨_,_,f2 _ rfl,j5,.inl ⟨rfl,.inl ?_,λg=>by cases g⟩⟩;rcases h'.uE j5 with⟨-,b,g⟩|⟨g,-⟩;rw[g]at j6|-
    have:=j6.2.symm.trans hv
    simp only[Value.pointer.injEq,sj,Addr.mk.injEq,and_true]at this;rw[this];exact hs;cases g;cases g
  |o D=>
   simp only[Bq,sj]at j4;subst j4;obtain⟨hs,hr⟩:=g0;have g7:Vu s.ps i=kc:=by simp[Vu,b9]
   rcases j5 with⟨j5,j6⟩|⟨b,-,j5,hg,f4⟩
   ·refine⟨_,_,f2 _ rfl,j5,.inl ⟨rfl,?_,λ_=>⟨D,rfl⟩⟩⟩;cases c with
    |true=>
     refine .inr ⟨rfl,(j7 rfl).2.2,λhb=>?_⟩;obtain⟨k3,i3,e3,q1,q2,q3⟩:=lI s.ps A 0 n hb;obtain rfl:=k8 k3 q1;rw[j1]at q2;simp only[C2,sj]at q2;subst q2;rw[b9]at q3;cases q3
    |false=>
     have c6:GV s.ps vals.toArray i=v:=by simp only[GV,Ri b9,d5]
     rw[c6]at hs;left;rcases h'.uE j5 with⟨g,-⟩|⟨-,u,e2,g,-⟩;cases g;rw[g]at j6|-;have j6:v=u:=j6;rw[<-j6];exact hs
   ·have m9:c=kc:=by
     cases c with
     |false=>rfl
     |true=>have:=(j7 rfl).1;rw[j5]at this;cases this
    subst m9;have c6:GV s.ps vals.toArray i=v:=by simp only[GV,Ri b9,d5]
    rw[c6]at hs;have f6:M'.ow n=(b,1)::(M'.ow n).tail/\b∉((M'.ow n).tail).map (·.1):=by
     obtain⟨O',R,-,-,q3⟩:=(h'.roots n _ j5).rd;rcases q3 with⟨-,b',q4,q5⟩|⟨q4,-⟩;rw[hg]at q4;simp only[Src.at.injEq,and_true]at q4;subst q4;have l8:=h'.nodup n;rw[q5,B7]at l8;rw[q5];exact⟨rfl,(A9.1 l8).1⟩;cases q4
    have l2:b∈(M'.ow n).map (·.1):=by rw[f6.1];simp
    refine⟨_,_,f2 _ rfl,j5,.inr ⟨b,v,D,rfl,rfl,rfl,hg,f4,hs,l2,h'.live n (b,1) (by rw[f6.1];simp),?_⟩⟩;rintro⟨i',n',q1,q2⟩;obtain⟨k',q3,q4⟩:=PE _ _ _ _ q1;by_cases hnn:n'=n;subst hnn;obtain rfl:=k8 k' q4;rw[j1]at q3;simp only[sj]at q3;subst q3;rw[g7]at q2;simp only[lo,hg]at q2;exact f6.2 q2;obtain⟨i2,c2,a2,y2,v2,r2,z1,z2,z3,z4,z5,-⟩:=ha.refs k' n' q4;rw[q3]at z1;simp only[C2,sj]at z1;subst z1;obtain⟨p,hp,n6⟩:=B6.1 q2;rw[WR z2 z4]at hp;exact h'.sQ n n' (Ne.symm hnn) b l2 (by rw[<-n6];exact A3 ((h'.xF b4 z5).2.2.1 p hp))
 let E:Nat->Option wF:=λn=>(E0 n).map λe=>bif A.contains n then Yr (U1.rt n) (M1.g n) e else e
 have k6:∀n e,E n=kd e->∃D,E0 n=kd D/\(e=D\/(n∈A/\∃b v ε,D.r.bx=kc/\D.r.t=.list ka ε/\M'.g n=.at b 0/\w.cell? ⟨b,0,ke⟩=kd v/\D.s=.one v/\b∈(M'.ow n).map (·.1)/\Cv w b 1/\
   ¬ (Bw fz B w M' s.ps A).F b/\e=⟨⟨ka,D.r.t,D.r.x⟩,.at b 0,(b,1)::D.O⟩)):=by
  intro n e H;obtain⟨D,T,rfl⟩:=C9.1 H;refine⟨D,T,?_⟩;cases hc:A.contains n with
  |false=>exact .inl rfl
  |true=>
   have hn:n∈A:=by simpa using hc
   obtain⟨e1,r0,q1,q2,q3⟩:=f0 n hn;rw[T]at q1;cases q1;simp only[cT];rw[(k5 n hn).1,q2,e4];obtain⟨bx,t0,x0⟩:=r0;rcases q3 with⟨q3,-⟩|⟨b,v,ε,q3,q4,q5,q6,q7⟩
   ·left;cases bx with
    |false=>rfl
    |true=>
     rcases M'.g n with⟨b,o⟩|u;simp only[Yr];rw[if_pos q3];rfl
   right;have q3:bx=ka:=q3;subst q3;refine⟨hn,b,v,ε,q4,q5,q6,q7.1,q7.2.1,q7.2.2.1,q7.2.2.2.1,q7.2.2.2.2,?_⟩;rw[q6];simp only[Yr];rw[if_neg (by rw[q4];simp)]
 have d7:∀n∈A,∃e r,E n=kd e/\U'.rt n=kd r/\(e.s=M'.g n\/(r.bx=kc/\n<pinned/\n∉XA s.ps A))/\(r.bx=kc->∃ε,e.r.t=.list ka ε):=by
  intro n hn;obtain⟨D,r0,q1,q2,q3⟩:=f0 n hn;have hE:∃e,E n=kd e:=⟨_,by simp only[E,q1,E4];rfl⟩;obtain⟨e,H⟩:=hE;obtain⟨e1,z1,z2⟩:=k6 n e H;rw[q1]at z1;cases z1;refine⟨e,r0,H,q2,?_⟩;rcases q3 with⟨q3,q4,q5⟩|⟨b,v,ε,q3,q4,q5,q6,q7⟩;rcases z2 with rfl|⟨-,b,v,ε,z3,z4,z5,z6,z7,z8,z9,g4,rfl⟩;exact⟨q4,q5⟩;rw[z3]at q3;rcases h'.uE q2 with⟨g,-⟩|⟨-,u,_,g,-⟩;rw[g]at q3;cases q3;rw[g]at z5;cases z5;refine⟨.inl ?_,λg=>by rw[q3]at g;cases g⟩;rcases z2 with rfl|⟨-,b',v',ε',z3,z4,z5,z6,z7,z8,z9,g4,rfl⟩;exfalso;obtain⟨e2,l3,b7⟩:=C9.1 H;rw[q1]at l3;cases l3;have hc:A.contains n=ka:=by simpa using hn
  rw[hc]at b7;simp only[cT]at b7;rw[(k5 n hn).1,q2,e4,q6]at b7;obtain⟨bx,t0,x0⟩:=r0;have q3:bx=ka:=q3;subst q3;simp only[Yr]at b7;rw[if_neg (by rw[q4];simp)]at b7
  have:=cG (λe=>e.r.bx) b7
  rw[q4]at this;cases this;exact z5.symm
 have I:∀n e,E0 n=kd e->∃(k:Nat)(X:(r:RA)×r.ty.sI) (v:Value) (L:Src×Dw),(ns++A)[k]?=kd n/\V[k]?=kd X/\vs[k]?=kd v/\Ls[k]?=kd L/\Bq X=kd e.r/\e.s=L.1/\e.O=L.2/\
   a3p (cells w') (λc=>c<w'.heap.size/\((Bw fz B w M' s.ps A).S c\/(Bw fz B w M' s.ps A).F c\/(Bw fz B w M' s.ps A).size<=c)/\∀L∈Ls,c∉L.2.map (·.1)) X v L:=by
  intro n e H;obtain⟨k,X,L,j1,j2,j3,j4⟩:=a1N _ _ _ _ _ H;have n3:k<vs.length:=by rw[bk.lv];exact(lS.1 j2).1
  have hv:=lG n3;exact⟨k,X,vs[k],L,j1,j2,hv,j3,j4.1,j4.2.1,j4.2.2,bk.ok _ _ _ _ j2 hv j3⟩
 have a6:∀n D c,E0 n=kd D->c∈D.O.map (·.1)->(Bw fz B w M' s.ps A).F c\/w.heap.size<=c:=λn D c H hc=>by
  obtain⟨k,X,v,L,j1,j2,jv,j3,j4,j5,j6,j7⟩:=I n D H;rw[j6]at hc;exact bk.mine L (B3 j3) c hc
 have d1:∀n e,E n=kd e->n∈rn\/n∈A:=λn e H=>by
  obtain⟨D,T,-⟩:=k6 n e H;obtain⟨k,X,v,L,j1,j2,-,-,j4,-⟩:=I n D T;rcases h7 k n X j1 j2 (by rw[j4];simp)with⟨-,g,-⟩|⟨-,g⟩;exact .inl g;exact .inr (B3 g)
 have a5:∀n b,b∈(M'.ow n).map (·.1)->¬ (Bw fz B w M' s.ps A).F b->∀n' D,E0 n'=kd D->b∉D.O.map (·.1):=λn b hb hF n' D H hc=>by
  rcases a6 n' D b H hc with g|g;exact hF g
  have:=h'.lt ⟨n,hb⟩;omega
 have hW:yP w w' M1 (Bw fz B w M' s.ps A).F E:={
  own:=λc hF=>by
   obtain⟨n,hn,hc⟩:=f3 c hF;obtain⟨e,r,H,-⟩:=d7 n hn;exact⟨n,e,H,by rw[(k5 n hn).2];exact hc⟩
  size:=bk.size
  still:=bk.still
  same:=λb hb m8=>bk.frame b hb m8
  mine:=λn e c H hc=>by
   obtain⟨D,T,z⟩:=k6 n e H;rcases z with rfl|⟨hn,b,v,ε,z3,z4,z5,z6,z7,z8,z9,g4,rfl⟩;exact(a6 n e c T hc).imp .inl id;rcases mC.1 (show c∈b::D.O.map (·.1)from hc)with rfl|hc;exact .inl (.inr (by rw[(k5 n hn).2];exact z8));exact(a6 n D c T hc).imp .inl id
  nodup:=λn e H=>by
   obtain⟨D,T,z⟩:=k6 n e H;have h0:(D.O.map (·.1)).Nodup:=by
    obtain⟨k,X,v,L,j1,j2,jv,j3,j4,j5,j6,j7⟩:=I n D T;rw[j6];exact bk.nodup L (B3 j3)
   rcases z with rfl|⟨hn,b,v,ε,z3,z4,z5,z6,z7,z8,z9,g4,rfl⟩;exact h0;exact A9.2 ⟨a5 n b z8 g4 n D T,h0⟩
  sQ:=λn e n' e' H c7 e5 c hc h8=>by
   obtain⟨D,T,z⟩:=k6 n e H;obtain⟨b5,c8,z'⟩:=k6 n' e' c7;have a8:c∈D.O.map (·.1)->c∈b5.O.map (·.1)->False:=λhc h8=>by
    obtain⟨k,X,v,L,j1,j2,jv,j3,j4,j5,j6,j7⟩:=I n D T;obtain⟨k',g6,v',L',i1,i2,iv,i3,i4,i5,i6,i7⟩:=I n' b5 c8;rw[j6]at hc;rw[i6]at h8;exact bk.sQ k k' L L' j3 i3 (λg=>by subst g;rw[j1]at i1;exact e5 (Option.some.inj i1)) c hc h8
   rcases z with rfl|⟨hn,b,v,ε,z3,z4,z5,z6,z7,z8,z9,g4,rfl⟩;rcases z' with rfl|⟨l7,b',v',ε',y3,y4,y5,y6,y7,y8,y9,e9,rfl⟩;exact a8 hc h8;rcases mC.1 (show c∈b'::b5.O.map (·.1)from h8)with rfl|h8;exact a5 n' c y8 e9 n e T hc;exact a8 hc h8;rcases mC.1 (show c∈b::D.O.map (·.1)from hc)with rfl|hc;rcases z' with rfl|⟨l7,b',v',ε',y3,y4,y5,y6,y7,y8,y9,e9,rfl⟩;exact a5 n c z8 g4 n' e' c8 h8;rcases mC.1 (show c∈b'::b5.O.map (·.1)from h8)with rfl|h8;exact h'.sQ n n' e5 c z8 y8;exact a5 n c z8 g4 n' b5 c8 h8;rcases z' with rfl|⟨l7,b',v',ε',y3,y4,y5,y6,y7,y8,y9,e9,rfl⟩;exact a8 hc h8;rcases mC.1 (show c∈b'::b5.O.map (·.1)from h8)with rfl|h8;exact a5 n' c y8 e9 n D T hc;exact a8 hc h8
  live:=λn e p H hp=>by
   obtain⟨D,T,z⟩:=k6 n e H;have h0:p∈D.O->Cv w' p.1 p.2:=λhp=>by
    obtain⟨k,X,v,L,j1,j2,jv,j3,j4,j5,j6,j7⟩:=I n D T;rw[j6]at hp;exact bk.live L (B3 j3) p hp
   rcases z with rfl|⟨hn,b,v,ε,z3,z4,z5,z6,z7,z8,z9,g4,rfl⟩;exact h0 hp;rcases mC.1 hp with rfl|hp;obtain⟨c,e,lo,hi,q1,q2⟩:=z9;exact⟨c,e,lo,hi,by rw[bk.frame b (h'.lt ⟨n,z8⟩) g4];exact q1,q2⟩;exact h0 hp }

 have a9:∀c,(c<w'.heap.size/\((Bw fz B w M' s.ps A).S c\/(Bw fz B w M' s.ps A).F c\/(Bw fz B w M' s.ps A).size<=c)/\∀L∈Ls,c∉L.2.map (·.1))->fz=ka->
   (c<w'.heap.size/\(Bh B w M1 c\/(Bw fz B w M' s.ps A).F c\/w.heap.size<=c)/\∀n e,E n=kd e->c∉e.O.map (·.1)):=by
  rintro c ⟨g1,Y,g3⟩ hfzt;refine⟨g1,?_,λn e H d8=>?_⟩;rcases Y with(Y|⟨Y,-⟩)|Y|Y;exact .inl (hshr c Y);rw[hfzt]at Y;cases Y;exact .inr (.inl Y);exact .inr (.inr Y);obtain⟨D,T,z⟩:=k6 n e H;have h0:c∉D.O.map (·.1):=by
   obtain⟨k,X,v,L,j1,j2,jv,j3,j4,j5,j6,j7⟩:=I n D T;rw[j6];exact g3 L (B3 j3)
  rcases z with rfl|⟨hn,b,v,ε,z3,z4,z5,z6,z7,z8,z9,g4,rfl⟩;exact h0 d8;rcases mC.1 (show c∈b::D.O.map (·.1)from d8)with rfl|d8;rcases Y with(Y|⟨Y,-⟩)|Y|Y;exact Y.2.2 ⟨n,z8⟩;rw[hfzt]at Y;cases Y;exact g4 Y
  have:=h'.lt ⟨n,z8⟩
  have Y:w.heap.size<=c:=Y;omega;exact h0 d8
 have a4:fz=kc->∀(k:Nat) X,V[k]?=kd X->X.1.sO=kc:=by
  intro d9 k X hk;have h1:=Sy (RA.all s.ps s.rs) y k X (by rw[k0];exact hk);rw[<-l4]at d9;simp only[Bool.or_eq_false_iff,List.any_eq_false,G3]at d9;have hm:=B3 h1;simp only[RA.all,mA]at hm;rcases hm with hm|hm;exact d9.1 _ hm;exact d9.2 _ hm
 have f8:∀n e,E n=kd e->tT (cells w') (λc=>c<w'.heap.size/\(Bh B w M1 c\/(Bw fz B w M' s.ps A).F c\/w.heap.size<=c)/\∀n e,E n=kd e->c∉e.O.map (·.1)) e.r e.s e.O:=by
  intro n e H;obtain⟨D,T,z⟩:=k6 n e H;have h0:tT (cells w') (λc=>c<w'.heap.size/\(Bh B w M1 c\/(Bw fz B w M' s.ps A).F c\/w.heap.size<=c)/\∀n e,E n=kd e->c∉e.O.map (·.1)) D.r D.s D.O:=by
   obtain⟨k,X,v,L,j1,j2,jv,j3,j4,j5,j6,j7⟩:=I n D T;have hr:=j7.root j4;rw[j5,j6];cases hfz':fz with
   |true=>
    rw[hfz']at hr a9;exact hr.mono λc hc=>a9 c hc rfl
   |false=>exact hr.xQ (a5q j4 (a4 hfz' k X j2))
  rcases z with rfl|⟨hn,b,v,ε,z3,z4,z5,z6,z7,z8,z9,g4,rfl⟩;exact h0;obtain⟨O',R,k1,k2,k3⟩:=h0.rd;rcases k3 with⟨k3,-⟩|⟨-,-,-,k3⟩;rw[z3]at k3;cases k3;refine⟨O',R,AI _ k1 (λj hj=>?_) (λ_ _ _=>rfl),k2,.inl ⟨rfl,b,rfl,?_⟩⟩;have hj:j<D.r.t.cells:=hj;rw[z4]at hj;have n1:j=0:=by simp only[Ty.cells]at hj;omega
  subst n1;rw[z7];show cells w' b (0+0)=kd v
  have:=BV (w':=w') (w:=w) (c:=b) ke (bk.frame b (h'.lt ⟨n,z8⟩) g4) 0
  exact this.trans z6;show(b,1)::D.O=(b,D.r.t.cells)::O';rw[z4,k3];rfl
 obtain⟨hM,f1⟩:=h1.yT (hov1.trans b4) hW f8 (λi b e hb H=>by
   rcases d1 _ e H with g|g;exact absurd (h9 _ g).1 (by omega);obtain⟨e',r',c7,a7,hs,-⟩:=d7 _ g;rw[H]at c7;simp only[sj]at c7;subst c7;rcases hs with hs|⟨-,hs,-⟩;rw[hs];exact h'.pins i b hb (by rw[a7];simp);omega) (f:=AV.sN A (U1.vT (XA s.ps A))) (λav v k7=>by
   have i9:∀k q,(av=.ptr k q\/av=.sref k q\/∃o l,av=.swin k q o l)->k∉A->E k=ke:=λk q hk n2=>by
    cases H:E k with
    |none=>rfl
    |some e=>
     rcases d1 k e H with g|g;have hn:=hnone k g;rcases hk with rfl|rfl|⟨o,l,rfl⟩;obtain⟨r,t,b,o,g1,-⟩:=k7;rw[hn]at g1;cases g1;obtain⟨r,e,s,g1,-⟩:=k7;rw[hn]at g1;cases g1;obtain⟨r,e,s,_,_,_,g1,-⟩:=k7;rw[hn]at g1;cases g1;exact absurd g n2
   cases av with
   |sref m p=>
    simp only[AV.sN];split
    ·rename_i hm;cases p with
     |cons=>exact .inl rfl
     |nil=>
      simp only[];split;rename_i hb;refine .inr ⟨rfl,λk p' hk=>.inr (.inr ?_)⟩;rcases hk with g|g|⟨o,l,g⟩<;>cases g;obtain⟨e,r,H,a7,hs,ht⟩:=d7 m (by simpa using hm);have c0:=(k5 m (by simpa using hm)).1.trans a7;have hb:m∈U1.vT (XA s.ps A):=by simpa using hb
      simp only[AE.vT,List.mem_filter,E6]at hb;obtain⟨hb,g7⟩:=hb;rcases hs with hs|⟨-,-,hs⟩;obtain⟨r2,e2,s2,g1,Y,g3⟩:=k7;rw[c0]at g1;cases g1;simp only[loc,CR,sj,pJ]at Y;rcases h1.uE c0 with⟨b6,b,hg⟩|⟨b6,u,e3,hg,-⟩;rw[c0]at g7;simp only[a4W]at g7;rw[b6]at g7;cases g7;obtain⟨ε,ht⟩:=ht b6;exact⟨rfl,e,u,ε,H,by rw[hs,<-e4];exact hg,hg,ht⟩;exact absurd hb hs;exact .inl rfl
    rename_i hm;refine .inr ⟨rfl,λk p' hk=>.inl (i9 k p' hk ?_)⟩;rcases hk with g|g|⟨o,l,g⟩<;>cases g;simpa using hm
   |swin m p o l=>
    simp only[AV.sN];split;exact .inl rfl;rename_i hm;refine .inr ⟨rfl,λk p' hk=>.inl (i9 k p' hk ?_)⟩;rcases hk with g|g|⟨o,l,g⟩<;>cases g;simpa using hm
   |ptr m p=>
    simp only[AV.sN];split
    ·rename_i hm;cases p with
     |cons=>exact .inl rfl
     |nil=>
      refine .inr ⟨rfl,λk p' hk=>.inr (.inl ?_)⟩;rcases hk with g|g|⟨o,l,g⟩<;>cases g;obtain⟨e,r,H,a7,hs,ht⟩:=d7 m (by simpa using hm);have c0:=(k5 m (by simpa using hm)).1.trans a7;obtain⟨r2,t2,b2,o2,g1,Y,-⟩:=k7;rw[c0]at g1;cases g1;simp only[loc,CR,sj,pJ]at Y;rcases h1.uE c0 with⟨b6,b,hg⟩|⟨b6,u,e3,hg,-⟩;rcases hs with hs|⟨hs,-⟩;exact⟨rfl,e,b,H,by rw[hs,<-e4];exact hg,hg⟩;rw[b6]at hs;cases hs;rw[hg]at Y;cases Y.2
    rename_i hm;refine .inr ⟨rfl,λk p' hk=>.inl (i9 k p' hk ?_)⟩;rcases hk with g|g|⟨o,l,g⟩<;>cases g;simpa using hm
   |_=>exact .inr ⟨rfl,λk p' hk=>by rcases hk with g|g|⟨o,l,g⟩<;>cases g⟩)

 have d3:∀(k:Nat) av,(Kz ns V)[k]?=kd av->∃u,vr[k]?=kd u/\AA (Ag w' ke) (HG M1 E).g (PP U1 (AV.sN A (U1.vT (XA s.ps A))) E).rt (Bh B w' (HG M1 E)) av u:=by
  intro k av hk;obtain⟨n,X,g1,Y,rfl⟩:=a1O _ _ _ _ hk;have l6:k<vr.length:=by rw[f9,<-b0];exact(lS.1 g1).1
  have e7:=lG l6;have m5:vs[k]?=kd vr[k]:=by rw[<-i8,A8 l6];exact e7
  have f5:k<Ls.length:=by rw[bk.ll];exact(lS.1 Y).1
  have c5:=lG f5;have g0:=bk.ok _ _ _ _ Y m5 c5;have b8:(ns++A)[k]?=kd n:=by rw[A8 (by omega)];exact g1
  refine⟨vr[k],e7,?_⟩;have c9:∀r,Bq X=kd r->E n=kd ⟨r,Ls[k].1,Ls[k].2⟩:=λr hr=>by
   have h0:E0 n=kd ⟨r,Ls[k].1,Ls[k].2⟩:=a3r (ns++A) V Ls k n X _ r b8 Y c5 hr (λk' g6 a1 a2 a3=>d4 _ k' n _ g6 b8 Y (by rw[hr];simp) a1 a2 a3);have n4:A.contains n=kc:=by
    rcases h7 k n X b8 Y (by rw[hr];simp)with⟨-,g,-⟩|⟨g,-⟩;simpa using(h9 n g).2
    have:=(lS.1 g1).1
    omega
   simp only[E,h0,E4,n4,cF]
  obtain⟨r,xx⟩:=X;cases r with
  |v t=>
   obtain⟨hv,-⟩:=g0;cases hfz':fz with
   |true=>
    rw[hfz']at hv a9 f1;exact hv.frame (λ_ _ _=>rfl) λc hc=>f1 c (a9 c hc rfl)
   |false=>exact hv.xQ (a4 hfz' k _ Y)
  |o e=>
   obtain⟨hs,-⟩:=g0;have H:=c9 _ rfl;refine⟨_,e,.one vr[k],He H,?_,rfl⟩;rw[Hf H];show kd (_,Ls[k].1)=_;rw[hs]
  |b t=>
   obtain⟨-,b,hs,hv⟩:=g0;have H:=c9 _ rfl;refine⟨_,t,b,0,He H,?_,hv⟩;rw[Hf H];show kd (_,Ls[k].1)=_;rw[hs]
 have n8:(⟨λi=>(U1.sl i).sG (AV.sN (A.reverse++[]) (U1.vT (XA s.ps A))),λn=>match Dy (ns++A) V n with
    |some r=>kd (bif (A.reverse++[]).contains n then Va (U1.rt n) r else r)
    |none=>U1.rt n,ke⟩:AE)=PP U1 (AV.sN A (U1.vT (XA s.ps A))) E:=by
  have e1:AV.sN (A.reverse++[]) (U1.vT (XA s.ps A))=AV.sN A (U1.vT (XA s.ps A)):=by
   funext av;cases av<;>simp[AV.sN]
  have e2:∀n,(A.reverse++[]).contains n=A.contains n:=λn=>by simp
  rw[e1];simp only[PP,AE.sG,E,E0,e2];congr 1;funext n;rw[XE _ _ Ls n bk.ll];cases Yq (ns++A) V Ls n with
  |none=>rfl
  |some e=>
   simp only[E4];cases A.contains n with
   |false=>rfl
   |true=>
    simp only[cT,sj];cases a7:U1.rt n with
    |none=>simp[Va,Yr]
    |some r0=>
     rcases h1.uE a7 with⟨hb,b,hg⟩|⟨hb,u,D,hg,-⟩;obtain⟨bx,t0,x0⟩:=r0;have hb:bx=ka:=hb;subst hb;rw[hg];simp only[Va,Yr];split;rename_i H;obtain⟨⟨bx,t1,x1⟩,s1,O1⟩:=e;have H:bx=ka:=H;subst H;rfl;rfl;obtain⟨bx,t0,x0⟩:=r0;have hb:bx=kc:=hb;subst hb;simp[Va,Yr]
 have hz:(match o.dst with
   |none=>K (PP U1 (AV.sN A (U1.vT (XA s.ps A))) E)
   |some d=>match Kz (BO s.rs (d+1000)) V with
    | [v]=>K ((PP U1 (AV.sN A (U1.vT (XA s.ps A))) E).set d v)
    |vs=>K ((PP U1 (AV.sN A (U1.vT (XA s.ps A))) E).put d (.cmp .tup vs)))=kd z:=by
  rw[n7,d2,k0]at m7;rw[<-n8];exact m7
 cases hd:o.dst with
 |none=>
  rw[hd]at hz g5;simp only[]at hz;exact g5 _ w' _ _ hM hz
 |some d=>
  have l9:BO s.rs (d+1000)=ns:=by rw[<-d2,hd];rfl
  rw[hd]at hz g5;simp only[l9]at hz;have k4:(Kz ns V).length=vr.length:=by rw[Zt _ _ (by omega),b0,f9]
  split at hz
  ·rename_i av k7;rw[k7]at k4 d3;obtain⟨u,hu,g0⟩:=d3 0 av rfl;have m4:vr=[u]:=by
    match vr,k4,hu with
    | [u'],_,hu=>simp only[List.getElem?_cons_zero,sj]at hu;rw[hu]
   refine g5 _ w' _ _ (hM.uL (sv:=.one av) (v:=fV vr) (d:=d) hN (λ_=>?_)) hz;rw[m4];exact g0
  ·rename_i e5;refine g5 _ w' _ _ (hM.uL (sv:=.cmp .tup (Kz ns V)) (v:=fV vr) (d:=d) hN (λ_=>?_)) hz;refine⟨vr.toArray,?_,λk av hk=>?_⟩
   ·match vr,k4 with
    | [],_=>rfl
    | [u],k4=>
     obtain⟨av,k7⟩:=F0.1 (k4.trans rfl);exact absurd k7 (e5 av)
    |_::_::_,_=>rfl
   obtain⟨u,hu,g0⟩:=d3 k av hk;exact⟨u,by simpa using hu,g0⟩
theorem b7d(g:o.op=.call c)(h:c.callee=.value (.func f)):(execOp a.eval o).run P w=(callFunc f (c.args.map a.eval)).run P w:=by simp_all[execOp,resolve,Act.eval,Deferred.ofValue,invoke]
theorem a8u{t:Nat}(g:o.op=.call c)(h:c.callee=.value (.tmp t)){us:Array Value}(hv:a.eval (.tmp t)=.func (.func f) #[] us):(execOp a.eval o).run P w=(callFunc f (c.args.map a.eval++us)).run P w:=by simp_all[execOp,resolve,Deferred.ofValue,invoke]
theorem b0m{b:Array Value}(k:∀c,o.op≠.defer c)(g:(execOp a.eval o).run P w=.ok (.enter f b) w)(R:Ending->World->Prop)(d:Calls P f b w R)(i:∀e w',R e w'->∃v,e=.returned v/\next (a.put o.dst v) w'):o.wpIn (Fr ro) 0 P a w next Q:=by
 refine a3s k ?_
 rw[g,Oper.uponIn_enter];refine⟨λh=>(by grind),a5r (d.mono λe w' h=>?_)⟩;grind
theorem b4a{g:Array Value}(k:∀c,o.op≠.defer c)(h:(execOp a.eval o).run P w=(callFunc f g).run P w)(R:Ending->World->Prop)(d:∃v w',(callFunc f g).run P w=.ok (.value v) w'/\R (.returned v) w')(b:∀e w',R e w'->∃v,e=.returned v/\next (a.put o.dst v) w'):o.wpIn (Fr ro) 0 P a w next Q:=by
 grind[a3s,Oper.uponIn_value]
theorem a8v{s:rZ}{K:AE->Rs Z}{z:Z}(F:o.op=.call c)(E:c.callee=.value (.func f))(A:Ym G B)(b:a5p P G f s)(h:sH B U N (AJ a) w M)(D:a.tmps.size=N)(L:fits N o=ka)(H:U.call q o.dst s (c.args.toList.map U.sJ) K=kd z)(k:∀v w' p M',sH B p N (AJ (a.put o.dst v)) w' M'->K p=kd z->next (a.put o.dst v) w'):o.wpIn (Fr ro) 0 P a w next Q:=by
 have e:∀x∈c.args.toList,Cw N x=ka:=λx S=>Bl L x (by simp_all[Op.operands,Call.operands]);have d:∀r,o.op≠.defer r:=λr R=>by simp_all
 have u:(c.args.toList.map a.eval).toArray=c.args.map a.eval:=by grind
 have y:∀(i:Nat) m v,(c.args.toList.map U.sJ)[i]?=kd m->(c.args.toList.map a.eval)[i]?=kd v->AA (Ag w M.ov) M.g U.rt (Bh B w M) m v:=by
  intro i m v j l;rw[D7]at j l;cases hi:c.args.toList[i]? with
  |none=>simp_all
  |some O=>
   rw[hi]at j l;simp only[E4,sj]at j l;subst j;subst l;exact h.sJ (e O (B3 hi))
 rcases b with⟨b,I⟩|b;exact WS (C:=Calls P f) (vals:=c.args.toList.map a.eval) (b0m d (by rw[a5s I F E,u])) (by simp) y A b h D H k;exact WS (vals:=c.args.toList.map a.eval) (b4a d (by rw[b7d F E,u])) (by simp) y A b h D H k
theorem b1F{t:Nat}{u:List AV}{s:rZ}{K:AE->Rs Z}{z:Z}(O:o.op=.call c)(I:c.callee=.value (.tmp t))(T:U.sl t=.cmp (.clo f) u)(F:Ym G B)(b:a5p P G f s)(h:sH B U N (AJ a) w M)(H:a.tmps.size=N)(L:fits N o=ka)(R:U.call q o.dst s (c.args.toList.map U.sJ++u) K=kd z)(k:∀v w' y M',sH B y N (AJ (a.put o.dst v)) w' M'->K y=kd z->next (a.put o.dst v) w'):o.wpIn (Fr ro) 0 P a w next Q:=by
 have e:∀x∈c.args.toList,Cw N x=ka:=λx hx=>Bl L x (by simp_all[Op.operands,Call.operands]);have V:t<N:=by
  have:=Bl L (.tmp t) (by simp_all[Op.operands,Call.operands])
  simpa[Cw]using this
 have j:=h.slots t V;rw[T]at j;have⟨us,⟨D,p⟩,h3⟩:=j;have p:a.eval (.tmp t)=.func (.func f) #[] us:=p;have d:∀A,o.op≠.defer A:=λA Y=>by simp_all
 have E:∀(i:Nat) r v,(c.args.toList.map U.sJ++u)[i]?=kd r->(c.args.toList.map a.eval++us.toList)[i]?=kd v->AA (Ag w M.ov) M.g U.rt (Bh B w M) r v:=by
  intro i r v l m;by_cases hi:i<c.args.toList.length
  ·rw[A8 (by simp_all),D7]at l m;cases hi':c.args.toList[i]? with
   |none=>simp_all
   |some X=>
    rw[hi']at l m;simp at l m;subst l;subst m;exact h.sJ (e X (B3 hi'))
  grind
 rcases b with⟨b,S⟩|b;exact WS (C:=Calls P f) (vals:=c.args.toList.map a.eval++us.toList) (b0m d (by rw[a5t S O I a w p];simp)) (by simp[D]) E F b h H R k;exact WS (vals:=c.args.toList.map a.eval++us.toList) (b4a d (by rw[a8u O I p,show(c.args.toList.map a.eval++us.toList).toArray=c.args.map a.eval++us from by simp])) (by simp[D]) E F b h H R k
end
theorem fX:∀(l:List Nat),b0e l=ka->l.Nodup|[],_=>List.nodup_nil|a::l,h=>by simp only[b0e,HC,E6,List.contains_eq_mem,decide_eq_false_iff_not]at h;exact A9.2 ⟨h.1,fX l h.2⟩
section
variable {Z:Type}
inductive uO (nm:List Nat) (U:AE) (es:Ar) (i:Nat):SV->Prop
 |dead:uO nm U es i (.one .dead)
 |same (av:AV):U.get i=av->av≠.dead->(∀k q,(av=.ptr k q\/av=.sref k q\/∃o l,av=.swin k q o l)->k∈nm)->uO nm U es i (.one av)
 |made (n:Nat) (e:Ty):xD.own i n e∈es->U.rt n=ke->n∈nm->(U.get i=.nils\/U.get i=.empt)->uO nm U es i (.one (.sref n []))
 |clo (f:Nat) (ns:List Nat):U.sl i=.cmp (.clo f) (RW ns)->(∀k∈ns,k∈nm)->uO nm U es i (.cmp (.clo f) (RW ns))
theorem a1P:∀(g:List AV)(ns:List Nat),Vb g ns=ka->g=RW ns|[],[],_=>rfl|v::g,[],h=>by simp_all[Vb]|[],_::_,h=>by simp[Vb]at h|v::g,m::ns,h=>by cases v with|ptr n p=>(cases p with|nil=>simp[Vb]at h;rw[h.1,a1P g ns h.2];rfl|cons=>simp[Vb]at h)|_=>simp[Vb]at h
theorem nH:∀(ns:List Nat)(k:Nat)(av:AV),(RW ns)[k]?=kd av->∃n∈ns,av=.ptr n []|[],k,av,h=>by simp[RW]at h|n::ns,0,av,h=>by simp_all[RW]|n::ns,k+1,av,h=>by have⟨m,g,e⟩:=nH ns k av (by simpa[RW]using h);exact⟨m,by simp[g],e⟩
theorem uO.cons{c U b i v}(h:uO c U b i v)(e:xD):uO c U (e::b) i v:=by cases h with|dead=>exact .dead|same d g k a=>exact .same d g k a|made n j g k a l=>exact .made n j (A4 _ g) k a l|clo f m g k=>exact .clo f m g k
def Vw(r' r:sK):Prop:=r'=r\/(r'.bx=ka/\r.bx=ka/\r'.t.tK=r'.t/\sZ r'.t r.t r'.x=kd r.x)
theorem a8w{m:Es}:∀(q:BB)(a b:Ty)(s:Src){k f},a.le b=ka->loc m a s q=kd (k,f)->∃t2,loc m b s q=kd (t2,f)|[],a,b,s,k,f,h,g=>(by simp[CR]at g;obtain⟨-,rfl⟩:=g;exact⟨b,rfl⟩)|.fst::p,a,b,s,k,f,h,g=>(by obtain⟨a1,d,e,o,rfl,rfl,g⟩:=Mc g;cases b with|pair b1 b2=>simp[Ty.le]at h;exact a8w p a1 b1 _ h.1 g|_=>simp[Ty.le]at h)|.snd::p,a,b,s,k,f,h,g=>(by obtain⟨a1,d,e,o,rfl,rfl,g⟩:=Me g;cases b with|pair b1 b2=>(simp[Ty.le]at h;have⟨t2,j⟩:=a8w p d b2 _ h.2 g;rw[Ty.vG _ _ h.1]at j;exact⟨t2,j⟩)|_=>simp[Ty.le]at h)|.idx i::p,a,b,s,k,f,h,g=>by(have l:a=b:=by rcases Lb g with⟨n,t,e,o,rfl,rfl,r,g⟩|⟨t,u,n,c,rfl,v,r,g⟩<;>simpa[Ty.le]using h);simp_all
theorem Vw.loc{m:Es}{g r:sK}(h:Vw g r){p:BB}{s:Src}{k f}(a:loc m g.t s p=kd (k,f)):∃t2,Ab.loc m r.t s p=kd (t2,f):=by rcases h with rfl|⟨-,-,-,h⟩;all_goals grind[sZ,a8w]
theorem Vw.yS{g:sK}(h:Vw g r){s:Src}{e f}(k:Ab.loc m g.t s p=kd (.list ka e,f)):Ab.loc m r.t s p=kd (.list ka e,f):=by rcases h with rfl|⟨-,-,h,-⟩;omega;have:=Mh p _ _ h k;simp[Ty.tK]at this
theorem AA.xV{g y:Nat->Src}{rt u:Nat->Option sK}(h:AA m g rt Sh a v)(B:∀c,Sh c->Sh' c)(x:∀n p r,(a=.ptr n p\/a=.sref n p\/∃o l,a=.swin n p o l)->rt n=kd r->y n=g n/\∃f,u n=kd f/\Vw r f):AA m y u Sh' a v:=by cases a with|ptr n p=>(have⟨r,t,b,o,k,d,i⟩:=h;have⟨w,f,j,q⟩:=x n p r (.inl rfl) k;have⟨D,z⟩:=q.loc d;exact⟨f,D,b,o,j,by simp_all,i⟩)|sref n p=>(have⟨r,e,s,k,d,i⟩:=h;have⟨w,f,j,q⟩:=x n p r (.inr (.inl rfl)) k;exact⟨f,e,s,j,by rw[w];exact q.yS d,i⟩)|swin n p o l=>(have⟨r,e,s,a,C,c,k,d,i,j,q⟩:=h;have⟨w,f,z,A⟩:=x n p r (.inr (.inr ⟨_,_,rfl⟩)) k;exact⟨f,e,s,a,C,c,z,by rw[w];exact A.yS d,i,j,q⟩)|_=>exact h.frame (λ_ _ _=>rfl) B (by rintro n p r t s (g|g|⟨_,_,g⟩)<;>cases g)
inductive uZ (U:AE) (es:Ar) (n:Nat):Option sK->Prop
 |none:n∉es.names->uZ U es n ke
 |same (r r':sK):n∈es.names->U.rt n=kd r'->Vw r' r->uZ U es n (kd r)
 |made (i:Nat) (e:Ty):n∈es.names->n<pinned->xD.own i n e∈es->U.rt n=Option.none->(U.get i=.nils\/U.get i=.empt)->uZ U es n (kd ⟨kc,.list ka e,[]⟩)
theorem Fb(U:AE)(i j:Nat)(v:AV):(U.set i v).sl j=if j=i then .one v else U.sl j:=by simp_all[AE.set,AE.put]
theorem SA(U:AE)(n m:Nat)(r:Option sK):(U.sD n r).rt m=if m=n then r else U.rt m:=by simp_all[AE.sD]
theorem Cr(b:List Nat)(U:AE):∀(N:Ar){K:N.ty.sI->Rs Z}{z:Z},(∀n∈N.names,n∈b)->N.names.Nodup->Ar.rest b U N K=kd z->∃x,K x=kd z/\(N.enc x).pd=ke/\(∀i,uO b U N i ((N.enc x).sl i))/\∀n,uZ U N n ((N.enc x).rt n)|[],K,z,_,_,h=>⟨(),h,rfl,λi=>.dead,λn=>.none (by simp[Ar.names])⟩|.sv i t::r,K,z,hnm,hnd,h=>(by simp only[Ar.rest]at h;split at h;rename_i t' x hx;split at h;rename_i X;subst X;have⟨y,G,C,D,w⟩:=Cr b U r hnm hnd h;refine⟨(x,y),G,C,λj=>?_,λn=>?_⟩;show uO b U _ j (((Ar.enc r y).set i (.val t' x)).sl j);rw[Fb];split;rename_i e;subst e;exact .same _ hx (by simp) (by rintro k q (g|g|⟨o,l,g⟩)<;>cases g);exact(D j).cons _;show uZ U _ n ((Ar.enc r y).rt n);cases hrt:(Ar.enc r y).rt n<;>have:=w n<;>rw[hrt]at this<;>cases this;exact .none (by assumption);exact .same _ _ (by assumption) (by assumption) (by assumption);rename_i E v d a u A B;exact .made E v d a (A4 _ u) A B;cases h;cases h)|.own i n e::r,K,z,hnm,hnd,h=>by(simp[Ar.names]at hnd;have M:∀m∈Ar.names r,m∈b:=λm S=>hnm m (by simp[Ar.names,S]);have P:n∈b:=hnm n (by simp[Ar.names]);have H:∀(l:List e.sI)(Q:(Ar.ty r).sI->Rs Z),Ar.rest b U r Q=kd z->(∀y,Q y=K (l,y))->uO b U (.own i n e::r) i (.one (.sref n []))->uZ U (.own i n e::r) n (kd ⟨kc,.list ka e,l⟩)->∃x,K x=kd z/\(Ar.enc (.own i n e::r) x).pd=ke/\(∀j,uO b U (.own i n e::r) j ((Ar.enc (.own i n e::r) x).sl j))/\∀m,uZ U (.own i n e::r) m ((Ar.enc (.own i n e::r) x).rt m):=by(intro l Q h hK hs L;have⟨y,G,C,D,w⟩:=Cr b U r M hnd.2 h;refine⟨(l,y),by simp_all,C,λj=>?_,λm=>?_⟩;show uO b U _ j ((((Ar.enc r y).sD n (kd ⟨kc,.list ka e,l⟩)).set i (.sref n [])).sl j);rw[Fb];split;simp_all;exact(D j).cons _);(show uZ U _ m (((Ar.enc r y).sD n (kd ⟨kc,.list ka e,l⟩)).rt m);rw[SA];split;simp_all);rename_i T;cases hrt:(Ar.enc r y).rt m with|none=>(have:=w m;rw[hrt]at this;cases this with|none g=>exact .none (by simp_all[Ar.names]))|some rr=>have:=w m;rw[hrt]at this;cases this with|same _ R d u g5=>exact .same rr R (by simp[Ar.names,d]) u g5|made E v d a u A B=>exact .made E v (by simp[Ar.names,d]) a (A4 _ u) A B);(simp[Ar.rest]at h;split at h;rename_i m S;rcases Ah h with⟨T,h⟩|⟨-,g⟩;obtain rfl:m=n:=by simp_all);(split at h;rename_i v l L;split at h;rename_i he;subst he;exact H l _ h (λ_=>rfl) (.same _ S (by simp) (by simp_all)) (.same _ _ (by simp[Ar.names]) L (.inl rfl));simp_all;simp_all;simp_all;rename_i I;split at h;rename_i L;have⟨O,h⟩:=(Ah h).elim id λh=>by grind);(exact H [] _ h (λ_=>rfl) (.made n e (by simp) L P (.inl I)) (.made i e (by simp[Ar.names]) (by simp_all) (by simp) L (.inl I));simp_all;rename_i I;split at h;rename_i L;have⟨O,h⟩:=(Ah h).elim id λh=>by grind);exact H [] _ h (λ_=>rfl) (.made n e (by simp) L P (.inr I)) (.made i e (by simp[Ar.names]) (by simp_all) (by simp) L (.inr I));simp_all;simp_all|.box n t::r,K,z,hnm,hnd,h=>by(simp[Ar.names]at hnd;have M:∀m∈Ar.names r,m∈b:=λm S=>hnm m (by simp[Ar.names,S]);simp[Ar.rest]at h;have H:∀(Y:t.sI)(Q:(Ar.ty r).sI->Rs Z),Ar.rest b U r Q=kd z->(∀y,Q y=K (Y,y))->(∃R,U.rt n=kd R/\Vw R ⟨ka,t,Y⟩)->∃x,K x=kd z/\(Ar.enc (.box n t::r) x).pd=ke/\(∀j,uO b U (.box n t::r) j ((Ar.enc (.box n t::r) x).sl j))/\∀m,uZ U (.box n t::r) m ((Ar.enc (.box n t::r) x).rt m):=by(intro Y Q h hK ⟨R,L,F⟩;have⟨y,G,C,D,w⟩:=Cr b U r M hnd.2 h;refine⟨(Y,y),by simp_all,C,λj=>(D j).cons _,λm=>?_⟩;show uZ U _ m (((Ar.enc r y).sD n (kd ⟨ka,t,Y⟩)).rt m);rw[SA];split;rename_i e;subst e;exact .same _ _ (by simp[Ar.names]) L F);rename_i T;cases hrt:(Ar.enc r y).rt m with|none=>(have:=w m;rw[hrt]at this;cases this with|none g=>exact .none (by simp_all[Ar.names]))|some rr=>have:=w m;rw[hrt]at this;cases this with|same _ R d u g5=>exact .same rr R (by simp[Ar.names,d]) u g5|made E v d a u A B=>exact .made E v (by simp[Ar.names,d]) a (A4 _ u) A B);split at h;rename_i t' x L;split at h;rename_i X;subst X;exact H x _ h (λ_=>rfl) ⟨_,L,.inl rfl⟩;split at h;rename_i V;split at h;rename_i z' h0;exact H z' _ h (λ_=>rfl) ⟨_,L,.inr ⟨rfl,rfl,V,h0⟩⟩;simp_all;simp_all;simp_all|.ptr i n p::r,K,z,hnm,hnd,h=>(by(simp only[Ar.rest]at h;split at h;rename_i m q I;have⟨F,h⟩:=(Ah h).elim id λh=>by grind);simp at F;obtain⟨P,rfl,O⟩:=F;obtain rfl:=Iv _ _ O;have⟨y,G,C,D,w⟩:=Cr b U r hnm hnd h;refine⟨y,G,C,λj=>?_,λc=>?_⟩;show uO b U _ j (((Ar.enc r y).set i (.ptr m q)).sl j);rw[Fb];split;rename_i e;subst e;exact .same _ I (by simp) (by simp_all);exact(D j).cons _;show uZ U _ c ((Ar.enc r y).rt c);cases hrt:(Ar.enc r y).rt c<;>have:=w c<;>rw[hrt]at this<;>cases this;exact .none (by assumption);exact .same _ _ (by assumption) (by omega) (by omega);rename_i E v d a u A B;exact .made E v d a (A4 _ u) A B;simp_all)|.vp i t::r,K,z,hnm,hnd,h=>(by simp only[Ar.rest]at h;split at h;rename_i t' x hx;split at h;rename_i X;subst X;have⟨y,G,C,D,w⟩:=Cr b U r hnm hnd h;refine⟨(x,y),G,C,λj=>?_,λn=>?_⟩;show uO b U _ j (((Ar.enc r y).set i (.vptr t' x)).sl j);rw[Fb];split;rename_i e;subst e;exact .same _ hx (by simp) (by rintro k q (g|g|⟨o,l,g⟩)<;>cases g);exact(D j).cons _;show uZ U _ n ((Ar.enc r y).rt n);cases hrt:(Ar.enc r y).rt n<;>have:=w n<;>rw[hrt]at this<;>cases this;exact .none (by assumption);exact .same _ _ (by assumption) (by assumption) (by assumption);rename_i E v d a u A B;exact .made E v d a (A4 _ u) A B;cases h;cases h)|.ref i n p::r,K,z,hnm,hnd,h=>(by(simp only[Ar.rest]at h;split at h;rename_i m q I;have⟨F,h⟩:=(Ah h).elim id λh=>by grind);simp at F;obtain⟨P,rfl,O⟩:=F;obtain rfl:=Iv _ _ O;have⟨y,G,C,D,w⟩:=Cr b U r hnm hnd h;refine⟨y,G,C,λj=>?_,λc=>?_⟩;show uO b U _ j (((Ar.enc r y).set i (.sref m q)).sl j);rw[Fb];split;rename_i e;subst e;exact .same _ I (by simp) (by simp_all);exact(D j).cons _;show uZ U _ c ((Ar.enc r y).rt c);cases hrt:(Ar.enc r y).rt c<;>have:=w c<;>rw[hrt]at this<;>cases this;exact .none (by assumption);exact .same _ _ (by assumption) (by omega) (by omega);rename_i E v d a u A B;exact .made E v d a (A4 _ u) A B;simp_all)|.rfi i n::r,K,z,hnm,hnd,h=>(by(simp only[Ar.rest]at h;split at h;rename_i m k I;have⟨F,h⟩:=(Ah h).elim id λh=>by grind);simp at F;obtain⟨P,rfl⟩:=F;have⟨y,G,C,D,w⟩:=Cr b U r hnm hnd h;refine⟨((k:Int),y),G,C,λj=>?_,λc=>?_⟩;show uO b U _ j (((Ar.enc r y).set i (.sref m [.idx (k:Int).toNat])).sl j);rw[Fb];split;rename_i e;subst e;exact .same _ (by simp_all) (by simp) (by simp_all);exact(D j).cons _;show uZ U _ c ((Ar.enc r y).rt c);cases hrt:(Ar.enc r y).rt c<;>have:=w c<;>rw[hrt]at this<;>cases this;exact .none (by assumption);exact .same _ _ (by assumption) (by omega) (by omega);rename_i E v d a u A B;exact .made E v d a (A4 _ u) A B;simp_all)|.win i n p::r,K,z,hnm,hnd,h=>(by(simp only[Ar.rest]at h;split at h;rename_i m q o k I;have⟨F,h⟩:=(Ah h).elim id λh=>by grind);simp at F;obtain⟨P,rfl,O⟩:=F;obtain rfl:=Iv _ _ O;have⟨y,G,C,D,w⟩:=Cr b U r hnm hnd h;refine⟨((o:Int),(k:Int),y),G,C,λj=>?_,λc=>?_⟩;show uO b U _ j (((Ar.enc r y).set i (.swin m q (o:Int).toNat (k:Int).toNat)).sl j);rw[Fb];split;rename_i e;subst e;exact .same _ (by simp_all) (by simp) (by simp_all);exact(D j).cons _;show uZ U _ c ((Ar.enc r y).rt c);cases hrt:(Ar.enc r y).rt c<;>have:=w c<;>rw[hrt]at this<;>cases this;exact .none (by assumption);exact .same _ _ (by assumption) (by omega) (by omega);rename_i E v d a u A B;exact .made E v d a (A4 _ u) A B;simp_all)|.clo i f ns::r,K,z,hnm,hnd,h=>by(simp[Ar.rest]at h;split at h;rename_i f' vs I;have⟨F,h5⟩:=(Ah h).elim id λh=>by grind);(simp at F;obtain⟨rfl,P,O⟩:=F;obtain rfl:=a1P _ _ O;have⟨y,G,C,D,w⟩:=Cr b U r hnm hnd h5;refine⟨y,G,C,λj=>?_,λc=>?_⟩;show uO b U _ j (bif j==i then(SV.cmp (.clo f') (RW ns))else(Ar.enc r y).sl j);by_cases e:j=i;subst e);simp;(exact .clo f' ns I P;have v:(j==i)=kc:=by simp_all);simp[v];exact(D j).cons _;show uZ U _ c ((Ar.enc r y).rt c);cases hrt:(Ar.enc r y).rt c<;>have:=w c<;>rw[hrt]at this<;>cases this;exact .none (by assumption);exact .same _ _ (by assumption) (by omega) (by omega);rename_i E v d a u A B;exact .made E v d a (A4 _ u) A B;simp_all
end
def xD.fits(N:Nat):xD->Bool|.sv i _|.own i _ _|.ptr i _ _|.ref i _ _|.rfi i _|.win i _ _|.vp i _|.clo i _ _=>A6 (i<N)|.box _ _=>ka
def Ar.fits(N:Nat)(es:Ar):Bool:=es.all (xD.fits N)
section
variable {Z:Type} {B:Base} {N:Nat} {tm:Nat->Value} {w:World}
theorem Gn(h:sH B U N tm w M)(hi:i<N):AA (Ag w M.ov) M.g U.rt (Bh B w M) (U.get i) (tm i):=by have:=h.slots i hi;simp[AE.get];revert this;cases U.sl i with|one v=>(exact λh=>h)|cmp c f=>exact λ_=>trivial
theorem sH.vals{q:List Nat}:∀(C:Ar) {U:AE} {M:Gh}(_:sH B U N tm w M)(_:U.pd=ke){K:C.ty.sI->Rs Z}{z:Z}(_:C.fits N=ka)(_:∀n∈C.names,n∈q)(_:C.names.Nodup)(_:Ar.vals q C U K=kd z),∃x E L,K x=kd z/\sH B E N tm w L/\E.pd=ke/\(∀(j:Nat) t y,U.get j=.val t y->E.get j=.val t y)/\(C.enc x).pd=ke/\(∀i,uO q E C i ((C.enc x).sl i))/\∀n,uZ E C n ((C.enc x).rt n):=by intro C;induction C with|nil=>(intro U M h b K z Q a k o;have⟨x,c,d,l,m⟩:=Cr q U [] a k o;grind)|cons e r ih=>intro U M h b K z Q a k o;cases e with|sv i t=>((simp only[Ar.fits,List.all_cons,HC,xD.fits,dT]at Q;simp[Ar.vals]at o;have⟨F,o⟩:=(Ah o).resolve_right (λg=>by grind);have S:∃x A D,Ar.vals q r (A.set i (.val t x)) (λy=>K (x,y))=kd z/\sH B A N tm w D/\A.pd=ke/\CK (Ag w D.ov) (Bh B w D) t x (tm i)/\∀(j:Nat) u y,U.get j=.val u y->(A.set i (.val t x)).get j=.val u y:=by(have P:=Gn h Q.1;have G:(∀u y,U.get i≠.val u y)->∃x A D,Ar.vals q r (A.set i (.val t x)) (λy=>K (x,y))=kd z/\sH B A N tm w D/\A.pd=ke/\CK (Ag w D.ov) (Bh B w D) t x (tm i)/\∀(j:Nat) u y,U.get j=.val u y->(A.set i (.val t x)).get j=.val u y:=λR=>by(obtain⟨x,A,D,c,d,l,m,-,h5⟩:=h.yH (.inl P) o;refine⟨x,A,D,c,d,m.pd.trans b,l,λj u y H=>?_⟩;have h0:j≠i:=λe=>R u y (e▸H));have:=h5.2 j u y H;simp_all[AE.get,Fb]);cases hg:U.get i with|val u x=>(rw[hg]at o P;simp[AE.uR]at o;split at o;rename_i x2 I;rw[hg]at F;simp[AV.exact]at F;subst F;rw[fQ]at I;cases I;refine⟨x,U,M,o,h,b,P,λj t2 y H=>?_⟩;by_cases e:j=i;subst e;rw[hg]at H;simp[AE.get];rw[Fb,if_pos rfl];omega;simp_all[AE.get,Fb];simp_all)|_=>exact G (by rw[hg];intro u y e;cases e));have⟨x,A,D,k1,k2,k3,k4,k5⟩:=S;have k6:sH B (A.set i (.val t x)) N tm w D:=k2.put (v:=tm i) (λ_=>k4) (λj _=>by simp_all);have⟨y,E,L,j1,j2,j3,j4,j5,j6,j7⟩:=ih k6 k3 (by simp_all[Ar.fits]) a k k1;have hx:E.get i=.val t x:=j4 i t x (by simp[AE.get];rw[Fb,if_pos rfl]);refine⟨(x,y),E,L,j1,j2,j3,λj u T H=>j4 j u T (k5 j u T H),j5,λj=>?_,λn=>?_⟩;show uO q E _ j (((Ar.enc r y).set i (.val t x)).sl j);rw[Fb];split;rename_i e;subst e;exact .same _ hx (by simp) (by simp);exact(j6 j).cons _;show uZ E _ n ((Ar.enc r y).rt n);cases hrt:(Ar.enc r y).rt n<;>have:=j7 n<;>rw[hrt]at this<;>cases this;exact .none (by assumption);exact .same _ _ (by assumption) (by omega) (by omega);rename_i i' V X O Y g3 g4;exact .made i' V X O (A4 _ Y) g3 g4)|own i n e=>exact(λ⟨x,c,d,l,m⟩=>⟨x,U,M,c,h,b,λ_ _ _ g=>g,d,l,m⟩) (Cr q U _ a k o)|box n t=>exact(λ⟨x,c,d,l,m⟩=>⟨x,U,M,c,h,b,λ_ _ _ g=>g,d,l,m⟩) (Cr q U _ a k o)|ptr i n p=>exact(λ⟨x,c,d,l,m⟩=>⟨x,U,M,c,h,b,λ_ _ _ g=>g,d,l,m⟩) (Cr q U _ a k o)|vp i n=>exact(λ⟨x,c,d,l,m⟩=>⟨x,U,M,c,h,b,λ_ _ _ g=>g,d,l,m⟩) (Cr q U _ a k o)|ref i n p=>exact(λ⟨x,c,d,l,m⟩=>⟨x,U,M,c,h,b,λ_ _ _ g=>g,d,l,m⟩) (Cr q U _ a k o)|rfi i n=>exact(λ⟨x,c,d,l,m⟩=>⟨x,U,M,c,h,b,λ_ _ _ g=>g,d,l,m⟩) (Cr q U _ a k o)|clo i f ns=>exact(λ⟨x,c,d,l,m⟩=>⟨x,U,M,c,h,b,λ_ _ _ g=>g,d,l,m⟩) (Cr q U _ a k o)|win i n p=>exact(λ⟨x,c,d,l,m⟩=>⟨x,U,M,c,h,b,λ_ _ _ g=>g,d,l,m⟩) (Cr q U _ a k o)
theorem a1Q:∀(r:Ar){i n e},xD.own i n e∈r->n∈r.names|a::r,i,n,e,h=>by rcases mC.1 h with h|h;subst h;simp[Ar.names];have:=a1Q r h;cases a<;>simp[Ar.names,this]
def WT:Ar->Nat->Nat|[],_=>0|.own i m _::r,n=>if m=n then i else WT r n|_::r,n=>WT r n
theorem Fs:∀(f:Ar){i n e},f.names.Nodup->xD.own i n e∈f->WT f n=i|.own j m k::r,i,n,e,hnd,h=>(by simp only[Ar.names,A9]at hnd;simp only[WT];rcases mC.1 h with h|h;cases h;simp;have:=a1Q r h;rw[if_neg (λg=>hnd.1 (by rw[g];exact this))];exact Fs r hnd.2 h)|.sv j t::r,i,n,e,hnd,h=>(by rcases mC.1 h with h|h;cases h;exact Fs r hnd h)|.box m t::r,i,n,e,hnd,h=>(by simp only[Ar.names,A9]at hnd;rcases mC.1 h with h|h;cases h;exact Fs r hnd.2 h)|.ptr j m p::r,i,n,e,hnd,h=>(by rcases mC.1 h with h|h;cases h;exact Fs r hnd h)|.vp j m::r,i,n,e,hnd,h=>(by rcases mC.1 h with h|h;cases h;exact Fs r hnd h)|.ref j m p::r,i,n,e,hnd,h=>(by rcases mC.1 h with h|h;cases h;exact Fs r hnd h)|.rfi j m::r,i,n,e,hnd,h=>(by rcases mC.1 h with h|h;cases h;exact Fs r hnd h)|.clo j m p::r,i,n,e,hnd,h=>(by rcases mC.1 h with h|h;cases h;exact Fs r hnd h)|.win j m p::r,i,n,e,hnd,h=>by rcases mC.1 h with h|h;cases h;exact Fs r hnd h
theorem sH.cut(h:sH B U N tm w M)(h3:U.pd=ke){d:Ar}(hf:d.fits N=ka)(L:d.names.Nodup){X:AE}(hX:X.pd=ke)(hs:∀i,uO d.names U d i (X.sl i))(O:∀n,uZ U d n (X.rt n)):∃M',sH B X N tm w M':=by
 have h4:=h.sW h3;let M':Gh:=⟨λn=>match U.rt n with|some _=>M.g n|none=>.one (tm (WT d n)),λn=>match X.rt n with|some _=>M.ow n|none=>[],ke⟩;have Y:∀n r,U.rt n=kd r->M'.g n=M.g n:=λn r e=>by grind
 have K:∀n,U.rt n=ke->M'.g n=.one (tm (WT d n)):=λn e=>by grind
 have ho:∀n r,X.rt n=kd r->M'.ow n=M.ow n:=λn r e=>by grind
 have h2:∀n,X.rt n=ke->M'.ow n=[]:=λn e=>by grind
 have Q:∀n p,p∈M'.ow n->p∈M.ow n:=λn p hp=>by grind
 have a:∀n c,c∈(M'.ow n).map (·.1)->c∈(M.ow n).map (·.1):=λn c q=>by grind
 have y:∀c,Bh B w M c->Bh B w M' c:=λc q=>⟨q.1,q.2.1,λ⟨n,l⟩=>q.2.2 ⟨n,a n c l⟩⟩;have v:Ag w M'.ov=Ag w M.ov:=by grind
 have h1:∀n,n∈d.names->∃r,X.rt n=kd r:=λn l=>by cases hrt:X.rt n<;>have:=O n<;>rw[hrt]at this<;>cases this;all_goals simp_all
 have D:∀n r,n∈d.names->U.rt n=kd r->∃r2,X.rt n=kd r2/\Vw r r2:=λn r l Y=>by cases hrt:X.rt n<;>have:=O n<;>rw[hrt]at this<;>cases this;all_goals simp_all
 have F:∀i e n,xD.own i n e∈d->i<N:=λi e n hm=>by have:=lA.1 hf _ hm;simp_all[xD.fits]
 refine⟨M',λn r l=>?_,λn l=>h2 n l,λn=>?_,λn m z c q h0=>h.sQ n m z c (a n c q) (a m c h0),λn p hp=>h.live n p (Q n p hp),λi Z=>?_,?_,h.size,h.frame,λc ⟨n,l⟩=>h.mine c ⟨n,a n c l⟩,λi b hb z=>?_,h.still⟩;have:=O n;rw[l]at this;rw[v,ho n r l];cases this with|same _ r5 x j g5=>(rw[Y n r5 j];rcases g5 with rfl|⟨e1,e2,e3,e4⟩;exact(h.roots n _ j).mono y;have⟨O',R,I,S,k3⟩:=(h.roots n r5 j).rd;have hO:=PN e3 I;subst hO;refine⟨[],R,Yl e4 I,λc q=>y c (S c q),?_⟩;rcases k3 with⟨-,b,T,k5⟩|⟨T,-⟩;exact .inl ⟨e2,b,T,by rw[k5,(a1H e4).2]⟩;simp_all)|made i e x g1' j G H=>(rw[K n G,Fs d L j,h.norm n G];have Z:=F i e n j;have o:=Gn h Z;refine⟨[],[],?_,by simp,.inr ⟨rfl,⟨_,rfl⟩,⟨e,rfl⟩,rfl⟩⟩;show CW _ ka e.cells (AM _ e) (kd (tm i))=kd (([]:List e.sI),[],[]);rcases H with H|H;rw[H]at o;have o:tm i=.slice ke 0 0:=o;rw[o];rfl);rw[H]at o;have⟨A,o⟩:=o;rw[o];cases A with|none=>rfl|some A=>rfl
 cases e:X.rt n with|none=>simp_all|some r=>rw[ho n r e];exact h.nodup n
 have E:=hs i;revert E;generalize X.sl i=sv;intro E;have o:=Gn h Z;cases E with|dead=>trivial|clo f ns x j=>(have hb:=h.slots i Z;rw[x]at hb;have⟨us,I,S⟩:=hb;refine⟨us,I,λk V hk=>?_⟩;have⟨u,k3,T⟩:=S k V hk;obtain⟨m,hm,rfl⟩:=nH ns k V hk;refine⟨u,k3,?_⟩;rw[v];refine T.xV y λn p r q C=>?_);simp_all|same V x j G=>(rw[x]at o;show AA _ _ _ _ V _;rw[v];exact o.xV y λn p r q C=>⟨Y n r C,D n r (G n p q) C⟩)|made n e x j G H=>have⟨r,P⟩:=h1 n G;have:=O n;rw[P]at this;cases this with|same _ _ I S=>simp_all|made i' e' I k1' S k3 T=>refine⟨_,e',.one (tm i),P,?_,rfl⟩;rw[K n j,Fs d L x];rfl
 show RX _ _ _ X.pd ke;rw[hX];trivial
 have⟨r,l⟩:=Option.ne_none_iff_exists'.1 z;have:=O (pinned+i);rw[l]at this;cases this with|same _ _ x j=>rw[Y _ _ j];exact h.pins i b hb (by simp_all)|made i' e x g1'=>omega
theorem sH.xC(h:sH B U N tm w M){k:Ar}(c:k.fits N=ka){K:k.ty.sI->Rs Z}{z:Z}(a:k.xC U K=kd z):∃x M',K x=kd z/\sH B (k.enc x) N tm w M':=by(unfold Ar.xC at a;split at a;rename_i b;have⟨f,a⟩:=(Ah a).elim id λh=>by grind);have f:=fX _ f;obtain⟨x,o,m,p,d,e,-,i,j,l⟩:=sH.vals k h b c (λ_ g=>g) f a;have⟨M',q⟩:=d.cut e c f i j l;grind;simp_all
end
structure uS (P:Program) (cx:Cx):Prop extends CxTy P cx where
 C:∀f s,cx.C f=kd s->a5p P cx.G f s
section
variable {P:Program} {B:Base} {N:Nat} {Z:Type} {U:AE} {a:Act} {w:World} {M:Gh} {cx:Cx} {ro:Option Nat}
theorem AW.wp{K:AE->Rs Z}{z:Z}(k:∀c,o.op≠.defer c)(h:AW P B N o a w K z)(b:∀v w' f M',sH B f N (AJ (a.put o.dst v)) w' M'->K f=kd z->next (a.put o.dst v) w'):o.wpIn (Fr ro) 0 P a w next Q:=by
 have⟨v,w',f,M',g,d,e⟩:=h;refine a3s k ?_
 rcases g with h|⟨h,rfl⟩;all_goals grind[Oper.uponIn_value,Oper.uponIn_skip]
theorem Kp(b:uS P cx)(j:Ym cx.G B){o:Oper}{q:Bool}{K:AE->Rs Z}{z:Z}{next:Act->World->Prop}{Q:Exit->Act->World->Prop}
  (h:sH B U N (AJ a) w M)(l:a.tmps.size=N)(m:fits N o=ka)(r:Bg cx q o U K=kd z)
  (k:∀v w' u M',sH B u N (AJ (a.put o.dst v)) w' M'->K u=kd z->next (a.put o.dst v) w'):o.wpIn (Fr ro) 0 P a w next Q:=by
 by_cases d:∃c v,o.op=.call c/\c.callee=.value v
 ·have⟨c,v,i,d⟩:=d;have g:(match v with|.func f=>(match cx.C f with|some s=>U.call q o.dst s (c.args.toList.map U.sJ) K|none=>ke)|.tmp t=>(if q then ke else match U.sl t with|.cmp (.clo f) x=>(match cx.C f with|some s=>U.call q o.dst s (c.args.toList.map U.sJ++x) K|none=>ke)|_=>ke)|_=>ke)=kd z:=by
   cases hd:o.dst<;>simp only[Bg,i,hd,d]at r<;>rw[<-r]<;>cases v<;>rfl
  cases v with
  |func f=>
   simp at g;split at g;rename_i s p;exact a8v i d j (b.C f s p) h l m g k;simp_all
  |tmp t=>
   simp only[]at g;split at g;grind;split at g;rename_i f x p;split at g;rename_i s y;exact b1F i d p j (b.C f s y) h l m g k;simp_all;simp_all
  |_=>simp_all
 refine(b1E b.toCxTy j (λc v i e=>d ⟨c,v,i,e⟩) h l m r).wp (λA e=>?_) k;simp_all[Bg]
theorem nI{U:AE}(h:a4X U x=kd n):∃t,x=.tmp t/\U.sl t=.one (.ptr n [])/\pinned<=n:=by unfold a4X at h;grind
theorem Ys{U:AE}(h:XB o U=kd n):∃t,(o.op=.move (.tmp t)\/o.op=.nilCheck (.tmp t))/\U.sl t=.one (.ptr n [])/\pinned<=n:=by unfold XB at h;split at h;rename_i x k;obtain⟨t,rfl,g,f⟩:=nI h;simp_all;rename_i x k;obtain⟨t,rfl,g,f⟩:=nI h;simp_all;simp_all
theorem a1R{Z:Type}{cx:Cx}{o:Oper}{U:AE}{n d:Nat}(h:XB o U=kd n)(f:o.dst=kd d){q:Bool}(K:AE->Rs Z):Bg cx q o U K=K (U.put d (.one (.ptr n []))):=by obtain⟨t,g|g,k,-⟩:=Ys h;simp_all[Bg];simp[Bg,g,f,AE.sJ,AE.get,k];rfl
theorem lJ{m:Es}:∀(p:BB)(t:Ty)(s:Src){f τ s'},loc m t s p=kd (f,s')->a4Y t p=kd τ->f=τ|[],t,s,f,τ,s',h,g=>by simp_all[CR,a4Y]|.fst::p,t,s,f,τ,s',h,g=>(by obtain⟨a,b,k,o,rfl,rfl,h⟩:=Mc h;exact lJ p a _ h g)|.snd::p,t,s,f,τ,s',h,g=>(by obtain⟨a,b,k,o,rfl,rfl,h⟩:=Me h;exact lJ p b _ h g)|.idx i::p,t,s,f,τ,s',h,g=>by cases t<;>cases g
theorem Zu:∀(p:BB)(t:Ty)(x:t.sI){τ},a4Y t p=kd τ->(CQ t x p).1=τ|[],t,x,τ,h=>by simp[a4Y]at h;subst h;rfl|.fst::p,.pair a b,x,τ,h=>Zu p a x.1 h|.snd::p,.pair a b,x,τ,h=>Zu p b x.2 h|.idx i::p,t,x,τ,h=>(by cases t<;>cases h)|.fst::p,.unit,_,_,h|.fst::p,.int _,_,_,h|.fst::p,.bool,_,_,h|.fst::p,.str,_,_,h|.fst::p,.list _ _,_,_,h|.fst::p,.arr _ _,_,_,h|.fst::p,.nl _,_,_,h=>(by cases h)|.snd::p,.unit,_,_,h|.snd::p,.int _,_,_,h|.snd::p,.bool,_,_,h|.snd::p,.str,_,_,h|.snd::p,.list _ _,_,_,h|.snd::p,.arr _ _,_,_,h|.snd::p,.nl _,_,_,h=>by cases h
theorem sH.cell_of{tm}(h:sH B U N tm w M){n r p b o e}(i:U.rt n=kd r)(m:loc (Ag w M.ov) r.t (M.g n) p=kd (.list ka e,.at b o))(hp:p.all Step.sV=ka)(E:U.uQ=ka):
  w.cell? ⟨b,o,ke⟩=Ag w M.ov b o:=by
 cases hov:M.ov with
 |none=>rfl
 |some I=>
  have⟨A,H,u⟩:=I;have k:=h.pend;rw[hov]at k;cases hpd':U.pd with
  |none=>rw[hpd']at k;exact k.elim
  |some x=>
   have⟨z,a,P⟩:=x;rw[hpd']at k;have⟨Y,Q,l,d⟩:=k;rw[<-hov]at d;have D:a.all Step.sV=kc:=by simp_all[AE.uQ]
   have q:∀f,p≠a++f:=λf e=>by simp_all
   have C:¬ (b=A/\o=H):=by
    rintro⟨rfl,rfl⟩;by_cases hn:n=z
    ·subst hn;rw[i]at l;cases l;have⟨K,R,v,S,G,T,V,X⟩:=h.sep i;obtain⟨y,L,O,_,_,_,_,F,-,-,-⟩:=Cd a r.t _ v d
     have:=(Tj (m':=λc j=>if c=b/\j=o then ke else Ag w M.ov c j) a p r.t (M.g n) v d F G (λc j=>by
      by_cases hc:c=b/\j=o;all_goals simp_all[Ty.cells]) (λf e=>absurd e (q f)) m).2 _ _ rfl q
     simp_all[Ag,Src.rd]
    exact h.sQ n z hn b (h.place i m) (h.place l d)
   simp_all[Ag]
theorem Ft{n p τ}(h:U.vE x=kd (n,p,τ)):∃t r,x=.tmp t/\U.sl t=.one (.ptr n p)/\U.rt n=kd r/\a4Y r.t p=kd τ:=by unfold AE.vE at h;split at h;rename_i t;split at h;rename_i b c a;split at h;rename_i r k;have⟨τ',g,f⟩:=C9.1 h;simp_all;simp_all;simp_all;simp_all
theorem b7e(c:uS P cx)(hG:Ym cx.G B){v:AV}{K:AE->Rs Z}{z:Z}(k:U.stay cx o=kd v)(hd:o.dst=kd d)(hv:v.still=ka)(V:U.uQ=ka)(h:sH B U N (AJ a) w M)(I:a.tmps.size=N)(L:fits N o=ka)(hz:K (U.put d (.one v))=kd z)(g:∀v w' U' M',sH B U' N (AJ (a.put o.dst v)) w' M'->K U'=kd z->next (a.put o.dst v) w'):o.wpIn (Fr ro) 0 P a w next Q:=by
 unfold AE.stay at k;split at k;rename_i t m;split at k;rename_i u hu;obtain⟨-,k⟩:=(Ah k).elim id λh=>by grind
 cases k;refine Kp (q:=ka) c hG h I L (z:=z) (K:=K) ?_ g;simp_all[Bg];simp_all;rename_i s x f m;split at k;rename_i n p τ S;obtain⟨t,r,rfl,F,j,H⟩:=Ft S;split at k;rename_i hc;cases k;refine Kp (q:=ka) c hG h I L (z:=z) (K:=K) ?_ g;have hg:(Dv p r.t r.x).1=τ:=Zu p r.t r.x H;simp only[Bg,m,hd,AE.sJ,AE.get,F,j];show(if CZ (Dv p r.t r.x).1 f=ka/\cx.T s=kd (Dv p r.t r.x).1.sh then _ else _)=_
 rw[hg,if_pos hc];exact hz;simp_all;simp_all;rename_i s x m;split at k;rename_i n p e S;obtain⟨t,r,rfl,F,j,H⟩:=Ft S;split at k;rename_i τ hT;have⟨O,k⟩:=(Ah k).elim id λh=>by grind
 cases k;have⟨h4,Y⟩:=c.T s _ hT;have A:∀y∈(o.op.operands.toList),Cw N y=ka:=Bl L;rw[m]at A;have ht:t<N:=by simp_all[Cw,Op.operands]
 have C:=h.slots t ht;rw[F]at C;have⟨r',t1,b,i,g1,D,E⟩:=C;rw[j]at g1;cases g1;have X:=lJ p r.t _ D H;subst X;obtain⟨O',R,k1,-,-,-,-,-⟩:=h.sep j;obtain⟨y,O2,R2,_,_,_,_,hy,-,-,-⟩:=Cd p r.t _ k1 D;obtain⟨u,hu,-⟩:=JK _ hy 0 (by simp[Ty.cells]);have hw:w.cell? ⟨b,i,ke⟩=kd u:=by rw[h.cell_of j D hv V];exact hu
 have l:τ.isAgg=kc:=by cases τ<;>first|rfl|cases O
 refine AW.wp (λc' h0=>by simp_all) (AW.set hd I (v:=u) (av:=.sref n p) ?_ h ⟨r,e,.at b i,j,D,hu⟩ hz) g;have E:a.eval (.tmp t)=.pointer (kd ⟨b,i,ke⟩):=E;simp[execOp,m,E,Instr.loadAt,Instr.sureAddr,loadVar,Jd Y,l,hw];simp_all;simp_all;simp_all
theorem a3t{y:(t:Ty)×t.sI}(h:b0d y=ka):∃e l,y=⟨.list ka e,l⟩:=by have⟨t,x⟩:=y;cases t with|list o e=>(cases o with|true=>simp|false=>cases h)|_=>cases h
theorem b1G{Z:Type}{cx:Cx}{o:Oper}{U:AE}(h:U.wI cx o=ka)(m:o.dst=ke)(K:AE->Rs Z):Bg cx kc o U K=K { U with pd:=ke }:=by unfold AE.wI at h;split at h;rename_i t a x u;split at h;(rename_i n p d w y v z g f k;simp at h;obtain⟨⟨rfl,rfl,b,j⟩,h5,h6⟩:=h;have c:=Iv _ _ b;have i:=Iv _ _ j;subst c;subst i;cases hr:U.rt v with|none=>simp_all|some r=>rw[hr]at h5;have⟨e,l,q⟩:=a3t h5;cases hT:cx.T t with|none=>simp_all|some τ=>rw[hT]at h6;simp only at h6;simp[Bg,u,m,AE.tH,k,AE.sJ,AE.get,f,hT,AE.vI,hr,q,h6,b,g];rfl);simp_all;simp_all
theorem a1S{v:AV}(h:r.xW p=kd v):∃k n,v=.val (.int k) n/\CQ r.t r.x p=⟨.int k,n⟩:=by unfold sK.xW at h;grind
theorem sH.yJ{tm}(h:sH B U N tm w M){n r p b o k v}(m:U.rt n=kd r)(l:loc (Ag w M.ov) r.t (M.g n) p=kd (.int k,.at b o))(j:CQ r.t r.x p=⟨.int k,v⟩):w.cell? ⟨b,o,ke⟩=kd (.int k v):=by(obtain⟨G,R,z,-,-,-,-,-⟩:=h.sep m;obtain⟨y,H,K,_,_,_,_,q,a,-,-⟩:=Cd p r.t _ z l;rw[j]at a;cases a;have d:Ag w M.ov b o=kd (.int k v):=by simp[AM,Src.rd]at q;grind);cases hov:M.ov with|none=>rw[hov]at d;exact d|some C=>have⟨i,A,u⟩:=C;by_cases hc:b=i/\o=A;(obtain⟨rfl,rfl⟩:=hc;have f:=h.pend;rw[hov]at f;cases hpd:U.pd with|none=>rw[hpd]at f;exact f.elim|some x=>have⟨Q,D,O⟩:=x;rw[hpd]at f;have⟨F,P,E,e⟩:=f;rw[<-hov]at e;obtain⟨I,L,j1,-,-,-,-,-⟩:=h.sep E;obtain⟨S,_,_,_,_,_,_,c,-,-,-⟩:=Cd D F.t _ j1 e;simp[AM,Src.rd,d]at c;cases c);simp_all[Ag]
theorem b7f(i:uS P cx)(hG:Ym cx.G B){v:AV}{K:AE->Rs Z}{z:Z}(c:U.wD cx o=kd v)(Y:o.dst=kd d)(h:sH B U N (AJ a) w M)(X:a.tmps.size=N)(hf:fits N o=ka)(hz:K (U.put d (.one v))=kd z)(g:∀v w' R M',sH B R N (AJ (a.put o.dst v)) w' M'->K R=kd z->next (a.put o.dst v) w'):o.wpIn (Fr ro) 0 P a w next Q:=by
 unfold AE.wD at c;split at c;rename_i s x f u;split at c;rename_i n p τ F;obtain⟨t,r,rfl,C,e,D⟩:=Ft F;split at c;rename_i hc;cases c;refine Kp (q:=ka) i hG h X hf (z:=z) (K:=K) ?_ g;have E:(Dv p r.t r.x).1=τ:=Zu p r.t r.x D;simp only[Bg,u,Y,AE.sJ,AE.get,C,e];show(if CZ (Dv p r.t r.x).1 f=ka/\cx.T s=kd (Dv p r.t r.x).1.sh then _ else _)=_
 rw[E,if_pos hc];exact hz;simp_all;simp_all;rename_i s x u;split at c;rename_i n p k F;obtain⟨t,r,rfl,C,e,D⟩:=Ft F;split at c;rename_i hT;rw[e]at c;obtain⟨L,m,rfl,E⟩:=a1S c;have hk:L=k:=by
  grind[Zu]
 subst hk;have⟨h4,I⟩:=i.T s _ hT;have j:∀y∈(o.op.operands.toList),Cw N y=ka:=Bl hf;rw[u]at j;have ht:t<N:=by simp_all[Cw,Op.operands]
 have l:=h.slots t ht;rw[C]at l;have⟨r',t1,b,O,S,V,A⟩:=l;rw[e]at S;cases S;have H:=lJ p r.t _ V D;subst H;have hw:=h.yJ e V E;refine AW.wp (λc' h0=>by simp_all) (AW.set Y X (v:=.int L m) (av:=.val (.int L) m) ?_ h (AA.tF m) hz) g;have A:a.eval (.tmp t)=.pointer (kd ⟨b,O,ke⟩):=A;simp[execOp,u,A,Instr.loadAt,Instr.sureAddr,loadVar,Jd I,Ty.isAgg,hw];simp_all;simp_all;simp_all
theorem a3u(k:uS P cx)(j:Ym cx.G B){o:Oper}{L:Md}{K:AE->Rs Z}{z:Z}{next:Act->World->Prop}{Q:Exit->Act->World->Prop}
  (h:sH B U N (AJ a) w M)(l:a.tmps.size=N)(m:fits N o=ka)(g:FR cx L o U K=kd z)
  (f:∀v w' i M',sH B i N (AJ (a.put o.dst v)) w' M'->K i=kd z->next (a.put o.dst v) w'):o.wpIn (Fr ro) 0 P a w next Q:=by
 cases L with
 |x=>exact Kp k j h l m g f
 |w H=>
  simp[FR]at g;split at g;obtain⟨-,g⟩:=(Ah g).elim id λh=>by grind
  grind[Kp];simp_all
 |r R=>
  simp only[FR]at g;obtain⟨-,g⟩:=(Ah g).elim id λh=>by grind
  split at g;refine Kp k j h l m g λv w' i M' y C=>f v w' i M' y ?_
  grind;simp_all
 |p=>
  simp[FR]at g;split at g;rename_i n d I A;refine Kp (q:=ka) k j h l m (z:=z) (K:=K) ?_ f;simp_all[a1R];simp_all
 |a H=>
  simp[FR]at g;split at g;obtain⟨-,g⟩:=(Ah g).elim id λh=>by grind
  grind[Kp];simp_all
 |b H=>
  simp only[FR]at g;split at g;obtain⟨-,g⟩:=(Ah g).elim id λh=>by grind
  refine Kp k j h l m g λv w' i M' y C=>f v w' i M' y ?_
  grind;simp_all
 |c H=>
  simp[FR]at g;split at g;obtain⟨-,g⟩:=(Ah g).elim id λh=>by grind
  refine Kp k j h l m g λv w' i M' y C=>f v w' i M' y ?_
  grind;simp_all
 |e=>
  simp[FR]at g;have⟨D,g⟩:=(Ah g).elim id λh=>by grind
  have⟨I,A⟩:=F2.1 D;refine Kp (q:=kc) k j h l m (z:=z) (K:=K) ?_ f;simp_all[b1G]
 |t=>
  simp[FR]at g;split at g;rename_i v d F A;exact b7f k j F A h l m g f;simp_all
 |u=>
  simp only[FR]at g;obtain⟨-,g⟩:=(Ah g).elim id λh=>by grind
  split at g;refine Kp k j h l m g λv w' i M' y C=>f v w' i M' y ?_
  grind;simp_all
 |s=>
  simp[FR]at g;split at g;rename_i v d F A;have⟨D,g⟩:=(Ah g).elim id λh=>by grind
  have⟨O,E⟩:=F2.1 D;exact b7e k j F A O E h l m g f;simp_all
 |q=>
  simp only[FR]at g;obtain⟨-,g⟩:=(Ah g).elim id λh=>by grind
  grind[Kp]
 |v=>
  simp only[FR]at g;split at g;rename_i n I;split at g;rename_i d A;refine Kp (q:=ka) k j h l m (z:=z) (K:=K) ?_ f;simp_all[a1R];simp_all;obtain⟨-,g⟩:=(Ah g).elim id λh=>by grind
  split at g;refine Kp k j h l m g λv w' i M' y C=>f v w' i M' y ?_
  grind;simp_all
def PR(N:Nat)(ops:List Oper)(o:Oper):Bool:=fits N o&&(match o.guard with|some (j,_)=>(match Uw ops j with|some g=>A6 (g<N)|none=>ka)|none=>ka)
theorem Vx{ops:List Oper}(h:PR N ops o=ka):fits N o=ka:=by simp_all[PR]
theorem sH.skip(h:sH B U N (AJ a) w M)(g:a.tmps.size=N)(d:Option Nat):sH B (U.tY d .skp) N (AJ (a.put d undef)) w M:=by cases d with|none=>exact h|some d=>exact h.uL g λ_=>rfl
theorem sH.same(h:sH B U N (AJ a) w M){g:Nat}(k:U.get g=av):sH B (U.set g av) N (AJ a) w M:=by refine h.put (v:=AJ a g) (λf=>?_) (λi _=>by simp_all);have:=Gn h f;rw[k]at this;exact this
theorem a8x{ops:Array Oper}{j g:Nat}(h:Uw ops.toList j=kd g)(f:g<a.tmps.size):yielded ops a.tmps j=match AJ a g with|.bool b=>kd b|_=>ke:=by(have h:(ops[j]?).bind (·.dst)=kd g:=by simpa[Uw]using h);simp[yielded,h,AJ,Array.getElem?_eq_getElem f];grind
theorem b0n(l:uS P cx)(y:Ym cx.G B){ops:Array Oper}{D:Md}{K:AE->Rs Z}{z:Z}(h:sH B U N (AJ a) w M)(i:a.tmps.size=N)(C:PR N ops.toList o=ka)(e:Bi cx D ops.toList o U K=kd z)(k:∀v w' x M',sH B x N (AJ (a.put o.dst v)) w' M'->K x=kd z->next (a.put o.dst v) w'):
  if Region.wanted o (yielded ops a.tmps)then o.wpIn (Fr ro) 0 P a w next Q else((∀f,o.about P w a.eval=kd f->(Fr ro).fn f)/\next (a.put o.dst undef) w):=by
 have m:=Vx C;unfold Bi at e;split at e;rename_i A;rw[if_pos (by simp[Region.wanted,A])];grind[a3u];rename_i j p A;split at e;grind;rename_i g r;have u:g<N:=by
  simp_all[PR]
 have q:=a8x (a:=a) r (by omega);have d:=Gn h u;split at e;rename_i b c;rw[c]at d;have hb:=AA.bool d;rw[hb]at q;simp at q;cases b<;>cases p<;>simp only[cT,cF]at e;rw[if_pos (by simp_all[Region.wanted])];exact a3u l y (h.same c) i m e k;rw[if_neg (by simp_all[Region.wanted])];exact⟨λ_ _=>trivial,k _ w _ _ ((h.same c).skip i o.dst) e⟩;rw[if_neg (by simp_all[Region.wanted])];exact⟨λ_ _=>trivial,k _ w _ _ ((h.same c).skip i o.dst) e⟩;rw[if_pos (by simp_all[Region.wanted])];exact a3u l y (h.same c) i m e k;rename_i c;rw[c]at d;have d:AJ a g=undef:=d;rw[d]at q;simp[undef]at q;rw[if_neg (by simp_all[Region.wanted])];exact⟨λ_ _=>trivial,k _ w _ _ (h.skip i o.dst) e⟩;simp_all
theorem b0o(g:uS P cx)(i:Ym cx.G B){ops:Array Oper}{Q:Exit->Act->World->Prop}{D:List Deferred}{z:Z}:∀(l:List (Md×Oper)) {U:AE} {a:Act} {w:World} {M:Gh} {K:AE->Rs Z} (_:sH B U N (AJ a) w M) (_:a.tmps.size=N) (_:a.defers=D)
  (_:∀p∈l,PR N ops.toList p.2=ka) (_:RV cx ops.toList l U K=kd z) (_:∀f w' b M',sH B b N (AJ f) w' M'->f.tmps.size=N->f.defers=D->K b=kd z->Q .normal f w'),
  wpListIn (Fr ro) 0 P ops Q (l.map (·.2)) a w
 | [],U,a,w,M,K,h,c,e,_,k,d=>d a w U M h c e k
 |(md,o)::l,U,a,w,M,K,h,c,e,j,k,d=>by
  simp[RV]at k
  have:=b0n (ro:=ro) (next:=wpListIn (Fr ro) 0 P ops Q (l.map (·.2))) (Q:=Q) g i h c (j (md,o) (by simp)) k λv w' b M' q m=>
   b0o g i l q (by rw[Vh];omega) (by simp_all[Tq]) (λp r=>j p (by grind)) m d
  simp only[B7,wpListIn];omega
end
theorem Nq{B:Base}{N:Nat}{tm:Nat->Value}{w:World}{Z:Type}:∀(os:Vc){U:AE}{M:Gh}(_:sH B U N tm w M){e:Ex}{K:os.sI->Rs Z}{z:Z}(_:os.all (λp=>p.2.fits N)=ka) (_:os.pack e U K=kd z),∃y X M',K y=kd z/\sH B X N tm w M'/\∀{d:Type}(f:Ex->AE->Rs d),os.open y f=f e X|[],U,M,h,e,K,z,c,g=>by simp_all[Vc.pack]|[(i,s)],U,M,h,e,K,z,c,g=>(by simp only[Vc.pack]at g;split at g;rename_i b;subst b;have⟨x,M',k,a⟩:=h.xC (by simp_all) g;exact⟨x,_,M',k,a,λf=>rfl⟩;simp_all)|(i,s)::x::r,U,M,h,e,K,z,c,g=>by simp[Vc.pack]at g;split at g;rename_i b;subst b;have⟨y,M',k,a⟩:=h.xC (by simp_all) g;exact⟨.inl y,_,M',k,a,λf=>rfl⟩;have⟨y,X,M',k,a,j⟩:=Nq (x::r) h (by grind) g;exact⟨.inr y,X,M',k,a,λf=>j f⟩
theorem a8y{M β:Type}{f:M->Option (M ⊕ β)}{s:M}{b:β}(h:mJ f s=kd b):∃n,IH f n s=kd b:=by unfold mJ at h;split at h;all_goals grind
theorem b1H{M β:Type}{f:M->Option (M ⊕ β)}{s:M}{b:β}(h:Al f s=kd b):∃n,IH f n s=kd b:=by grind[Al,a8y]
structure Dl where
 rs:List (Nat×sK)
 sv:SV
def Dl.app(δ:Dl)(d:Nat)(U:AE):AE:=⟨λi=>bif i==d then δ.sv else U.sl i,λn=>match find δ.rs n with|some r=>kd r|none=>U.rt n,U.pd⟩
def AC(o:Oper):List Nat:=o.op.operands.toList.filterMap λx=>match x with|.tmp t=>kd t|_=>ke
def Et(T:List Nat)(U U2:AE):Prop:=U2.pd=U.pd/\∀t∈T,U2.sl t=U.sl t/\∀n∈(U.sl t).refs,U2.rt n=U.rt n
theorem Et.refl{T U}:Et T U U:=⟨rfl,λ_ _=>⟨rfl,λ_ _=>rfl⟩⟩
theorem Dc{o:Oper}{t:Nat}(h:Operand.tmp t∈o.op.operands.toList):t∈AC o:=List.mem_filterMap.2 ⟨_,h,rfl⟩
theorem Et.sJ{o:Oper}{U U2:AE}(h:Et (AC o) U U2){x:Operand}(g:x∈o.op.operands.toList):U2.sJ x=U.sJ x:=by cases x with|tmp t=>simp[AE.sJ,AE.get];rw[(h.2 t (Dc g)).1]|_=>rfl
theorem Et.rt(a:Et (AC o) U U2)(b:x∈o.op.operands.toList)(k:n∈(U.sJ x).refs):U2.rt n=U.rt n:=by cases x with|tmp t=>(refine(a.2 t (Dc b)).2 n ?_;simp[AE.sJ,AE.get]at k;revert k;cases U.sl t with|one v=>exact id|cmp c d=>exact λh=>by cases h)|const v=>(simp[AE.sJ]at k;unfold WL at k;split at k<;>cases k)|global g=>(cases k)|func f=>cases k
theorem Et.look{o:Oper}{U U2:AE}(h:Et (AC o) U U2){x:Operand}(f:x∈o.op.operands.toList){n:Nat}(g:n∈(U.sJ x).refs):U2.look n=U.look n:=by simp only[AE.look,h.1,h.rt f g]
def a5u{Z:Type}(r:Option Dl)(d:Nat)(U2:AE)(K:AE->Rs Z):Rs Z:=match r with|none=>none|some δ=>bif δ.rs.all λp=>A6 (p.1<pinned)&&(U2.rt p.1).isNone then K (δ.app d U2)else ke
def Ds(cx:Cx)(o:Oper)(d:Nat)(U:AE):Prop:=∃r:Option Dl,(∀δ,r=kd δ->(δ.sv.tO=ka->δ.rs=[])/\∀n,find δ.rs n≠ke->n∈IG cx o d)/\∀U2,Et (AC o) U U2->∀{Z:Type}(K:AE->Rs Z),Bg cx ka o U2 K=a5u r d U2 K
theorem Ds.none{cx o d U}(h:∀U2,Et (AC o) U U2->∀{Z:Type}(K:AE->Rs Z),Bg cx ka o U2 K=ke):Ds cx o d U:=⟨.none,by simp,λU2 g Z K=>h U2 g K⟩
theorem Ds.put{cx o d U}(sv:SV)(h:∀U2,Et (AC o) U U2->∀{Z:Type}(K:AE->Rs Z),Bg cx ka o U2 K=K (U2.put d sv)):Ds cx o d U:=⟨kd ⟨[],sv⟩,λδ e=>by cases e;exact⟨λ_=>rfl,λn f=>absurd rfl f⟩,λU2 g Z K=>by rw[h U2 g K];rfl⟩
theorem Ds.of{cx o d U}(r:Option AV)(h:∀U2,Et (AC o) U U2->∀{Z:Type}(K:AE->Rs Z),Bg cx ka o U2 K=r.elim .none λv=>K (U2.set d v)):Ds cx o d U:=by cases r with|none=>exact Ds.none h|some v=>exact Ds.put (.one v) h
theorem b7g{Z:Type}{U2:AE}{d:Nat}{r:sK}{v:AV}{K:AE->Rs Z}:(U2.fresh ka d r λU=>K (U.set d v))=a5u (kd ⟨[(d,r)],.one v⟩) d U2 K:=by unfold AE.fresh a5u;cases hd:A6 (d<pinned);grind;simp[hd];cases hr:U2.rt d with|some h=>simp|none=>simp;congr 1;simp only[AE.uK,hr,AE.sD,AE.set,AE.put,Dl.app];congr 1;funext n;simp[find];grind
theorem Ds.vB{cx o d U}(r:sK)(v:AV)(hv:v.tO=kc)(h:∀U2,Et (AC o) U U2->∀{Z:Type}(K:AE->Rs Z),Bg cx ka o U2 K=U2.fresh ka d r λU=>K (U.set d v)):Ds cx o d U:=⟨kd ⟨[(d,r)],.one v⟩,(λδ e=>by cases e;refine⟨λk=>?_,λn g=>?_⟩;simp_all[SV.tO];simp only[find]at g;by_cases e:d=n;subst e;exact List.mem_cons_self;grind),λU2 f Z K=>by simp_all[b7g]⟩
def SB(t:Ty)(a:AV):Option t.sI:=match a with|.val t' x=>sZ t' t x|.nils=>(match t with|.list kc _=>kd []|.nl _=>kd []|_=>ke)|.empt=>(match t with|.list kc _=>kd []|_=>ke)|_=>ke
theorem a1T(U:AE)(t:Ty)(a:AV)(K:t.sI->AE->Rs Z):U.uR ka t a K=(SB t a).elim ke λx=>K x U:=by cases a with|val h x=>grind[AE.uR,SB]|nils=>(cases t with|list o e=>(cases o<;>rfl)|_=>rfl)|empt=>(cases t with|list o e=>(cases o<;>rfl)|_=>rfl)|sref n p=>(cases p<;>simp[AE.uR,SB])|swin n p o k=>(cases p<;>simp[AE.uR,SB])|_=>rfl
def RZ(f:Operand->AV)(t:Ty):List (Nat×Operand)->t.sI->Option t.sI|[],x=>kd x|(i,o)::r,x=>bif AE.vM t i then(match CQ t x (AE.pathOf t i)with|⟨t',_⟩=>(SB t' (f o)).elim ke λy=>RZ f t r (FK t x (AE.pathOf t i) t' y))else ke
theorem a3v{Z:Type}(U:AE)(t:Ty):∀(h:List (Nat×Operand)) (x:t.sI) (K:t.sI->AE->Rs Z),U.fills ka t h x K=(RZ U.sJ t h x).elim ke λy=>K y U|[],x,K=>rfl|(i,o)::r,x,K=>by simp[AE.fills,RZ];cases AE.vM t i;rfl;simp;rw[a1T];cases SB _ (U.sJ o)with|none=>rfl|some y=>exact a3v U t r _ K
theorem Tv(f g:Operand->AV)(t:Ty):∀(k:List (Nat×Operand)) (x:t.sI),(∀p∈k,f p.2=g p.2)->RZ f t k x=RZ g t k x|[],x,_=>rfl|(i,o)::r,x,h=>by simp[RZ];rw[h (i,o) (by simp)];cases AE.vM t i;rfl;simp;cases SB _ (g o)with|none=>rfl|some y=>exact Tv f g t r _ λp a=>h p (by simp[a])
def a8z(f:Operand->AV)(e:Ty)(n:Nat):List (Nat×Operand)->List e.sI->Option (List e.sI)|[],x=>kd x|(i,o)::r,x=>bif A6 (i<n)then(SB e (f o)).elim ke λy=>a8z f e n r (x.set i y)else ke
theorem b0p{Z:Type}(U:AE)(e:Ty)(n:Nat):∀(h:List (Nat×Operand)) (x:List e.sI) (K:List e.sI->AE->Rs Z),U.lit ka e n h x K=(a8z U.sJ e n h x).elim ke λy=>K y U|[],x,K=>rfl|(i,o)::r,x,K=>by simp[AE.lit,a8z];cases A6 (i<n);rfl;simp;rw[a1T];cases SB _ (U.sJ o)with|none=>rfl|some y=>exact b0p U e n r _ K
theorem Tw(f g:Operand->AV)(e:Ty)(n:Nat):∀(k:List (Nat×Operand)) (x:List e.sI),(∀p∈k,f p.2=g p.2)->a8z f e n k x=a8z g e n k x|[],x,_=>rfl|(i,o)::r,x,h=>by simp[a8z];rw[h (i,o) (by simp)];cases A6 (i<n);rfl;simp;cases SB _ (g o)with|none=>rfl|some y=>exact Tw f g e n r _ λp a=>h p (by simp[a])
def Mm(lk:Nat->Option sK)(n:Nat)(p:BB):Option ((e:Ty)×List e.sI):=match lk n with|some r=>(match CQ r.t r.x p with|⟨.list ka e,l⟩=>kd ⟨e,l⟩|_=>ke)|none=>ke
theorem OJ(U:AE)(n:Nat)(p:BB)(K:(e:Ty)->List e.sI->Rs Z):U.body n p K=(Mm U.look n p).elim ke λx=>K x.1 x.2:=by unfold AE.body Mm;grind
theorem lK(U:AE)(n:Nat)(p:BB)(K:(e:Ty)->List e.sI->Rs Z):U.wX n p K=(Mm U.rt n p).elim ke λx=>K x.1 x.2:=by unfold AE.wX Mm;cases U.rt n with|none=>rfl|some r=>simp only[];generalize CQ r.t r.x p=X;have⟨h,l⟩:=X;cases h with|list o e=>(cases o<;>rfl)|_=>rfl
def Uz(lk:Nat->Option sK)(t:Ty)(a:AV):Option t.sI:=match a with|.val t' x=>sZ t' t x|.nils=>(match t with|.list kc _=>kd []|.nl _=>kd []|_=>ke)|.empt=>(match t with|.list kc _=>kd []|_=>ke)|.sref n p=>((Mm lk n p).elim ke λx=>if h:Ty.list kc x.1.sh=t then kd (h▸Ty.wE (.list kc x.1) x.2)else ke)|.swin n p o k=>((Mm lk n p).elim ke λx=>if h:Ty.list kc x.1.sh=t then kd (h▸Ty.wE (.list kc x.1) ((x.2.drop o).take k))else ke)|_=>ke
theorem b4b(U:AE)(t:Ty)(a:AV)(K:t.sI->Rs Z):U.view t a K=(Uz U.look t a).elim ke K:=by cases a with|val h x=>grind[AE.view,Uz]|nils=>(cases t with|list o e=>(cases o<;>rfl)|_=>rfl)|empt=>(cases t with|list o e=>(cases o<;>rfl)|_=>rfl)|sref n p=>simp[AE.view,Uz,Mm];grind|swin n p o k=>simp[AE.view,Uz,Mm];grind|_=>rfl
theorem HD{f g:Nat->Option sK}{n:Nat}(h:g n=f n)(p:BB):Mm g n p=Mm f n p:=by simp only[Mm,h]
theorem fY{f g:Nat->Option sK}{t:Ty}{a:AV}(h:∀n∈a.refs,g n=f n):Uz g t a=Uz f t a:=by cases a with|sref n p=>simp_all[Uz,HD,AV.refs]|swin n p o k=>simp_all[Uz,HD,AV.refs]|_=>rfl
def PS(lk:Nat->Option sK)(e:Ty)(a:AV):Option (List e.sI):=match a with|.val (.list kc t') x=>if h:t'=e then kd (h▸(show List t'.sI from x))else none|.nils|.empt=>kd []|.sref n p=>((Mm lk n p).elim ke λx=>if h:x.1=e then kd (h▸x.2)else ke)|.swin n p o k=>((Mm lk n p).elim ke λx=>if h:x.1=e then kd (E2 k (F5 o (h▸x.2)))else ke)|_=>ke
theorem Zv{Z:Type}(U:AE)(e:Ty)(a:AV)(K:List e.sI->Rs Z):U.elems e a K=(PS U.look e a).elim ke K:=by cases a with|val h x=>(cases h with|list o h=>(cases o;all_goals grind[AE.elems,PS])|_=>rfl)|sref n p=>simp[AE.elems,PS,Mm];grind|swin n p o k=>simp[AE.elems,PS,Mm];grind|_=>rfl
theorem Tx{f g:Nat->Option sK}{e:Ty}{a:AV}(h:∀n∈a.refs,g n=f n):PS g e a=PS f e a:=by cases a with|sref n p=>simp_all[PS,HD,AV.refs]|swin n p o k=>simp_all[PS,HD,AV.refs]|val b x=>(cases b with|list o b=>(cases o<;>rfl)|_=>rfl)|_=>rfl
section
variable {cx:Cx} {o:Oper} {d:Nat} {U:AE}
theorem b4c(h:o.op=.move x)(a:o.dst=kd d):Ds cx o d U:=by(have c:x∈o.op.operands.toList:=by simp[h,Op.operands]);cases x with|tmp t=>(exact Ds.put (U.sl t) λb k Z K=>by simp[Bg,h,a];rw[(k.2 t (Dc c)).1])|const v=>(exact Ds.put (.one (U.sJ (.const v))) λb k Z K=>by simp[Bg,h,a];rfl)|global g=>(exact Ds.put (.one (.tX g)) λb k Z K=>by simp[Bg,h,a];rfl)|func f=>exact Ds.put (.one .dead) λb k Z K=>by simp[Bg,h,a];rfl
theorem b9g(U:AE)(v:AV)(K:AE->Rs Z):U.zB ka cx d v K=K (U.set d v):=by unfold AE.zB;split;rename_i r;split;cases hrd:(r==d);simp;simp;rfl;rename_i r k;split;simp;rfl;split;simp;rfl;rfl
theorem a8A(f:o.op=.assign x)(k:o.dst=kd d):Ds cx o d U:=by(have a:x∈o.op.operands.toList:=by simp[f,Op.operands]);cases x with|tmp t=>(have b:∀h,Et (AC o) U h->h.sl t=U.sl t:=λh g=>(g.2 t (Dc a)).1;cases hv:U.sl t with|one v=>(exact Ds.put (.one v) λh g Z K=>by simp[Bg,f,k,AE.yB,b h g,hv];rw[b9g];rfl)|cmp c e=>exact Ds.put (.cmp c e) λh g Z K=>by simp_all[Bg,AE.yB])|_=>exact Ds.put (.one (U.sJ _)) λh g Z K=>by simp only[Bg,f,k,AE.yB];rw[b9g,g.sJ a];rfl
theorem a3w{fn:Fn}{first h:Array Operand}(b:o.op=.makeFunc fn first h)(a:o.dst=kd d):Ds cx o d U:=by cases fn with|func f=>(cases hf:first.isEmpty with|false=>(exact Ds.none λg k Z K=>by simp only[Bg,b,a,hf,cF])|true=>(refine Ds.put (.cmp (.clo f) (h.toList.map U.sJ)) λg k Z K=>?_);simp[Bg,b,a,hf];(have:h.toList.map g.sJ=h.toList.map U.sJ:=List.map_congr_left λx c=>k.sJ (by simp_all[Op.operands]));grind)|_=>simp_all[Ds.none,Bg]
theorem c0D(c x y:AV)(K:AV->Rs Z):a1E c x y K=(a1E c x y kd).elim ke K:=by unfold a1E;grind
theorem b4d{c:Operand}(h:o.op=.pick c x y)(k:o.dst=kd d):Ds cx o d U:=by
 have f:c∈o.op.operands.toList:=by simp[h,Op.operands]
 have a:x∈o.op.operands.toList:=by simp[h,Op.operands]
 have b:y∈o.op.operands.toList:=by simp[h,Op.operands]
 refine Ds.of (a1E (U.sJ c) (U.sJ x) (U.sJ y) kd) λe g Z K=>?_
 simp[Bg,h,k,g.sJ f,g.sJ a,g.sJ b];exact c0D _ _ _ _
theorem b1I(a:o.op=.alloc t)(k:o.dst=kd d):Ds cx o d U:=by cases ht:cx.own d t with|none=>simp_all[Ds.none,Bg]|some h=>exact Ds.vB ⟨ka,h,h.dflt⟩ (.ptr d []) rfl λg f Z K=>by simp_all[Bg]
theorem b7h(g:o.op=.box t x)(f:o.dst=kd d):Ds cx o d U:=by(have k:x∈o.op.operands.toList:=by simp[g,Op.operands]);cases ht:cx.T t with|none=>simp_all[Ds.none,Bg]|some a=>cases ha:SB a (U.sJ x)with|none=>(exact Ds.none λb h Z K=>by simp[Bg,g,f,ht];rw[a1T,h.sJ k,ha];rfl)|some y=>cases hk:cx.K d with|true=>(exact Ds.put (.one (.vptr a y)) λb h Z K=>by simp[Bg,g,f,ht];rw[a1T,h.sJ k,ha];simp[hk,AE.set])|false=>exact Ds.vB ⟨ka,a,y⟩ (.ptr d []) rfl λb h Z K=>by simp[Bg,g,f,ht];rw[a1T,h.sJ k,ha];grind
theorem LL{g:Array (Nat×Operand)}(h:o.op=.build t g\/∃n,o.op=.buildSlice t n g):∀p∈g.toList,p.2∈o.op.operands.toList:=by intro p f;rcases h with h|⟨n,h⟩<;>rw[h]<;>simp only[Op.operands]<;>exact B6.2 ⟨p,f,rfl⟩
theorem Nr{U U2:AE}:∀(τ:Ty)(k:Nat)(g:List (Nat×Operand)),(∀p∈g,U2.sJ p.2=U.sJ p.2)->U2.tL k τ g=U.tL k τ g|.pair u v,k,[],_=>by simp only[AE.tL];rw[Nr v (k+1) [] (by simp)]|.pair u v,k,(i,o)::r,h=>by simp only[AE.tL];rw[Nr v (k+1) r λp f=>h p (by simp[f]),Nr v (k+1) ((i,o)::r) h,h (i,o) (by simp)]|.unit,_,[],_=>rfl|.unit,_,_::_,_=>rfl|.int _,_,_,_=>rfl|.bool,_,_,_=>rfl|.str,_,_,_=>rfl|.list _ _,_,_,_=>rfl|.arr _ _,_,_,_=>rfl|.nl _,_,_,_=>rfl
theorem b1J{c:Array (Nat×Operand)}(g:o.op=.build t c)(b:o.dst=kd d):Ds cx o d U:=by
 cases hn:cx.yL d t with
 |some h=>
  cases hagg:h.isAgg with
  |false=>simp_all[Ds.none,Bg]
  |true=>
   refine Ds.of ((RZ U.sJ h c.toList h.dflt).map λy=>.val h y) λk f Z K=>?_
   simp only[Bg,g,b,hn,hagg,cT];rw[a3v,Tv k.sJ U.sJ h _ _ λp a=>f.sJ (LL (.inl g) p a)];cases RZ U.sJ h c.toList h.dflt<;>rfl
 |none=>
 cases hO:cx.O d with
 |some h=>
  by_cases hT:cx.T t=kd h.sh
  ·cases hv:U.tL 0 h c.toList with
   |none=>exact Ds.none λk f Z K=>by simp only[Bg,g,b,hn,hO,if_pos hT,Nr h 0 _ λp a=>f.sJ (LL (.inl g) p a),hv]
   |some e=>
    cases hc:A6 (0<h.cells)with
    |false=>exact Ds.none λk f Z K=>by simp only[Bg,g,b,hn,hO,if_pos hT,Nr h 0 _ λp a=>f.sJ (LL (.inl g) p a),hv,hc,cF]
    |true=>exact Ds.put (.cmp .agg e) λk f Z K=>by simp only[Bg,g,b,hn,hO,if_pos hT,Nr h 0 _ λp a=>f.sJ (LL (.inl g) p a),hv,hc,cT]
  exact Ds.none λk f Z K=>by simp only[Bg,g,b,hn,hO,if_neg hT]
 |none=>
 cases ht:cx.T t with
 |none=>exact Ds.none λk f Z K=>by simp only[Bg,g,b,hn,hO,ht]
 |some h=>
  cases hagg:h.isAgg with
  |false=>exact Ds.none λk f Z K=>by simp[Bg,g,b,hn,hO,ht,hagg]
  |true=>
   refine Ds.of ((RZ U.sJ h c.toList h.dflt).map λy=>.val h y) λk f Z K=>?_
   simp only[Bg,g,b,hn,hO,ht,hagg,cT];rw[a3v,Tv k.sJ U.sJ h _ _ λp a=>f.sJ (LL (.inl g) p a)];cases RZ U.sJ h c.toList h.dflt<;>rfl
theorem nJ{t:TypeId}{n:Nat}{b:Array (Nat×Operand)}(h:o.op=.buildSlice t n b)(k:o.dst=kd d):Ds cx o d U:=by cases ht:cx.T t with|none=>simp_all[Ds.none,Bg]|some c=>cases c with|list i e=>(cases hc:(BM n&&A6 (n*e.cells<=16777216))with|false=>(exact Ds.none λg f Z K=>by simp only[Bg,h,k,ht,hc,cF,cT,Bool.true_or])|true=>cases hl:a8z U.sJ e n b.toList (C6 n e.dflt)with|none=>(exact Ds.none λg f Z K=>by simp[Bg,h,k,ht,hc];rw[b0p,Tw g.sJ U.sJ e n _ _ (λp a=>f.sJ (LL (.inr ⟨n,h⟩) p a)),hl];rfl)|some y=>cases hK:cx.K d with|true=>(exact Ds.put (.one (.val (.list kc e) y)) λg f Z K=>by simp[Bg,h,k,ht,hc,hK];rw[b0p,Tw g.sJ U.sJ e n _ _ (λp a=>f.sJ (LL (.inr ⟨n,h⟩) p a)),hl];rfl)|false=>exact Ds.vB ⟨kc,.list ka e,y⟩ (.sref d []) rfl λg f Z K=>by simp[Bg,h,k,ht,hc,hK];rw[b0p,Tw g.sJ U.sJ e n _ _ (λp a=>f.sJ (LL (.inr ⟨n,h⟩) p a)),hl];rfl)|_=>exact Ds.none λg f Z K=>by simp only[Bg,h,k,ht]
def a8B(lk:Nat->Option sK)(ty:Ty)(a:AV):Option AV:=match a with|.vptr t x=>if t=ty then kd (.val t x)else none|.ptr n p=>(match lk n with|some r=>(match CQ r.t r.x p with|⟨.list ka _,_⟩=>if ty.isList then kd (.sref n p)else none|⟨t,y⟩=>if t.sh=ty/\t.tK=t then kd (.val t y)else ke)|none=>ke)|_=>ke
theorem c2e(U:AE)(ty:Ty)(a:AV)(K:AV->AE->Rs Z):U.wQ ka ty a K=(a8B U.look ty a).elim ke λv=>K v U:=by cases a with|vptr t x=>grind[AE.wQ,a8B]|ptr n p=>simp[AE.wQ,a8B];grind|_=>rfl
theorem b4e(k:o.op=.load t x)(c:o.dst=kd d):Ds cx o d U:=by(have a:x∈o.op.operands.toList:=by simp[k,Op.operands]);cases ht:cx.T t with|none=>simp_all[Ds.none,Bg]|some h=>(refine Ds.of (a8B U.look h (cx.tX (U.sJ x))) λb f Z K=>?_);simp[Bg,k,c,ht];rw[c2e,f.sJ a];(have:a8B b.look h (cx.tX (U.sJ x))=a8B U.look h (cx.tX (U.sJ x)):=by have e:=λn i=>f.look (n:=n) a i;revert e;cases U.sJ x with|ptr n p=>simp_all[Cx.tX,a8B,AV.refs]|tX g=>intro _;simp[Cx.tX];split<;>rfl|_=>intro _;rfl);grind
theorem a3x(h:o.op=.nilCheck x)(f:o.dst=kd d):Ds cx o d U:=by
 have k:x∈o.op.operands.toList:=by simp[h,Op.operands]
 refine Ds.of (match U.sJ x with|.ptr n p=>kd (.ptr n p)|.vptr t y=>kd (.vptr t y)|_=>ke) λa g Z K=>?_
 simp[Bg,h,f,g.sJ k];grind
theorem b4f{Z:Type}(h:BinOp)(k:IntKind)(x y:Int)(K:AV->Rs Z):UZ h k x y K=(UZ h k x y kd).elim ke K:=by cases h<;>simp only[UZ]<;>first|rfl|(cases (y==0)<;>rfl)|grind
theorem b4g{Z:Type}(g:BinOp)(ty:Nat)(t:Ty)(x:t.sI)(h:Ty)(y:h.sI)(K:AV->Rs Z):dC cx g ty t x h y K=(dC cx g ty t x h y kd).elim ke K:=by grind[dC]
theorem c0E(h:BinOp)(ty:Nat)(a b:AV)(K:AV->Rs Z):Zj cx h ty a b K=(Zj cx h ty a b kd).elim ke K:=by unfold Zj;split;grind[b4f];grind;grind;all_goals grind[b4g]
theorem b1K{c:BinOp}(g:o.op=.binOp c t x y s)(f:o.dst=kd d):Ds cx o d U:=by(have k:x∈o.op.operands.toList:=by simp[g,Op.operands]);(have a:y∈o.op.operands.toList:=by simp[g,Op.operands]);cases hl:b0c (cx.T t)with|true=>(cases hn:a8b (cx.T t) (U.sJ x) (U.sJ y)with|some e=>(exact Ds.none λb h Z K=>by simp only[Bg,g,f,h.sJ k,h.sJ a,hl,hn,cT,if_true])|none=>exact Ds.none λb h Z K=>by simp only[Bg,g,f,h.sJ k,h.sJ a,hl,hn,cT])|false=>(refine Ds.of (Zj cx c t (U.sJ x) (U.sJ y) kd) λb h Z K=>?_);simp[Bg,g,f,h.sJ k,h.sJ a,hl];exact c0E _ _ _ _ _
theorem c7j(h:UnOp)(a:AV)(K:AV->Rs Z):AE.un h a K=(AE.un h a kd).elim ke K:=by unfold AE.un;grind
theorem b4h{g:UnOp}(h:o.op=.unOp g t x)(k:o.dst=kd d):Ds cx o d U:=by
 have a:x∈o.op.operands.toList:=by simp[h,Op.operands]
 refine Ds.of (AE.un g (U.sJ x) kd) λb f Z K=>?_
 simp[Bg,h,k,f.sJ a];exact c7j _ _ _
theorem c0F(U:AE)(s t:Nat)(g f:Option Ty)(a:AV)(K:AV->Rs Z)(h:sK->Rs Z):U.vJ s t g f a K h=(U.vJ s t g f a (λv=>kd (Sum.inl v)) (λr=>kd (Sum.inr r)):Option (AV ⊕ sK)).elim ke λy=>match y with
  |.inl v=>K v
  |.inr r=>h r:=by
 unfold AE.vJ;split;rfl;grind;rfl;grind;rw[Zv,Zv (Z:=AV ⊕ sK)];generalize PS U.look (.int .u8) _=r;cases r<;>rfl;rfl
theorem a8C{U:AE}(s t:Nat)(f k:Option Ty)(h:∀n∈a.refs,U2.look n=U.look n)(K:AV->Rs Z)(g:sK->Rs Z):U2.vJ s t f k a K g=U.vJ s t f k a K g:=by unfold AE.vJ;grind[AV.refs,Zv,Tx]
theorem a5v(k:o.op=.convert s t x)(b:o.dst=kd d):Ds cx o d U:=by
 have a:x∈o.op.operands.toList:=by simp[k,Op.operands]
 have h:∀g,Et (AC o) U g->∀{Z:Type}(K:AE->Rs Z),Bg cx ka o g K=(U.vJ s t (cx.T s) (cx.T t) (U.sJ x) (λv=>kd (Sum.inl v)) (λr=>kd (Sum.inr r)):Option (AV ⊕ sK)).elim ke λy=>match y with
   |.inl v=>K (g.set d v)
   |.inr r=>g.fresh ka d r λU=>K (U.set d (.sref d [])):=λg f Z K=>by
  simp[Bg,k,b,f.sJ a,AE.conv];rw[c0F,a8C s t _ _ λn c=>f.look a c]
 revert h;generalize (U.vJ s t (cx.T s) (cx.T t) (U.sJ x) (λv=>kd (Sum.inl v)) (λr=>kd (Sum.inr r)):Option (AV ⊕ sK))=r;cases r with
 |none=>simp_all[Ds.none]
 |some y=>
  cases y with
  |inl v=>exact λh=>Ds.put (.one v) h
  |inr r=>exact λh=>Ds.vB r (.sref d []) rfl h
theorem b0q{Z:Type}(a:AV)(t:Ty)(K:t.sI->Rs Z):a.vD t K=(a.vD t kd).elim ke K:=by cases a with|val h x=>grind[AV.vD]|_=>rfl
theorem a0A{t:TypeId}{n c:Operand}(k:o.op=.makeSlice t n c)(a:o.dst=kd d):Ds cx o d U:=by(have i:n∈o.op.operands.toList:=by simp[k,Op.operands]);(have b:c∈o.op.operands.toList:=by simp[k,Op.operands]);cases ht:cx.own d t with|none=>simp_all[Ds.none,Bg]|some j=>cases j with|list l e=>((have h:∀g,Et (AC o) U g->∀{Z:Type}(K:AE->Rs Z),Bg cx ka o g K=((U.sJ n).vD (.int .i64) kd).elim ke λ(x:Int)=>((U.sJ c).vD (.int .i64) kd).elim ke λ(y:Int)=>bif A6 (0<=x)&&(A6 (x<=y)&&BM y.toNat)then g.fresh ka d ⟨kc,.list ka e,C6 x.toNat e.dflt⟩ λU=>K (U.set d (.sref d []))else ke:=λg f Z K=>by simp[Bg,k,a,ht,f.sJ i,f.sJ b];refine(b0q _ (.int .i64) _).trans ?_;grind[b0q]);revert h;generalize (U.sJ n).vD (.int .i64) kd=rx;generalize (U.sJ c).vD (.int .i64) kd=ry;intro h;cases rx with|none=>exact Ds.none h|some x=>cases ry with|none=>exact Ds.none h|some y=>cases hb:(A6 (0<=(show Int from x))&&(A6 ((show Int from x)<=(show Int from y))&&BM (show Int from y).toNat))with|false=>grind[Ds.none]|true=>(refine Ds.vB ⟨kc,.list ka e,C6 (show Int from x).toNat e.dflt⟩ (.sref d []) rfl λg f Z K=>(h g f K).trans ?_);grind)|_=>exact Ds.none λg f Z K=>by simp only[Bg,k,a,ht]
theorem b0r(U:AE)(h g:Nat)(x:Option Operand)(K:Nat->Rs Z):U.bnd h g x K=(U.bnd h g x kd).elim ke K:=by cases x with|none=>rfl|some x=>simp[AE.bnd];grind
theorem OL(U:AE)(g:Nat)(lo hi:Option Operand)(K:Nat->Nat->Rs Z):U.uT g lo hi K=(U.uT g lo hi λx y=>kd (x,y)).elim ke λp=>K p.1 p.2:=by unfold AE.uT;rw[b0r,b0r (Z:=Nat×Nat)];cases U.bnd g g hi kd with|none=>rfl|some h=>simp[G4];rw[b0r,b0r (Z:=Nat×Nat)];cases U.bnd h 0 lo kd<;>rfl
theorem a8D{U:AE}{lo:Option Operand}(k:∀x,lo=kd x->U2.sJ x=U.sJ x)(f:∀x,hi=kd x->U2.sJ x=U.sJ x)(h:Nat)(K:Nat->Nat->Rs Z):U2.uT h lo hi K=U.uT h lo hi K:=by(have a:∀(x:Option Operand),(∀y,x=kd y->U2.sJ y=U.sJ y)->∀(l g:Nat){Z:Type}(K:Nat->Rs Z),U2.bnd l g x K=U.bnd l g x K:=by intro x b l g Z K;cases x with|none=>rfl|some y=>simp[AE.bnd];simp_all);unfold AE.uT;simp_all
theorem c0G{Z:Type}(U:AE)(ty:Option Ty)(a:AV)(lo hi h:Option Operand)(K:AV->Rs Z):U.wU ty a lo hi h K=(U.wU ty a lo hi h kd).elim ke K:=by unfold AE.wU;cases h with|some m=>(simp;cases (dD (kd m)&&dD hi&&lo.isNone);rfl;simp[lF];grind)|none=>simp;cases a with|val t l=>(cases t with|str=>(simp;split;rw[OL,OL (Z:=AV)];generalize (U.uT _ lo hi λx y=>kd (x,y):Option (Nat×Nat))=r;cases r<;>rfl;rfl)|list o e=>(cases o;simp;split;rw[OL,OL (Z:=AV)];generalize (U.uT _ lo hi λx y=>kd (x,y):Option (Nat×Nat))=r;cases r<;>rfl;rfl;rfl)|_=>rfl)|nils=>(cases ty with|none=>rfl|some t=>cases t with|list o e=>(simp;rw[OL,OL (Z:=AV)];generalize (U.uT _ lo hi λx y=>kd (x,y):Option (Nat×Nat))=r;cases r<;>rfl)|_=>rfl)|sref n p=>(simp;rw[OJ,OJ (Z:=AV)];cases Mm U.look n p with|none=>rfl|some x=>simp[G4];split;cases lo<;>cases hi<;>simp only[]<;>(try rfl)<;>(rw[OL,OL (Z:=AV)];generalize (U.uT _ _ _ λx y=>kd (x,y):Option (Nat×Nat))=r;cases r<;>rfl);rfl)|swin n p o k=>(simp;rw[OJ,OJ (Z:=AV)];cases Mm U.look n p with|none=>rfl|some x=>simp[G4];split;rw[OL,OL (Z:=AV)];generalize (U.uT _ _ _ λx y=>kd (x,y):Option (Nat×Nat))=r;cases r<;>rfl;rfl)|vptr t l=>(cases t with|arr n e=>(simp;split;rw[OL,OL (Z:=AV)];generalize (U.uT _ lo hi λx y=>kd (x,y):Option (Nat×Nat))=r;cases r<;>rfl;rfl)|_=>rfl)|_=>rfl
theorem a8E{U:AE}{lo:Option Operand}(c:∀n∈a.refs,U2.look n=U.look n)(g:∀x,lo=kd x->U2.sJ x=U.sJ x)(h:∀x,hi=kd x->U2.sJ x=U.sJ x)(ty:Option Ty)(b:Option Operand)(K:AV->Rs Z):U2.wU ty a lo hi b K=U.wU ty a lo hi b K:=by have hb:=λ(f:Nat) {Z:Type} (K:Nat->Nat->Rs Z)=>a8D (U:=U) (U2:=U2) g h f K;unfold AE.wU;cases b with|some m=>rfl|none=>simp;cases a with|val t l=>(cases t with|str=>simp_all|list o e=>grind|_=>rfl)|nils=>simp_all|sref n p=>simp;rw[OJ,OJ,HD (c n (by simp[AV.refs]))];grind|swin n p o k=>simp only[];rw[OJ,OJ,HD (c n (by simp[AV.refs]))];simp only[hb]|vptr t l=>grind|_=>rfl
theorem b1L{lo c:Option Operand}(a:o.op=.slice t x lo hi c)(e:o.dst=kd d):Ds cx o d U:=by
 have b:x∈o.op.operands.toList:=by simp[a,Op.operands]
 have k:∀y,lo=kd y->y∈o.op.operands.toList:=λy h=>by simp_all[Op.operands]
 have f:∀y,hi=kd y->y∈o.op.operands.toList:=λy h=>by simp_all[Op.operands]
 refine Ds.of (U.wU (cx.T t) (U.sJ x) lo hi c kd) λj g Z K=>?_
 simp[Bg,a,e,g.sJ b];rw[a8E (λn i=>g.look b i) (λy h=>g.sJ (k y h)) (λy h=>g.sJ (f y h))];grind[c0G]
theorem a0B{s:TypeId}{x:Operand}{f:Nat}(k:o.op=.fieldAddr s x f)(b:o.dst=kd d):Ds cx o d U:=by(have a:x∈o.op.operands.toList:=by simp[k,Op.operands]);cases ha:U.sJ x with|ptr n p=>(have c:∀g,Et (AC o) U g->g.rt n=U.rt n:=λg h=>h.rt a (by rw[ha];simp[AV.refs]);cases hrt:U.rt n with|none=>(exact Ds.none λg h Z K=>by simp only[Bg,k,b,h.sJ a,ha,c g h,hrt])|some r=>(by_cases hc:CZ (CQ r.t r.x p).1 f=ka/\cx.T s=kd (CQ r.t r.x p).1.sh;exact Ds.put (.one (.ptr n (p++BA f))) λg h Z K=>by simp[Bg,k,b,h.sJ a,ha,c g h,hrt];rw[if_pos hc];rfl);exact Ds.none λg h Z K=>by simp only[Bg,k,b,h.sJ a,ha,c g h,hrt];simp_all)|vptr t y=>((by_cases hc:CZ t f=ka/\cx.T s=kd t;exact Ds.put (.one (.vptr (CQ t y (BA f)).1 (CQ t y (BA f)).2)) λg h Z K=>by simp[Bg,k,b,h.sJ a,ha];rw[if_pos hc];rfl);exact Ds.none λg h Z K=>by simp only[Bg,k,b,h.sJ a,ha];simp_all)|_=>exact Ds.none λg h Z K=>by simp only[Bg,k,b,h.sJ a,ha]
theorem b1M{f:Nat}(g:o.op=.field s x f)(k:o.dst=kd d):Ds cx o d U:=by(have a:x∈o.op.operands.toList:=by simp[g,Op.operands]);cases ha:U.sJ x with|val t y=>((by_cases hc:CZ t f=ka/\cx.T s=kd t;exact Ds.put (.one (.val (CQ t y (BA f)).1 (CQ t y (BA f)).2)) λb h Z K=>by simp[Bg,g,k,h.sJ a,ha];rw[if_pos hc];rfl);exact Ds.none λb h Z K=>by simp only[Bg,g,k,h.sJ a,ha];simp_all)|_=>exact Ds.none λb h Z K=>by simp only[Bg,g,k,h.sJ a,ha]
theorem lL{α β γ:Type}{o:Option α}{f:α->β}{K:β->Option γ}:(o.bind λx=>K (f x))=(o.bind λx=>kd (f x)).elim ke K:=by cases o<;>rfl
theorem c0H(U:AE)(ty:Option Ty)(a:AV)(i:Int)(K:AV->Rs Z):U.uB ty a i K=(U.uB ty a i kd).elim ke K:=by cases a with|val t l=>(cases t with|list o e=>(cases o;simp[AE.uB];split;exact lL;rfl;rfl)|_=>rfl)|sref n p=>(simp only[AE.uB];rw[lK,lK (Z:=AV)];cases Mm U.rt n p with|none=>rfl|some x=>grind)|swin n p o k=>(simp[AE.uB];rw[OJ,OJ (Z:=AV)];cases Mm U.look n p with|none=>rfl|some x=>grind)|ptr n p=>simp[AE.uB];grind|vptr t l=>(cases t with|arr k e=>simp[AE.uB];split;exact lL;rfl|_=>rfl)|_=>rfl
theorem a8F{U:AE}(h:∀n∈a.refs,U2.look n=U.look n)(g:∀n∈a.refs,U2.rt n=U.rt n)(ty:Option Ty)(i:Int)(K:AV->Rs Z):U2.uB ty a i K=U.uB ty a i K:=by cases a with|sref n p=>simp only[AE.uB];rw[lK,lK,HD (g n (by simp[AV.refs]))]|swin n p o k=>simp only[AE.uB];rw[OJ,OJ,HD (h n (by simp[AV.refs]))]|ptr n p=>simp_all[AE.uB,AV.refs]|val t l=>(cases t with|list o e=>(cases o<;>rfl)|_=>rfl)|vptr t l=>(cases t<;>rfl)|_=>rfl
theorem a0C{t:TypeId}{x i:Operand}(c:o.op=.indexAddr t x i)(j:o.dst=kd d):Ds cx o d U:=by
 have e:x∈o.op.operands.toList:=by simp[c,Op.operands]
 have l:i∈o.op.operands.toList:=by simp[c,Op.operands]
 have m:(∀k y,U.sJ i≠.val (.int k) y)->Ds cx o d U:=λh=>Ds.none λp f Z K=>by simp[Bg,c,j,f.sJ l];grind
 cases ha:U.sJ i with|val q y=>(cases q with|int k=>(refine Ds.of (U.uB (cx.T t) (cx.tX (U.sJ x)) (show Int from y) kd) λp f Z K=>?_);(simp[Bg,c,j,f.sJ l,f.sJ e,ha];have a:∀n∈(cx.tX (U.sJ x)).refs,n∈(U.sJ x).refs:=λn b=>by revert b;cases U.sJ x with|tX g=>(simp[Cx.tX];split<;>exact λh=>h)|_=>exact id);exact(a8F (λn b=>f.look e (a n b)) (λn b=>f.rt e (a n b)) (cx.T t) (show Int from y) _).trans (c0H _ _ _ _ _)|_=>exact m (by rw[ha];intro k y h;cases h))|_=>exact m (by rw[ha];intro k y h;cases h)
def nK{Z:Type}(ty:Option Ty)(x i:AV)(K:AV->Rs Z):Rs Z:=match x,i with|.val (.arr n t) l,.val (.int _) (i:Int)=>(if ty=kd (.arr n t)then(Ax l i).bind λy=>K (.val t y)else ke)|.val .str (l:List Int),.val (.int _) (i:Int)=>(if ty=kd .str then(Ax l i).bind λy=>K (.val (.int .u8) y)else ke)|_,_=>ke
theorem b4i{Z:Type}(ty:Option Ty)(x i:AV)(K:AV->Rs Z):nK ty x i K=(nK ty x i kd).elim ke K:=by unfold nK;split;split;exact lL;rfl;split;exact lL;rfl;rfl
theorem b1N{i:Operand}(h:o.op=.index s x i)(k:o.dst=kd d):Ds cx o d U:=by
 have b:x∈o.op.operands.toList:=by simp[h,Op.operands]
 have a:i∈o.op.operands.toList:=by simp[h,Op.operands]
 refine Ds.of (nK (cx.T s) (U.sJ x) (U.sJ i) kd) λg f Z K=>?_
 have:Bg cx ka o g K=nK (cx.T s) (U.sJ x) (U.sJ i) λv=>K (g.set d v):=by simp[Bg,h,k,f.sJ b,f.sJ a];rfl
 grind[b4i]
theorem a5w(k:o.op=.extract x i)(a:o.dst=kd d):Ds cx o d U:=by
 have e:x∈o.op.operands.toList:=by simp[k,Op.operands]
 cases x with
 |tmp t=>
  have b:∀h,Et (AC o) U h->h.sl t=U.sl t:=λh g=>(g.2 t (Dc e)).1;cases hv:U.sl t with
  |one v=>simp_all[Ds.none,Bg]
  |cmp c j=>
   cases c with
   |agg=>simp_all[Ds.none,Bg]
   |clo f=>simp_all[Ds.none,Bg]
   |tup=>
   cases hi:j[i]? with
   |none=>simp_all[Ds.none,Bg]
   |some v=>exact Ds.put (.one v) λh g Z K=>by simp[Bg,k,a,b h g,hv,hi];rfl
 |_=>simp_all[Ds.none,Bg]
end
end Go.Ab
