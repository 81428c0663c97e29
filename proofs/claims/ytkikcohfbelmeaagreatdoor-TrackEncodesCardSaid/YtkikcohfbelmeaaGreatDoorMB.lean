/- Part of the proof: LibS. Conditions: as each statement tells. -/
import Derived.Laws.AppendOwn
import Derived.CallsIn
import Derived.Tactics
import Derived.Deep.LoopGhost
import Derived.TacticsIn
import Derived.Test.YtkikcohfbelmeaaGreatDoorMA
noncomputable section
set_option linter.unusedSimpArgs false
set_option linter.unusedVariables false
open Array renaming getElem?_toList->B8,length_toList->E5,range->F8
open Bool renaming not_eq_true'->E6,not_eq_true->F9
open Decidable renaming decide->A6
open List renaming mem_map_of_mem->A3,mem_cons_of_mem->A4,length_eq_zero_iff->A7,getElem?_append_left->A8,nodup_cons->A9,mem_of_getElem?->B3,mem_map->B6,map_cons->B7,getElem?_append_right->B9,nodup_append->C1,append->C3,length->C4,replicate->C6,getElem?_toArray->C7,pairwise_iff_getElem->C8,getD->D0,mem_append_left->D2,drop_eq_getElem_cons->D4,getElem?_map->D7,take_succ_eq_append_getElem->D8,mem_append_right->D9,mem_iff_getElem?->E1,take->E2,length_nil->E3,map_nil->E8,nil_append->E9,length_eq_one_iff->F0,take_set_of_le->F2,drop->F4,size_toArray->F5,take_length->F7,append_nil->G4,set->G5,drop_zero->G6
open Nat renaming le_refl->B4,lt_of_lt_of_le->C0,zero_add->C2,add_mul->C5,le_trans->D1,mul_le_mul_right->D3,add_sub_cancel_left->D6,mul_le_mul->F1,le_of_lt->F3,lt_trichotomy->F6
open Option renaming map_eq_some_iff->C9,bind_eq_some_iff->D5,map_some->E4,isSome_iff_exists->E7,elim->G3
namespace Go.Ab
variable {A:Option Addr}{G:YE}{M:Gh}{P:Program}{Q:Exit->Act->World->Prop}{Sh Sh':Nat->Prop}{U U2:AE}{Z:Type}{a av:AV}{b d i n:Nat}{c:Call}{e:Ty}{f:FuncId}{hi:Option Operand}{k:IntKind}{m:DU}{next:Act->World->Prop}{o:Oper}{p:BJ}{ps:List PA}{q:Bool}{r:sP}{s t t':TypeId}{tm:Nat->Value}{ts:Array TypeId}{v vy:Value}{w w' w2:World}{x y:Operand}{l ys:List e.sK}
theorem TL{o:Nat}{os R}(h:Ak (fun i=>AL m e fun j=>m b (o+(i*e.cells+j))) n 0=some (l,os,R)):∃cs:List Value,cs.length=n*e.cells/\(∀j u,cs[j]?=some u->m b (o+j)=some u)/\(∀u∈cs,Cf u=true)/\Ak (fun i=>AL m e fun j=>cs[i*e.cells+j]?) n 0=some (l,os,R):=by
 have k:AL m (.arr n e) (fun j=>m b (o+j))=some (l,os,R):=h;have d:∀j,j<n*e.cells->∃u,m b (o+j)=some u/\Cf u=true:=Kj (.arr n e) k;let cs:List Value:=(List.range (n*e.cells)).map fun j=>(m b (o+j)).getD undef
 have f:∀j,j<n*e.cells->cs[j]?=m b (o+j):=fun j a=>by grind
 have g:cs.length=n*e.cells:=by grind
 refine⟨cs,g,fun j u c=>?_,fun u c=>?_,?_⟩;grind;grind;exact AF (.arr n e) k (rd':=fun j=>cs[j]?) (fun j a=>f j a) (fun _ _ _=>rfl)
theorem a5f{o:Bool}(z:e.sh=e){O R}(h:AL m (.list o e) ((Src.one v).rd m)=some (l,O,R)):(v=.slice none 0 0/\l=[])\/∃a n c g,v=.slice (some a) n c/\(c=0\/a.spot=none)/\n<=c/\n=l.length/\Ak (fun i=>AL m e fun j=>m a.block (a.off+(i*e.cells+j))) n 0=some (l,[],g)/\(∀x∈g,x∈R)/\(o=false->0<n->a.block∈R):=by(have h:Cq m o e.cells (AL m e) (some v)=some (l,O,R):=h;unfold Cq at h;split at h;simp_all;rename_i a n c t;simp at t;split at h;rename_i y;split at h;grind;rename_i p d g b;have f:d=[]:=by have q:AL m (.arr n e) (fun j=>m a.block (a.off+j))=some (p,d,g):=b;exact RI (by simp_all[Ty.tO]) q);(subst f;have k:p=l/\(∀x∈g,x∈R)/\(o=false->0<n->a.block∈R):=by split at h;grind;split at h;rename_i r;subst r;simp[Ak]at b;simp_all;grind);obtain⟨rfl,u,w⟩:=k;grind[AX];simp_all;simp_all
def VH(w:World)(m:DU)(Sh:Nat->Prop)(e:Ty)(l:List e.sK)(v:Value):Prop:=∃A n c,∃cs:List Value,v=.slice A n c/\n=l.length/\cs.length=n*e.cells/\(∀u∈cs,Cf u=true)/\(∃R,Ak (fun i=>AL m e fun j=>cs[i*e.cells+j]?) n 0=some (l,[],R)/\∀c∈R,Sh c)/\(∀b,A=some b->∀j u,cs[j]?=some u->w.cell? (b.add j)=some u)/\(A=none->n=0)/\(∀b,A=some b->n=0\/b.spot=none)
theorem VH.nil{w m Sh e}{A:Option Addr}{c:Nat}:VH w m Sh e [] (.slice A 0 c):=⟨A,0,c,[],rfl,rfl,by simp,by simp,⟨[],rfl,by simp⟩,by simp,fun _=>rfl,fun _ _=>.inl rfl⟩
section
variable {P:Program} {B:Base} {N:Nat} {Z:Type} {U:AE} {a:Act} {w:World} {M:Gh}
theorem sM.tC{tm}(h:sM B U N tm w M)(hp:U.pd=none):M.ov=none:=by have:=h.pend;rw[hp]at this;cases hov:M.ov with|none=>rfl|some x=>rw[hov]at this;exact this.elim
theorem sM.xO{tm}(h:sM B U N tm w M){c j:Nat}(a:Ba B w M c):Af w M.ov c j=w.cell? ⟨c,j,none⟩:=by unfold Af;split;(rename_i b o v g;have f:=h.pend;rw[g]at f;cases hpd:U.pd with|none=>rw[hpd]at f;exact f.elim|some x=>have⟨n,p,d⟩:=x;rw[hpd]at f;have⟨r,e,i,k⟩:=f;rw[<-g]at k;have hb:=h.place i k;rw[if_neg];rintro⟨rfl,-⟩;exact a.2.2 ⟨n,hb⟩);rfl
theorem WC{A:Addr}(h:A.spot=none)(j:Nat):w.cell? (A.add j)=w.cell? ⟨A.block,A.off+j,none⟩:=by rw[FC h]
theorem sM.elems{tm}{e:Ty}(he:e.sh=e)(h:sM B U N tm w M){av v}{K:List e.sK->Rs Z}{z:Z}(d:Ay (Af w M.ov) M.g U.rt (Ba B w M) av v)(f:U.elems e av K=some z):∃l,K l=some z/\VH w (Af w M.ov) (Ba B w M) e l v:=by
 unfold AE.elems at f;split at f;rename_i t' x;split at f;rename_i ht;subst ht;refine⟨_,f,?_⟩;have⟨R,h1,h2⟩:=Ci.rd (t:=.list false t') d rfl rfl;rcases a5f he h1 with⟨rfl,h3⟩|⟨A,n,c,rs,rfl,g1,g2,T,G,V,g6⟩;simp_all[VH.nil];have⟨F,E,Y,O,P⟩:=TL G;refine⟨some A,n,c,F,rfl,T,E,O,⟨rs,P,fun b hb=>h2 b (V b hb)⟩,fun b hb j u I=>?_,by simp,fun b hb=>by grind⟩;simp at hb;subst hb;have H:0<n:=by grind
 rw[WC (g1.resolve_left (by omega)),<-h.xO (h2 _ (g6 rfl H))];simp_all;simp_all;refine⟨[],f,?_⟩;have d:v=.slice none 0 0:=d;rw[d];exact VH.nil;refine⟨[],f,?_⟩;have⟨A,L⟩:=d;rw[L];exact VH.nil;rename_i n p;split at f;rename_i r D;have⟨C,D⟩:=AR D;split at f;rename_i a l hg;split at f;rename_i m;subst m;have⟨s,O',R',g1,g2,T,G,V,g6⟩:=h.slice d D hg;refine⟨l,f,?_⟩;have y:=h.tC C;rcases a5f he G with⟨rfl,h3⟩|⟨A,n,c,rs,rfl,f1,f2,f3,S,f5,-⟩;rw[h3];exact VH.nil;have⟨F,E,Y,O,P⟩:=TL S;refine⟨some A,n,c,F,rfl,f3,E,O,⟨rs,P,fun b hb=>V b (f5 b hb)⟩,fun b hb j u I=>?_,by simp,fun b hb=>by grind⟩;simp at hb;subst hb;have H:0<n:=by grind
 rw[WC (f1.resolve_left (by omega))];have:=Y j u I;rw[y]at this;exact this;simp_all;simp_all;simp_all;rename_i n p o k;split at f;rename_i r D;have⟨C,D⟩:=AR D;split at f;rename_i a l hg;split at f;rename_i m;subst m;obtain⟨s,O',R',A0,n0,c,g1,g2,T,G,V,g6,a',rfl,g7,g8⟩:=h.window d D hg;refine⟨_,f,?_⟩;show VH _ _ _ _ (E2 k (F4 o l)) _;have y:=h.tC C;rcases a5f he T with⟨L,h3⟩|⟨A,n,c',rs,L,f1,f2,f3,S,f5,-⟩;simp_all[VH.nil]
 simp at L;obtain⟨rfl,rfl,rfl⟩:=L;rw[show n0=o+(k+(n0-o-k))from by omega]at S;obtain⟨h7,g0,h8,g9,j1,j2,e1,rfl⟩:=FA o _ 0 S;obtain⟨h5,Q,h9,k0,j3,j4,rfl,rfl⟩:=FA k _ (0+o) j2;have h4:h5=[]:=by simp_all
 subst h4;have X:∀(q i:Nat),Ak (fun i=>AL (Af w M.ov) a fun j=>Af w M.ov A.block (A.off+o*a.cells+(i*a.cells+j))) q i=Ak (fun i=>AL (Af w M.ov) a fun j=>Af w M.ov A.block (A.off+(i*a.cells+j))) q (o+i):=by intro q;induction q with|zero=>intro i;rfl|succ q ih=>(intro i;have hf:(fun j=>Af w M.ov A.block (A.off+o*a.cells+(i*a.cells+j)))=fun j=>Af w M.ov A.block (A.off+((o+i)*a.cells+j)):=by funext j;grind);simp[Ak];rw[ih (i+1),hf,show o+(i+1)=o+i+1 from by rfl]
 have hc:Ak (fun i=>AL (Af w M.ov) a fun j=>Af w M.ov A.block (A.off+o*a.cells+(i*a.cells+j))) k 0=some (E2 k (F4 o l),[],Q):=by grind
 have⟨F,E,Y,O,P⟩:=TL hc;refine⟨a',k,c-o,F,rfl,?_,E,O,⟨Q,P,fun b hb=>G b (f5 b (by grind))⟩,fun b hb j u I=>?_,fun hn=>?_,fun b hb=>(g7 b hb).imp (fun e=>by omega) id⟩;have e0:n0=l.length:=f3;have e1:(E2 k (F4 o l)).length=min k (l.length-o):=List.length_take.trans (cG (min k) List.length_drop);omega;have h0:=(lS.1 I).1;rw[E]at h0;have h6:0<k:=Nat.pos_of_ne_zero fun e0=>by grind
 rcases g8 with g8|g8;omega;rw[g8]at hb;simp at hb;rw[<-hb,FC (f1.resolve_left (by omega)),WC rfl];have:=Y j u I;rw[y]at this;exact this;grind;simp_all;simp_all;simp_all;simp_all
theorem Rt{w:World}{c:Nat}{cs:List Value}(hv:v=.slice A n c)(i:∀x,w2.cell? x=w.cell? x)(h:cs.length=n*e.cells)(g:∀b,A=some b->∀j u,cs[j]?=some u->w.cell? (b.add j)=some u)(a:A=none->n=0)(k:Nat)(f:k<=n):(Builtin.firstCells e.cells k v).run P w2=.ok (cs.take (k*e.cells)).toArray w2:=by subst hv;cases A with|none=>(have:k=0:=by simp_all);simp_all[Builtin.firstCells]|some b=>(refine run_firstCells_some w2 e.cells k b n c _ ?_ fun j u d=>?_);simp_all;grind
end
theorem b6w{τ:Ty}(h:AQ P τ (.inl t)=true):∃d,P.underlying t=some d:=by cases hu:P.underlying t with|some d=>simp|none=>cases τ<;>simp[AQ,hu]at h
theorem RJ(h:AQ P (.int k) (.inl t)=true):P.underlying t=some (.int k):=by simp[AQ]at h;grind
theorem WD(h:AQ P .str (.inl t)=true):P.underlying t=some .string:=by simp[AQ]at h;grind
theorem UQ{m:DU}{k:IntKind}:∀(l:List Int)(n i:Nat){cs:List Value}{R},cs.length=i+n->Ak (fun i=>AL m (.int k) fun j=>cs[i*1+j]?) n i=some (l,[],R)->cs.drop i=l.map (Value.int k)|l,0,i,cs,R,t,h=>by have w:[]=l:=cG (·.1) (Option.some.inj h);simp_all|l,n+1,i,cs,R,t,h=>by(simp only[Ak]at h;split at h;grind;rename_i x o r g;split at h;grind;rename_i e v A p;have c:i<cs.length:=by omega);(simp[AL,lG c]at g;split at g;rename_i z u d;split at g;rename_i q;subst q;have b:u=x:=cG (·.1) (Option.some.inj g);have f:x::e=l:=cG (·.1) (Option.some.inj h);have y:o=[]:=by simp_all);(have a:v=[]:=by grind);subst a;rw[D4 c,UQ e n (i+1) (by omega) p,<-f];simp at d;rw[d,b];rfl;simp_all;simp_all
section
variable {P:Program} {B:Base} {N:Nat} {Z:Type} {U:AE} {a:Act} {w:World} {M:Gh}
theorem b0N(ns:List Int):∀(s:ByteArray),((ns.foldl (fun r n=>r.push (UInt8.ofNat n.toNat)) s).data.toList.map fun b=>(b.toNat:Int))=(s.data.toList.map fun b=>(b.toNat:Int))++b9K ns:=by induction ns with|nil=>intro s;simp[b9K]|cons n ns h=>simp_all[b9K]
theorem WE(w:World)(a:Addr)(c:Nat):(w.freeze a 1).heap[c]?=if c=a.block then(w.heap[c]?).map (fun|.cells cs elem (lo,hi)=>.cells cs elem (if lo==hi then(a.off,a.off+1)else(min lo a.off,max hi (a.off+1)))|o=>o)else w.heap[c]?:=by unfold World.freeze;grind
theorem a7m(w:World)(a p:Addr):(w.freeze a 1).cell? p=w.cell? p:=by unfold World.cell?;rw[WE];grind
theorem WF(w:World)(a:Addr)(ov):Af (w.freeze a 1) ov=Af w ov:=by funext b o;simp_all[a7m,Af]
theorem sM.frozen{U:AE}{w:World}{M:Gh}(h:sM B U N tm w M)(l:BB M b){cs:Array Value}{k:TypeId}{lo hi:Nat}(u:w.heap[b]?=some (.cells cs k (lo,hi))):
  sM B U N tm (w.freeze { block:=b,off:=cs.size } 1) M:=by
 have f:(w.freeze { block:=b,off:=cs.size } 1).heap.size=w.heap.size:=by
  simp_all[World.freeze]
 refine h.mem (fun c j _=>by rw[WF]) (fun n p m=>?_) (Nat.le_of_eq f.symm) (fun c d a=>?_);have⟨c,e,o,i,q,r,t⟩:=h.live n p m;unfold BY;rw[WE];grind
 ·rw[WE,if_neg (fun e=>?_)];exact h.frame c d a
  ·rcases h.mine b l with g|g;all_goals grind
theorem a5g{o:Oper}{t t2:TypeId}{x:Operand}{d:Nat}{cx:Cx}{q:Bool}{K:AE->Rs Z}{z:Z}(f:CxTy P cx)(ho:o.op=.convert t t2 x)(hd:o.dst=some d) (h:sM B U N (AH a) w M)(hN:a.tmps.size=N)(hf:fits N o=true)(g:Bc cx q o U K=some z):AT P B N o a w K z:=by
 have I:=h.sN (Bg hf x (by simp[ho,Op.operands]));simp[Bc,ho,hd]at g;have p:∀v w',(convert t t2 (a.eval x)).run P w=.ok v w'->(execOp a.eval o).run P w=.ok (.value v) w':=fun v w' V=>by simp[execOp,ho,V]
 unfold AE.conv AE.vL at g;split at g;rename_i τ k k' n L m H;rw[H]at I;have V:=Ay.int I;have⟨u,S⟩:=b6w (f.T _ _ L).2;have C:=RJ (f.T _ _ m).2;refine AT.set hd hN (p (.int k (k.wrap n)) w ?_) h (Ay.tJ _) g;rw[V];simp[convert,run_underlying S,run_underlying C,Conv.intToInt];rename_i o' l L m H;suffices main:∀l:List Int,U.sN x=.val .str l->(bif AZ (C4 l)then U.fresh q d ⟨false,.list true (.int .u8),l⟩ fun U=>K (U.set d (.sref d []))else none)=some z->AT P B N o a w K z from main l H g
 clear H g;intro l H g;rw[H]at I;have⟨s,V,hl⟩:=Ay.str I;have S:=WD (f.T _ _ L).2;have⟨h9,g4⟩:=f.T _ _ m;obtain⟨e,C,F,-⟩:=BQ g4;have G:=RJ F;rcases Ai g with⟨-,g⟩|⟨-,g⟩;have hr:=run_bytes_of_string (P:=P) w t t2 e s S C G;rw[<-V]at hr;have hg:=grownCap_ge w s.size 0 e;have E:(bytesRow s (grownCap w s.size 0 e)).size=grownCap w s.size 0 e:=by have:s.data.size=s.size:=rfl;simp_all[bytesRow]
 have g9:C4 l=s.size:=by simp_all
 have h7:@List.length (Ty.int .u8).sK l=s.size:=g9;have y:Ak (fun i=>AL (Af w M.ov) (.int .u8) fun j=>(bytesRow s (grownCap w s.size 0 e))[i*(Ty.int .u8).cells+j]?) (C4 l) 0=some (l,[],[]):=by(have a3:∀(n i:Nat)(l':List Int),l'=l.drop i->l'.length=n->i+n=s.size->Ak (fun i=>AL (Af w M.ov) (.int .u8) fun j=>(bytesRow s (grownCap w s.size 0 e))[i*(Ty.int .u8).cells+j]?) n i=some (l',[],[]):=by intro n;induction n with|zero=>intro i l' _ h2 _;rw[A7.1 h2];rfl|succ n ih=>(intro i l' h1 h2 h3;have hi:i<s.data.toList.length:=by grind);(have k7:i<(List.map (fun b:UInt8=>(b.toNat:Int)) s.data.toList).length:=by simp_all);(have X:(bytesRow s (grownCap w s.size 0 e))[i]?=some (.int .u8 ((s.data.toList[i]).toNat:Int)):=by simp_all[bytesRow,Array.getElem?_append_left]);(have g7:l'=((s.data.toList[i]).toNat:Int)::l.drop (i+1):=by simp_all[D4]);subst g7;have h4:=ih (i+1) (l.drop (i+1)) rfl (by grind) (by omega);simp only[Ak];rw[h4];simp only[AL,Ty.cells,Nat.mul_one,Nat.add_zero,X,if_true];rfl);grind
 obtain⟨U',M',g1,g2,g3,-,-⟩:=h.uW (c:=grownCap w s.size 0 e) g (w':=w.drew.alloc (.cells (bytesRow s (grownCap w s.size 0 e)) e ((bytesRow s (grownCap w s.size 0 e)).size,(bytesRow s (grownCap w s.size 0 e)).size+1))) (fun c hc=>BF (w:=w.drew) _ c hc) (BR (w:=w.drew) _) (Bt (w:=w.drew) _) (.inr (by simp[E,Ty.cells])) (by simp[E,Ty.cells]) (D1 (Nat.le_of_eq h7) hg) y (by simp);grind[AT.set];simp_all;rename_i l L m H;rw[H]at I;have⟨s,V,hl⟩:=Ay.str I;have S:=WD (f.T _ _ L).2;have C:=WD (f.T _ _ m).2;refine AT.set hd hN (p (.string s) w ?_) h (hl▸Ay.vW s) g;simp_all[convert,run_underlying];rename_i o1 o2 n L m H;split at g;rename_i k5;subst k5;split at g;rename_i l hl;have⟨Q,g⟩:=(Ai g).elim id fun h=>by grind
 have Q:0<C4 l:=by simp_all
 have⟨a2,hr⟩:=AR hl;rw[H]at I;have⟨h9,h6⟩:=f.T _ _ L;obtain⟨e,S,F,-⟩:=BQ h6;have G:=RJ F;have⟨s,O',R',f1,f2,f3,f4,f5,f6⟩:=h.slice I hr (show Dc (.list true (.int .u8)) l []=⟨.list true (.int .u8),l⟩from rfl);have⟨b,n1,c1,g5,hb,k9,k6,O⟩:∃(b:Addr)(n1 c1:Nat),a.eval x=.slice (some b) n1 c1/\b.spot=none/\n1<=c1/\c1≠0/\b.block∈(M.ow n).map (·.1):=by rcases Ct f4 with⟨hs,k8,-,-⟩|⟨b,n1,c1,os,hs,hA,hn,y,ho⟩;simp_all;simp[Src.rd]at hs;grind[AX]
 have h8:BB M b.block:=⟨n,O⟩;have⟨p0,k0,k4⟩:=B6.1 O;obtain⟨cs,el,lo,hi,D,-,-⟩:=h.live n p0 k0;rw[k4]at D;have h5:(convert t t (a.eval x)).run P w=.ok (a.eval x) (w.freeze { block:=b.block,off:=cs.size } 1):=by(have g0:w.shape? b.block=some (el,cs.size):=by simp_all[World.shape?]);rw[g5];simp[convert,run_underlying S,run_underlying G,markStringish,g0]
 exact AT.set hd hN (p _ _ h5) (h.frozen h8 D) (av:=.sref n []) (by have⟨r,e',s',k1,k2,k3⟩:=I;exact⟨r,e',s',k1,by simp_all[WF],by simp_all[WF]⟩) g;simp_all;simp_all;rename_i o' L m;have⟨h9,h6⟩:=f.T _ _ L;obtain⟨e,S,F,-⟩:=BQ h6;have G:=RJ F;have C:=WD (f.T _ _ m).2;obtain⟨l,g,A,n,c,cs,V,hn,Q,-,⟨R,y,-⟩,hc,hnil,-⟩:=h.elems rfl I g;have Y:cs.length=n:=by simp_all[Ty.cells]
 have g6:cs=l.map (Value.int .u8):=by have:=UQ (k:=.u8) l n 0 (cs:=cs) (by omega) y;grind
 cases A with|none=>(have h0:l=[]:=by grind);refine AT.set hd hN (p (.string .empty) w ?_) h (av:=.val .str (b9K l)) (by rw[h0];exact Ay.vW .empty) g;simp_all[run_convert_bytes_string,Conv.bytesToString]|some b=>refine AT.set hd hN (p (.string (l.foldl (fun r n=>r.push (UInt8.ofNat n.toNat)) ByteArray.empty)) w ?_) h (av:=.val .str (b9K l)) ?_ g;rw[V,run_convert_bytes_string w t t2 e _ n c S G C];refine run_bytesToString w b n c l ?_;rw[<-g6,<-Y];exact run_loadCells_list w b cs (hc b rfl);have:=b0N l ByteArray.empty;(have e1:b9K l=((l.foldl (fun r n=>r.push (UInt8.ofNat n.toNat)) ByteArray.empty).data.toList.map fun b=>(b.toNat:Int)):=by exact(this.trans (E9 _)).symm);simp_all[Ay.vW]
 simp_all
theorem Yd{b:Builtin}(h:o.op=.call c)(hb:c.callee=.builtin b):∃cs,(execOp a.eval o).run P w=(builtin b c.argTypes o.type cs (c.args.map a.eval)).run P w:=by exact⟨_,by simp[execOp,h,resolve,hb,invoke];rfl⟩
theorem b6x{o:Oper}{c:Call}{d:Nat}{cx:Cx}{q:Bool}{K:AE->Rs Z}{z:Z}(e:CxTy P cx)(u:o.op=.call c)(hb:c.callee=.builtin .len)(r:o.dst=some d) (h:sM B U N (AH a) w M)(v:a.tmps.size=N)(A:fits N o=true)(g:Bc cx q o U K=some z):AT P B N o a w K z:=by(have⟨D,k⟩:=Yd (P:=P) (a:=a) (w:=w) u hb;have f:=Bg A;have i:∃x,c.args.toList=[x]:=by cases i:c.args.toList with|nil=>simp_all[Bc,AE.uP]|cons x l=>cases l with|nil=>simp|cons y l=>simp_all[Bc,AE.uP]);(have⟨x,C⟩:=i;have b:c.args=#[x]:=by grind);have p:Cj N x=true:=f x (by simp_all[Op.operands,Call.operands]);simp[Bc,u,r,hb,C,AE.uP]at g;cases ht:c.argTypes.toList.head? with|none=>simp_all[AE.vY]|some t=>(rw[ht]at g;simp at g;have⟨n,g,E⟩:=b4i e h p g o.type;have m:c.argTypes[0]?=some t:=by rw[<-B8];cases i:c.argTypes.toList with|nil=>simp_all|cons y l=>simp_all);(refine AT.set r v (k.trans ?_) h (Ay.tJ _) g;have j:Builtin.len_ c.argTypes o.type #[a.eval x]=Builtin.len_ #[t] o.type #[a.eval x]:=by simp[Builtin.len_,m]);simp_all[builtin]
theorem b6y{o:Oper}{c:Call}{d:Nat}{cx:Cx}{q:Bool}{K:AE->Rs Z}{z:Z}(A:CxTy P cx)(m:o.op=.call c)(hb:c.callee=.builtin .cap)(p:o.dst=some d) (h:sM B U N (AH a) w M)(F:a.tmps.size=N)(G:fits N o=true)(k:Bc cx q o U K=some z):AT P B N o a w K z:=by
 have⟨O,u⟩:=Yd (P:=P) (a:=a) (w:=w) m hb;have r:=Bg G;have i:∃x,c.args.toList=[x]/\U.sN x=.nils:=by cases i:c.args.toList with|nil=>(simp only[Bc,m,p,hb,i,E8,AE.uP]at k;cases k)|cons x l=>cases l with|nil=>(refine⟨x,rfl,?_⟩;cases n:U.sN x<;>first|rfl|(simp only[Bc,m,p,hb,i,B7,E8,AE.uP,n]at k;cases k))|cons y l=>simp only[Bc,m,p,hb,i,B7,AE.uP]at k;cases n:U.sN x<;>(rw[n]at k;cases k)
 have⟨x,n,j⟩:=i;have f:c.args=#[x]:=by rw[<-Array.toList_inj];simpa using n
 have E:Cj N x=true:=r x (by simp[m,Op.operands,hb,f,Call.operands]);simp only[Bc,m,p,hb,n,B7,E8,AE.uP,j]at k;have v:=h.sN E;rw[j]at v;obtain v:a.eval x=.slice none 0 0:=v;rcases Ai k with⟨b,k⟩|⟨-,g⟩;cases ht:c.argTypes.toList.head? with|none=>(rw[ht]at b;cases b)|some t=>rw[ht]at b;simp only[oB]at b;cases hc:cx.T t with|none=>(rw[hc]at b;cases b)|some τ=>rw[hc]at b;cases τ with|list o e=>(have⟨H,D⟩:=A.T t _ hc;obtain⟨Q,L,I,-⟩:=BQ D;have C:c.argTypes[0]?=some t:=by rw[<-B8];cases i:c.argTypes.toList with|nil=>(rw[i]at ht;cases ht)|cons y l=>rw[i]at ht;simpa using ht);exact AT.set p F (u.trans (by simp[builtin,f,v,Builtin.cap_,C,run_underlying L,goInt])) h (Ay.tJ _) k|_=>cases b
 cases g
theorem Ye{b:Builtin}(g:o.op=.call c)(hb:c.callee=.builtin b)(h:fits N o=true):∀y∈c.args.toList,Cj N y=true:=fun y f=>Bg h y (by simp_all[Op.operands,Call.operands])
theorem b6z{o:Oper}{c:Call}{d:Nat}{cx:Cx}{q:Bool}{K:AE->Rs Z}{z:Z}(m:o.op=.call c)(hb:c.callee=.builtin .max)(p:o.dst=some d) (h:sM B U N (AH a) w M)(A:a.tmps.size=N)(C:fits N o=true)(e:Bc cx q o U K=some z):AT P B N o a w K z:=by have⟨E,i⟩:=Yd (P:=P) (a:=a) (w:=w) m hb;have b:=Ye m hb C;cases hl:c.args.toList with|nil=>simp_all[Bc,AE.uP]|cons x l=>(simp[Bc,m,p,hb,hl,AE.uP]at e;split at e;all_goals first|(rename_i j;cases j;done)|(rename_i j _;cases j;done)|(cases e;done)|skip);(rename_i k n r j v;have t:=h.sN (b x (by simp_all));obtain⟨u,rfl⟩:=List.cons.inj v;rw[u]at t;have⟨r,e,F⟩:=gL (P:=P) (f:=DH) (g:=Builtin.max2) (k:=k) (fun x y w=>by simp[Builtin.max2,DH]) l n h (fun y G=>b y (by simp_all)) e;refine AT.set p A (i.trans ?_) h (Ay.tJ _) e;have D:(c.args.map a.eval).toList=a.eval x::l.map a.eval:=by simp_all);simp only[builtin,Builtin.max_,D,Ay.int t,Sem.run_bind];simp_all
theorem b6A{o:Oper}{c:Call}{d:Nat}{cx:Cx}{q:Bool}{K:AE->Rs Z}{z:Z}(m:o.op=.call c)(hb:c.callee=.builtin .min)(p:o.dst=some d) (h:sM B U N (AH a) w M)(A:a.tmps.size=N)(C:fits N o=true)(e:Bc cx q o U K=some z):AT P B N o a w K z:=by have⟨E,i⟩:=Yd (P:=P) (a:=a) (w:=w) m hb;have b:=Ye m hb C;cases hl:c.args.toList with|nil=>simp_all[Bc,AE.uP]|cons x l=>(simp[Bc,m,p,hb,hl,AE.uP]at e;split at e;all_goals first|(rename_i j;cases j;done)|(rename_i j _;cases j;done)|(cases e;done)|skip);(rename_i k n r j v;have t:=h.sN (b x (by simp_all));obtain⟨u,rfl⟩:=List.cons.inj v;rw[u]at t;have⟨r,e,F⟩:=gL (P:=P) (f:=En) (g:=Builtin.min2) (k:=k) (fun x y w=>by simp[Builtin.min2,En]) l n h (fun y G=>b y (by simp_all)) e;refine AT.set p A (i.trans ?_) h (Ay.tJ _) e;have D:(c.args.map a.eval).toList=a.eval x::l.map a.eval:=by simp_all);simp only[builtin,Builtin.min_,D,Ay.int t,Sem.run_bind];simp_all
end
open IntKind renaming wrap->zB
theorem TM{m:DU}:∀(p:BJ)(t:Ty)(s:Src){x O R l b o y O' R'},AL m t (s.rd m)=some (x,O,R)->loc m t s p=some (l,.at b o)->AL m l ((Src.at b o).rd m)=some (y,O',R')->(O.map (·.1)).Nodup->(∀c∈O.map (·.1),s.wC c)->b∉O'.map (·.1)|[],t,s,x,O,R,l,b,o,y,O',R',h,g,d,f,k=>(by simp[Cl]at g;obtain⟨rfl,rfl⟩:=g;rw[h]at d;simp at d;obtain⟨-,rfl,-⟩:=d;exact fun hb=>k b hb rfl)|.fst::p,t,s,x,O,R,l,b,o,y,O',R',h,g,d,f,k=>(by obtain⟨a,C,r,u,rfl,rfl,g⟩:=MN g;obtain⟨U,N,S,V,P,T,D,z,rfl,rfl,rfl⟩:=CK h;simp only[pA]at f k;exact TM p a (.at r u) D g d (C1.1 f).1 (fun c e=>k c (D2 _ e)))|.snd::p,t,s,x,O,R,l,b,o,y,O',R',h,g,d,f,k=>(by obtain⟨a,C,r,u,rfl,rfl,g⟩:=MO g;obtain⟨U,N,S,V,P,T,D,z,rfl,rfl,rfl⟩:=CK h;rw[Og]at z;simp only[pA]at f k;exact TM p C (.at r (u+a.cells)) z g d (C1.1 f).2.1 (fun c e=>k c (D9 _ e)))|.idx i::p,t,s,x,O,R,l,b,o,y,O',R',h,g,d,f,k=>by rcases LK g with⟨n,B,r,u,rfl,rfl,A,g⟩|⟨B,a,n,c,rfl,j,A,g⟩;simp[AL,Og]at h;obtain⟨X,M,Q,F,G,v,w,q,-,rfl,rfl⟩:=Bb n 0 i h A;simp at q;simp only[pA]at f k;exact TM p B _ q g d (C1.1 (C1.1 f).2.1).1 (fun c e=>k c (D9 _ (D2 _ e)));rcases Ct h with⟨E,-⟩|⟨Y,L,Z,os,E,ha,H,K,I⟩;simp_all;rw[E]at j;simp at j;obtain⟨rfl,rfl,rfl⟩:=j;obtain⟨X,M,Q,F,G,v,w,q,-,rfl,rfl⟩:=Bb L 0 i K A;simp at q;rcases I with⟨e,-⟩|⟨-,rfl⟩;omega;simp only[pA,B7,A9]at f k;exact TM p B _ q g d (C1.1 (C1.1 f.2).2.1).1 (fun c e=>by rintro rfl;simp_all)
section
variable {P:Program} {B:Base} {N:Nat} {Z:Type} {U:AE} {a:Act} {w:World} {M:Gh}
theorem sM.own{tm}(h:sM B U N tm w M){n p v r}(L:Ay (Af w M.ov) M.g U.rt (Ba B w M) (.sref n p) v)(D:U.rt n=some r)(O:Dc r.t r.x p=⟨.list true e,l⟩):∃s f k,loc (Af w M.ov) r.t (M.g n) p=some (.list true e,s)/\s.rd (Af w M.ov) 0=some v/\AL (Af w M.ov) (.list true e) (s.rd (Af w M.ov))=some (l,f,k)/\AL (Af w M.ov) (.list true e) ((Src.one v).rd (Af w M.ov))=some (l,f,k)/\(∀c∈k,Ba B w M c)/\(∀q∈f,q∈M.ow n)/\(f.map (·.1)).Nodup/\(∀b o,s=.at b o->b∉f.map (·.1)):=by
 have⟨r',I,s,i,m,C⟩:=L;rw[D]at i;simp at i;subst i;have⟨H,V,F,R,z,k4,k5,k6⟩:=h.sep D;have⟨y,f,k,A,T,S,G,d,a,X,Y⟩:=BT p r.t _ F m;rw[O]at a;have K:e=I:=by grind
 subst K;have a:=eq_of_heq (Sigma.mk.inj a).2;subst a;have E:∀q∈f,q∈H:=fun q P=>by simp_all
 refine⟨s,f,k,m,C,d,AF _ d (fun j hj=>?_) (fun _ _ _=>rfl),fun c Z=>R c (by simp_all),fun q P=>?_,?_,fun b o Q=>?_⟩;have u:j=0:=by simp_all[Ty.cells]
 subst u;rw[C];rfl;grind;have:=z.nodup;grind;subst Q;exact TM p r.t _ F m d z.nodup z.src
theorem WG{l1 l2:List e.sK}{cs1 cs2 rest:List Value}{n1 n2:Nat}{o1 o2 R1 R2}(a:Ak (fun i=>AL m e fun j=>cs1[i*e.cells+j]?) n1 0=some (l1,o1,R1))(g:cs1.length=n1*e.cells)(b:Ak (fun i=>AL m e fun j=>cs2[i*e.cells+j]?) n2 0=some (l2,o2,R2))(f:cs2.length=n2*e.cells):Ak (fun i=>AL m e fun j=>(cs1++(cs2++rest))[i*e.cells+j]?) (n1+n2) 0=some (C3 l1 l2,o1++o2,R1++R2):=by(have a1:Ak (fun i=>AL m e fun j=>(cs1++(cs2++rest))[i*e.cells+j]?) n1 0=some (l1,o1,R1):=by refine AF (.arr n1 e) (show AL m (.arr n1 e) (fun j=>cs1[j]?)=_ from a) (rd':=fun j=>(cs1++(cs2++rest))[j]?) (fun j h=>?_) (fun _ _ _=>rfl);exact A8 (by rw[g];exact h));(have d:Ak (fun i=>AL m e fun j=>(cs1++(cs2++rest))[i*e.cells+j]?) n2 n1=some (l2,o2,R2):=by(have c:∀(k i:Nat),i+k<=n2->Ak (fun i=>AL m e fun j=>(cs1++(cs2++rest))[i*e.cells+j]?) k (n1+i)=Ak (fun i=>AL m e fun j=>(cs2++rest)[i*e.cells+j]?) k i:=by intro k;induction k with|zero=>intro i _;rfl|succ k o=>(intro i n;have l:(fun j=>(cs1++(cs2++rest))[(n1+i)*e.cells+j]?)=fun j=>(cs2++rest)[i*e.cells+j]?:=by grind);grind[Ak]);have:=c n2 0 (by omega);rw[Nat.add_zero]at this;rw[this];refine AF (.arr n2 e) (show AL m (.arr n2 e) (fun j=>cs2[j]?)=_ from b) (rd':=fun j=>(cs2++rest)[j]?) (fun j h=>?_) (fun _ _ _=>rfl);exact A8 (by rw[f];exact h));have:=Wu n1 n2 0 a1 (by rw[C2];omega);omega
theorem a7n{cx:Cx}(g:CxTy P cx)(h:pT cx ts.toList=true):ts[1]?=none\/∃t2,ts[1]?=some t2/\(P.underlying t2=some .string\/∃e,P.underlying t2=some (.slice e)):=by rw[<-B8];unfold pT at h;split at h;simp_all;rename_i t2 _ k;rw[k];refine .inr ⟨t2,rfl,?_⟩;split at h;rename_i f;obtain⟨e,a,-⟩:=BQ (g.T _ _ f).2;simp_all;rename_i f;exact .inl (WD (g.T _ _ f).2);simp_all;simp_all
theorem Ig{ty:TypeId}{x:Value}(I:vH P e t')(i:ts[0]?=some t)(j:P.underlying t=some (.slice t'))(a:ts[1]?=none\/∃t2,ts[1]?=some t2/\(P.underlying t2=some .string\/∃e,P.underlying t2=some (.slice e))){c k:Nat}{new:List Value}(g:(Builtin.lenOf x).run P w=.ok k w)(f:(Builtin.firstCells e.cells k x).run P w=.ok new.toArray w)(h:n+k<=c)(m:∀b,A=some b->(storeCells (b.add (n*e.cells)) new).run P w=.ok () w2)(l:A=none->w2=w):(Builtin.append_ ts ty #[.slice A n c,x]).run P w=.ok (.slice A (n+k) c) w2:=by(have q:∀A,(A=none->w2=w)->(∀b,A=some b->(storeCells (b.add (n*e.cells)) new).run P w=.ok () w2)->(Builtin.append_ ts ty #[.slice A n c,x]).run P w=.ok (.slice A (n+k) c) w2:=by intro A l m;cases A with|none=>(have:=l rfl;subst this;rcases a with a|⟨t2,a,d|⟨p,d⟩⟩;simp[Builtin.append_,i,a,run_underlying j,I.sizeOf,g,h,f];simp[Builtin.append_,i,a,run_underlying j,run_underlying d,I.sizeOf,g,h,f];simp[Builtin.append_,i,a,run_underlying j,run_underlying d,I.sizeOf,g,h,f])|some b=>have o:=m b rfl;rcases a with a|⟨t2,a,d|⟨p,d⟩⟩;simp[Builtin.append_,i,a,run_underlying j,I.sizeOf,g,h,f,o];simp[Builtin.append_,i,a,run_underlying j,run_underlying d,I.sizeOf,g,h,f,o];simp[Builtin.append_,i,a,run_underlying j,run_underlying d,I.sizeOf,g,h,f,o]);simp_all
theorem Oo{ty:TypeId}{x:Value}(I:vH P e t')(l:ts[0]?=some t)(q:P.underlying t=some (.slice t'))(d:ts[1]?=none\/∃t2,ts[1]?=some t2/\(P.underlying t2=some .string\/∃e,P.underlying t2=some (.slice e))){c k:Nat}{old new:List Value}(h:(Builtin.lenOf x).run P w=.ok k w)(g:(Builtin.firstCells e.cells k x).run P w.drew=.ok new.toArray w.drew)(f:(Builtin.firstCells e.cells n (.slice A n c)).run P w.drew=.ok old.toArray w.drew)(u:c<n+k)(j:n+k<2147483648):(Builtin.append_ ts ty #[.slice A n c,x]).run P w=.ok (.slice (some ⟨w.heap.size,0,none⟩) (n+k) (grownCap w (n+k) c t')) (w.drew.alloc (.cells (old++(new++(Builtin.zeroCells I.z.cells (grownCap w (n+k) c t'-(n+k))).toList)).toArray t')):=by
 have p:¬ (n+k<=c):=by omega
 have o:Builtin.nextslicecap (n+k) c*I.i.bytes<=281474976710656:=growslice_fits u (by have:=F1 (F3 j) I.bytes;omega);have a:¬ (281474976710656<Builtin.nextslicecap (n+k) c*I.i.bytes):=by omega
 have b:¬ (9223372036854775807<((n:Int)+(k:Int))):=by omega
 have r:∀X Y:Array Value,X.toList=Y.toList->w.drew.alloc (Obj.cells X t')=w.drew.alloc (Obj.cells Y t'):=fun X Y e=>by simp_all
 rcases d with d|⟨t2,d,m|⟨v,m⟩⟩;simp[Builtin.append_,l,d,run_underlying q,I.sizeOf,I.typeInfo,I.zeroValue,h,p,g,f,a,b,Question.forced,newRow,grownCap];grind;simp[Builtin.append_,l,d,run_underlying q,run_underlying m,I.sizeOf,I.typeInfo,I.zeroValue,h,p,g,f,a,b,Question.forced,newRow,grownCap];grind;simp[Builtin.append_,l,d,run_underlying q,run_underlying m,I.sizeOf,I.typeInfo,I.zeroValue,h,p,g,f,a,b,Question.forced,newRow,grownCap];grind
theorem gN{t2 ty:TypeId}(I:vH P e t')(j:ts[0]?=some t)(p:P.underlying t=some (.slice t'))(l:ts[1]?=some t2)(m:P.underlying t2=some (.int .i64))(d:0<e.cells)(o:0<n)(h:n<2147483648):(Builtin.append_ ts ty #[.slice none 0 0,.int .i64 (n:Int)]).run P w=.ok (.slice (some ⟨w.heap.size,0,none⟩) n (grownCap w n 0 t')) (w.drew.alloc (.cells (([]:List Value)++((Builtin.zeroCells I.z.cells n).toList++(Builtin.zeroCells I.z.cells (grownCap w n 0 t'-n)).toList)).toArray t')):=by
 have b:Builtin.nextslicecap n 0*I.i.bytes<=281474976710656:=growslice_fits o (by have:=F1 (F3 h) I.bytes;omega);have hb:n*I.i.bytes<=281474976710656:=D1 (F1 (F3 h) I.bytes) (by simp);have f:¬ (281474976710656<Builtin.nextslicecap n 0*I.i.bytes):=by omega
 have k:¬ (9223372036854775807<(n:Int)):=by omega
 have q:IntKind.i64.wrap (n:Int)=n:=by grind[zB,IntKind.bits]
 have g:¬ ((n:Int)<0):=by omega
 have a:¬ (281474976710656<(n:Int)*(I.i.bytes:Int)):=by omega
 have r:¬ (n*e.cells=0):=by grind[Nat.mul_eq_zero]
 have c:¬ (n=0):=by omega
 simp[Builtin.append_,j,l,run_underlying p,run_underlying m,I.sizeOf,I.typeInfo,I.zeroValue,asInt,asIntOf,q,g,a,r,c,f,k,Question.forced,newRow,grownCap,Builtin.firstCells];exact cG (fun X=>w.drew.alloc (Obj.cells X t')) (Array.ext' (by simp))
end
theorem b2W(A:e.sh=e){O R}(h:AL m (.list true e) ((Src.one v).rd m)=some (l,O,R)):(v=.slice none 0 0/\l=[]/\O=[]/\R=[])\/∃b n c,∃cs:List Value,v=.slice (some b) n c/\(c=0\/b.spot=none)/\n<=c/\n=l.length/\O=(if c=0 then[]else[(b.block,b.off+c*e.cells)])/\cs.length=n*e.cells/\(∀j u,cs[j]?=some u->m b.block (b.off+j)=some u)/\(∀u∈cs,Cf u=true)/\Ak (fun i=>AL m e fun j=>cs[i*e.cells+j]?) n 0=some (l,[],R):=by(rcases Ct h with⟨k,x,y,z⟩|⟨b,n,c,a,k,hb,o,p,B⟩;simp_all[Src.rd];simp[Src.rd]at k;have g:Ak (fun i=>AL m e fun j=>m b.block (b.off+(i*e.cells+j))) n 0=some (l,a,R):=by simp_all[pW]);(have f:a=[]:=by have d:AL m (.arr n e) (fun j=>m b.block (b.off+j))=some (l,a,R):=g;exact RI (by simp_all[Ty.tO]) d);subst f;have⟨cs,q,r,t,w⟩:=TL g;refine .inr ⟨b,n,c,cs,k,hb,o,(AX n 0 p).symm,?_,q,r,t,w⟩;grind
theorem oX{m0:DU}{b:Addr}{c:Nat}{cs:List Value}{os R}(hb:c=0\/b.spot=none)(g:n<=c)(k:n*e.cells<=cs.length)(p:∀j u,j<n*e.cells->cs[j]?=some u->m b.block (b.off+j)=some u)(a:Ak (fun i=>AL m0 e fun j=>cs[i*e.cells+j]?) n 0=some (l,os,R))(o:∀c∈R,∀j,m c j=m0 c j)(d:∀c∈os.map (·.1),∀j,m c j=m0 c j:=by simp):AL m (.list true e) ((Src.one (.slice (some b) n c)).rd m)=some (l,if c=0 then[]else(b.block,b.off+c*e.cells)::os,R):=by
 have h:AL m (.arr n e) (fun j=>m b.block (b.off+j))=some (l,os,R):=AF (.arr n e) (show AL m0 (.arr n e) (fun j=>cs[j]?)=_ from a) (fun j f=>by
  have f:j<n*e.cells:=f;grind) (fun c j hb=>by
  grind)
 have h:Ak (fun i=>AL m e fun j=>m b.block (b.off+(i*e.cells+j))) n 0=some (l,os,R):=h;show Cq m true e.cells (AL m e) (some (.slice (some b) n c))=_;simp only[Cq];rw[if_pos ⟨hb,g⟩,h]
 simp;split;all_goals simp_all[Ak]
theorem qK{m:DU}:∀(p:BJ)(t:Ty)(s:Src){g s'},loc m t s p=some (g,s')->p≠[]->∃b o,s'=.at b o|[],_,_,_,_,_,j=>absurd rfl j|.fst::p,t,s,g,s',h,_=>(by obtain⟨a,d,f,k,rfl,rfl,h⟩:=MN h;cases p with|nil=>simp[Cl]at h;grind|cons x p=>exact qK (x::p) _ _ h (by simp))|.snd::p,t,s,g,s',h,_=>(by obtain⟨a,d,f,k,rfl,rfl,h⟩:=MO h;cases p with|nil=>simp[Cl]at h;grind|cons x p=>exact qK (x::p) _ _ h (by simp))|.idx i::p,t,s,g,s',h,_=>by rcases LK h with⟨n,q,f,k,rfl,rfl,e,h⟩|⟨q,a,n,c,rfl,l,e,h⟩;(cases p with|nil=>simp[Cl]at h;grind|cons x p=>exact qK (x::p) _ _ h (by simp));cases p with|nil=>simp[Cl]at h;grind|cons x p=>exact qK (x::p) _ _ h (by simp)
theorem Oq(r:Option sP):(U.sI n r).rt n=r:=by simp[AE.sI]
section
variable {P:Program} {B:Base} {N:Nat} {Z:Type} {U:AE} {a:Act} {w:World} {M:Gh}
structure xS (P:Program) (w:World) (m:DU) (Sh:Nat->Prop) (e:Ty) (ys:List e.sK) (x:Value) where
 cs:List Value
 len:(Builtin.lenOf x).run P w=.ok ys.length w
 size:cs.length=ys.length*e.cells
 one:∀u∈cs,Cf u=true
 R:List Nat
 rd:Ak (fun i=>AL m e fun j=>cs[i*e.cells+j]?) ys.length 0=some (ys,[],R)
 shr:∀c∈R,Sh c
 run:(Builtin.firstCells e.cells ys.length x).run P w=.ok cs.toArray w
 drew:(Builtin.firstCells e.cells ys.length x).run P w.drew=.ok cs.toArray w.drew
theorem sM.turn{K:AE->Rs Z}{z:Z}{l':List e.sK}{v':Value}{s R R' O2 R2}(h:sM B U N (AH a) w M)(hN:a.tmps.size=N)(P:U.look n=some r)(hl:loc (Af w M.ov) r.t (M.g n) p=some (.list true e,s))(hg:Dc r.t r.x p=⟨.list true e,l⟩)(hv:s.rd (Af w M.ov) 0=some v)(hd:AL (Af w M.ov) (.list true e) (s.rd (Af w M.ov))=some (l,R,R'))(h4:∀q∈R,q∈M.ow n)(k0:∀b o,s=.at b o->b∉R.map (·.1))(h7:AL (Af w2 none) (.list true e) ((Src.one v').rd (Af w2 none))=some (l',O2,R2))(g5:∀c j,Af w2 none c j=Af w none c j\/c∈R.map (·.1)\/w.heap.size<=c)(H:∀c∈O2.map (·.1),c∈R.map (·.1)\/w.heap.size<=c)(h0:(O2.map (·.1)).Nodup)(A:∀p∈O2,BY w2 p.1 p.2)(y:∀c k,BY w c k->BB M c->BY w2 c k)(L:w.heap.size<=w2.heap.size)(Y:∀b,b<B.size->¬ B.F b->w2.heap[b]?=B.hp b)(T:∀c∈R2,Ba B w M c)(D:(let u:=((U.sJ (AV.kill n p)).sI n (some ⟨r.bx,r.t,Fp r.t r.x p (.list true e) l'⟩)).set d (.sref n p)
   match p,r.bx with
   | [],false=>bif A6 (n<pinned)then K u else none
   |p,_=>match U.pd with
    |none=>K { u with pd:=some (n,p,d) }
    |some _=>none)=some z)(hio:Gr w2=Gr w:=by first|rfl|assumption):
  ∃u Q,sM B u N (AH (a.put (some d) v')) w2 Q/\K u=some z:=by
 have⟨C,P⟩:=AR P;have k1:=h.tC C;have E:∀c∈R2,c<w2.heap.size/\(B.S c\/B.F c\/B.size<=c)/\¬ BB M c/\c∉O2.map (·.1):=fun c I=>by
  have hs:=T c I;refine⟨C0 hs.1 L,hs.2.1,hs.2.2,fun g=>?_⟩;rcases H c g with g|g;obtain⟨q,hq,rfl⟩:=B6.1 g;exact hs.2.2 ⟨n,A3 (h4 q hq)⟩
  have:=hs.1;omega
 have top:p=[]->r.bx=false->∃u Q,sM B u N (AH (a.put (some d) v')) w2 Q/\K u=some z:=by
  intro hp X;subst hp;have⟨bx,t,x⟩:=r;simp only at X;subst X;simp[Dc,Em]at hg;cases hg;have D:(bif A6 (n<pinned)then K (((U.sJ (AV.kill n [])).sI n (some ⟨false,.list true e,Fp (.list true e) l [] (.list true e) l'⟩)).set d (.sref n []))else none)=some z:=D;have⟨h3,D⟩:=(Ai D).elim id fun h=>by grind
  have h3:n<pinned:=by simp_all
  have g6:Fp (.list true e) l [] (.list true e) l'=l':=pX _ _ _;replace D:K (((U.sJ (AV.kill n [])).sI n (some ⟨false,.list true e,l'⟩)).set d (.sref n []))=some z:=by
   simp_all
  have i:=h.top P h3 C (w':=w2) (v':=v') (l':=l') (by grind) (fun c j I hn=>by
    grind) (fun c I=>(H c I).imp (fun g=>by
     grind) id) h0 A y L Y E (f:=AV.kill n []) (fun av=>by
    cases av with
    |ptr m q=>
     simp only[AV.kill];by_cases hm:m=n
     ·subst hm;cases q with
      |nil=>simp
      |cons=>left;simp[Jd]
     simp_all
    |sref m q=>
     grind[AV.kill,Jd]
    |swin m q o k=>
     grind[AV.kill,Jd]
    |_=>exact .inr ⟨rfl,fun k q G _=>by rcases G with G|G|⟨_,_,G⟩<;>cases G⟩)
  refine⟨_,_,i.uN (sv:=.one (.sref n [])) (v:=v') hN (fun _=>⟨⟨false,.list true e,l'⟩,e,.one v',Oq _,?_,rfl⟩),D⟩;show some (_,if n=n then Src.one v' else _)=_
  simp
 have g0:(∃b o,s=.at b o)->K { (((U.sJ (AV.kill n p)).sI n (some ⟨r.bx,r.t,Fp r.t r.x p (.list true e) l'⟩)).set d (.sref n p))with pd:=some (n,p,d) }=some z->
   ∃u Q,sM B u N (AH (a.put (some d) v')) w2 Q/\K u=some z:=by
  rintro⟨b,o,rfl⟩ D;have hb:=h.place P hl;have V:BB M b:=⟨n,hb⟩;have g4:=h.lt V;have g2:b∉O2.map (·.1):=fun g=>by
   grind
  have g3:b∉R2:=fun g=>(T b g).2.2 V;have h9:∀c j,c≠b->Af w2 (some (b,o,v')) c j=Af w2 none c j:=fun c j I=>by
   simp_all[Af]
  have h8:AL (Af w2 (some (b,o,v'))) (.list true e) ((Src.at b o).rd (Af w2 (some (b,o,v'))))=some (l',O2,R2):=AF _ h7 (fun j hj=>by
   simp_all[Ty.cells,Src.rd,Af]) (fun c j I=>h9 c j fun e=>by
    simp_all)
  have⟨k3,k2,i⟩:=h.yV P hl hd (w':=w2) (ov':=some (b,o,v')) (pd':=some (n,p,d)) (.new d v' e C rfl) h8 (fun c j=>by
    by_cases I:c=b/\j=o;simp_all[Ty.cells];have e1:Af w2 (some (b,o,v')) c j=Af w2 none c j:=by
     simp_all[Af]
    grind) H h0 A y L Y E (f:=AV.kill n p) (fun av=>ZF n p _ av)
  have⟨g1,h5,G,h2⟩:=i.pend;exact⟨_,_,i.uN (sv:=.one (.sref n p)) (v:=v') hN (fun _=>⟨g1,h5,.at b o,G,h2,by simp[Src.rd,Af]⟩),D⟩
 cases p with
 |nil=>
  cases hb:r.bx with
  |false=>
   simp_all
  |true=>
   have O:(match U.pd with
    |none=>K { (((U.sJ (AV.kill n [])).sI n (some ⟨r.bx,r.t,Fp r.t r.x [] (.list true e) l'⟩)).set d (.sref n []))with pd:=some (n,[],d) }
    |some _=>none)=some z:=by
    simp_all
   rw[C]at O;refine g0 ?_ O;simp[Cl]at hl;obtain⟨g7,g9,-,-,-,-,-,h6⟩:=h.sep P;grind
 |cons x p=>
  have O:(match U.pd with
   |none=>K { (((U.sJ (AV.kill n (x::p))).sI n (some ⟨r.bx,r.t,Fp r.t r.x (x::p) (.list true e) l'⟩)).set d (.sref n (x::p)))with pd:=some (n,x::p,d) }
   |some _=>none)=some z:=D
  grind[qK]
theorem Ld(b:Nat):∀(h:List Value)(o:Nat)(w:World),Gr (w.setCells b o h)=Gr w|[],_,_=>rfl|v::r,o,w=>(Ld b r (o+1) (w.setCell ⟨b,o,none⟩ v)).trans rfl
theorem UR{z:Array Value}(n:Nat):Builtin.zeroCells z n=madeCells z (n*z.size):=rfl
theorem b4m(he:e.sh=e){ty:TypeId}(I:vH P e t')(h0:ts[0]?=some t)(H:P.underlying t=some (.slice t'))(h1:ts[1]?=none\/∃t2,ts[1]?=some t2/\(P.underlying t2=some .string\/∃e,P.underlying t2=some (.slice e))){s x:Value}{K:AE->Rs Z}{z:Z}(h:sM B U N (AH a) w M)(hN:a.tmps.size=N)(h7:Ay (Af w M.ov) M.g U.rt (Ba B w M) av s)(Y:xS P w (Af w M.ov) (Ba B w M) e ys x)(D:U.uI q d e av ys K=some z):
  ∃v w' T M',(Builtin.append_ ts ty #[s,x]).run P w=.ok v w'/\sM B T N (AH (a.put (some d) v)) w' M'/\K T=some z:=by

 have k8:∀(l:List e.sK)(n:Nat)(cs:List Value)(R:List Nat)(k0:List Value),cs.length=n*e.cells->Ak (fun i=>AL (Af w M.ov) e fun j=>cs[i*e.cells+j]?) n 0=some (l,[],R)->
   Ak (fun i=>AL (Af w M.ov) e fun j=>(cs++(Y.cs++k0)).toArray[i*e.cells+j]?) (n+ys.length) 0=some (C3 l ys,[],R++Y.R):=by
  intro l n cs R k0 hl E;simp only[C7];exact WG E hl Y.rd Y.size
 have a6:∀k,(Builtin.zeroCells I.z.cells k).size=k*e.cells:=fun k=>by rw[UR,size_madeCells,I.vB]
 have b9:∀A:Option Addr,s=.slice A 0 0->(bif AZ ys.length then U.fresh q d ⟨false,.list true e,ys⟩ fun U=>K (U.set d (.sref d []))else none)=some z->
   ∃v w' T M',(Builtin.append_ ts ty #[s,x]).run P w=.ok v w'/\sM B T N (AH (a.put (some d) v)) w' M'/\K T=some z:=by
  intro A hs D;subst hs;have⟨h3,D⟩:AZ ys.length=true/\_:=(Ai D).elim id fun h=>by grind
  simp[AZ]at h3;by_cases hk:ys.length=0
  ·have k9:Y.cs=[]:=A7.1 (by rw[Y.size,hk];omega);have hy:ys=[]:=A7.1 hk;have o:=Ig (P:=P) (w2:=w) (ty:=ty) I h0 H h1 (A:=A) (n:=0) (c:=0) Y.len Y.run (by omega) (fun b _=>by rw[k9];rfl) (fun _=>rfl);have⟨T,M',g1,g2,g3,g4,g5,g6⟩:=h.fresh D (fun _ _=>rfl) (B4 _) (s:=.one (.slice A (0+ys.length) 0)) (O:=[]) (by simp) (by simp) (by simp) ⟨[],[],by
    show Cq (Af w M.ov) true e.cells (AL (Af w M.ov) e) (some (.slice A (0+ys.length) 0))=some (ys,[],[]);rw[hk,hy];cases A with
    |none=>rfl
    |some b=>rfl,by simp,.inr ⟨rfl,⟨_,rfl⟩,⟨e,rfl⟩,rfl⟩⟩
   exact⟨_,w,_,M',o,g2.uN (sv:=.one (.sref d [])) hN (fun _=>⟨_,e,_,g3,by rw[g4];rfl,rfl⟩),g1⟩
  have h5:(Builtin.firstCells e.cells 0 (.slice A 0 0)).run P w.drew=.ok ([]:List Value).toArray w.drew:=by
   have:=Rt (P:=P) (w:=w) (w2:=w.drew) (e:=e) (v:=.slice A 0 0) (cs:=[]) rfl (fun _=>rfl) (by simp) (by simp) (fun _=>rfl) 0 (by omega)
   simp_all
  have o:=Oo (P:=P) (w:=w) (ty:=ty) I h0 H h1 (A:=A) (n:=0) (c:=0) Y.len Y.drew h5 (by omega) (by omega);have hg:=grownCap_ge w (0+ys.length) 0 t';obtain⟨T,M',g1,g2,g3,-,-⟩:=h.uW (c:=grownCap w (0+ys.length) 0 t') D (fun c E=>BF (w:=w.drew) _ c E) (BR (w:=w.drew) _)
   (Bt (w:=w.drew) (Obj.cells (([]:List Value)++(Y.cs++(Builtin.zeroCells I.z.cells (grownCap w (0+ys.length) 0 t'-(0+ys.length))).toList)).toArray t')) (.inl rfl) (by
    have:(([]:List Value)++(Y.cs++(Builtin.zeroCells I.z.cells (grownCap w (0+ys.length) 0 t'-(0+ys.length))).toList)).length=grownCap w (0+ys.length) 0 t'*e.cells:=by
     simp only[E9,lN,Y.size,E5,a6];rw[<-C5];simp_all
    simp_all) (by omega) (by
    have:=k8 [] 0 [] [] (Builtin.zeroCells I.z.cells (grownCap w (0+ys.length) 0 t'-(0+ys.length))).toList (by simp) rfl
    simp_all) Y.shr
  refine⟨_,_,_,M',o,g2.uN (sv:=.one (.sref d [])) hN (fun _=>?_),g1⟩;rw[C2]at g3|-;exact g3
 unfold AE.uI at D;split at D;have h7:s=.slice none 0 0:=h7;simp_all;have⟨A,hv⟩:=h7;simp_all
 ·rename_i n p;obtain⟨-,D⟩:q=false/\_:=by
   by_cases hq:q;rw[hq]at D;simp at D;exact⟨by simp_all,(Ai D).elim (fun h=>absurd h.1 hq) (·.2)⟩
  split at D
  ·rename_i r hr;have⟨b6,b7⟩:=AR hr;have g0:=h.tC b6;split at D
   ·rename_i e' l hg;split at D
    ·rename_i b3;subst b3;have⟨h3,D⟩:AZ (C4 l+ys.length)=true/\_:=(Ai D).elim id fun h=>by grind
     simp[AZ]at h3;have⟨s',O',R',f1,f2,f3,f4,f5,f6,f7,f8⟩:=h.own h7 b7 hg;have g7:∀c∈R'++Y.R,Ba B w M c:=fun c E=>(mA.1 E).elim (f5 c) (Y.shr c);have k6:∀c∈O'.map (·.1),BB M c:=fun c E=>by
      obtain⟨q,hq,rfl⟩:=B6.1 E;exact⟨n,A3 (f6 q hq)⟩

     have g9:∀(A:Option Addr)(f c:Nat)(cs:List Value),s=.slice A f c->f=C4 l->cs.length=f*e.cells->(∀b,A=some b->∀j u,cs[j]?=some u->w.cell? (b.add j)=some u)->(A=none->f=0)->
       Ak (fun i=>AL (Af w M.ov) e fun j=>cs[i*e.cells+j]?) f 0=some (l,[],R')->c<f+ys.length->
       ∃v w' T M',(Builtin.append_ ts ty #[s,x]).run P w=.ok v w'/\sM B T N (AH (a.put (some d) v)) w' M'/\K T=some z:=by
      intro A f c cs hs a4 F C k5 Q b4;subst hs;have h5:(Builtin.firstCells e.cells f (.slice A f c)).run P w.drew=.ok cs.toArray w.drew:=by
       have:=Rt (P:=P) (w:=w) (w2:=w.drew) (e:=e) (v:=.slice A f c) (cs:=cs) rfl (fun _=>rfl) F C k5 f (B4 _)
       grind
      have o:=Oo (P:=P) (w:=w) (ty:=ty) I h0 H h1 (A:=A) (n:=f) (c:=c) Y.len Y.drew h5 b4 (by omega);have k4:=grownCap_ge w (f+ys.length) c t';generalize hw2:w.drew.alloc _=w2 at o;generalize hgc:grownCap w (f+ys.length) c t'=gc at o k4;have h6:∀c,c<w.heap.size->w2.heap[c]?=w.heap[c]?:=fun c E=>by rw[<-hw2];exact BF (w:=w.drew) _ c E
      have G:=Bt (w:=w.drew) (.cells (cs++(Y.cs++(Builtin.zeroCells I.z.cells (gc-(f+ys.length))).toList)).toArray t');have G:w2.heap[w.heap.size]?=some (.cells (cs++(Y.cs++(Builtin.zeroCells I.z.cells (gc-(f+ys.length))).toList)).toArray t'):=by
       rw[<-hw2,hgc];simp_all
      have a5:w.heap.size<=w2.heap.size:=by grind
      have a2:(cs++(Y.cs++(Builtin.zeroCells I.z.cells (gc-(f+ys.length))).toList)).length=gc*e.cells:=by
       simp[F,Y.size,a6];rw[<-C5,<-C5];grind
      have h2:=oX (m:=Af w2 none) (m0:=Af w M.ov) (b:=⟨w.heap.size,0,none⟩) (n:=f+ys.length) (c:=gc) (cs:=cs++(Y.cs++(Builtin.zeroCells I.z.cells (gc-(f+ys.length))).toList)) (.inr rfl) k4 (by
        rw[a2];exact D3 _ k4) (fun j u _ H=>by
        simp only[Af,C2,World.cell?,G];grind) (by
        have:=k8 l f cs R' (Builtin.zeroCells I.z.cells (gc-(f+ys.length))).toList F Q
        simpa only[C7]using this) (fun c E j=>by
        rw[g0];exact BE none (h6 c (g7 c E).1) j)
      have a3:gc≠0:=by omega
      rw[if_neg a3]at h2;have k3:∀c k,BY w c k->BY w2 c k:=fun c k hf=>by
       have⟨cc,e1,lo,hi,g1,g2⟩:=hf;exact⟨cc,e1,lo,hi,by grind,g2⟩
      have⟨T,M',k1,k2⟩:=h.turn (w2:=w2) hN hr f1 hg f2 f3 f6 f8 h2 (fun c j=>by
        grind[BE]) (fun c E=>by
        grind) (by simp) (fun p hp=>by
        simp only[List.mem_singleton]at hp;subst hp;exact⟨_,t',0,0,G,by grind,.inl rfl⟩) (fun c k hf _=>k3 c k hf) a5 (fun b hb hF=>by
        have:=h.size
        rw[h6 b (by omega)];exact h.frame b hb hF) g7 D (hio:=by rw[<-hw2];rfl)
      grind
     rcases b2W he f4 with⟨hs,b5,c0,a8⟩|⟨b,f,c,cs,hs,hb,c2,a4,hO,F,C,b8,Q⟩;by_cases hk:ys.length=0;have k9:Y.cs=[]:=A7.1 (by rw[Y.size,hk];omega);have hy:ys=[]:=A7.1 hk;have o:=Ig (P:=P) (w2:=w) (ty:=ty) I h0 H h1 (A:=none) (n:=0) (c:=0) Y.len Y.run (by omega) (fun b hb=>by grind) (fun _=>rfl);subst hs;have⟨T,M',k1,k2⟩:=h.turn (w2:=w) (v':=.slice none (0+ys.length) 0) (O2:=[]) (R2:=[]) (l':=C3 l ys) hN hr f1 hg f2 f3 f6 f8 (by
       grind[C3]) (fun c j=>.inl rfl) (by simp) (by simp) (by simp) (fun _ _ hf _=>hf) (B4 _) h.frame (by simp) D
     grind;exact g9 none 0 0 [] hs (by grind) (by simp) (by simp) (fun _=>rfl) (by rw[b5,a8];rfl) (by omega)
     ·have h8:∀b',some b=some b'->∀j u,cs[j]?=some u->w.cell? (b'.add j)=some u:=fun b' V j u H=>by
       simp at V;subst V;have b0:c≠0:=fun e0=>by
        grind
       rw[WC (hb.resolve_left b0)]
       have:=C j u H
       rw[g0]at this;exact this
      by_cases hfit:f+ys.length<=c
      ·
       let w2:=w.setCells b.block (b.off+f*e.cells) Y.cs
       have h4:c≠0->BY w b.block (b.off+c*e.cells):=fun E=>h.live n (b.block,b.off+c*e.cells) (f6 _ (by grind));have k7:Y.cs≠[]->c≠0/\b.off+f*e.cells+Y.cs.length<=b.off+c*e.cells:=fun y=>by
        have:ys.length≠0:=fun e0=>y (A7.1 (by rw[Y.size,e0];omega))
        refine⟨by omega,?_⟩
        have:=D3 e.cells hfit
        rw[C5,<-Y.size]at this;omega
       have a7:(storeCells (b.add (f*e.cells)) Y.cs).run P w=.ok () w2:=by
        by_cases y:Y.cs=[];simp[w2,y];rfl;have⟨E,c1⟩:=k7 y;rw[FC (hb.resolve_left E)]
        have:=run_storeCells_cells (P:=P) b.block (b.off+f*e.cells) Y.cs 0 w (fun j hj=>((h4 E).cell (by omega)).1) (fun j hj=>((h4 E).cell (by omega)).2) (fun u H=>LL (Y.one u H))
        omega
       have h9:∀L j,w2.cell? ⟨L,j,none⟩=if L=b.block/\b.off+f*e.cells<=j/\j<b.off+f*e.cells+Y.cs.length then Y.cs[j-(b.off+f*e.cells)]? else w.cell? ⟨L,j,none⟩:=fun L j=>by
        by_cases y:Y.cs=[];simp only[w2,y,World.setCells,E3];grind;grind[Lb]
       have o:=Ig (P:=P) (w2:=w2) (ty:=ty) I h0 H h1 (A:=some b) (n:=f) (c:=c) Y.len Y.run hfit (fun b' V=>by
        grind) (fun hn=>by grind)
       have S:∀L,L≠b.block->w2.heap[L]?=w.heap[L]?:=fun L X=>Eo _ _ _ _ _ X;have a9:Y.cs≠[]->b.block∈O'.map (·.1):=fun y=>by grind
       have h2:=oX (m:=Af w2 none) (m0:=Af w M.ov) (b:=b) (n:=f+ys.length) (c:=c) (cs:=cs++(Y.cs++[])) (l:=C3 l ys) (R:=R'++Y.R) hb hfit (by
         simp only[lN,F,Y.size,E3];grind) (fun j u hj H=>by
         simp only[Af,h9];by_cases hj2:j<f*e.cells;rw[if_neg (by omega)];rw[A8 (by omega)]at H
         have:=C j u H
         rw[g0]at this;exact this;rw[C5,<-Y.size]at hj;rw[if_pos ⟨trivial,by omega,by omega⟩];rw[B9 (by omega),G4,F]at H;rw[<-H];congr 1;omega) (by
         have:=k8 l f cs R' [] F Q
         simpa only[C7]using this) (fun L X j=>by
         rw[g0];by_cases y:Y.cs=[];grind[World.setCells];exact BE none (S L fun e1=>(g7 L X).2.2 (by grind)) j)
       rw[<-hO]at h2;subst hs;have⟨T,M',k1,k2⟩:=h.turn (w2:=w2) hN hr f1 hg f2 f3 f6 f8 h2 (fun L j=>by
         grind[World.setCells,BE]) (fun L X=>.inl X) f7 (fun p hp=>(h.live n p (f6 p hp)).setCells _ _ _) (fun _ _ hf _=>hf.setCells _ _ _) (by rw[IL];simp) (fun b' V hF=>by
         by_cases y:Y.cs=[];simp[w2,y,World.setCells];exact h.frame b' V hF
         ·rw[S b' ?_];exact h.frame b' V hF
          ·rintro rfl;rcases h.mine _ (k6 _ (a9 y))with g|g;all_goals grind) g7 D (hio:=Ld _ _ _ _)
       grind
      exact g9 (some b) f c cs hs a4 F h8 (by simp) Q (by omega)
    simp_all
   simp_all
  simp_all
 simp_all
end
theorem b2X{O R}(h:AL m (.list true e) ((Src.one v).rd m)=some (l,O,R)):∃A n c,∃cs:List Value,∃os,v=.slice A n c/\n=l.length/\n<=c/\cs.length=n*e.cells/\(∀u∈cs,Cf u=true)/\Ak (fun i=>AL m e fun j=>cs[i*e.cells+j]?) n 0=some (l,os,R)/\(∀b,A=some b->(c=0\/b.spot=none)/\O=(if c=0 then[]else(b.block,b.off+c*e.cells)::os)/\∀j u,cs[j]?=some u->m b.block (b.off+j)=some u)/\(A=none->c=0)/\(c=0->O=[]/\os=[]/\R=[]):=by
 rcases Ct h with⟨f,rfl,rfl,rfl⟩|⟨b,n,c,os,f,hb,p,q,z⟩;simp[Src.rd]at f;exact⟨none,0,0,[],[],f,rfl,B4 _,by simp,by simp,rfl,by simp,fun _=>rfl,fun _=>⟨rfl,rfl,rfl⟩⟩;simp[Src.rd]at f;have a:Ak (fun i=>AL m e fun j=>m b.block (b.off+(i*e.cells+j))) n 0=some (l,os,R):=by simp_all[pW]
 have⟨cs,r,B,t,w⟩:=TL a;have d:c=0->os=[]/\R=[]:=fun k=>by simp_all[Ak]
 have y:O=if c=0 then[]else(b.block,b.off+c*e.cells)::os:=by grind
 exact⟨some b,n,c,cs,os,f,(AX n 0 q).symm,p,r,t,w,fun x o=>by simp_all,fun g=>(by grind),fun k=>⟨by simp_all,(d k).1,(d k).2⟩⟩
section
variable {P:Program} {B:Base} {N:Nat} {Z:Type} {U:AE} {a:Act} {w:World} {M:Gh}
theorem sM.one{tm}(h:sM B U N tm w M){n}(d:U.rt n=some ⟨false,.list true e,l⟩):∃v R,M.g n=.one v/\AL (Af w M.ov) (.list true e) ((Src.one v).rd (Af w M.ov))=some (l,M.ow n,R)/\∀c∈R,Ba B w M c:=by obtain⟨i,R,f,a,-,-,-,b⟩:=h.sep d;rcases b with⟨g,-⟩|⟨-,⟨v,k⟩,-,hO⟩;grind;rw[k]at f;exact⟨v,R,k,by rw[hO];exact f,a⟩
theorem qL{m:Nat}{es:Ty}(e4:e.sh=es){ty:TypeId}(I:vH P es t')(h0:ts[0]?=some t)(hu:P.underlying t=some (.slice t'))(h1:ts[1]?=none\/∃t2,ts[1]?=some t2/\(P.underlying t2=some .string\/∃e,P.underlying t2=some (.slice e))){s x:Value}{K:AE->Rs Z}{z:Z}(h:sM B U N (AH a) w M)(hN:a.tmps.size=N)(e6:M.g n=.one s)(e5:M.g m=.one x)(hm:U.rt m=some ⟨false,.list true e,ys⟩)(hz:U.wU d m e ys n K=some z):
  ∃v w' U' M',(Builtin.append_ ts ty #[s,x]).run P w=.ok v w'/\sM B U' N (AH (a.put (some d) v)) w' M'/\K U'=some z:=by
 have a8:es.cells=e.cells:=by rw[<-e4,Ty.sZ]
 unfold AE.wU at hz;split at hz;rotate_left;cases hz;rename_i e' l hl;split at hz;rotate_left;cases hz;rename_i e3;subst e3;have⟨c7,hr⟩:=AR hl;have⟨C,hz⟩:=(Ai hz).elim id fun h=>by cases h.2
 simp only[bA,AZ,dT,E6,beq_eq_false_iff_ne]at C;have⟨⟨f7,h3⟩,hlim⟩:=C;have h9:=h.tC c7;have⟨s',Rn,g1,g2,g3⟩:=h.one hr;rw[e6]at g1;cases g1;have⟨x',Rm,f1,f2,f3⟩:=h.one hm;rw[e5]at f1;cases f1;have⟨An,S,cn,g0,h7,hs,f4,f6,k4,i3,f9,a5,g5,k5⟩:=b2X g2;have⟨Am,k0,cm,r,h6,hx,f0,c6,X,i0,c8,g9,h8,b5⟩:=b2X f2;subst hs;subst hx;have c9:∀{A:Option Addr}{cs:List Value}{c:Nat}{O os:CI},(∀b,A=some b->(c=0\/b.spot=none)/\O=(if c=0 then[]else(b.block,b.off+c*e.cells)::os)/\∀j u,cs[j]?=some u->Af w M.ov b.block (b.off+j)=some u)->(∃n,cs.length=n*e.cells/\n<=c)->
   ∀b,A=some b->∀j u,cs[j]?=some u->w.cell? (b.add j)=some u:=fun {A cs c O os} hA ⟨n,hl,k7⟩ b hb j u hu=>by
  obtain⟨q1,-,q2⟩:=hA b hb;have a7:c≠0:=fun e0=>by
   have:=(lS.1 hu).1
   rw[hl,show n=0 from by omega,Nat.zero_mul]at this;omega
  rw[WC (q1.resolve_left a7)]
  have:=q2 j u hu
  rw[h9]at this;exact this
 have g7:∀(w2:World),(∀x,w2.cell? x=w.cell? x)->∀{A:Option Addr}{cs:List Value}{n c:Nat}{O os:CI},(∀b,A=some b->(c=0\/b.spot=none)/\O=(if c=0 then[]else(b.block,b.off+c*e.cells)::os)/\∀j u,cs[j]?=some u->Af w M.ov b.block (b.off+j)=some u)->
   cs.length=n*e.cells->n<=c->(A=none->c=0)->(Builtin.firstCells es.cells n (.slice A n c)).run P w2=.ok cs.toArray w2:=fun w2 hw A cs n c O os hA hl k7 h0=>by
  have:=Rt (P:=P) (w:=w) (w2:=w2) (e:=e) (v:=.slice A n c) rfl hw hl (c9 hA ⟨n,hl,k7⟩) (fun g=>by have:=h0 g;omega) n (B4 _)
  rw[<-hl,F7]at this;rw[a8];exact this
 have k8:(Builtin.lenOf (.slice Am k0 cm)).run P w=.ok k0 w:=rfl;have a2:∀b9,Ak (fun i=>AL (Af w M.ov) e fun j=>(g0++(r++b9))[i*e.cells+j]?) (S+k0) 0=some (C3 l ys,h7++h6,Rn++Rm):=fun b9=>WG f9 k4 c8 X;have a4:∀p∈h7,p∈M.ow n:=fun p D=>by
  by_cases e0:cn=0;rw[(k5 e0).2.1]at D;cases D
  ·cases hA:An with
   |none=>exact absurd (g5 hA) e0
   |some b=>rw[(a5 b hA).2.1,if_neg e0];exact A4 _ D
 have h5:∀p∈h6,p∈M.ow m:=fun p D=>by
  by_cases e0:cm=0;rw[(b5 e0).2.1]at D;cases D
  ·cases hA:Am with
   |none=>exact absurd (h8 hA) e0
   |some b=>rw[(g9 b hA).2.1,if_neg e0];exact A4 _ D
 have b3:∀p∈h7++h6,p∈M.ow n\/p∈M.ow m:=fun p D=>(mA.1 D).imp (a4 p) (h5 p);have b7:∀c∈(h7++h6).map (·.1),BB M c:=fun c C=>by
  obtain⟨p,D,rfl⟩:=B6.1 C;rcases b3 p D with g|g;exact⟨n,A3 g⟩;exact⟨m,A3 g⟩
 have d5:(h7.map (·.1)).Nodup:=by
  have:=h.nodup n
  by_cases e0:cn=0;rw[(k5 e0).2.1];simp
  ·cases hA:An with
   |none=>exact absurd (g5 hA) e0
   |some b=>rw[(a5 b hA).2.1,if_neg e0]at this;exact(A9.1 this).2
 have d4:(h6.map (·.1)).Nodup:=by
  have:=h.nodup m
  by_cases e0:cm=0;rw[(b5 e0).2.1];simp
  ·cases hA:Am with
   |none=>exact absurd (h8 hA) e0
   |some b=>rw[(g9 b hA).2.1,if_neg e0]at this;exact(A9.1 this).2
 have d3:((h7++h6).map (·.1)).Nodup:=by
  rw[pA];refine C1.2 ⟨d5,d4,fun c C L Q e=>?_⟩;subst e;obtain⟨p,D,rfl⟩:=B6.1 C;have⟨p',f8,e⟩:=B6.1 Q;exact h.sV n m h3 p.1 (A3 (a4 p D)) (by rw[<-e];exact A3 (h5 p' f8))
 have a3:∀c∈Rn++Rm,Ba B w M c:=fun c C=>(mA.1 C).elim (g3 c) (f3 c)

 have c0:∀{w2:World}{v':Value}{O2:CI},AL (Af w2 none) (.list true e) ((Src.one v').rd (Af w2 none))=some (C3 l ys,O2,Rn++Rm)->
   (∀c j,c<w.heap.size->c∉(M.ow n).map (·.1)->Af w2 none c j=Af w none c j)->(∀c∈O2.map (·.1),(c∈(M.ow n).map (·.1)\/c∈(M.ow m).map (·.1))\/w.heap.size<=c)->(O2.map (·.1)).Nodup->
   (∀p∈O2,BY w2 p.1 p.2)->(∀c k,BY w c k->BB M c->BY w2 c k)->w.heap.size<=w2.heap.size->(∀b,b<B.size->¬ B.F b->w2.heap[b]?=B.hp b)->Gr w2=Gr w->
   ∃U' M',sM B U' N (AH (a.put (some d) v')) w2 M'/\K U'=some z:=by
  intro w2 v' O2 q1 q2 q3 q4 q5 q6 q7 q8 q9;have b8:=h.yP (w':=w2) (v':=v') (l':=C3 l ys) (O2:=O2) (R2:=Rn++Rm) (G:=fun j=>j==m) hr f7 c7 (by simpa using h3) (by rw[h9];exact q1) (fun c j c1 c2 _=>by rw[h9];exact q2 c j c1 c2)
   (fun c C=>(q3 c C).imp (fun g=>g.imp id fun g=>⟨m,by simp,g⟩) id) q4 q5 q6 q7 q8 (fun c C=>by
    have hs:=a3 c C;refine⟨C0 hs.1 q7,hs.2.1,hs.2.2,fun g=>?_⟩;rcases q3 c g with(g|g)|g;exact hs.2.2 ⟨n,g⟩;exact hs.2.2 ⟨m,g⟩
    have:=hs.1;omega) (f:=fun av=>(av.kill n []).drop m) (fun av=>by
    have d7:(∀k q,(av=.ptr k q\/av=.sref k q\/∃o l,av=.swin k q o l)->False)->(av.kill n []).drop m=av->(av.kill n []).drop m=.dead\/((av.kill n []).drop m=av/\∀k q,(av=.ptr k q\/av=.sref k q\/∃o l,av=.swin k q o l)->(k=n->av=.ptr n [])/\(k==m)=false):=
     fun h1 h2=>.inr ⟨h2,fun k q hk=>(h1 k q hk).elim⟩
    cases av with
    |sref k q=>
     by_cases E:k=n;left;simp[AV.kill,AV.drop,E,Jd];by_cases e2:k=m;left;simp[AV.kill,AV.drop,e2,Ne.symm h3];right;simp[AV.kill,AV.drop,E,e2]
    |swin k q o l=>
     by_cases E:k=n;left;simp[AV.kill,AV.drop,E,Jd];by_cases e2:k=m;left;simp[AV.kill,AV.drop,e2,Ne.symm h3];right;simp[AV.kill,AV.drop,E,e2]
    |ptr k q=>
     by_cases e2:k=m;left;by_cases E:k=n;exact absurd (E.symm.trans e2) h3;simp[AV.kill,AV.drop,e2,Ne.symm h3]
     ·by_cases E:k=n
      ·cases q with
       |nil=>right;simp[AV.kill,AV.drop,E,h3,Jd]
       |cons=>left;simp[AV.kill,AV.drop,E,Jd]
      right;simp[AV.kill,AV.drop,E,e2]
    |_=>exact d7 (by rintro k q (g|g|⟨_,_,g⟩)<;>cases g) rfl) q9
  have d8:(⟨(U.sJ fun av=>(av.kill n []).drop m).sl,fun j=>if j=n then some ⟨false,.list true e,C3 l ys⟩else bif j==m then none else U.rt j,none⟩:AE) =
    (((U.sJ (AV.kill n [])).sJ (AV.drop m)).sI m none).sI n (some ⟨false,.list true e,C3 l ys⟩):=by
   simp only[AE.sI,AE.sJ,c7];congr 1;funext j;cases U.sl j<;>simp[SV.sJ];funext j;by_cases E:j=n;simp[E];have e2:(j==n)=false:=by simpa using E
   simp[E,e2]
  rw[d8]at b8;refine⟨_,_,b8.uN (sv:=.one (.sref n [])) (v:=v') hN (fun _=>⟨_,e,.one v',Oq _,?_,rfl⟩),hz⟩;show some (_,if n=n then Src.one v' else _)=_
  rw[if_pos rfl]
 by_cases hfit:S+k0<=cn
 ·cases hA:An with
  |none=>
   have a7:=g5 hA;have c5:k0=0:=by omega
   have d2:S=0:=by omega
   have e9:C3 l ys=[]:=by
    have E:l=[]:=A7.1 (by omega);have e2:ys=[]:=A7.1 (by omega);rw[E,e2];rfl
   have i2:r=[]:=A7.1 (by rw[X,c5];omega);have d9:Rm=[]:=by
    subst c5;simp only[Ak,sj,pJ]at c8;exact c8.2.2.symm
   have V:=Ig (P:=P) (w:=w) (w2:=w) (ty:=ty) (A:=none) (n:=S) (c:=cn) (k:=k0) (new:=r) I h0 hu h1 k8 (g7 w (fun _=>rfl) g9 X c6 h8) hfit (fun b hb=>by cases hb) (fun _=>rfl);have⟨U',M',k1,k2⟩:=c0 (w2:=w) (v':=.slice none (S+k0) cn) (O2:=[]) (by
    rw[e9,c5,d2,a7,(k5 a7).2.2,d9];rfl) (fun _ _ _ _=>rfl) (by simp) (by simp) (by simp) (fun _ _ hf _=>hf) (B4 _) h.frame rfl
   exact⟨_,w,U',M',V,k1,k2⟩
  |some b=>
   have⟨hb,hO,c3⟩:=a5 b hA;have⟨w2,H⟩:∃w2,w2=w.setCells b.block (b.off+S*e.cells) r:=⟨_,rfl⟩;have g4:cn≠0->BY w b.block (b.off+cn*e.cells):=fun C=>h.live n (b.block,b.off+cn*e.cells) (by rw[hO,if_neg C];simp);have h4:r≠[]->cn≠0/\b.off+S*e.cells+r.length<=b.off+cn*e.cells:=fun y=>by
    have:k0≠0:=fun e0=>y (A7.1 (by rw[X,e0];omega))
    refine⟨by omega,?_⟩
    have:=D3 e.cells hfit
    rw[C5,<-X]at this;omega
   have b4:(storeCells (b.add (S*es.cells)) r).run P w=.ok () w2:=by
    rw[a8,H];by_cases y:r=[];simp only[y];rfl;have⟨C,k7⟩:=h4 y;rw[FC (hb.resolve_left C)]
    have:=run_storeCells_cells (P:=P) b.block (b.off+S*e.cells) r 0 w (fun j hj=>((g4 C).cell (by omega)).1) (fun j hj=>((g4 C).cell (by omega)).2) (fun u hu=>LL (i0 u hu))
    simpa using this
   have a9:∀L j,w2.cell? ⟨L,j,none⟩=if L=b.block/\b.off+S*e.cells<=j/\j<b.off+S*e.cells+r.length then r[j-(b.off+S*e.cells)]? else w.cell? ⟨L,j,none⟩:=fun L j=>by
    rw[H];by_cases y:r=[];simp only[y,World.setCells,E3];rw[if_neg (by omega)];have⟨C,k7⟩:=h4 y;exact Lb _ _ _ w _ (g4 C) k7 L j
   have V:=Ig (P:=P) (w:=w) (w2:=w2) (ty:=ty) (A:=some b) (n:=S) (c:=cn) (k:=k0) (new:=r) I h0 hu h1 k8 (g7 w (fun _=>rfl) g9 X c6 h8) hfit (fun b' k3=>by
    simp only[sj]at k3;subst k3;exact b4) (fun hn=>by cases hn)
   have g6:∀L,L≠b.block->w2.heap[L]?=w.heap[L]?:=fun L Q=>by rw[H];exact Eo _ _ _ _ _ Q
   have a6:r≠[]->b.block∈(M.ow n).map (·.1):=fun y=>by rw[hO,if_neg (h4 y).1];simp
   have k9:∀L,(r≠[]->L≠b.block)->∀j,Af w2 none L j=Af w M.ov L j:=fun L Q j=>by
    rw[h9];by_cases y:r=[];rw[H,y];rfl;exact BE none (g6 L (Q y)) j
   have b0:=oX (m:=Af w2 none) (m0:=Af w M.ov) (b:=b) (n:=S+k0) (c:=cn) (cs:=g0++(r++[])) (l:=C3 l ys) (os:=h7++h6) (R:=Rn++Rm) hb hfit (by
     simp only[lN,k4,X,E3];rw[C5];omega) (fun j u hj hu=>by
     simp only[Af,a9];by_cases hj2:j<S*e.cells;rw[if_neg (by omega)];rw[A8 (by omega)]at hu
     have:=c3 j u hu
     rw[h9]at this;exact this;rw[C5,<-X]at hj;rw[if_pos ⟨trivial,by omega,by omega⟩];rw[B9 (by omega),G4,k4]at hu;rw[<-hu];congr 1;omega) (a2 []) (fun L Q j=>k9 L (fun y E=>(a3 L Q).2.2 ⟨n,by rw[E];exact a6 y⟩) j) (fun L Q j=>k9 L (fun y E=>by
     obtain⟨p,D,rfl⟩:=B6.1 Q;rcases mA.1 D with D|D
     have:=h.nodup n
     rw[hO,if_neg (h4 y).1,B7,A9]at this;exact this.1 (by show b.block∈_;rw[<-E];exact A3 D);exact h.sV n m h3 b.block (a6 y) (by rw[<-E];exact A3 (h5 p D))) j)
   have d0:∀p∈(if cn=0 then[]else(b.block,b.off+cn*e.cells)::(h7++h6)),p∈M.ow n\/p∈M.ow m:=fun p D=>by
    split at D;cases D;rename_i C;rcases mC.1 D with rfl|D;left;rw[hO,if_neg C];simp;exact b3 p D
   have⟨U',M',k1,k2⟩:=c0 (w2:=w2) b0 (fun L j Q f5=>by
     have:=k9 L (fun y E=>f5 (by rw[E];exact a6 y)) j
     rw[h9]at this;exact this) (fun L Q=>by
     obtain⟨p,D,rfl⟩:=B6.1 Q;exact .inl ((d0 p D).imp A3 A3)) (by
     split
     simp
     rename_i C;rw[B7,A9];refine⟨fun g=>?_,d3⟩;have⟨p,D,E⟩:=B6.1 g;have E:p.1=b.block:=E;rcases mA.1 D with D|D
     have:=h.nodup n
     rw[hO,if_neg C,B7,A9]at this;exact this.1 (by show b.block∈_;rw[<-E];exact A3 D);exact h.sV n m h3 b.block (by rw[hO,if_neg C];simp) (by rw[<-E];exact A3 (h5 p D))) (fun p D=>by
     have:BY w p.1 p.2:=(d0 p D).elim (h.live n p) (h.live m p)
     rw[H];exact this.setCells _ _ _) (fun _ _ hf _=>by rw[H];exact hf.setCells _ _ _) (by rw[H,IL];exact B4 _) (fun b' k3 hF=>by
     by_cases y:r=[];rw[H,y];exact h.frame b' k3 hF;rw[g6 b' ?_];exact h.frame b' k3 hF;rintro rfl;rcases h.mine _ ⟨n,a6 y⟩with g|g;exact hF g;omega) (by rw[H];exact Ld _ _ _ _)
   exact⟨_,w2,U',M',V,k1,k2⟩
 have e7:cn<S+k0:=by omega
 have V:=Oo (P:=P) (w:=w) (ty:=ty) (A:=An) (n:=S) (c:=cn) (k:=k0) (old:=g0) (new:=r) I h0 hu h1 k8 (g7 w.drew (fun _=>rfl) g9 X c6 h8) (g7 w.drew (fun _=>rfl) a5 k4 f6 g5) e7 (by rw[f4,f0];exact hlim);have c4:=grownCap_ge w (S+k0) cn t';generalize H:w.drew.alloc _=w2 at V;generalize hgc:grownCap w (S+k0) cn t'=gc at V c4;have T:∀c,c<w.heap.size->w2.heap[c]?=w.heap[c]?:=fun c C=>by rw[<-H];exact BF (w:=w.drew) _ c C
 have Y:=Bt (w:=w.drew) (.cells (g0++(r++(Builtin.zeroCells I.z.cells (gc-(S+k0))).toList)).toArray t');have Y:w2.heap[w.heap.size]?=some (.cells (g0++(r++(Builtin.zeroCells I.z.cells (gc-(S+k0))).toList)).toArray t'):=by
  rw[<-H,hgc];exact Y
 have d6:w.heap.size<=w2.heap.size:=by rw[<-H];exact BR (w:=w.drew) _
 have i1:∀k,(Builtin.zeroCells I.z.cells k).size=k*e.cells:=fun k=>by rw[UR,size_madeCells,I.vB,a8]
 have b6:(g0++(r++(Builtin.zeroCells I.z.cells (gc-(S+k0))).toList)).length=gc*e.cells:=by
  simp only[lN,k4,X,E5,i1];rw[<-C5,<-C5];congr 1;omega
 have b0:=oX (m:=Af w2 none) (m0:=Af w M.ov) (b:=⟨w.heap.size,0,none⟩) (n:=S+k0) (c:=gc) (cs:=g0++(r++(Builtin.zeroCells I.z.cells (gc-(S+k0))).toList)) (os:=h7++h6) (.inr rfl) c4 (by
   rw[b6];exact D3 _ c4) (fun j u _ hu=>by
   simp only[Af,C2,World.cell?,Y];simpa using hu) (a2 _) (fun c C j=>by
   rw[h9];exact BE none (T c (a3 c C).1) j) (fun c C j=>by
   rw[h9];exact BE none (T c (h.lt (b7 c C))) j)
 have d1:gc≠0:=by omega
 rw[if_neg d1]at b0;have k6:∀c k,BY w c k->BY w2 c k:=fun c k hf=>by
  have⟨cc,E,lo,hi,g1,g2⟩:=hf;exact⟨cc,E,lo,hi,by rw[T c (Array.getElem?_eq_some_iff.1 g1).1];exact g1,g2⟩
 have⟨U',M',k1,k2⟩:=c0 (w2:=w2) b0 (fun c j C _=>BE none (T c C) j) (fun c C=>by
   rw[B7,mC]at C;rcases C with C|C;exact .inr (by have C:c=w.heap.size:=C;omega);obtain⟨p,D,rfl⟩:=B6.1 C;exact .inl ((b3 p D).imp A3 A3)) (by
   rw[B7,A9];refine⟨fun g=>?_,d3⟩
   have:=h.lt (b7 _ g)
   exact absurd this (Nat.lt_irrefl _)) (fun p D=>by
   rcases mC.1 D with rfl|D;exact⟨_,t',0,0,Y,by show 0+gc*e.cells<=_;rw[F5,b6];omega,.inl rfl⟩;exact k6 _ _ ((b3 p D).elim (h.live n p) (h.live m p))) (fun c k hf _=>k6 c k hf) d6 (fun b hb hF=>by
   have:=h.size
   rw[T b (by omega)];exact h.frame b hb hF) (by rw[<-H];rfl)
 exact⟨_,w2,U',M',by rw[<-a8]at *;exact V,k1,k2⟩
theorem b4n{m:Nat}{q:BJ}(h:U.sN y=.sref m q)(g:d≠m):(U.uM d r).sN y=.sref m q:=by unfold AE.uM;split;exact h;cases y with|tmp t=>((have e:(m==d)=false:=by grind);simp[AE.sN,AE.get,AE.sI,AE.sJ]at h|-;grind[SV.sJ,AV.drop])|_=>exact h
theorem sM.xR{tm}(h:sM B U N tm w M){k:Nat}(a:U.rt k=some r)(hb:r.bx=false)(hv:Ay (Af w M.ov) M.g U.rt (Ba B w M) (.sref k []) v):M.g k=.one v:=by have⟨l,j,m,b,c,e⟩:=hv;rw[a]at b;cases b;simp[Cl]at c;obtain⟨i,R,-,-,d⟩:=(h.roots k r a).rd;rcases d with⟨g,-⟩|⟨-,⟨n,f⟩,-⟩;simp_all;rw[<-c.2,f]at e;simp_all[Src.rd]
theorem b4o{m:Nat}{C:Ty}(c:e.sh=C){ty:TypeId}(I:vH P C t')(D:ts[0]?=some t)(G:P.underlying t=some (.slice t'))(E:ts[1]?=none\/∃t2,ts[1]?=some t2/\(P.underlying t2=some .string\/∃e,P.underlying t2=some (.slice e))){s:Value}{K:AE->Rs Z}{z:Z}(h:sM B U N (AH a) w M)(F:a.tmps.size=N)(k:Ay (Af w M.ov) M.g U.rt (Ba B w M) av s)(p:Cj N y=true)(L:U.sN y=.sref m [])(i:U.look m=some ⟨false,.list true e,ys⟩)(f:U.yB d m e ys av K=some z):∃v w' A M',(Builtin.append_ ts ty #[s,a.eval y]).run P w=.ok v w'/\sM B A N (AH (a.put (some d) v)) w' M'/\K A=some z:=by
 have⟨T,i⟩:=AR i;unfold AE.yB at f;split at f;have k:s=.slice none 0 0:=k;subst k;rcases Ai f with⟨-,g⟩|⟨b,f⟩;cases g;have b:d≠m:=by simpa using b
 have⟨Q,Y,V,u,k3,X,k5,x⟩:=h.fresh f (fun _ _=>rfl) (B4 _) (s:=.one (.slice none 0 0)) (O:=[]) (by simp) (by simp) (by simp) ⟨[],[],rfl,by simp,.inr ⟨rfl,⟨_,rfl⟩,⟨e,rfl⟩,rfl⟩⟩;have j:Q.rt m=some ⟨false,.list true e,ys⟩:=by(have R:(m==d)=false:=by simpa using Ne.symm b);rw[x];unfold AE.uM;split<;>simp[AE.sI,AE.sJ,R,i]
 have o:=u.sN p;rw[x,b4n L b,<-x]at o;exact qL c I D G E u F X (u.xR j rfl o) j V;rename_i n;have H:=h.sN p;rw[L]at H;have r:∃l,U.rt n=some ⟨false,.list true e,l⟩:=by unfold AE.wU at f;split at f;rename_i e' l S;split at f;rename_i q;subst q;exact⟨l,(AR S).2⟩;cases f;cases f
 have⟨l,r⟩:=r;exact qL c I D G E h F (h.xR r rfl k) (h.xR i rfl H) i f;simp_all
theorem VH.news{m Sh}(h:VH w m Sh e l v):Nonempty (xS P w m Sh e l v):=by obtain⟨A,n,c,cs,hv,hn,hlen,hone,⟨R,g,a⟩,hc,hnone,-⟩:=h;have f:=Rt (P:=P) (w:=w) (w2:=w) (e:=e) hv (fun _=>rfl) hlen hc hnone n (B4 _);have k:=Rt (P:=P) (w:=w) (w2:=w.drew) (e:=e) hv (fun _=>rfl) hlen hc hnone n (B4 _);rw[<-hlen,F7]at f k;refine⟨⟨cs,?_,by simp_all,hone,R,by simp_all,a,by simp_all,by simp_all⟩⟩;rw[hv,<-hn];rfl
theorem b6B{m Sh}(s:ByteArray){l:List (Ty.int .u8).sK}(e:l=(s.data.toList.map fun b=>(b.toNat:Int):List Int)):Nonempty (xS P w m Sh (.int .u8) l (.string s)):=by
 have k:(s.data.toList.map fun b=>(b.toNat:Int)).length=s.size:=by simp
 have g:l.length=s.size:=(cG C4 e).trans k;have a:∀w:World,(Builtin.firstCells (Ty.int .u8).cells s.size (.string s)).run P w=.ok (s.data.toList.map fun b=>Value.int .u8 (b.toNat:Int)).toArray w:=fun w=>by(have o:s.extract 0 s.size=s:=by simp);simp only[Builtin.firstCells,o,Sem.run_pure];congr 1;grind
 refine⟨⟨s.data.toList.map fun b=>Value.int .u8 (b.toNat:Int),?_,?_,?_,[],?_,by simp,?_,?_⟩⟩;rw[g];rfl;rw[g,List.length_map];show s.data.toList.length=s.size*1
 simp;intro u n;obtain⟨b,-,rfl⟩:=B6.1 n;rfl;have c:∀(l:List UInt8)(h:List Value)(i:Nat),h.length=i->Ak (fun i=>AL m (.int .u8) fun j=>(h++l.map fun b=>Value.int .u8 (b.toNat:Int))[i*(Ty.int .u8).cells+j]?) l.length i =some ((l.map fun b=>(b.toNat:Int):List Int),[],[]):=by intro l;induction l with|nil=>intro h i _;rfl|cons b l p=>(intro h i q;have d:=p (h++[Value.int .u8 (b.toNat:Int)]) (i+1) (by grind);simp at d;have f:(h++(b::l).map fun b=>Value.int .u8 (b.toNat:Int))[i*(Ty.int .u8).cells+0]?=some (.int .u8 (b.toNat:Int)):=by show(h++_)[i*1+0]?=_;simp_all);simp only[lC,Ak];rw[show AL m (.int .u8) (fun j=>(h++(b::l).map fun b=>Value.int .u8 (b.toNat:Int))[i*(Ty.int .u8).cells+j]?)=some ((b.toNat:Int),[],[])from by simp only[AL];rw[f];rfl];simp only[B7];rw[d];rfl
 have:=c s.data.toList [] 0 rfl;rw[g];rw[show s.data.toList.length=s.size from rfl]at this;rw[e];exact this;all_goals simp_all
theorem b0O{t2 ty:TypeId}{K:AE->Rs Z}{z:Z}(I:vH P e t')(y:ts[0]?=some t)(E:P.underlying t=some (.slice t'))(A:ts[1]?=some t2)(C:P.underlying t2=some (.int .i64))(b:0<e.cells)(h:sM B U N (AH a) w M)(D:a.tmps.size=N)(l:U.uI q d e .nils (C6 n e.dflt) K=some z):∃v w' o M',(Builtin.append_ ts ty #[.slice none 0 0,.int .i64 (n:Int)]).run P w=.ok v w'/\sM B o N (AH (a.put (some d) v)) w' M'/\K o=some z:=by
 simp only[AE.uI]at l;have⟨f,l⟩:AZ (C6 n e.dflt).length=true/\_:=(Ai l).elim id fun h=>by grind
 simp[AZ]at f;by_cases hk:n=0;subst hk;have g:(Builtin.append_ ts ty #[.slice none 0 0,.int .i64 ((0:Nat):Int)]).run P w=.ok (.slice none 0 0) w:=by have L:IntKind.i64.wrap (0:Int)=0:=rfl;simp[Builtin.append_,y,A,run_underlying E,run_underlying C,I.sizeOf,I.typeInfo,asInt,asIntOf,L]
 have⟨o,M',r,u,p,F,S,T⟩:=h.fresh l (fun _ _=>rfl) (B4 _) (s:=.one (.slice none 0 0)) (O:=[]) (by simp) (by simp) (by simp) ⟨[],[],by rfl,by simp,.inr ⟨rfl,⟨_,rfl⟩,⟨e,rfl⟩,rfl⟩⟩;exact⟨_,w,_,M',g,u.uN (sv:=.one (.sref d [])) D (fun _=>⟨_,e,_,p,by rw[F];rfl,rfl⟩),r⟩;have g:=gN (P:=P) (w:=w) (ty:=ty) I y E A C b (n:=n) (by omega) f;have V:=grownCap_ge w n 0 t';have x:∀k,(Builtin.zeroCells I.z.cells k).size=k*e.cells:=fun k=>by rw[UR,size_madeCells,I.vB]
 have Q:Ak (fun i=>AL (Af w M.ov) e fun j=>(Builtin.zeroCells I.z.cells n).toList[i*e.cells+j]?) n 0=some (C6 n e.dflt,[],[]):=by have:=qE (m:=Af w M.ov) I.zok I.vB n;rw[UR,I.vB];simp_all
 have H:(C6 n e.dflt).length=n:=List.length_replicate;obtain⟨o,M',r,u,p,-,-⟩:=h.uW (c:=grownCap w n 0 t') l (fun c G=>BF (w:=w.drew) _ c G) (BR (w:=w.drew) _) (Bt (w:=w.drew) (Obj.cells (([]:List Value)++((Builtin.zeroCells I.z.cells n).toList++(Builtin.zeroCells I.z.cells (grownCap w n 0 t'-n)).toList)).toArray t')) (.inl rfl) (by
  have:(([]:List Value)++((Builtin.zeroCells I.z.cells n).toList++(Builtin.zeroCells I.z.cells (grownCap w n 0 t'-n)).toList)).length=grownCap w n 0 t'*e.cells:=by simp[x];rw[<-C5];simp_all
  simp_all) (by omega) (R:=[]) (by
  have:=WG (m:=Af w M.ov) (e:=e) (l1:=[]) (l2:=C6 n e.dflt) (cs1:=[]) (cs2:=(Builtin.zeroCells I.z.cells n).toList) (rest:=(Builtin.zeroCells I.z.cells (grownCap w n 0 t'-n)).toList) (n1:=0) (n2:=n) (o1:=[]) (o2:=[]) (R1:=[]) (R2:=[]) rfl (by simp) Q (by simp_all);simp_all) (by simp)
 rw[H]at p;exact⟨_,_,_,M',g,u.uN (sv:=.one (.sref d [])) D (fun _=>p),r⟩
theorem a7o{o:Oper}{c:Call}{d:Nat}{cx:Cx}{q:Bool}{K:AE->Rs Z}{z:Z}(C:CxTy P cx)(ho:o.op=.call c)(hb:c.callee=.builtin .append)(hd:o.dst=some d)
  (h:sM B U N (AH a) w M)(hN:a.tmps.size=N)(hf:fits N o=true)(b:Bc cx q o U K=some z):AT P B N o a w K z:=by
 have⟨cs,r⟩:=Yd (P:=P) (a:=a) (w:=w) ho hb;have hl:∃x y,c.args.toList=[x,y]:=by
  cases hl:c.args.toList with
  |nil=>simp_all[Bc,AE.uP]
  |cons x l=>
   cases l with
   |nil=>simp_all[Bc,AE.uP]
   |cons y l=>
    cases l with
    |nil=>simp
    |cons u l=>simp_all[Bc,AE.uP]
 have⟨x,y,S⟩:=hl;have h5:c.args=#[x,y]:=by grind
 have i:=Ye ho hb hf;rw[S]at i;have R:=h.sN (i x (by simp));have hy:=h.sN (i y (by simp));simp[Bc,ho,hd,hb,S,AE.uP]at b;rcases Ai b with⟨h8,b⟩|⟨-,b⟩;rotate_left;rw[cI]at b;split at b;rename_i e F j;unfold b6r at j;split at j;rename_i t t2 rr n Q h6 h7;split at j;rename_i o2 e2 L h4;rcases Ai j with⟨hc,j⟩|⟨-,g⟩;cases j;simp at hc;have⟨h9,A⟩:=C.T t _ L;have⟨t',hu,E,D⟩:=BQ A;have⟨I⟩:=AK (AS E);have h0:c.argTypes[0]?=some t:=by rw[<-B8,Q];rfl
 have h1:c.argTypes[1]?=some t2:=by rw[<-B8,Q];rfl
 have h2:P.underlying t2=some (.int .i64):=by
  have A:=(C.T t2 _ h4).2;simp[AQ]at A;grind
 rw[h6]at R;obtain R:a.eval x=.slice none 0 0:=R;rw[h7]at hy;have hy:=Ay.int hy;have⟨v,X,H,G,k1,k2,V⟩:=b0O (ty:=o.type) I h0 hu h1 h2 D h hN b;rw[Int.toNat_of_nonneg hc.1]at k1;refine⟨v,X,H,G,.inl (r.trans ?_),by simp_all,V⟩;simp_all[builtin];simp_all;simp_all;simp_all;simp_all;have h1:=a7n C h8;split at b
 ·rename_i o' e L;have⟨t,ht,L⟩:=D5.1 L;have O:c.argTypes[0]?=some t:=by
   rw[<-B8];cases hl:c.argTypes.toList with
   |nil=>simp_all
   |cons y l=>simp_all
  have⟨h9,A⟩:=C.T t _ L;have⟨t',hu,E,D⟩:=BQ A;have⟨I⟩:=AK (AS E);have he:e.sh=e:=by
   simp_all[Ty.sh]
  have h3:∀F,Nonempty (xS P w (Af w M.ov) (Ba B w M) e F (a.eval y))->U.uI q d e (U.sN x) F K=some z->AT P B N o a w K z:=by
   rintro F ⟨Y⟩ b;have⟨v,X,H,G,k1,k2,V⟩:=b4m (ty:=o.type) he I O hu h1 h hN R Y b;refine⟨v,X,H,G,.inl (r.trans ?_),by simp_all,V⟩;simp_all[builtin]
  split at b;grind[Ay.str,b6B]
  ·split at b
   ·rename_i m e' F f;have g0:=b;cases q with
    |true=>simp_all
    |false=>
     cases hel:e.isList with
     |false=>simp_all
     |true=>
      rw[hel]at f;have f:U.ownB e (U.sN y)=some (m,⟨e',F⟩):=f;have g1:U.sN y=.sref m []/\U.look m=some ⟨false,.list true e',F⟩/\e'.sh=e:=by
       revert f;cases U.sN y with
       |sref k p=>
        cases p with
        |cons=>simp_all[AE.ownB]
        |nil=>
         intro f;simp[AE.ownB]at f;grind
       |_=>intro f;simp[AE.ownB]at f
      have⟨k1,k2,V⟩:=g1;have⟨v,X,H,G,j1,j2,j3⟩:=b4o (ty:=o.type) V I O hu h1 h hN R (i y (by simp)) k1 k2 g0;exact⟨v,X,H,G,.inl (r.trans (by simp_all[builtin])),by simp_all,j3⟩
   have⟨l,b,hE⟩:=h.elems he hy b;exact h3 l hE.news b
 simp_all
end
theorem b6C(n:Nat)(av:AV):AV.kill n [] av=.dead\/(AV.kill n [] av=av/\∀k q,(av=.ptr k q\/av=.sref k q\/∃o l,av=.swin k q o l)->k=n->av=.ptr n []):=by cases av with|ptr m q=>(simp only[AV.kill];by_cases hm:m=n;(subst hm;cases q with|nil=>simp|cons=>left;simp[Jd]);simp_all)|sref m q=>grind[AV.kill,Jd]|swin m q o k=>grind[AV.kill,Jd]|_=>exact .inr ⟨rfl,fun k q h _=>by rcases h with h|h|⟨_,_,h⟩<;>cases h⟩
section
variable {P:Program} {B:Base} {N:Nat} {Z:Type} {U:AE} {a:Act} {w:World} {M:Gh}
theorem a7p{o:Oper}{x:Operand}{d:Nat}{cx:Cx}{q:Bool}{K:AE->Rs Z}{z:Z}(Q:o.op=.assign x)(V:o.dst=some d)
  (h:sM B U N (AH a) w M)(Y:a.tmps.size=N)(hf:fits N o=true)(m:Bc cx q o U K=some z):AT P B N o a w K z:=by
 have S:=h.sN (Bg hf x (by simp[Q,Op.operands]));have y:(execOp a.eval o).run P w=.ok (.value (a.eval x)) w:=by simp[execOp,Q]
 simp[Bc,Q,V]at m;have C:∀av,U.sN x=av->K (U.set d av)=some z->AT P B N o a w K z:=fun av u m=>AT.set V Y y h (u▸S) m;split at m
 case h_2=>
  rename_i c vs D;cases x with
  |tmp t=>
   have D:U.sl t=.cmp c vs:=D;have ht:t<N:=by have:=Bg hf (.tmp t) (by simp[Q,Op.operands]);simpa[Cj]using this
   have h5:=h.slots t ht;rw[D]at h5;exact⟨_,w,_,M,.inl y,by rw[V];exact h.uN Y (fun _=>h5),m⟩
  |_=>cases D
 rename_i vx H;have H:vx=U.sN x:=by
  cases x with
  |tmp t=>
   have H:U.sl t=.one vx:=H;simp_all[AE.sN,AE.get]
  |_=>exact(SV.one.inj H).symm
 subst H;unfold AE.yS at m;split at m;rename_i r u;split at m;rename_i t x0 hl;have⟨F,X⟩:=AR hl;rcases Ai m with⟨-,m⟩|⟨R,m⟩;simp_all;rcases Ai m with⟨-,m⟩|⟨-,m⟩;simp_all;have⟨g0,m⟩:=(Ai m).elim id fun h=>by grind
 have g0:d<pinned:=by simp_all
 have k8:r≠d:=by
  simp_all
 have h1:=h.drop (n:=d) (by simp_all);have g5:((U.sJ (AV.drop d)).sI d none).rt r=some ⟨false,t,x0⟩:=by
  grind[AE.sI,AE.sJ]
 have h2:=h1.rename g5 (d:=d) (Oq _) (fun i b e _=>by omega) (by simp_all[AE.sI,AE.sJ]);have hΓ:((((U.sJ (AV.drop d)).sI d none).sJ (AV.ren r d)).sI r none).sI d (some ⟨false,t,x0⟩)=(((U.sJ (AV.drop d)).sJ (AV.ren r d)).sI r none).sI d (some ⟨false,t,x0⟩):=by
  simp only[AE.sI,AE.sJ];grind
 rw[hΓ]at h2;rw[u]at S;have⟨r',e',s',g1,g2,g3⟩:=S;rw[X]at g1;simp at g1;subst g1;simp[Cl]at g2;have E:loc (Af w M.ov) t (if d=d then M.g r else M.g d) []=some (.list true e',s'):=by
  show some (t,if d=d then M.g r else _)=_
  simp_all
 have h3:=h2.uN (sv:=.one (.sref d [])) (v:=a.eval x) (d:=d) Y (fun _=>⟨⟨false,t,x0⟩,e',s',Oq _,E,g3⟩);exact⟨_,w,_,_,.inl y,by rw[V];exact h3,m⟩;simp_all
 ·rename_i r k u;split at m
  ·rename_i e l hl;have⟨F,X⟩:=AR hl;rcases Ai m with⟨R,m⟩|⟨-,m⟩
   ·simp only[bA,beq_iff_eq]at R;obtain⟨rfl,-⟩:=R;have⟨O,m⟩:=(Ai m).elim id fun h=>by grind
    simp at O;replace O:=O.symm;rw[u]at S;have⟨s,O',R',a0,n0,c,f1,f2,f3,f4,f5,f6,I,hv,f7,f8⟩:=h.window S X (show Dc (.list true e) l []=⟨.list true e,l⟩from rfl);rw[C2]at f6;rw[Nat.sub_zero]at hv;have k9:=h.tC F;simp[Cl]at f1;have⟨O1,R1,k1,k2,k3,k4,k5,k6⟩:=h.sep X;rw[f1]at k1;have h9:AL (Af w M.ov) (.list true e) (s.rd (Af w M.ov))=some (l,O',R'):=AF _ f3 (fun j hj=>by
     have g4:j=0:=by simp_all[Ty.cells]
     subst g4;rw[f2];rfl) (fun _ _ _=>rfl)
    rw[h9]at k1;simp at k1;obtain⟨rfl,rfl⟩:=k1;have g6:∃T R2,AL (Af w M.ov) (.list true e) ((Src.one (.slice I k c)).rd (Af w M.ov))=some (E2 k l,T,R2)/\(∀p∈T,p∈O')/\(T.map (·.1)).Nodup/\(∀c∈R2,c∈R'):=by
     rcases Ct f3 with⟨D,k0,-,-⟩|⟨A,n1,c1,os,D,hA,hn,h7,Q⟩
     ·simp[Src.rd]at D;obtain⟨rfl,rfl,rfl⟩:=D;have hk:k=0:=by omega
      subst hk;refine⟨[],[],?_,by simp,by simp,by simp⟩;show Cq (Af w M.ov) true e.cells (AL (Af w M.ov) e) (some (.slice I 0 0))=some (([]:List e.sK),[],[]);cases I with
      |none=>rfl
      |some b=>rfl
     ·simp[Src.rd]at D;obtain⟨rfl,rfl,rfl⟩:=D;rw[show n0=k+(n0-k)from by omega]at h7;obtain⟨g7,g9,a2,a3,j1,-,rfl,rfl⟩:=FA k _ 0 h7;have k7:=k3.nodup;by_cases L:c=0
      ·subst L;have hk:k=0:=by omega
       subst hk;refine⟨[],[],?_,by simp,by simp,by simp⟩;show Cq (Af w M.ov) true e.cells (AL (Af w M.ov) e) (some (.slice I 0 0))=some (([]:List e.sK),[],[]);cases I with
       |none=>rfl
       |some b=>rfl
      ·rcases Q with⟨h0,-⟩|⟨-,Q⟩;omega
       ·have h8:I=some ⟨A.block,A.off,none⟩:=by
         simp_all[FC]
        subst h8;refine⟨(A.block,A.off+c*e.cells)::g7,g9,ZD (a:=⟨A.block,A.off,none⟩) rfl rfl (by omega) L j1,?_,?_,fun c L=>D2 _ L⟩;all_goals grind
    have⟨T,R2,j1,j2,j3,j4⟩:=g6;have h6:∀p∈T,p∈M.ow r:=fun p hp=>by
     simp_all
    have G:∀c∈T.map (·.1),c∈(M.ow r).map (·.1):=fun c L=>by
     grind
    have h4:=h.top X O.2 F (w':=w) (v':=.slice I k c) (l':=E2 k l) j1 (fun _ _ _ _=>rfl) (fun c L=>.inl (G c L)) j3 (fun p hp=>h.live r p (h6 p hp)) (fun _ _ hf _=>hf) (B4 _) h.frame
     (fun c L=>by
      have D:=f4 c (j4 c L);exact⟨D.1,D.2.1,D.2.2,fun g=>D.2.2 ⟨r,G c g⟩⟩) (f:=AV.kill r []) (b6C r)
    have E:loc (Af w M.ov) (.list true e) (if r=r then Src.one (.slice I k c)else M.g r) []=some (.list true e,.one (.slice I k c)):=by
     show some (_,if r=r then Src.one _ else _)=_
     simp
    have h3:=h4.uN (sv:=.one (.sref r [])) (v:=a.eval x) (d:=r) Y (fun _=>⟨⟨false,.list true e,E2 k l⟩,e,.one (.slice I k c),Oq _,E,by rw[hv];rfl⟩);exact⟨_,w,_,_,.inl y,by rw[V];exact h3,m⟩
   exact C _ u m
  exact C _ u m
 rename_i u;split at m;rename_i t x0 hl;have⟨F,X⟩:=AR hl;rcases Ai m with⟨-,m⟩|⟨-,m⟩;exact C _ u m;exact AT.set V Y y (h.drop (n:=d) (by simp[F])) (av:=.nils) (by rw[u]at S;exact S) m;exact C _ u m;exact C _ rfl m
end
theorem sM.move{B U N tm w M}(h:sM B U N tm w M){n r p ε b o y O1 R1}(hr:U.rt n=some r)(hl:loc (Af w M.ov) r.t (M.g n) p=some ((.list true ε),.at b o))(hy:AL (Af w M.ov) (.list true ε) ((Src.at b o).rd (Af w M.ov))=some (y,O1,R1)){m0:Nat}{y':List ε.sK}(c3:U.rt m0=some ⟨false,(.list true ε),y'⟩)(c1:M.g m0=.one v)(Q:m0≠n)(b3:U.pd=none){f:AV->AV}(hf:∀a,f a=.dead\/(f a=a/\b2T n p (.list true ε) a/\∀k q,(a=.ptr k q\/a=.sref k q\/∃o l,a=.swin k q o l)->k≠m0)):
  ∃z,sM B (((U.sJ f).sI m0 none).sI n (some ⟨r.bx,r.t,Fp r.t r.x p (.list true ε) y'⟩)) N tm (w.setCell ⟨b,o,none⟩ v) ⟨M.g,z,none⟩:=by
 have c5:M.ov=none:=h.tC b3;have⟨O2,R2,i1,i2,i3,i4,i5,i6⟩:=h.sep c3;have i6:M.ow m0=O2:=by
  simp_all
 rw[c1]at i1;have⟨D,g7⟩:∃D,D=w.setCell ⟨b,o,none⟩ v:=⟨_,rfl⟩;rw[<-g7];have k9:b∈(M.ow n).map (·.1):=h.place hr hl;have a6:=h.room hr hl;have a9:(Ty.list true ε).cells=1:=rfl;have a3:∀c j,Af D none c j=if c=b/\j=o then some v else Af w M.ov c j:=fun c j=>by
  rw[c5,g7];simp[Af];by_cases I:c=b/\j=o;obtain⟨rfl,rfl⟩:=I
  have:=(a6.cell (o:=j) (by omega)).1
  grind[E7,World.cell?_setCell_same];rw[if_neg I,World.cell?_setCell_other];grind
 have c8:∀c j,Af D none c j=Af w M.ov c j\/(c=b/\o<=j/\j<o+(Ty.list true ε).cells)\/c∈O1.map (·.1)\/w.heap.size<=c:=fun c j=>by
  grind
 have c7:AL (Af D none) (.list true ε) ((Src.at b o).rd (Af D none))=some (y',O2,R2):=by
  refine AF _ i1 (fun j hj=>?_) (fun c j C=>?_);simp_all[Src.rd];rw[a3,if_neg];rintro⟨rfl,-⟩;rcases C with C|C;exact h.sV n m0 (Ne.symm Q) c k9 (i4 c C);exact(i2 c C).2.2 ⟨n,k9⟩
 have h0:∀c∈O2.map (·.1),c∈(M.ow m0).map (·.1):=i4;have c4:(O2.map (·.1)).Nodup:=i3.nodup;have O:∀c k,BY w c k->BB M c->BY D c k:=fun c k hf _=>by rw[g7];exact hf.setCell _ _
 have c2:∀p∈O2,BY D p.1 p.2:=fun p hp=>by
  rw[<-i6]at hp;exact O _ _ (h.live m0 p hp) ⟨m0,A3 hp⟩
 have b6:w.heap.size<=D.heap.size:=by simp_all
 have b9:∀b,b<B.size->¬ B.F b->D.heap[b]?=B.hp b:=fun c C hF=>by
  rw[g7,MR,if_neg];exact h.frame c C hF
  ·rintro rfl;rcases h.mine c ⟨n,k9⟩with g|g;all_goals grind
 have⟨O',R,h1,h2,h3,h4,h5,h6⟩:=h.sep hr;have⟨y1,d3,d4,A1,B1,d1,d2,hd,hg,I,e2⟩:=BT p r.t _ h1 hl;rw[hy]at hd;simp at hd;obtain⟨rfl,rfl,rfl⟩:=hd;have d5:∀c,c∈O1.map (·.1)->c∈(M.ow n).map (·.1):=fun c C=>h4 c (by grind);have hb:b∈(M.ow n).map (·.1):=h.place hr hl;have a8:c4G (Af w M.ov) (Af D none) (M.g n) O' R b o (Ty.list true ε).cells O1:=fun c j=>by
  grind
 have⟨A,B',R',e3,h7,h8⟩:=b0A p r.t (M.g n) h1 hl hy c7 h3 a8

 have T:∀c j,c∉(M.ow n).map (·.1)->c<w.heap.size->Af D none c j=Af w M.ov c j:=fun c j C d7=>by
  grind
 have S:∀m,m≠n->∀c j,c∈(M.ow m).map (·.1)->Af D none c j=Af w M.ov c j:=fun m hm c j C=>
  T c j (h.sV m n hm c C) (h.lt ⟨m,C⟩)
 have b5:∀c j,Ba B w M c->Af D none c j=Af w M.ov c j:=fun c j C=>T c j (fun g=>C.2.2 ⟨n,g⟩) C.1

 let on:CI:=match r.bx with|true=>(match M.g n with|.at b0 _=>[(b0,r.t.cells)]|_=>[])++(A++(O2++B'))|false=>A++(O2++B')
 let z:Nat->CI:=fun m=>if m=n then on else if m=m0 then[]else M.ow m
 have k0:z n=on:=by grind
 have H:∀m,m≠n->m≠m0->z m=M.ow m:=fun m hm d8=>by grind
 have d0:z m0=[]:=by grind
 have k7:∀c,c∈on.map (·.1)->c∈(M.ow n).map (·.1)\/c∈O2.map (·.1):=by
  grind
 have P:∀c,(∃m,c∈(z m).map (·.1))->BB M c:=by
  rintro c ⟨m,hm⟩;by_cases e:m=n;subst e;rw[k0]at hm;rcases k7 c hm with g|g;exact⟨m,g⟩;exact⟨m0,h0 c g⟩;by_cases Y:m=m0;grind;rw[H m e Y]at hm;exact⟨m,hm⟩
 have a7:∀c,Ba B w M c->Ba B D ⟨M.g,z,none⟩ c:=fun c ⟨g1,g2,g3⟩=>⟨C0 g1 b6,g2,fun g4=>g3 (P c g4)⟩;have c6:∀c∈R2,Ba B D ⟨M.g,z,none⟩ c:=fun c C=>a7 c (i2 c C)

 have k6:∀m q L tq s,U.rt m=some L->loc (Af w M.ov) L.t (M.g m) q=some (tq,s)->(m=n->∀d,q=p++d->d=[]\/(Ty.list true ε).tO=(Ty.list true ε))->
   loc (Af D none) L.t (M.g m) q=some (tq,s)/\∀e,tq=.list true e->(m=n->∀d,q=p++d->(Ty.list true ε).tO=(Ty.list true ε))->s.rd (Af D none) 0=s.rd (Af w M.ov) 0:=by
  intro m q L tq s hrm G hq;by_cases e:m=n;subst e;rw[hr]at hrm;simp at hrm;subst hrm
  have:=UJ p q r.t (M.g m) h1 hl hy h3 a8 (hq rfl) G
  refine⟨this.1,fun e ht g9=>this.2 e s (by grind) (fun d he=>?_)⟩;have hp:=g9 rfl d he;grind[Ty.tO]
  ·obtain⟨Om,Rm,g1,g2,g3,g4,g5,-⟩:=h.sep hrm;have g0:∀j,j<L.t.cells->(M.g m).rd (Af D none) j=(M.g m).rd (Af w M.ov) j:=fun j _=>by
    cases es:M.g m with
    |one v=>rfl
    |_=>rename_i b' o';exact S m e b' _ (g5 _ _ es)
   refine⟨CW q L.t _ g1 G g0 (fun c j C=>S m e c j (g4 c C)),fun Y ht _=>?_⟩;rw[ht]at G;exact Rq g1 G g0 (fun c j C=>S m e c j (g4 c C))
 have a2:∀a v,Ay (Af w M.ov) M.g U.rt (Ba B w M) a v->Ay (Af D none) M.g (fun j=>bif j==n then some ⟨r.bx,r.t,Fp r.t r.x p (Ty.list true ε) y'⟩else bif j==m0 then none else U.rt j) (Ba B D ⟨M.g,z,none⟩) (f a) v:=by
  intro a v ha;rcases hf a with g|⟨g,hk,d6⟩;rw[g];trivial
  ·rw[g];refine ha.frame b5 a7 fun m q L tq s h9 hrm G=>?_
   have hq:m=n->∀d,q=p++d->d=[]\/(Ty.list true ε).tO=(Ty.list true ε):=by
    intro e d he;rcases h9 with rfl|rfl|⟨o',l',rfl⟩;exact hk e d he;exact .inr (hk e d he);exact .inr (hk e d he)
   have hp:=k6 m q L tq s hrm G hq;refine⟨if m=n then⟨r.bx,r.t,Fp r.t r.x p (Ty.list true ε) y'⟩else L,?_,?_,?_⟩
   grind
   ·by_cases e:m=n;all_goals grind
   intro u g9 hu;rcases h9 with rfl|rfl|⟨o',l',rfl⟩;grind;have⟨r0,e0,s0,k1,k2,k3⟩:=ha;rw[hrm]at k1;simp at k1;subst k1;rw[G]at k2;simp at k2;rw[hp.2 e0 k2.1 (fun e d he=>hk e d he)];omega;have⟨r0,e0,s0,a0,l0,c0,k1,k2,k3⟩:=ha;rw[hrm]at k1;simp at k1;subst k1;rw[G]at k2;simp at k2;rw[hp.2 e0 k2.1 (fun e d he=>hk e d he)];omega
 have a5:∀i b,B.pin i=some b->(bif pinned+i==n then some (sP.mk r.bx r.t (Fp r.t r.x p (Ty.list true ε) y'))else bif pinned+i==m0 then none else U.rt (pinned+i))≠none->M.g (pinned+i)=b:=fun i b hb g9=>by
  refine h.pins i b hb fun e=>g9 ?_
  by_cases Y:pinned+i=n;grind;have b8:(pinned+i==n)=false:=by grind
  rw[b8,e];simp
 refine⟨z,?_,?_,?_,?_,?_,?_,?_,D1 h.size b6,b9,?_,a5,by rw[g7];exact h.still⟩
 ·intro m L hrm;by_cases e:m=n;subst e;simp[AE.sI]at hrm;subst hrm;refine⟨_,R',h7,fun c C=>?_,?_⟩;grind;rcases h6 with⟨V,b0,hs,ho⟩|⟨V,hs,ht,ho⟩;grind;grind
  ·have I:m≠m0:=by
    rintro rfl;have Y:(m==n)=false:=by grind
    simp[AE.sI,Y,AE.sJ]at hrm
   have b4:U.rt m=some L:=by
    have Y:(m==n)=false:=by grind
    have k8:(m==m0)=false:=by grind
    simpa[AE.sI,Y,k8,AE.sJ]using hrm
   have⟨Om,Rm,g1,g2,g3,g4,g5,g6⟩:=h.sep b4;refine⟨Om,Rm,AF L.t g1 (fun j _=>?_) (fun c j C=>?_),fun c C=>a7 c (g2 c C),?_⟩
   ·cases es:M.g m with
    |one v=>rfl
    |_=>rename_i b' o';exact S m e b' _ (g5 _ _ es)
   grind;show(L.bx=true/\∃b,M.g m=.at b 0/\z m=(b,L.t.cells)::Om)\/(L.bx=false/\(∃v,M.g m=.one v)/\(∃e,L.t=.list true e)/\z m=Om);rw[H m e I];omega
 intro m hm;by_cases e:m=n;grind[AE.sI];by_cases I:m=m0;grind;have Y:(m==n)=false:=by grind
 have k8:(m==m0)=false:=by grind
 show z m=[];rw[H m e I];exact h.norm m (by simpa[AE.sI,Y,k8,AE.sJ]using hm);intro m;show((z m).map (·.1)).Nodup;by_cases e:m=n;subst e;rw[k0];have a4:=h.nodup m;have b7:((A++(O2++B')).map (·.1)).Nodup:=by
  have Z:=h3.nodup;rw[e3]at Z;simp only[pA,C1,mA]at Z|-;have⟨k1,⟨k2,k3,k4⟩,k5⟩:=Z;refine⟨k1,⟨c4,k3,fun a ha c C e=>?_⟩,fun a ha c C e=>?_⟩;subst e;exact h.sV m m0 (Ne.symm Q) a (h4 a (by grind)) (h0 a ha);subst e;rcases C with C|C;exact h.sV m m0 (Ne.symm Q) a (h4 a (by grind)) (h0 a C);grind
 rcases h6 with⟨V,b0,hs,ho⟩|⟨V,-,-,ho⟩;simp only[on,V,hs,List.singleton_append,B7,A9];refine⟨fun g=>?_,b7⟩;rw[ho]at a4;simp only[B7,A9]at a4;simp only[pA,mA]at g;rcases g with g|g|g;grind;exact h.sV m m0 (Ne.symm Q) b0 (by grind) (h0 b0 g);exact a4.1 (by rw[e3];simp only[pA,mA];grind);grind;by_cases I:m=m0;grind;rw[H m e I];exact h.nodup m;have one:∀m K,m≠K->m=n->∀c,c∈(z m).map (·.1)->c∉(z K).map (·.1):=by
  intro m K X e c C E;subst e;by_cases I:K=m0;grind;rw[k0]at C;rw[H K (Ne.symm X) I]at E;rcases k7 c C with g|g;exact h.sV m K X c g E;exact h.sV m0 K (Ne.symm I) c (h0 c g) E
 intro m K X c C E;by_cases e:m=n;exact one m K X e c C E;by_cases Y:K=n;exact one K m (Ne.symm X) Y c E C;by_cases I:m=m0;grind;by_cases e2:K=m0;grind;rw[show(Gh.mk M.g z none).ow m=z m from rfl,H m e I]at C;rw[show(Gh.mk M.g z none).ow K=z K from rfl,H K Y e2]at E;exact h.sV m K X c C E;intro m q hq;rw[show(Gh.mk M.g z none).ow m=z m from rfl]at hq;by_cases e:m=n;subst e;rw[k0]at hq;have c9:q∈M.ow m->BY D q.1 q.2:=fun g=>O _ _ (h.live m q g) ⟨m,A3 g⟩;have b7:q∈A++(O2++B')->BY D q.1 q.2:=by
  grind
 rcases h6 with⟨V,b0,hs,ho⟩|⟨V,-,-,ho⟩;grind;grind;by_cases I:m=m0;grind;rw[H m e I]at hq;exact O _ _ (h.live m q hq) ⟨m,A3 hq⟩;intro i hi;exact(h.slots i hi).sJ a2;show Tq _ _ _ U.pd none;rw[b3];trivial;rintro c ⟨m,hm⟩;exact h.mine c (P c ⟨m,hm⟩)
section
variable {P:Program} {B:Base} {N:Nat} {Z:Type} {U:AE} {a:Act} {w:World} {M:Gh}
theorem ZI{τ:Ty}{c o k:Nat}(e:AQ P τ (.inl t)=true)(i:τ.cells=1)(f:BY w b k)(l:o+1<=k):(Instr.storeAt t (.pointer (some ⟨b,o,none⟩)) (.slice A n c)).run P w=.ok () (w.setCell ⟨b,o,none⟩ (.slice A n c)):=by have⟨I⟩:=AK (AS e);have h:(Value.slice A n c).cells=#[Value.slice A n c]:=rfl;have:=run_storeCells_cells (P:=P) b o [Value.slice A n c] 0 w (fun j d=>(f.cell (o:=o+0+j) (by grind)).1) (fun j d=>(f.cell (o:=o+0+j) (by grind)).2) (fun u a=>by simp at a;subst a;rfl);(have g:(Value.slice A n c).cells.size=τ.cells:=by simp_all);simp[Instr.storeAt,Instr.sureAddr,storeVar,I.sizeOf,g];rw[h];simp at this;exact this
theorem a5h{o k:Nat}(h:BY w b k)(g:o<k)(v:Value)(c j:Nat):Af (w.setCell ⟨b,o,none⟩ v) none c j=if c=b/\j=o then some v else Af w none c j:=by simp[Af];by_cases e1:c=b/\j=o;obtain⟨rfl,rfl⟩:=e1;have⟨u,f⟩:=E7.1 (h.cell g).1;simp_all[World.cell?_setCell_same];rw[if_neg e1,World.cell?_setCell_other];grind
theorem b9N(U:AE):U.sJ id=U:=by(have:∀s:SV,s.sJ id=s:=fun s=>by cases s<;>simp[SV.sJ]);simp_all[AE.sJ]
theorem AT.skip{K:AE->Rs Z}{z:Z}{f:AE}{M':Gh}(b:a.tmps.size=N)(g:(execOp a.eval o).run P w=.ok .skip w')(h:sM B f N (AH a) w' M')(k:K (f.uG o.dst .dead)=some z):AT P B N o a w K z:=by cases hd:o.dst with|none=>exact⟨undef,w',f,M',.inr ⟨g,rfl⟩,by rw[hd];exact h,by rw[hd]at k;exact k⟩|some d=>exact⟨undef,w',f.set d .dead,M',.inr ⟨g,rfl⟩,by rw[hd];exact h.uN b (fun _=>trivial),by rw[hd]at k;exact k⟩
theorem QA{t:Ty}(h:t.isList=true):t.cells=1:=by cases t<;>first|rfl|cases h
theorem My:∀(p q:BJ),Tm p q=true->p=q|[],[],_=>rfl|.fst::p,.fst::q,h=>by rw[My p q h]|.snd::p,.snd::q,h=>by rw[My p q h]|.idx i::p,.idx j::q,h=>by simp[Tm]at h;rw[h.1,My p q h.2]|[],_::_,h=>(by cases h)|.fst::_,[],h=>(by cases h)|.fst::_,.snd::_,h=>(by cases h)|.fst::_,.idx _::_,h=>(by cases h)|.snd::_,[],h=>(by cases h)|.snd::_,.fst::_,h=>(by cases h)|.snd::_,.idx _::_,h=>(by cases h)|.idx _::_,[],h=>(by cases h)|.idx _::_,.fst::_,h=>(by cases h)|.idx _::_,.snd::_,h=>by cases h
theorem a7q(n:Nat)(U:AE)(r g:Option sP):(((U.sJ (AV.sQ [n] [])).sI n r).sJ (AV.sQ [n] [])).sI n g=(U.sJ (AV.sQ [n] [])).sI n g:=by(have h:∀a:AV,(a.sQ [n] []).sQ [n] []=a.sQ [n] []:=fun a=>by cases a with|sref m q=>(by_cases hm:m=n;subst hm;cases q<;>simp[AV.sQ];simp[AV.sQ,hm])|swin m q o l=>grind[AV.sQ]|ptr m q=>(by_cases hm:m=n;subst hm;cases q<;>simp[AV.sQ];simp[AV.sQ,hm])|_=>rfl);simp only[AE.sI,AE.sJ];congr 1;(funext i;cases U.sl i with|one v=>simp[SV.sJ,h]|cmp c f=>simp[SV.sJ,h]);grind
theorem sM.yE(h:sM B U N tm w M)(hr:U.rt n=some r)(hg:M.g n=.at b 0)(ho:M.ow n=[(b,r.t.cells)])(I:U.pd=none){t2:Ty}{z:t2.sK}{R2}(y:t2.cells=r.t.cells)(hd:AL (Af w' none) t2 ((Src.at b 0).rd (Af w' none))=some (z,[],R2))(hR:∀c∈R2,Ba B w M c)(x:∀c,c≠b->w'.heap[c]?=w.heap[c]?)(G:∀c k,BY w c k->BY w' c k)(R:w.heap.size<=w'.heap.size)(hio:Gr w'=Gr w):
  sM B ((U.sJ (AV.sQ [n] [])).sI n (some ⟨true,t2,z⟩)) N tm w' M:=by
 have h0:=h.tC I;have D:b∈(M.ow n).map (·.1):=by simp_all
 have K:∀c,Ba B w M c->Ba B w' M c:=fun c y=>⟨C0 y.1 R,y.2⟩;have O:∀c j,c≠b->Af w' M.ov c j=Af w M.ov c j:=fun c j T=>BE _ (x c T) j;have Z:∀c j,Ba B w M c->Af w' M.ov c j=Af w M.ov c j:=fun c j X=>O c j fun e=>X.2.2 ⟨n,e▸D⟩;have C:∀m c j,m≠n->c∈(M.ow m).map (·.1)->Af w' M.ov c j=Af w M.ov c j:=fun m c j f V=>O c j fun e=>h.sV n m (Ne.symm f) c (e▸D) V;have Q:∀k,k≠n->((U.sJ (AV.sQ [n] [])).sI n (some ⟨true,t2,z⟩)).rt k=U.rt k:=fun k Y=>a3w Y _;have P:((U.sJ (AV.sQ [n] [])).sI n (some ⟨true,t2,z⟩)).rt n=some ⟨true,t2,z⟩:=by simp[AE.sI]
 have Cf:∀m:Nat,[n].contains m=(m==n):=fun m=>by grind
 refine⟨fun m r' d=>?_,fun m O=>?_,h.nodup,h.sV,fun m p hp=>G _ _ (h.live m p hp),fun i hi=>(h.slots i hi).sJ fun a v ha=>?_,?_,D1 h.size R,fun c S hF=>?_,h.mine,fun i A hb h1=>h.pins i A hb fun e=>?_,hio.trans h.still⟩
 ·by_cases f:m=n;subst f;rw[P]at d;simp at d;subst d;refine⟨[],R2,?_,fun c y=>K c (hR c y),.inl ⟨rfl,b,hg,by simp_all⟩⟩;simp_all
  ·rw[Q m f]at d;have⟨O1,R1,l1,l2,l3,l4,l5,l6⟩:=h.sep d;refine⟨O1,R1,AF _ l1 (fun j _=>?_) (fun c j y=>?_),fun c y=>K c (l2 c y),l6⟩
   ·cases es:M.g m with
    |one v=>rfl
    |_=>rename_i A o;exact C m A _ f (l5 _ _ es)
   grind
 by_cases f:m=n;simp_all;rw[Q m f]at O;exact h.norm m O
 ·have L:(∀k q,(a=.ptr k q\/a=.sref k q\/∃o l,a=.swin k q o l)->k≠n)->Ay (Af w' M.ov) M.g ((U.sJ (AV.sQ [n] [])).sI n (some ⟨true,t2,z⟩)).rt (Ba B w' M) a v:=fun Y=>by
   refine ha.frame Z K fun k q rk t s E hrk hl=>?_
   have H:=Y k q E;have⟨O1,R1,l1,l2,l3,l4,l5,l6⟩:=h.sep hrk;have F:∀j,(M.g k).rd (Af w' M.ov) j=(M.g k).rd (Af w M.ov) j:=fun j=>by
    cases es:M.g k with
    |one v=>rfl
    |_=>rename_i A o;exact C k A _ H (l5 _ _ es)
   refine⟨rk,by simp_all,CW q rk.t _ l1 hl (fun j _=>F j) (fun c j y=>C k c j H (l4 c y)),fun u _ hu=>?_⟩;rw[<-hu];cases s with
   |one v=>rfl
   |_=>rename_i A o;exact C k A _ H (h.place hrk hl)
  cases a with
  |ptr m q=>
   simp only[AV.sQ,Cf];split
   ·rename_i f;have f:m=n:=by simp_all
    subst f;cases q with
    |cons=>trivial
    |nil=>
     have⟨r',t',A,o',p1,p2,p3⟩:=ha;simp[Cl]at p2;exact⟨⟨true,t2,z⟩,t2,A,o',P,by show some (t2,M.g m)=_;grind,p3⟩
   simp_all
  |sref m q=>
   simp only[AV.sQ,Cf];split;cases q<;>exact True.intro;simp_all
  |swin m q o l=>
   simp only[AV.sQ,Cf];split;trivial;simp_all
  |_=>exact L (by rintro k q' (g|g|⟨o,l,g⟩)<;>cases g)
 have:=h.pend
 rw[I]at this;show Tq _ _ _ U.pd M.ov;rw[I,h0];trivial
 ·rw[x c fun e=>?_];exact h.frame c S hF
  ·subst e;rcases h.mine c ⟨n,D⟩with g|g;all_goals grind
 grind
theorem sM.yO{ty:Ty}{yv:AV}{E:Value}{K:AE->Rs Z}{z:Z}(hty:AQ P ty (.inl t)=true)(h:sM B U N tm w M)(T:U.rt n=some r)(hx:Ay (Af w M.ov) M.g U.rt (Ba B w M) (.ptr n []) E)(D:Ay (Af w M.ov) M.g U.rt (Ba B w M) yv vy)(G:U.over ty n r yv K=some z):∃w' i M' b o,E=.pointer (some ⟨b,o,none⟩)/\w'=w.setCells b o vy.cells.toList/\(Instr.storeAt t E vy).run P w=.ok () w'/\sM B i N tm w' M'/\K i=some z:=by
 unfold AE.over at G;split at G;rename_i e y rr hl;obtain⟨l,-⟩:=AR hl;have S:=h.tC l;split at G;rename_i L;have⟨I,h6,h5,h0⟩:=L;have D:Ci (Af w M.ov) (Ba B w M) e y vy:=D;have O:e.cells=r.t.cells:=by grind[Ty.sZ]
 have⟨b,F,R⟩:=h.xN T I l;have⟨r',t1,b1,o1,q1,q2,q3⟩:=hx;simp[Cl,F]at q2;obtain⟨-,rfl,rfl⟩:=q2;have d:BY w b (0+r.t.cells):=by have:=h.room (p:=[]) (t:=r.t) (b:=b) (o:=0) T (by rw[F];rfl);omega
 have v:AQ P e (.inl t)=true:=by grind[FB]
 have q:=jQ v D (b:=b) (o:=0) (by rw[O];omega) (B4 _);rw[<-q3]at q;obtain⟨h7,-⟩:=D.cells;have X:vy.cells.toList.length=r.t.cells:=by simp_all
 obtain⟨-,-,Y,V,A⟩:=id D;have⟨w',C⟩:∃w',w'=w.setCells b 0 vy.cells.toList:=⟨_,rfl⟩;have hm:∀c j,Af w' none c j=if c=b/\0<=j/\j<0+r.t.cells then vy.cells.toList[j-0]? else Af w none c j:=fun c j=>by have:=Lb b vy.cells.toList 0 w _ d (by omega) c j;rw[X]at this;rw[C];exact this
 have k:BB M b:=⟨n,h.place (p:=[]) (t:=r.t) (b:=b) (o:=0) T (by rw[F];rfl)⟩;have Q:AL (Af w' none) e ((Src.at b 0).rd (Af w' none))=some (y,[],Y):=AF e V (fun j hj=>by
  show Af w' none b (0+j)=_;simp_all) (fun c j f=>by
  rcases f with f|f;simp_all;rw[hm,if_neg,S];rintro⟨rfl,-⟩;exact(A c f).2.2 k)
 have h1:∀(t2:Ty)(H:t2.sK),tF e t2 y=some H->t2.cells=r.t.cells->K ((U.sJ (AV.sQ [n] [])).sI n (some ⟨true,t2,H⟩))=some z->∃w' i M' b o,E=.pointer (some ⟨b,o,none⟩)/\w'=w.setCells b o vy.cells.toList/\(Instr.storeAt t E vy).run P w=.ok () w'/\sM B i N tm w' M'/\K i=some z:=fun t2 H a h2 hK=>by(have u:∀c,Ba B w M c->Ba B w ⟨M.g,fun m=>if m=n then[(b,r.t.cells)]else M.ow m,M.ov⟩ c:=fun c ⟨g1,g2,g3⟩=>⟨g1,g2,fun⟨m,h4⟩=>g3 ⟨m,by grind⟩⟩);have:=R.yE (w':=w') (b:=b) (r:=⟨true,r.t.tO,Ty.vJ r.t r.x⟩) (by simp[AE.sI]) F (by simp[Ty.uF]) (by simp_all[AE.sI,AE.sJ]) (t2:=t2) (z:=H) (R2:=Y) (by simp_all[Ty.uF]) (ZG a Q) (fun c L=>u c (A c L)) (fun c h3=>by simp_all[Eo]) (fun _ _ hf=>by rw[C];exact hf.setCells _ _ _) (by simp_all[IL]) (by simp_all[Ld]);grind[a7q]
 split at G;grind;grind[Ty.uF,jP];simp_all;simp_all
theorem sM.xE{ty:Ty}{yv:AV}{vx:Value}{K:AE->Rs Z}{z:Z}(_hsh:ty.sh=ty)(hty:AQ P ty (.inl t)=true)(h:sM B U N tm w M)(hx:Ay (Af w M.ov) M.g U.rt (Ba B w M) (.ptr n p) vx)(Q:Ay (Af w M.ov) M.g U.rt (Ba B w M) yv vy)(D:U.vK ty n p yv K=some z):
  ∃w' U' M' b o,vx=.pointer (some ⟨b,o,none⟩)/\w'=w.setCells b o vy.cells.toList/\(Instr.storeAt t vx vy).run P w=.ok () w'/\sM B U' N tm w' M'/\K U'=some z:=by
 have⟨yw,h8⟩:∃f:AV->AV,f yv=yv:=⟨fun v=>v,rfl⟩;rw[<-h8]at Q D;clear h8;have⟨r,t0,b,u,hr,hl,I⟩:=id hx;have⟨O1,R1,k1,k2,k3,k4,k5,k6⟩:=h.sep hr;have⟨y0,O',R',A1,B1,a5,a7,hd,hg,e1,e2⟩:=BT p r.t _ k1 hl;unfold AE.vK at D;rw[hr]at D;simp only at D;split at D
 ·rename_i e l g6;split at D
  ·rename_i H;have k7:t0=.list true e:=by
    simp_all
   subst k7;have d:=h.room hr hl;have y:BB M b:=⟨n,h.place hr hl⟩;split at D
   ·
    rename_i h5;rw[h5]at Q;have Q:vy=.slice none 0 0:=Q;split at D;grind
    ·rename_i r2 h2;obtain⟨F,-⟩:=AR h2;have i:=h.tC F;have a:=ZI (A:=none) (n:=0) (c:=0) hty (QA H) d (o:=u) (B4 _);rw[<-I,<-Q]at a;have hm:=a5h (v:=vy) d (o:=u) (Nat.lt_succ_self _);obtain⟨h9,-,x⟩:=h.yV hr hl hd (w':=w.setCell ⟨b,u,none⟩ vy) (ov':=M.ov) (pd':=U.pd) (y':=([]:List e.sK)) (O2:=[]) (R2:=[]) (.same (by simp_all)) (by
       rw[i];show Cq _ true e.cells _ (Af _ none b (u+0))=_;rw[hm,if_pos ⟨rfl,rfl⟩,Q];rfl) (fun c j=>by
       rw[i,hm];by_cases e1:c=b/\j=u;simp_all[Ty.cells];simp_all) (by simp) (by simp) (by simp) (fun c k hf _=>hf.setCell _ _) (by simp) (fun c E hF=>by
       rw[MR,if_neg];exact h.frame c E hF
       ·rintro rfl;rcases h.mine _ y with g|g;all_goals grind) (by simp) (f:=AV.kill n p) (fun O=>ZF n p _ O)
     exact⟨_,_,_,b,u,I,by rw[Q];rfl,a,x,D⟩
   ·
    rename_i m p' h5;rw[h5]at Q;rcases Ai D with⟨E,G⟩|⟨-,G⟩<;>clear D
    ·simp at E;obtain⟨rfl,E⟩:=E;have h3:=My _ _ E;subst h3;split at G
     ·rename_i m2 p2 d2 F;rcases Ai G with⟨Y,L⟩|⟨-,L⟩<;>clear G
      ·simp at Y;obtain⟨rfl,Y⟩:=Y;have h3:=My _ _ Y;subst h3;have hp:=h.pend;rw[F]at hp;cases i:M.ov with
       |none=>rw[i]at hp;exact hp.elim
       |some ov=>
        have⟨b2,o2,v2⟩:=ov;rw[i]at hp;have⟨r2,e2,q1,T⟩:=hp;rw[hr]at q1;simp at q1;subst q1;rw[<-i,hl]at T;simp only[sj,pJ,Src.at.injEq]at T;obtain⟨-,rfl,rfl⟩:=T;have⟨r3,e3,s3,V,q4,q5⟩:=Q;rw[hr]at V;simp at V;subst V;rw[hl]at q4;simp only[sj,pJ]at q4;obtain⟨-,rfl⟩:=q4;have hv:v2=vy:=by
         simp_all[Src.rd,Af]
        have C:∃A n' X,vy=.slice A n' X:=by
         rcases Ct hd with⟨g,-⟩|⟨A,n',X,os,g,-⟩;all_goals simp_all
        have⟨A,n',X,C⟩:=C;have a:=ZI (A:=A) (n:=n') (c:=X) hty (QA H) d (o:=u) (B4 _);rw[<-I,<-C,<-hv]at a
        have:=h.done F i
        refine⟨_,_,_,b,u,I,?_,?_,this,L⟩;rw[hv,C];rfl;simp_all
      simp_all
     simp_all
    ·split at G
     ·rename_i r2 e' l' b5 g7;split at G
      ·rename_i g3;subst g3;rcases Ai G with⟨-,L⟩|⟨h7,L⟩<;>clear G;grind
       ·have h7:m≠n:=by simp_all
        have⟨F,h4⟩:=AR g7;have⟨r3,e3,s3,V,q4,q5⟩:=Q;rw[h4]at V;simp at V;subst V;simp only[loc,Cl,sj,pJ]at q4;obtain⟨q4,rfl⟩:=q4;obtain⟨O3,R3,i1,-,-,-,-,i6⟩:=h.sep h4;have g5:M.g m=.one vy:=by
         rcases i6 with⟨a9,-⟩|⟨-,⟨v,hs⟩,-⟩;all_goals simp_all[Src.rd]
        have C:∃A n' X,vy=.slice A n' X:=by
         rcases Ct i1 with⟨g,-⟩|⟨A,n',X,os,g,-⟩;all_goals simp_all
        have⟨A,n',X,C⟩:=C;have a:=ZI (A:=A) (n:=n') (c:=X) hty (QA H) d (o:=u) (B4 _);rw[<-I,<-C]at a;have⟨h9,x⟩:=h.move hr hl hd h4 g5 h7 F (f:=fun O=>AV.drop m (AV.kill n p O)) (fun O=>by
         rcases ZF n p (.list true e') O with g|⟨g,g2⟩;left;rw[g];rfl
         ·rw[g];cases O with
          |ptr m2 T=>
           grind[AV.drop]
          |sref m2 T=>
           grind[AV.drop]
          |swin m2 T o2 k2=>
           grind[AV.drop]
          |_=>exact .inr ⟨rfl,g2,fun k q hh=>by rcases hh with hh|hh|⟨_,_,hh⟩<;>cases hh⟩)
        have g9:(U.sJ (AV.kill n p)).sJ (AV.drop m)=U.sJ fun O=>AV.drop m (AV.kill n p O):=by
         have:∀s:SV,(s.sJ (AV.kill n p)).sJ (AV.drop m)=s.sJ fun O=>AV.drop m (AV.kill n p O):=fun s=>by
          cases s<;>simp[SV.sJ]
         simp_all[AE.sJ]
        rw[g9]at L;exact⟨_,_,_,b,u,I,by rw[C];rfl,a,x,L⟩
      simp_all
     simp_all
   simp_all
  simp_all
 ·rename_i t1 y1 b6 g6;split at D
  ·rename_i k0;have⟨R,a4⟩:=k0;have hty:AQ P t1 (.inl t)=true:=by grind[FB]
   obtain⟨yv,U1,M1,D,h1,hv,g4,-⟩:=h.uT (.inl Q) D;split at D
   ·rename_i r1 h2;have⟨F,S⟩:=AR h2;have i:=h1.tC F;split at D
    ·rename_i b4;have a3:Ay (Af w M1.ov) M1.g U1.rt (Ba B w M1) (.ptr n p) vx:=by
      rcases g4.live (.inl hx)with g|⟨k,q,g1,g2⟩;all_goals grind
     have⟨r3,t3,b3,o3,q1,T,V⟩:=a3;rw[S]at q1;simp at q1;subst q1;have⟨O4,R4,j1,j2,j3,j4,j5,j6⟩:=h1.sep S;obtain⟨y4,O5,R5,A5,B5,a6,a8,h6,b0,-,-⟩:=BT p r1.t _ j1 T;have k8:t3=t1:=by
      simp_all
     subst k8;have g0:=RI R h6;subst g0;have d:=h1.room S T;have y:BB M1 b3:=⟨n,h1.place S T⟩;have a:=jQ hty hv d (o:=o3) (B4 _);rw[<-V]at a;obtain⟨b7,-⟩:=hv.cells;obtain⟨-,-,R6,k9,h0⟩:=id hv;have a2:vy.cells.toList.length=t3.cells:=by omega
     have hm:∀c j,Af (w.setCells b3 o3 vy.cells.toList) none c j=if c=b3/\o3<=j/\j<o3+t3.cells then vy.cells.toList[j-o3]? else Af w none c j:=fun c j=>by
      have:=Lb b3 vy.cells.toList o3 w _ d (by omega) c j
      rw[a2]at this;exact this
     obtain⟨h9,-,x⟩:=h1.yV S T h6 (w':=w.setCells b3 o3 vy.cells.toList) (ov':=M1.ov) (pd':=U1.pd) (y':=yv) (O2:=[]) (R2:=R6) (.same (by simp_all)) (by
       rw[i];refine AF t3 k9 (fun j hj=>?_) (fun c j E=>?_);show Af _ none b3 (o3+j)=_;simp_all;rcases E with E|E;simp_all;rw[hm,if_neg,i];rintro⟨rfl,-⟩;exact(h0 c E).2.2 y) (fun c j=>by
       grind) (by simp) (by simp) (by simp) (fun c k hf _=>hf.setCells _ _ _) (by simp_all[IL]) (fun c E hF=>by
       rw[Eo];exact h1.frame c E hF
       ·rintro rfl;rcases h1.mine _ y with g|g;all_goals grind) (fun c E=>⟨by rw[IL];exact(h0 c E).1,(h0 c E).2.1,(h0 c E).2.2,by simp⟩) (f:=id) (fun O=>.inr ⟨rfl,b0B n p R O⟩) (hio:=Ld _ _ _ _)
     rw[b9N]at x;exact⟨_,_,_,b3,o3,V,rfl,a,x,D⟩
    simp_all
   simp_all
  ·cases p with
   |nil=>exact h.yO (hty:=hty) hr hx Q D
   |cons=>cases D
theorem qM{o:Oper}{t:TypeId}{x y:Operand}{cx:Cx}{q:Bool}{K:AE->Rs Z}{z:Z}(e:CxTy P cx)(c:o.op=.store t x y)(d:U.tL y=none) (h:sM B U N (AH a) w M)(v:a.tmps.size=N)(m:fits N o=true)(g:Bc cx q o U K=some z):AT P B N o a w K z:=by
 have r:=h.sN (Bg m x (by simp[c,Op.operands]));have C:=h.sN (Bg m y (by simp[c,Op.operands]));have g:(if q then none else match U.sN x with
  |.ptr n p=>match cx.T t with|some t=>(U.vK t n p (U.sN y) fun U=>K (U.uG o.dst .dead))|none=>none
  |_=>none)=some z:=by
  simp only[Bc,c,d]at g;omega
 split at g;grind;split at g;rename_i n p l;rw[l]at r;split at g;rename_i G A;have⟨i,j⟩:=e.T t _ A;obtain⟨H,F,E,b,D,-,-,k,f,u⟩:=sM.xE i j h r C g;exact AT.skip v (by simp[execOp,c,k]) f u;simp_all;simp_all
theorem YQ(w:World)(cs:Array Value)(t:TypeId)(k:Nat)(u:Value):
  (w.alloc (.cells cs t)).setCell ⟨w.heap.size,k,none⟩ u=w.alloc (.cells (cs.setIfInBounds k u) t):=by
 have:(w.heap.push (.cells cs t)).modify w.heap.size (fun
   |.cells c elem frozen=>.cells (if(none:Option Nat).isSome then c else c.setIfInBounds k u) elem frozen
   |o=>o)=w.heap.push (.cells (cs.setIfInBounds k u) t):=by
  grind
 simp only[World.setCell,World.alloc];grind
theorem uX:∀τ:Ty,τ.sh.sh=τ.sh|.int _|.bool|.str|.unit=>rfl|.list _ e=>by simp only[Ty.sh,uX e]|.nl e=>by simp only[Ty.sh,uX e]|.arr _ e=>by simp only[Ty.sh,uX e]|.pair a b=>by simp only[Ty.sh,uX a,uX b]
def US:Nat->Ty->Option Ty|0,τ=>some τ|k+1,.pair a b=>if a.cells=1 then US k b else none|_+1,_=>none
theorem jT:∀(k:Nat)(τ:Ty){a b:Ty},US k τ=some (.pair a b)->Di τ k=true/\(a.cells=1->US (k+1) τ=some b)/\∀(m:DU) bl o,loc m τ (.at bl o) (BD k)=some (a,.at bl (o+k))|0,τ,a,b,h=>by simp[US]at h;subst h;exact⟨rfl,fun h=>by simp[US,h],fun m bl o=>rfl⟩|k+1,τ,a,b,h=>by cases τ with|pair u v=>(simp only[US]at h;split at h;rename_i c;have⟨g,d,f⟩:=jT k v h;refine⟨g,fun e=>by simp_all[US],fun m bl o=>?_⟩;have:=f m bl (o+u.cells);rw[c]at this;show loc m v (.at bl (o+u.cells)) (BD k)=_;grind;simp_all)|_=>simp[US]at h
theorem qN{τ0:Ty}{t:TypeId}(hty:AQ P τ0 (.inl t)=true){i d q:Nat}(hi:i<N)(x:d<N){us:Array Value}{tm:Nat->Value}(p:tm i=.agg us)(y:tm d=.pointer (some ⟨q,0,none⟩)){z:Z}{K:AE->Rs Z}:∀(τ:Ty)(k:Nat){U:AE}{M:Gh}{w:World},sM B U N tm w M->US k τ0=some τ->AE.uO (.tmp i) d τ0 k τ U K=some z->us.size=k+τ.cells/\∃D M',sM B D N tm (w.setCells q k (us.toList.drop k)) M'/\K D=some z|.unit,k,U,M,w,h,_,f=>by(simp[AE.uO]at f;split at f;rename_i C c;have⟨hk,R⟩:=(Ai f).elim id fun h=>by grind);(have j:=h.slots i hi;simp[AE.tL]at c;split at c;rename_i V I;simp at c;subst c;rw[I]at j;have⟨us',⟨Y,A,h3⟩,h4⟩:=j;rw[p]at A;cases A;have hk:V.length=k:=by simp_all);refine⟨by simp_all[Ty.cells],U,M,?_,R⟩;rw[List.drop_of_length_le (by simp_all)];exact h;simp_all;simp_all|.pair a b,k,U,M,w,h,htl,f=>by(simp[AE.uO]at f;split at f;rename_i r n v hr G hv;split at f;rename_i hc;obtain⟨h0,rfl,ha⟩:=hc;have⟨Y,A,h3⟩:=jT k τ0 htl;have m:=h.slots n x;rw[y]at m;have H:Ay (Af w M.ov) M.g U.rt (Ba B w M) (.ptr n []) (.pointer (some ⟨q,0,none⟩)):=by simp[AE.get]at G;split at G;rename_i v' l;subst G;rw[l]at m;exact m;simp_all);(have⟨r',t',b',o',S,T,p3⟩:=H;rw[hr]at S;simp at S;subst S;simp[Cl]at T;obtain⟨rfl,T⟩:=T;simp at p3;obtain⟨rfl,rfl⟩:=p3;have hx:Ay (Af w M.ov) M.g U.rt (Ba B w M) (.ptr n (BD k)) (.pointer (some ⟨q,k,none⟩)):=by refine⟨r,a,q,0+k,hr,?_,by simp⟩;simp_all);(have j:=h.slots i hi;have c:∃C,U.sl i=.cmp .agg C/\C[k]?=some v:=by grind[AE.tL]);(have⟨C,I,Q⟩:=c;rw[I]at j;have⟨us',⟨g1,X,g3⟩,g4⟩:=j;rw[p]at X;cases X;have⟨u,O,hu⟩:=g4 k v Q;have⟨E,h5,l⟩:∃E,P.underlying t=some (.struct E)/\AQ P τ0 (.inr (E.toList,0))=true:=by grind[SC]);(have⟨fl,τ',k',q1,q2,q3,q4,q5⟩:=UO k τ0 _ 0 l Y;have e:=(q5 (Af w none) 0 0).symm.trans (h3 (Af w none) 0 0);simp only[sj,pJ]at e;obtain⟨rfl,-⟩:=e;have L:AQ P τ'.sh (.inl fl.type)=true:=by rw[FB];omega);(have o:τ'.sh.sh=τ'.sh:=uX τ';have⟨w',D,M',b2,o2,s1,s2,s3,s4,s5⟩:=sM.xE o L h hx hu f;simp at s1;obtain⟨rfl,rfl⟩:=s1;rw[cN (g3 k u O)]at s2;subst s2;have⟨c1,U2,M2,c2,c3⟩:=qN hty hi x p y b (k+1) s4 (A ha) s5;refine⟨by grind[Ty.cells],U2,M2,?_,c3⟩;have F:us.toList.drop k=u::us.toList.drop (k+1):=by grind[D4]);rw[F];exact c2;simp_all;simp_all|.int _,k,U,M,w,_,_,f=>by simp[AE.uO]at f|.bool,k,U,M,w,_,_,f=>by simp[AE.uO]at f|.str,k,U,M,w,_,_,f=>by simp[AE.uO]at f|.list _ _,k,U,M,w,_,_,f=>by simp[AE.uO]at f|.arr _ _,k,U,M,w,_,_,f=>by simp[AE.uO]at f
theorem WH(w:World)(t:TypeId):∀(l:List Value)(k:Nat)(cs:Array Value),k+l.length=cs.size->(w.alloc (.cells cs t)).setCells w.heap.size k l=w.alloc (.cells (cs.toList.take k++l).toArray t)|[],k,cs,h=>by simp_all[World.setCells,List.take_of_length_le]|u::l,k,cs,h=>by(simp only[World.setCells,lC]at h|-;rw[YQ,WH w t l (k+1) _ (by simp;omega)];congr 2;have g:k<cs.toList.length:=by simp;omega);simp only[Array.toList_setIfInBounds];rw[D8 (by simpa using g)];simp[F2]
theorem a7r{o:Oper}{t:TypeId}{x:Operand}{d:Nat}{cx:Cx}{q:Bool}{K:AE->Rs Z}{z:Z}{p:List AV}(l:CxTy P cx)(A:o.op=.box t x)(S:o.dst=some d)(j:(bif q then none else U.tL x)=some p) (h:sM B U N (AH a) w M)(O:a.tmps.size=N)(X:fits N o=true)(e:Bc cx q o U K=some z):AT P B N o a w K z:=by
 have g:U.tL x=some p:=by grind
 have n:=Bg X x (by simp[A,Op.operands]);have m:d<N:=by simp_all[fits]
 simp[Bc,A,S,j]at e;split at e;rename_i τ hrd hO;split at e;rename_i Q;have b:AQ P τ (.inl t)=true:=by rw[<-FB];exact(l.T t _ Q).2
 obtain⟨I⟩:=AK (AS b);cases x with|tmp i=>((have y:i<N:=by simpa[Cj]using n);(have k:=h.slots i y;have hs:U.sl i=.cmp .agg p:=by grind[AE.tL]);(rw[hs]at k;obtain⟨us,⟨h1,L,h3⟩,h4⟩:=k;have V:a.eval (.tmp i)=.agg us:=L;have f:(execOp a.eval o).run P w=.ok (.value (.pointer (some ⟨w.heap.size,0,none⟩))) (w.alloc (.cells us t)):=by simp_all[execOp,Instr.box,newVar,newRow,Value.cells]);(obtain⟨U1,M1,r,E,F⟩:=h.xB e (fun c R=>BF _ c R) (BR _) (Bt (w:=w) (.cells I.z.cells t)) I.vB (Ki _ I.zok) (by simp);have Y:i≠d:=by rintro rfl;cases τ<;>simp[AE.uO,AE.tL,AE.set,AE.put]at r);have G:=E.uN (sv:=.one (.ptr d [])) (v:=.pointer (some ⟨w.heap.size,0,none⟩)) (d:=d) O (fun _=>F);obtain⟨g0,D,C,u,H⟩:=qN b y m (us:=us) (tm:=AH (a.put (some d) (.pointer (some ⟨w.heap.size,0,none⟩)))) (by simp_all[Ww]) (by rw[Ww d (by omega),if_pos rfl]) τ 0 G rfl r;rw[G6,WH w t us.toList 0 I.z.cells (by rw[I.vB,E5];omega)]at u;simp at u;exact⟨_,_,D,C,.inl f,by simp_all,H⟩)|_=>simp[AE.tL]at g
 simp_all;simp_all
theorem YR{o:Oper}{t:TypeId}{x y:Operand}{cx:Cx}{q:Bool}{K:AE->Rs Z}{z:Z}{vs:List AV}(H:CxTy P cx)(I:o.op=.store t y x)(n:U.tL x=some vs)
  (h:sM B U N (AH a) w M)(hN:a.tmps.size=N)(Y:fits N o=true)(f:Bc cx q o U K=some z):AT P B N o a w K z:=by
 have Q:=Bg Y x (by simp[I,Op.operands]);have R:=Bg Y y (by simp[I,Op.operands]);have f:(if q then none else match y with
   |.tmp s=>match U.rt s with
    |some r=>if cx.T t=some r.t.sh/\0<r.t.cells then AE.uO x s r.t 0 r.t U fun U=>K (U.uG o.dst .dead)else none
    |none=>none
   |_=>none)=some z:=by
  simp only[Bc,I,n]at f;omega
 split at f;grind
 ·cases y with
  |tmp d=>
   simp at f;have p:d<N:=by simpa[Cj]using R
   split at f
   ·rename_i r L;split at f
    ·rename_i G;have⟨G,c⟩:=G;have F:AQ P r.t (.inl t)=true:=by rw[<-FB];exact(H.T t _ G).2
     cases x with
     |tmp i=>
      have hi:i<N:=by simpa[Cj]using Q
      have D:=h.slots i hi;have hs:U.sl i=.cmp .agg vs:=by
       grind[AE.tL]
      rw[hs]at D;have⟨us,⟨h1,X,h3⟩,h4⟩:=D;have h6:a.eval (.tmp i)=.agg us:=X

      have C:∃e,AH a d=.pointer (some ⟨e,0,none⟩)/\loc (Af w M.ov) r.t (M.g d) []=some (r.t,.at e 0):=by
       have j:U.get d=.ptr d []:=by
        revert f c;cases r.t with
        |pair u v=>
         grind[AE.uO]
        |unit=>simp_all[Ty.cells]
        |_=>intro c f;simp[AE.uO]at f
       have b:Ay (Af w M.ov) M.g U.rt (Ba B w M) (.ptr d []) (AH a d):=by
        have b:=h.slots d p;simp[AE.get]at j;split at j;rename_i v' O;subst j;rw[O]at b;exact b;simp_all
       have⟨r',t',b',o',S,m,p3⟩:=b;rw[L]at S;simp at S;subst S;simp[Cl]at m;obtain⟨rfl,m⟩:=m;obtain⟨O',R',-,-,hb⟩:=(h.roots d r L).rd;rcases hb with⟨-,e,q1,-⟩|⟨-,⟨v,q1⟩,-⟩;rw[q1]at m;simp at m;obtain⟨rfl,rfl⟩:=m;simp_all[Cl];simp_all
      have⟨e,E,A⟩:=C;have l:=h.room L A;have⟨g0,U',M',V,g6⟩:=qN F hi p (us:=us) X E r.t 0 h rfl f;rw[G6]at V;have h0:(Instr.storeAt t (.pointer (some ⟨e,0,none⟩)) (.agg us)).run P w=.ok () (w.setCells e 0 us.toList):=
       cM F (by simp_all[Value.cells]) (fun u hu=>by
        have⟨k,hk⟩:=E1.1 hu;exact h3 k u (by rw[<-B8];exact hk)) l (B4 _)
      have h5:a.eval (.tmp d)=.pointer (some ⟨e,0,none⟩):=E;exact AT.skip hN (by simp_all[execOp]) V g6
     |_=>simp[AE.tL]at n
    simp_all
   simp_all
  |_=>grind
end
theorem TN:∀(p q:BJ)(t:Ty)(x:t.sK),Em (p++q) t x=Em q (Em p t x).1 (Em p t x).2|[],_,_,_=>rfl|.fst::p,q,t,x=>(by cases t with|pair a b=>exact TN p q a x.1|_=>cases q with|nil=>rfl|cons s q=>cases s<;>rfl)|.snd::p,q,t,x=>(by cases t with|pair a b=>exact TN p q b x.2|_=>cases q with|nil=>rfl|cons s q=>cases s<;>rfl)|.idx i::p,q,t,x=>by cases t with|arr n e=>exact TN p q e _|list o e=>(cases o with|true=>exact TN p q e _|false=>cases q with|nil=>rfl|cons s q=>cases s<;>rfl)|_=>cases q with|nil=>rfl|cons s q=>cases s<;>rfl
theorem WI(t:Ty)(x y:t.sK):Gc [] t x t y=y:=pX t x y
theorem WJ:∀(p q:BJ)(t:Ty)(x:t.sK)(h:Ty)(y:h.sK),Gc (p++q) t x h y=Gc p t x (Em p t x).1 (Gc q (Em p t x).1 (Em p t x).2 h y)|[],q,t,x,h,y=>(WI t x (Gc q t x h y)).symm|.fst::p,q,t,x,h,y=>(by cases t with|pair a b=>show(Gc (p++q) a x.1 h y,x.2)=(Gc p a x.1 (Em p a x.1).1 (Gc q (Em p a x.1).1 (Em p a x.1).2 h y),x.2);simp_all[WJ]|_=>rfl)|.snd::p,q,t,x,h,y=>(by cases t with|pair a b=>show(x.1,Gc (p++q) b x.2 h y)=(x.1,Gc p b x.2 (Em p b x.2).1 (Gc q (Em p b x.2).1 (Em p b x.2).2 h y));simp_all[WJ]|_=>rfl)|.idx i::p,q,t,x,h,y=>by cases t with|arr n e=>show G5 x i (Gc (p++q) e (D0 x i e.dflt) h y)=G5 x i (Gc p e (D0 x i e.dflt) (Em p e (D0 x i e.dflt)).1 (Gc q (Em p e (D0 x i e.dflt)).1 (Em p e (D0 x i e.dflt)).2 h y));simp_all[WJ]|list o e=>(cases o with|true=>show G5 x i (Gc (p++q) e (D0 x i e.dflt) h y)=G5 x i (Gc p e (D0 x i e.dflt) (Em p e (D0 x i e.dflt)).1 (Gc q (Em p e (D0 x i e.dflt)).1 (Em p e (D0 x i e.dflt)).2 h y));simp_all[WJ]|false=>rfl)|_=>rfl
theorem gO:∀(p:BJ)(t:Ty)(x:t.sK)(g:Ty)(y:g.sK),ZC p=true->(Em p t x).1=g->Em p t (Gc p t x g y)=⟨g,y⟩|[],t,x,g,y,_,h=>by have h:t=g:=h;subst h;exact cG (Sigma.mk t) (WI t x y)|.fst::p,t,x,g,y,f,h=>(by cases t with|pair a b=>exact gO p a x.1 g y f h|_=>have h:Ty.unit=g:=h;subst h;rfl)|.snd::p,t,x,g,y,f,h=>(by cases t with|pair a b=>exact gO p b x.2 g y f h|_=>have h:Ty.unit=g:=h;subst h;rfl)|.idx _::_,_,_,_,_,f,_=>by cases f
theorem gP:∀(p:BJ)(t:Ty)(x:t.sK)(g:Ty)(y z:g.sK),ZC p=true->(Em p t x).1=g->Gc p t (Gc p t x g y) g z=Gc p t x g z|[],t,x,g,y,z,_,h=>by have h:t=g:=h;grind[WI]|.fst::p,t,x,g,y,z,f,h=>(by cases t with|pair a b=>show(Gc p a (Gc p a x.1 g y) g z,x.2)=(Gc p a x.1 g z,x.2);rw[gP p a x.1 g y z f h]|_=>rfl)|.snd::p,t,x,g,y,z,f,h=>(by cases t with|pair a b=>show(x.1,Gc p b (Gc p b x.2 g y) g z)=(x.1,Gc p b x.2 g z);rw[gP p b x.2 g y z f h]|_=>rfl)|.idx _::_,_,_,_,_,_,f,_=>by cases f
theorem Yf:∀(p:BJ)(t:Ty)(x:t.sK),ZC p=true->Gc p t x (Em p t x).1 (Em p t x).2=x|[],t,x,_=>WI t x x|.fst::p,t,x,h=>(by cases t with|pair a b=>show(Gc p a x.1 (Em p a x.1).1 (Em p a x.1).2,x.2)=x;rw[Yf p a x.1 h];rfl|_=>rfl)|.snd::p,t,x,h=>(by cases t with|pair a b=>show(x.1,Gc p b x.2 (Em p b x.2).1 (Em p b x.2).2)=x;rw[Yf p b x.2 h];rfl|_=>rfl)|.idx _::_,_,_,h=>by cases h
section
variable {P:Program} {B:Base} {N:Nat} {Z:Type} {U:AE} {a:Act} {w:World} {M:Gh}
theorem a3A(h:sM B U N tm w M){n p v r k}{l:List Int}(u:Ay (Af w M.ov) M.g U.rt (Ba B w M) (.sref n p) v)(m:U.rt n=some r)(z:Dc r.t r.x p=⟨.list true (.int k),l⟩):∃A c,v=.slice A l.length c/\∀j,j<l.length->∃f,A=some f/\f.spot=none/\Ay (Af w M.ov) M.g U.rt (Ba B w M) (.ptr n (p++[.idx (0+j)])) (.pointer (some ⟨f.block,f.off+j,none⟩)):=by obtain⟨s,E,F,o,G,H,q,-,-⟩:=h.slice u m z;rcases Ct q with⟨a,b⟩|⟨f,D,c,I,a,d,C,y,-⟩;simp[Src.rd]at a;obtain⟨b,-⟩:=b;subst b;exact⟨none,0,a,fun j e=>absurd e (Nat.not_lt_zero j)⟩;simp[Src.rd]at a;have i:l.length=D:=AX _ _ y;refine⟨some f,c,by simp_all,fun j e=>⟨f,rfl,d.resolve_left (by omega),r,.int k,f.block,f.off+j,m,?_,rfl⟩⟩;rw[EQ p _ _ _ o];simp_all[Cl,Ty.cells]
theorem a3B(h:sM B U N tm w M){n p v r k off a}{l:List Int}(y:Ay (Af w M.ov) M.g U.rt (Ba B w M) (.swin n p off a) v)(i:U.rt n=some r)(C:Dc r.t r.x p=⟨.list true (.int k),l⟩):off+a<=l.length/\∃A c,v=.slice A a c/\∀j,j<a->∃b,A=some b/\b.spot=none/\Ay (Af w M.ov) M.g U.rt (Ba B w M) (.ptr n (p++[.idx (off+j)])) (.pointer (some ⟨b.block,b.off+j,none⟩)):=by(have⟨s,G,H,A,m,c,q,K,u,L,O,P,o,F,Q,g8⟩:=h.window y i C;rcases Ct u with⟨f,S⟩|⟨b,T,I,V,f,d,E,z,-⟩;simp[Src.rd]at f;simp_all;simp[Src.rd]at f;obtain⟨rfl,rfl,rfl⟩:=f;have e:l.length=m:=AX _ _ z;refine⟨by omega,o,_,F,fun j R=>?_⟩;rcases g8 with g8|g8;omega;simp[FC (d.resolve_left (by omega))]at g8;refine⟨_,g8,rfl,r,.int k,b.block,b.off+off*1+j,i,?_,rfl⟩;rw[EQ p _ _ _ q];have D:off+j<m:=by omega);simp_all[Cl,Ty.cells,Nat.add_assoc]
theorem qO{U:AE}(h:U.rt n=some r):U.sI n (some r)=U:=by(have:(fun j=>bif j==n then some r else U.rt j)=U.rt:=by grind);simp_all[AE.sI]
theorem a7s{U:AE}{r h:Option sP}:(U.sI n r).sI n h=U.sI n h:=by simp only[AE.sI];grind
theorem a7t(l:List Int)(i:Nat):Em [.idx i] (.list true (.int k)) l=⟨.int k,l.getD i 0⟩:=rfl
theorem b6D(l:List Int)(i:Nat)(y:Int):Gc [.idx i] (.list true (.int k)) l (.int k) y=l.set i y:=by show l.set i (Gc [] (.int k) (l.getD i 0) (.int k) y)=_;exact cG _ (WI (.int k) _ y)
theorem b6E{l:List Int}{y:Int}(b:U.pd=none)(e:U.rt n=some r)(h:Dc r.t r.x p=⟨.list true (.int k),l⟩):U.vK (.int k) n (p++[.idx i]) (.val (.int k) y) some=some (U.sI n (some ⟨r.bx,r.t,Fp r.t r.x p (.list true (.int k)) (l.set i y)⟩)):=by(have h:Em p r.t r.x=⟨.list true (.int k),l⟩:=h;have f:Em (p++[.idx i]) r.t r.x=⟨.int k,l.getD i 0⟩:=by rw[TN,h,a7t]);(have a:Gc (p++[.idx i]) r.t r.x (.int k) y=Gc p r.t r.x (.list true (.int k)) (l.set i y):=by have g:=WJ p [.idx i] r.t r.x (.int k) y;rw[h]at g;exact g.trans (cG (fun z:List Int=>Gc p r.t r.x (.list true (.int k)) z) (b6D l i y)));have c:Dc r.t r.x (p++[.idx i])=⟨.int k,l.getD i 0⟩:=f;have d:Fp r.t r.x (p++[.idx i]) (.int k) y=Fp r.t r.x p (.list true (.int k)) (l.set i y):=a;simp_all[AE.vK,Ty.sh,Ty.tO,AE.uT,AE.look,tF]
theorem b6F{n:Nat}{p:BJ}{k:IntKind}{V:TypeId}{i:Nat}{av:AV}{tm:Nat->Value}{b o off m L:Nat}(hp:ZC p=true)(hty:AQ P (.int k) (.inl V)=true) (f:∀{U:AE}{M:Gh}{w:World}{r:sP}{l:List Int},sM B U N tm w M->U.sl i=.one av->U.rt n=some r->Dc r.t r.x p=⟨.list true (.int k),l⟩->l.length=L->∀j,j<m->Ay (Af w M.ov) M.g U.rt (Ba B w M) (.ptr n (p++[.idx (off+j)])) (.pointer (some ⟨b,o+j,none⟩)))(c:off+m<=L):∀(ys:List Int)(s:Nat){U:AE}{M:Gh}{w:World}{r:sP}{l:List Int},s+ys.length<=m->sM B U N tm w M->U.pd=none->U.sl i=.one av->U.rt n=some r->Dc r.t r.x p=⟨.list true (.int k),l⟩->l.length=L->∃M',sM B (U.sI n (some ⟨r.bx,r.t,Fp r.t r.x p (.list true (.int k)) (l.take (off+s)++(ys++l.drop (off+s+ys.length)))⟩)) N tm (w.setCells b (o+s) (ys.map (Value.int k))) M'|[],s,U,M,w,r,l,_,h,_,_,d,a,_=>by(refine⟨M,?_⟩;have a:Em p r.t r.x=⟨.list true (.int k),l⟩:=a;have e:Fp r.t r.x p (.list true (.int k)) (l.take (off+s)++([]++l.drop (off+s+([]:List Int).length)))=r.x:=by(have C:=Yf p r.t r.x hp;rw[a]at C;have v:l.take (off+s)++([]++l.drop (off+s+([]:List Int).length))=l:=by simp);exact(cG (fun z:List Int=>Gc p r.t r.x (.list true (.int k)) z) v).trans C);(have H:sM B (U.sI n (some ⟨r.bx,r.t,r.x⟩)) N tm w M:=by rw[show(⟨r.bx,r.t,r.x⟩:sP)=r from rfl,qO d];omega);exact(cG (fun z=>sM B (U.sI n (some ⟨r.bx,r.t,z⟩)) N tm w M) e).mpr H|y::ys,s,U,M,w,r,l,Q,h,hpd,hsl,d,a,K=>by(simp at Q;have R:=f h hsl d a K s (by omega);have S:=b6E (i:=off+s) (y:=y) hpd d a;obtain⟨X,Y,M',Z,o',D,A,-,T,E⟩:=sM.xE rfl hty h R (Ay.tJ (k:=k) y) S;simp at D E;obtain⟨rfl,rfl⟩:=D;subst E;have A:X=w.setCell ⟨b,o+s,none⟩ (.int k y):=A;subst A;have I:Em p r.t r.x=⟨.list true (.int k),l⟩:=a;have u:=gO p r.t r.x (.list true (.int k)) (l.set (off+s) y) hp (by grind);have⟨F,q⟩:=b6F hp hty f c ys (s+1) (r:=⟨r.bx,r.t,Fp r.t r.x p (.list true (.int k)) (l.set (off+s) y)⟩) (l:=l.set (off+s) y) (by omega) T hpd hsl (Oq _) u (by simp_all);refine⟨F,?_⟩;rw[a7s]at q;have G:Fp r.t (Fp r.t r.x p (.list true (.int k)) (l.set (off+s) y)) p (.list true (.int k)) ((l.set (off+s) y).take (off+(s+1))++(ys++(l.set (off+s) y).drop (off+(s+1)+ys.length))) =Fp r.t r.x p (.list true (.int k)) (l.take (off+s)++(y::ys++l.drop (off+s+(y::ys).length))):=by(refine(gP p r.t r.x (.list true (.int k)) _ _ hp (by grind)).trans (cG _ ?_);have O:off+s<l.length:=by omega);rw[show off+(s+1)=off+s+1 from rfl,D8 (by simp_all)];rw[List.drop_set_of_lt (by omega)];simp only[List.getElem_set_self,F2 (B4 _),aA,lC,List.cons_append,E9];grind);rw[G]at q;exact q
theorem b6G{t0:TypeId}{off D c:Nat}{l ys:List Int}(hty:AQ P (.int k) (.inl t0)=true)(h:sM B U N (AH a) w M)(h9:U.pd=none)(hp:ZC p=true)(K:U.sl i=.one av)(Q:U.rt n=some r)(T:Dc r.t r.x p=⟨.list true (.int k),l⟩)(g1:off+D<=l.length)(G:∀{U:AE}{M:Gh}{w:World}{r:sP}{l':List Int},sM B U N (AH a) w M->U.sl i=.one av->U.rt n=some r->Dc r.t r.x p=⟨.list true (.int k),l'⟩->l'.length=l.length->∀j,j<D->∃f,A=some f/\f.spot=none/\Ay (Af w M.ov) M.g U.rt (Ba B w M) (.ptr n (p++[.idx (off+j)])) (.pointer (some ⟨f.block,f.off+j,none⟩)))(hE:VH w (Af w M.ov) (Ba B w M) (.int k) ys vy){ty:TypeId}(h0:ts[0]?=some t)(hu:P.underlying t=some (.slice t'))(I:vH P (.int k) t'):∃w' M',(Builtin.copy_ ts ty #[.slice A D c,vy]).run P w=.ok (goInt ((min D ys.length:Nat):Int)) w'/\sM B (U.sI n (some ⟨r.bx,r.t,Fp r.t r.x p (.list true (.int k)) (cH l off D ys)⟩)) N (AH a) w' M':=by
 obtain⟨Y,ny,cy,cs,rfl,hn,hlen,hone,⟨R,S,hR⟩,hc,hnone,hsp⟩:=hE;have h5:cs=ys.map (Value.int k):=by have:=UQ ys ny 0 (by simp_all[Ty.cells]) S;simp_all
 have⟨m,Z⟩:∃m,m=min D ys.length:=⟨_,rfl⟩;have h8:m<=ny:=by rw[hn,Z];exact Nat.min_le_right _ _
 have d:=Rt (P:=P) (w:=w) (w2:=w) (e:=.int k) rfl (fun _=>rfl) hlen hc hnone m h8 (c:=cy);simp[Ty.cells]at d;have O:cs.take m=(ys.take m).map (Value.int k):=by simp_all
 have V:cH l off D ys=l.take (off+0)++(ys.take m++l.drop (off+0+(ys.take m).length)):=by simp_all[cH]
 have E:Nat.min ny D=m:=by rw[Z,hn];exact Nat.min_comm _ _
 have C:(sizeOf t').run P w=.ok 1 w:=by have:=I.sizeOf (w:=w);simp_all[Ty.cells]
 by_cases hm0:m=0;refine⟨w,M,?_,?_⟩;rw[<-Z];simp only[Builtin.copy_,h0];have h6:(Builtin.firstCells 1 0 (.slice Y ny cy)).run P w=.ok #[] w:=by simp_all
 simp[run_underlying hu,Builtin.lenOf,E,hm0,C,h6];cases A<;>simp[storeCells];have e:cH l off D ys=l:=by rw[V,hm0];simp
 have h1:=Yf p r.t r.x hp;have v:Em p r.t r.x=⟨.list true (.int k),l⟩:=T;rw[v]at h1;have h4:sM B (U.sI n (some ⟨r.bx,r.t,r.x⟩)) N (AH a) w M:=by rw[show(⟨r.bx,r.t,r.x⟩:sP)=r from rfl,qO Q];omega
 exact(cG (fun z:List Int=>sM B (U.sI n (some ⟨r.bx,r.t,Fp r.t r.x p (.list true (.int k)) z⟩)) N (AH a) w M) e).mpr ((cG (fun z=>sM B (U.sI n (some ⟨r.bx,r.t,z⟩)) N (AH a) w M) h1).mpr h4);obtain⟨f,rfl,g2,-⟩:=G h K Q T rfl 0 (by omega);have⟨M',h2⟩:=b6F (b:=f.block) (o:=f.off) (off:=off) (m:=m) (L:=l.length) hp hty (fun hR hs g0 v h7 j hj=>by obtain⟨A1,e1,-,g⟩:=G hR hs g0 v h7 j (by omega);simp_all) (by omega) (ys.take m) 0 (by simp_all) h h9 K Q T rfl;refine⟨_,M',?_,(cG (fun z=>sM B (U.sI n (some ⟨r.bx,r.t,Fp r.t r.x p (.list true (.int k)) z⟩)) N (AH a) (w.setCells f.block (f.off+0) ((ys.take m).map (Value.int k))) M') V).mpr h2⟩;have q:∀j,j<m->∃kk,BY w f.block kk/\f.off+j<kk:=fun j hj=>by(obtain⟨A1,e1,-,r1,t1,b1,o1,F,q2,q3⟩:=G h K Q T rfl j (by omega);simp at e1;subst e1;simp at q3;obtain⟨rfl,rfl⟩:=q3;have H:=h.room F q2;refine⟨_,H,?_⟩;have g3:t1=.int k:=by rw[Q]at F;simp at F;subst F;obtain⟨O1,R1,k1,-⟩:=h.sep Q;obtain⟨y,O',R',_,_,_,_,-,g4,-⟩:=BT _ r.t _ k1 q2;have g5:Em (p++[.idx (off+j)]) r.t r.x=⟨t1,y⟩:=g4;have v:Em p r.t r.x=⟨.list true (.int k),l⟩:=T;rw[TN,v,a7t]at g5;grind);grind
 have X:=run_storeCells_cells (P:=P) f.block f.off (cs.take m) 0 w (fun j hj=>by
  have⟨kk,F,q2⟩:=q j (by simp_all);exact(F.cell (o:=f.off+0+j) (by omega)).1) (fun j hj=>by
  have⟨kk,F,q2⟩:=q j (by simp_all);exact(F.cell (o:=f.off+0+j) (by omega)).2) (fun u hu=>LL (hone u (List.mem_of_mem_take hu)))
 have h3:f=⟨f.block,f.off,none⟩:=by cases f;grind
 rw[<-h3,h5]at X;rw[<-Z];simp only[Builtin.copy_,h0];simp only[C7]at *;simp[run_underlying hu,Builtin.lenOf,E,C,d,X,O]
theorem b4p{o:Oper}{c:Call}{d:Nat}{cx:Cx}{q:Bool}{K:AE->Rs Z}{z:Z}(h6:CxTy P cx)(ho:o.op=.call c)(hb:c.callee=.builtin .copy)(hd:o.dst=some d) (h:sM B U N (AH a) w M)(hN:a.tmps.size=N)(hf:fits N o=true)(H:Bc cx q o U K=some z):AT P B N o a w K z:=by
 have⟨cs,h0⟩:=Yd (P:=P) (a:=a) (w:=w) ho hb;have hl:∃x y,c.args.toList=[x,y]:=by cases hl:c.args.toList with|nil=>simp_all[Bc,AE.uP]|cons x l=>cases l with|nil=>simp_all[Bc,AE.uP]|cons y l=>cases l with|nil=>simp|cons u l=>simp_all[Bc,AE.uP]
 have⟨x,y,h3⟩:=hl;have S:c.args=#[x,y]:=by grind
 have G:=Ye ho hb hf;rw[h3]at G;have hx:=h.sN (G x (by simp));have hy:=h.sN (G y (by simp));simp only[Bc,ho,hd,hb,h3,B7,E8,AE.uP]at H;split at H;grind;split at H;rename_i o' k hT;have⟨t,ht,hT⟩:=D5.1 hT;have g0:c.argTypes[0]?=some t:=by rw[<-B8];cases hl:c.argTypes.toList with|nil=>simp_all|cons y l=>simp_all
 have⟨g6,g1⟩:=h6.T t _ hT;have⟨t',hu,h2,g4⟩:=BQ g1;have⟨I⟩:=AK (AS h2);have⟨ys,H,hE⟩:=h.elems rfl hy H;have g5:∀(n:Nat)(p:BJ)(C:Nat)(L:Option Nat),(U.sN x=.sref n p/\C=0/\L=none\/∃D,U.sN x=.swin n p C D/\L=some D)->U.xD n p C L k ys (fun m O=>K (O.set d (.val (.int .i64) (m:Int))))=some z->AT P B N o a w K z:=by intro n p C L E H;unfold AE.xD at H;split at H;rename_i r h7;have⟨h8,hr⟩:=AR h7;split at H;(rename_i k' l hg;have⟨hc,h4⟩:=(Ai H).elim id fun h=>by grind);(simp at hc;obtain⟨rfl,hp⟩:=hc;have g3:∃i,x=.tmp i/\U.sl i=.one (U.sN x):=by cases x with|tmp i=>refine⟨i,rfl,?_⟩;grind[AE.sN,AE.get]|const v=>exfalso;simp[AE.sN]at E;unfold Ya at E;grind|global g=>(rcases E with⟨h1,-⟩|⟨_,h1,-⟩<;>cases h1)|func f=>rcases E with⟨h1,-⟩|⟨_,h1,-⟩<;>cases h1);(obtain⟨i,rfl,h9⟩:=g3;have hi:i<N:=by simp_all[Cj]);(have R:∀(A:Option Addr)(D Q:Nat),a.eval (.tmp i)=.slice A D Q->L.getD (C4 l)=D->C+D<=C4 l->(∀{O:AE}{M:Gh}{w:World}{r:sP}{l':List Int},sM B O N (AH a) w M->O.sl i=.one (U.sN (.tmp i))->O.rt n=some r->Dc r.t r.x p=⟨.list true (.int k'),l'⟩->l'.length=C4 l->∀j,j<D->∃A0,A=some A0/\A0.spot=none/\Ay (Af w M.ov) M.g O.rt (Ba B w M) (.ptr n (p++[.idx (C+j)])) (.pointer (some ⟨A0.block,A0.off+j,none⟩)))->AT P B N o a w K z:=by intro A D Q X h5 F V;have⟨w',M',k1,k2⟩:=b6G (ty:=o.type) h2 h h8 hp h9 hr hg F V hE g0 hu I (c:=Q);rw[h5]at h4;refine AT.set hd hN (w':=w') (M':=M') (h0.trans ?_) k2 (Ay.tJ _) h4;rw[S];have g2:a.eval (.tmp i)=.slice A D Q:=X;simp[builtin,g2,k1];rfl);(rcases E with⟨he,rfl,rfl⟩|⟨D,he,rfl⟩;rw[he]at hx;obtain⟨A,Q,X,-⟩:=a3A h hx hr hg;refine R A (C4 l) Q X rfl (by omega) fun {O M w r l'} hR hs hr' hg' hl' j hj=>?_);(have b:=hR.slots i hi;rw[hs,he]at b;have⟨A2,c2,Y,V⟩:=a3A hR b hr' hg';have e:=Y.symm.trans X;simp_all;rw[he]at hx;obtain⟨F,A,Q,X,-⟩:=a3B h hx hr hg;refine R A D Q X rfl F fun {O M w r l'} hR hs hr' hg' hl' j hj=>?_);have b:=hR.slots i hi;rw[hs,he]at b;obtain⟨-,A2,c2,Y,V⟩:=a3B hR b hr' hg';have e:=Y.symm.trans X;simp_all;simp_all;simp_all
 unfold AE.yI at H;grind;simp_all
theorem a2h{o:Oper}{f:Nat}{first g:Array Operand}{d:Nat}{cx:Cx}{q:Bool}{K:AE->Rs Z}{z:Z}(m:o.op=.makeFunc (.func f) first g)(l:o.dst=some d) (h:sM B U N (AH a) w M)(n:a.tmps.size=N)(p:fits N o=true)(j:Bc cx q o U K=some z):AT P B N o a w K z:=by
 have b:=Bg p;rw[m]at b;simp[Bc,m,l]at j;have⟨c,j⟩:=(Ai j).elim id fun h=>by grind
 have c:first=#[]:=by simp_all
 subst c;have e:(execOp a.eval o).run P w=.ok (.value (.func (.func f) #[] (g.map a.eval))) w:=by simp_all[execOp,Instr.makeFunc]
 refine⟨_,w,_,M,.inl e,?_,j⟩;rw[l];refine h.uN n (fun _=>⟨g.map a.eval,⟨by simp,rfl⟩,fun k r i=>?_⟩);rw[D7]at i;cases hp:g.toList[k]? with|none=>simp_all|some x=>rw[hp]at i;simp at i;subst i;refine⟨a.eval x,?_,h.sN (b x (by grind[Op.operands]))⟩;simp_all
theorem a2i{o:Oper}{t:TypeId}{n:Nat}{ps:Array (Nat×Operand)}{d:Nat}{cx:Cx}{q:Bool}{K:AE->Rs Z}{z:Z}{o':Bool}{e t0:Ty}(Y:CxTy P cx)(ho:o.op=.buildSlice t n ps)(hd:o.dst=some d)
  (hT:cx.T t=some (.list o' e))(hO:(bif q || !e.isList then none else cx.O d)=some t0)
  (h:sM B U N (AH a) w M)(hN:a.tmps.size=N)(hf:fits N o=true)(L:Bc cx q o U K=some z):AT P B N o a w K z:=by
 have k:∀y∈(o.op.operands.toList),Cj N y=true:=Bg hf;rw[ho]at k;simp[Bc,ho,hd,hT,hO]at L;split at L
 ·rename_i f x hl;split at L
  ·rename_i X;obtain⟨h2,rfl⟩:=X;have h1:e.isList=true:=by
    grind
   have h5:ps=#[(0,x)]:=by grind
   have⟨g3,h6⟩:=Y.T t _ hT;have⟨H,hu,F,g1⟩:=BQ h6;have⟨I⟩:=AK (AS F);have he:e.sh=e:=by
    simp_all[Ty.sh]
   have u:e.cells=1:=QA h1;have g0:f.cells=1:=by grind[Ty.sZ]
   have h9:Cj N x=true:=k x (by simp[Op.operands,h5]);have⟨z0,G⟩:∃z0,I.z.cells=#[z0]:=by
    have:=I.vB
    rw[u]at this;have⟨z0,G⟩:=F0.1 (show I.z.cells.toList.length=1 by omega);grind
   have h0:Ak (fun i=>AL (Af w M.ov) f fun j=>(#[z0]:Array Value)[i*f.cells+j]?) 1 0=some ([f.dflt],[],[]):=by
    have:=Ki (m:=Af w M.ov) f (rd:=fun j=>I.z.cells[j]?) (by rw[<-a7g,h2];exact I.zok)
    simp_all[Ak]
   obtain⟨U1,S,k1,Q,k3,-,k5⟩:=h.uW (c:=1) L (fun c X=>BF _ c X) (BR _) (Bt (Obj.cells #[z0] H)) (.inl rfl) (by simp_all) (by simp) h0 (by simp);have D:U1.rt d=some ⟨false,.list true f,[f.dflt]⟩:=by
    grind[AE.uM,AE.sI]
   have g2:=Q.xR D rfl k3;have C:Ay (Af (w.alloc (.cells #[z0] H)) S.ov) S.g U1.rt (Ba B (w.alloc (.cells #[z0] H)) S) (.ptr d [.idx 0]) (.pointer (some ⟨w.heap.size,0,none⟩)):=
    ⟨_,f,w.heap.size,0,D,by simp_all[Cl,Src.rd],rfl⟩
   have p:=Q.sN h9;split at k1
   ·rename_i m hy;rw[hy]at p;have h7:∃A n c,a.eval x=.slice A n c:=by
     have⟨r,e2,s2,q1,q2,q3⟩:=p;obtain⟨O',R,q4,-⟩:=(Q.roots m r q1).rd;simp[Cl]at q2;have⟨bx,tr,xr⟩:=r;obtain⟨rfl,rfl⟩:tr=.list true e2/\_=s2:=q2;rcases Ct q4 with⟨q5,-⟩|⟨A,n,c,os,q5,-⟩;all_goals grind
    have⟨A,nA,cA,hv⟩:=h7;have k6:=Q.uN (sv:=.one (.sref d [])) (v:=.slice (some ⟨w.heap.size,0,none⟩) 1 1) (d:=d) hN (fun _=>k3);obtain⟨w',U',M',b,g4,j1,j2,-,j4,j5⟩:=k6.xE he F C p k1;simp at j1;obtain⟨rfl,rfl⟩:=j1;have h8:w'=w.alloc (.cells #[a.eval x] H):=by
     simp_all[Value.cells,World.setCells,YQ]
    have E:(execOp a.eval o).run P w=.ok (.value (.slice (some ⟨w.heap.size,0,none⟩) 1 1)) (w.alloc (.cells #[a.eval x] H)):=by
     have l:Instr.fill (fun i=>some (i*1,1)) ((F8 (1*1)).map (I.z.cells[·%I.z.cells.size]!)) [(0,a.eval x)]=some #[a.eval x]:=by
      have hr:(F8 (1*1)).map (I.z.cells[·%I.z.cells.size]!)=#[z0]:=by rw[G];simp[Array.range_succ,show F8 0=#[]from rfl]
      rw[hr,hv];rfl
     have h3:¬ (1*1 > 2^24):=by simp
     have V:¬ (1*1=0):=by simp
     have h4:(ps.map fun(i,x)=>(i,a.eval x)).toList=[(0,a.eval x)]:=by simp_all
     simp only[execOp,ho,Instr.buildSlice,Sem.run_bind,run_underlying hu,Result.andThen_ok,I.sizeOf,u,if_neg h3,if_neg V,Sem.run_pure,I.zeroValue,h4,l,newRow]
     simp
    rw[h8]at j4;exact⟨_,_,U',M',.inl E,by simp_all,j5⟩
   simp_all
  simp_all
 simp_all
theorem b4q{cx:Cx}{K:AE->Rs Z}{z:Z}(j:CxTy P cx)(F:gD cx.G B)(E:∀c v,o.op=.call c->c.callee≠.value v)(h:sM B U N (AH a) w M)(l:a.tmps.size=N)(p:fits N o=true)(g:Bc cx q o U K=some z):AT P B N o a w K z:=by
 cases hd:o.dst with
 |none=>
  cases ho:o.op
  case store t x y=>
   cases hag:U.tL y with
   |none=>grind[qM]
   |some D=>grind[YR]
  case call c=>
   cases hc:c.callee with
   |value v=>simp_all
   |builtin b=>simp_all[Bc]
   |invoke r n=>simp_all[Bc]
  all_goals (simp only[Bc,ho,hd]at g;cases g)
 |some d=>
  cases ho:o.op
  case store t x y=>
   cases hag:U.tL y with
   |none=>grind[qM]
   |some D=>grind[YR]
  case call c=>
   cases hc:c.callee with
   |value v=>simp_all
   |builtin b=>
    cases b
    case len=>grind[b6x]
    case cap=>grind[b6y]
    case max=>grind[b6z]
    case min=>grind[b6A]
    case append=>grind[a7o]
    case copy=>grind[b4p]
    all_goals (simp only[Bc,ho,hd,hc]at g;unfold AE.uP at g;first|(cases g;done)|(split at g<;>first|(cases g;done)|(rename_i k;cases k;done)|(rename_i k _;cases k;done)))
   |invoke r n=>simp_all[Bc]
  case move x=>grind[b4b]
  case assign x=>grind[a7p]
  case pick x y u=>grind[b4c]
  case alloc t=>grind[b0L]
  case box t x=>
   cases hag:(bif q then none else U.tL x)with
   |none=>exact b6v ho hd hag h l p g
   |some D=>grind[a7r]
  case build t x=>
   cases hnl:cx.yD d t with
   |some τ=>grind[qJ]
   |none=>
    cases hO:cx.O d with
    |none=>grind[qJ]
    |some τ=>grind[a2g]
  case makeFunc fn first caps=>
   cases fn with
   |func f=>grind[a2h]
   |_=>simp_all[Bc]
  case buildSlice t n x=>
   by_cases hO:∃A e C,cx.T t=some (.list A e)/\(bif q || !e.isList then none else cx.O d)=some C;grind[a2i]
   ·refine mY j ho hd (fun A e H=>?_) h l p g;cases k:(bif q || !e.isList then none else cx.O d)with
    |none=>rfl
    |some C=>simp_all
  case load t x=>grind[b4g]
  case nilCheck x=>grind[a2e]
  case binOp op t x y s=>grind[b0G]
  case unOp op t x=>grind[b4d]
  case convert s t x=>grind[a5g]
  case makeSlice t x y=>grind[qG]
  case slice t x u v m=>grind[b0I]
  case fieldAddr s x f=>grind[qC]
  case field s x f=>grind[b0J]
  case indexAddr t x i=>grind[qB]
  case index t x i=>grind[b0K]
  case extract x i=>
   cases x with
   |tmp t=>grind[a4Y]
   |_=>simp_all[Bc]
  all_goals (simp only[Bc,ho,hd]at g;cases g)
end
def cells(w:World):DU:=fun b o=>w.cell? ⟨b,o,none⟩
structure wF where
 r:sP
 s:Src
 O:CI
def RK(U:AE)(f:AV->AV)(E:Nat->Option wF):AE:=⟨(U.sJ f).sl,fun n=>match E n with|some e=>some e.r|none=>U.rt n,none⟩
def HF(M:Gh)(E:Nat->Option wF):Gh:=⟨fun n=>match E n with|some e=>e.s|none=>M.g n,fun n=>match E n with|some e=>e.O|none=>M.ow n,none⟩
theorem MT{U f E n}(h:E n=none):(RK U f E).rt n=U.rt n:=by simp[RK,h]
theorem GH{U f E n e}(h:E n=some e):(RK U f E).rt n=some e.r:=by simp[RK,h]
theorem RL{M E n}(h:E n=none):(HF M E).g n=M.g n:=by simp[HF,h]
theorem GI{M E n e}(h:E n=some e):(HF M E).g n=e.s:=by simp[HF,h]
theorem Dd{M E n}(h:E n=none):(HF M E).ow n=M.ow n:=by simp[HF,h]
theorem Eh{M E n e}(h:E n=some e):(HF M E).ow n=e.O:=by simp[HF,h]
structure yH (w w':World) (M:Gh) (F':Nat->Prop) (E:Nat->Option wF):Prop where
 own:∀c,F' c->∃n e,E n=some e/\c∈(M.ow n).map (·.1)
 size:w.heap.size<=w'.heap.size
 same:∀b,b<w.heap.size->¬ F' b->w'.heap[b]?=w.heap[b]?
 mine:∀n e c,E n=some e->c∈e.O.map (·.1)->(F' c\/c∈(M.ow n).map (·.1))\/w.heap.size<=c
 nodup:∀n e,E n=some e->(e.O.map (·.1)).Nodup
 sV:∀n e n' e',E n=some e->E n'=some e'->n≠n'->∀c,c∈e.O.map (·.1)->c∉e'.O.map (·.1)
 live:∀n e p,E n=some e->p∈e.O->BY w' p.1 p.2
 still:Gr w'=Gr w
theorem sM.yL{B U N tm w M}(h:sM B U N tm w M)(h6:M.ov=none){K:Nat->Prop}{E:Nat->Option wF}(W:yH w w' M K E)(V:∀n e,E n=some e->tV (cells w') (fun c=>c<w'.heap.size/\(Ba B w M c\/K c\/w.heap.size<=c)/\∀n e,E n=some e->c∉e.O.map (·.1)) e.r e.s e.O)(h8:∀i b e,B.pin i=some b->E (pinned+i)=some e->e.s=b){f:AV->AV}(hf:∀a v,Ay (Af w M.ov) M.g U.rt (Ba B w M) a v->f a=.dead\/(f a=a/\∀k q,(a=.ptr k q\/a=.sref k q\/∃o l,a=.swin k q o l)->E k=none\/(a=.ptr k []/\∃e b,E k=some e/\e.s=.at b 0/\M.g k=.at b 0)\/
   (a=.sref k []/\∃e v ε,E k=some e/\e.s=.one v/\M.g k=.one v/\e.r.t=.list true ε))):
  sM B (RK U f E) N tm w' (HF M E)/\
   (∀c,c<w'.heap.size/\(Ba B w M c\/K c\/w.heap.size<=c)/\(∀n e,E n=some e->c∉e.O.map (·.1))->Ba B w' (HF M E) c):=by
 have D:∀c,K c->BB M c:=fun c m=>by obtain⟨n,e,-,z⟩:=W.own c m;exact⟨n,z⟩
 have h7:∀c,K c->c<w.heap.size:=fun c m=>h.lt (D c m)

 have P:∀n c,E n=none->c∈(M.ow n).map (·.1)->¬ K c:=fun n c z m S=>by
  have⟨G,H,Z,x⟩:=W.own c S;have A:n≠G:=by grind
  exact h.sV n G A c m x
 have h0:∀c,BB (HF M E) c->(∃n,E n=none/\c∈(M.ow n).map (·.1))\/∃n e,E n=some e/\c∈e.O.map (·.1):=by
  rintro c ⟨n,z⟩;cases d:E n with
  |none=>grind[Dd]
  |some e=>grind[Eh]
 have X:∀c,c<w'.heap.size/\(Ba B w M c\/K c\/w.heap.size<=c)/\(∀n e,E n=some e->c∉e.O.map (·.1))->Ba B w' (HF M E) c:=by
  rintro c ⟨Z,x,Y⟩;refine⟨Z,?_,fun ho=>?_⟩;rcases x with x|x|x;exact x.2.1;exact .inr (h.mine c (D c x));exact .inr (.inr (D1 h.size x));rcases h0 c ho with⟨n,d,z⟩|⟨n,e,d,z⟩;rcases x with x|x|x;exact x.2.2 ⟨n,z⟩;grind
  have:=h.lt ⟨n,z⟩;omega
  grind
 have R:∀c,Ba B w M c->Ba B w' (HF M E) c:=fun c m=>X c ⟨C0 m.1 W.size,.inl m,fun n e d z=>by
  rcases W.mine n e c d z with(g|g)|g;exact m.2.2 (D c g);exact m.2.2 ⟨n,g⟩
  have:=m.1;omega⟩
 have L:∀c j,c<w.heap.size->¬ K c->Af w' none c j=Af w M.ov c j:=fun c j m S=>by
  rw[h6];exact BE none (W.same c m S) j
 have y:∀n c j,E n=none->c∈(M.ow n).map (·.1)->Af w' none c j=Af w M.ov c j:=fun n c j z m=>L c j (h.lt ⟨n,m⟩) (P n c z m);have T:∀c j,Ba B w M c->Af w' none c j=Af w M.ov c j:=fun c j m=>L c j m.1 fun S=>m.2.2 (D c S);have I:∀n q r t s,E n=none->U.rt n=some r->loc (Af w M.ov) r.t (M.g n) q=some (t,s)->loc (Af w' none) r.t (M.g n) q=some (t,s)/\s.rd (Af w' none) 0=s.rd (Af w M.ov) 0:=by
  intro n q r t s d hr hl;have⟨O1,R1,l1,l2,l3,l4,l5,l6⟩:=h.sep hr;refine⟨CW q r.t _ l1 hl (fun j _=>?_) (fun c j m=>y n c j d (l4 c m)),?_⟩
  ·cases es:M.g n with
   |one v=>rfl
   |_=>rename_i b o;exact y n b _ d (l5 _ _ es)
  ·cases s with
   |one v=>rfl
   |_=>rename_i b o;exact y n b _ d (h.place hr hl)
 refine⟨⟨fun n r hr=>?_,fun n z=>?_,fun n=>?_,fun n G A c m F=>?_,fun n p Q=>?_,fun i hi=>?_,trivial,D1 h.size W.size,fun b hb S=>?_,fun c m=>?_,fun i b hb A=>?_,W.still.trans h.still⟩,X⟩
 ·cases d:E n with
  |none=>
   rw[MT d]at hr;rw[RL d,Dd d];have⟨O1,R1,l1,l2,l3,l4,l5,l6⟩:=h.sep hr;refine⟨O1,R1,?_,fun c m=>R c (l2 c m),l6⟩;show AL (Af w' none) r.t ((M.g n).rd (Af w' none))=_;refine AF r.t l1 (fun j _=>?_) (fun c j m=>?_)
   ·cases es:M.g n with
    |one v=>rfl
    |_=>rename_i b o;exact y n b _ d (l5 _ _ es)
   grind
  |some e=>
   rw[GH d]at hr;rw[GI d,Eh d];simp at hr;subst hr;exact(V n e d).mono X
 ·cases d:E n with
  |none=>rw[MT d]at z;rw[Dd d];exact h.norm n z
  |some e=>grind[GH]
 ·cases d:E n with
  |none=>rw[Dd d];exact h.nodup n
  |some e=>rw[Eh d];exact W.nodup n e d
 ·have h4:∀n G,E n=none->∀H,E G=some H->c∈(M.ow n).map (·.1)->c∈H.O.map (·.1)->False:=fun n G d H C m F=>by
   rcases W.mine G H c C F with(g|g)|g;grind;exact h.sV n G (by grind) c m g
   have:=h.lt ⟨n,m⟩;omega
  cases d:E n with
  |none=>
   rw[Dd d]at m;cases C:E G with
   |none=>rw[Dd C]at F;exact h.sV n G A c m F
   |some H=>grind[Eh]
  |some e=>
   rw[Eh d]at m;cases C:E G with
   |none=>grind[Dd]
   |some H=>rw[Eh C]at F;exact W.sV n e G H d C A c m F
 ·cases d:E n with
  |none=>
   rw[Dd d]at Q;have⟨c,e,lo,hi,Z,x,Y⟩:=h.live n p Q;have m:=A3 (f:=(·.1)) Q;exact⟨c,e,lo,hi,by rw[W.same p.1 (h.lt ⟨n,m⟩) (P n p.1 d m)];omega,x,Y⟩
  |some e=>rw[Eh d]at Q;exact W.live n e p d Q
 refine(h.slots i hi).sJ fun a v ha=>?_
 rcases hf a v ha with g|⟨g,hk⟩;rw[g];trivial;rw[g];by_cases hz:∃k e b,a=.ptr k []/\E k=some e/\e.s=.at b 0/\M.g k=.at b 0;obtain⟨k,e,b,rfl,d,hs,hg⟩:=hz;have⟨r,t,b',o,Z,x,Y⟩:=ha;simp[Cl,hg]at x;obtain⟨rfl,rfl,rfl⟩:=x;refine⟨e.r,e.r.t,b,0,GH d,?_,Y⟩;rw[GI d,hs];rfl;by_cases hy:∃k e u ε,a=.sref k []/\E k=some e/\e.s=.one u/\M.g k=.one u/\e.r.t=.list true ε;obtain⟨k,e,u,ε,rfl,d,hs,hg,ht⟩:=hy;have⟨r,H,s,Z,x,Y⟩:=ha;simp[Cl,hg]at x;obtain⟨-,rfl⟩:=x;refine⟨e.r,ε,.one u,GH d,?_,Y⟩;rw[GI d,hs,ht];rfl;refine ha.frame T R fun k q r t s h5 hr hl=>?_
 have d:E k=none:=by
  grind
 have Q:=I k q r t s d hr hl;refine⟨r,by grind[MT],by rw[RL d];exact Q.1,fun u _ hu=>by rw[<-hu];exact Q.2⟩
 ·rw[W.same b (C0 hb h.size) ?_];exact h.frame b hb S
  ·intro g;rcases h.mine b (D b g)with g|g;all_goals grind
 rcases h0 c m with⟨n,d,z⟩|⟨n,e,d,z⟩;exact h.mine c ⟨n,z⟩;rcases W.mine n e c d z with(g|g)|g;exact h.mine c (D c g);exact h.mine c ⟨n,g⟩;exact .inr (D1 h.size g)
 ·cases d:E (pinned+i)with
  |none=>rw[MT d]at A;rw[RL d];exact h.pins i b hb A
  |some e=>grind[GI]
def a7u:Src->Value->Prop|.at b o,v=>o=0/\v=.pointer (some ⟨b,0,none⟩)|.one u,v=>v=u
theorem a7u.yF:∀{s:Src}{u v:Value},a7u s u->a7u s v->u=v|.at _ _,_,_,h,g=>h.2.trans g.2.symm|.one _,_,_,h,g=>h.trans (show _=_ from g).symm
def lg(w:World)(M:Gh)(n:Nat)(bx:Bool):Src:=match bx,M.g n with|false,.at b _=>.one ((w.cell? ⟨b,0,none⟩).getD undef)|_,s=>s
def lo(M:Gh)(n:Nat)(bx:Bool):CI:=match bx,M.g n with|false,.at _ _=>(M.ow n).tail|_,_=>M.ow n
theorem c3s{g:Bool}{p}(h:p∈lo M n g):p∈M.ow n:=by unfold lo at h;grind[List.mem_of_mem_tail]
def a7v(w:World)(U:AE)(M:Gh)(n:Nat)(r:sP)(v:Value):Prop:=(U.rt n=some r/\a7u (M.g n) v)\/∃b,(r.bx=false/\∃e,r.t=.list true e)/\U.rt n=some ⟨true,r.t,r.x⟩/\M.g n=.at b 0/\w.cell? ⟨b,0,none⟩=some v
theorem a7v.keep{a:AE}{M':Gh}(h:a7v w U M n r v)(d:∀r,U.rt n=some r->a.rt n=some r/\M'.g n=M.g n):a7v w a M' n r v:=by rcases h with⟨f,c⟩|⟨b,f,c,i,j⟩;have⟨k,e⟩:=d _ f;exact .inl ⟨k,by simp_all⟩;have⟨k,e⟩:=d _ c;exact .inr ⟨b,f,k,e.trans i,j⟩
structure xI (fz:Bool) (B:Base) (w:World) (U':AE) (M':Gh) (ps:List PA) (x:(DG (ps.map PA.ty)).sK) (vs:List Value) (used us:List Nat) (i0:Nat):Prop where
 vals:∀(i:Nat)(t:Ty)(y:t.sK)(v:Value),(Bw ps x)[i]?=some ⟨.v t,y⟩->vs[i]?=some v->
  Ci (Af w M'.ov) (fun c=>Ba B w M' c\/(fz=false/\∃n,n∉used/\n∉us/\c∈(M'.ow n).map (·.1))) t y v
 refs:∀(k n:Nat),us[k]?=some n->∃(i:Nat)(c:Bool)(a:RA)(y:a.ty.sK)(v:Value)(r:sP),(AW ps i0)[k]?=some (i0+i)/\(Bw ps x)[i]?=some ⟨.r c a,y⟩/\vs[i]?=some v/\
  Bh ⟨a,y⟩=some r/\a7v w U' M' n r v/\(c=true->U'.rt n=some r/\r.bx=false/\n<pinned)
 len:us.length=(AW ps i0).length
 nodup:us.Nodup
 apart:∀n∈us,n∉used
section
variable {B:Base} {N:Nat} {tm:Nat->Value} {w:World} {U:AE} {M:Gh}
theorem sM.uJ(h:sM B U N tm w M)(f:U.rt n=some r):(r.bx=true/\∃b,M.g n=.at b 0)\/(r.bx=false/\∃v e,M.g n=.one v/\r.t=.list true e):=by obtain⟨k,R,-,-,a⟩:=(h.roots n r f).rd;grind
theorem sM.xA(h:sM B U N tm w M)(x:M.ov=none)(q:a7v w U M n r v):
  tV (Af w M.ov) (Ba B w M) r (lg w M n r.bx) (lo M n r.bx)/\a7u (lg w M n r.bx) v/\(∀p∈lo M n r.bx,p∈M.ow n)/\((lo M n r.bx).map (·.1)).Nodup/\
   ((r.bx=true/\∃b,lg w M n r.bx=.at b 0)\/(r.bx=false/\∃u e,lg w M n r.bx=.one u/\r.t=.list true e)):=by
 rcases q with⟨f,i⟩|⟨b,f,i,E,F⟩
 ·have k:lg w M n r.bx=M.g n/\lo M n r.bx=M.ow n:=by
   rcases h.uJ f with⟨d,b,c⟩|⟨d,u,e,c,-⟩;all_goals simp_all[lg,lo]
  rw[k.1,k.2];exact⟨h.roots n r f,i,fun _ g=>g,h.nodup n,h.uJ f⟩
 have⟨f,l⟩:=f;have⟨o,R,z,A,C⟩:=(h.roots n _ i).rd;have k:lg w M n r.bx=.one v/\lo M n r.bx=(M.ow n).tail:=by simp_all[lg,lo]
 rcases C with⟨-,D,d,c⟩|⟨d,-⟩;rw[k.1,k.2,c];have a:=h.nodup n;rw[c,B7]at a;have⟨e,m⟩:=l;refine⟨⟨o,R,?_,A,.inr ⟨f,⟨v,rfl⟩,⟨e,m⟩,rfl⟩⟩,rfl,fun p y=>A4 _ y,(A9.1 a).2,.inr ⟨f,v,e,rfl,m⟩⟩;refine AF r.t z (fun j G=>?_) (fun _ _ _=>rfl);simp_all[Ty.cells,Src.rd,Af];simp_all
end
section
variable {Z:Type} {B:Base} {N:Nat} {tm:Nat->Value} {w:World}
theorem sM.arg(h:sM B U N tm w M){fz:Bool}{used seen:List Nat}{p:PA}{K:p.ty.sK->AE->List Nat->List Nat->Rs Z}{z:Z}(y:Ay (Af w M.ov) M.g U.rt (Ba B w M) a v\/cL U a)(f:U.arg fz q used seen p a K=some z):
  ∃x j M' i d,K x j i d=some z/\sM B j N tm w M'/\Ev B w U M j M'/\Jf (·∉used) U M j M'/\(fz=false\/q=true->j=U/\M'=M)/\(∀n∈seen,n∈d)/\
   match p,x with
   |.v t,x=>i=used/\Ci (Af w M'.ov) (fun c=>Ba B w M' c\/(fz=false/\∃n,n∉used/\n∈d/\c∈(M'.ow n).map (·.1))) t x v
   |.r c b,x=>∃n r,i=n::used/\n∉used/\n∉seen/\d=seen/\Bh ⟨b,x⟩=some r/\a7v w j M' n r v/\(c=true->j.rt n=some r/\r.bx=false/\n<pinned):=by
 cases p with
 |v t=>
  simp only[AE.arg]at f;obtain⟨hv,f⟩:(a.sU.any fun n=>used.contains n)=false/\_:=by
   rcases Ai f with⟨-,g⟩|⟨C,u⟩;cases g;exact⟨C,u⟩
  have F:∀n∈a.sU,n∉used:=fun n O hu=>by
   simp_all
  cases fz with
  |true=>
   simp at f;obtain⟨x,j,M',H,I,S,T,V,X⟩:=h.yA y f;exact⟨x,j,M',used,seen,H,I,T,X.mono F,fun g=>V (g.resolve_left (by simp)),fun _ g=>g,rfl,S.frame (fun _ _ _=>rfl) (fun c l=>.inl l)⟩
  |false=>
   simp at f;obtain⟨x,H,I⟩:=h.yQ y f;exact⟨x,U,M,used,a.sU++seen,H,h,Ev.refl,Jf.refl,fun _=>⟨rfl,rfl⟩,fun _ g=>D9 _ g,rfl,
    I.frame (fun _ _ _=>rfl) (fun c l=>l.imp id fun⟨n,O,l⟩=>⟨rfl,n,F n O,D2 _ O,l⟩)⟩
 |r c b=>
  cases b with
  |v t=>cases a<;>simp only[AE.arg]at f<;>cases f
  |b t=>
   cases a with
   |ptr n p=>
    cases p with
    |cons=>simp only[AE.arg]at f;cases f
    |nil=>
     simp only[AE.arg]at f;split at f;grind;rename_i A;simp at A;split at f;rename_i t' x L;obtain⟨D,m⟩:=AR L;split at f;rename_i P;subst P;rcases y with⟨r',t1,b,o,C,u,G⟩|⟨k,q',l,hk⟩;rw[m]at C;simp at C;subst C;obtain⟨O',R,-,-,l⟩:=(h.roots n _ m).rd;rcases l with⟨-,b',E,-⟩|⟨hb,-⟩;simp[Cl,E]at u;obtain⟨-,rfl,rfl⟩:=u;exact⟨x,U,M,n::used,seen,f,h,Ev.refl,Jf.refl,fun _=>⟨rfl,rfl⟩,fun _ g=>g,n,_,rfl,A.1.2,A.2,rfl,rfl,.inl ⟨m,by rw[E];exact⟨rfl,G⟩⟩,fun g=>by simp_all⟩;simp_all;simp_all;simp_all;simp_all
   |_=>simp only[AE.arg]at f;cases f
  |o e=>
   cases a with
   |sref n p=>
    cases p with
    |cons=>simp only[AE.arg]at f;cases f
    |nil=>
     simp only[AE.arg]at f;split at f;grind
     ·rename_i A;simp only[Bool.or_eq_true,bA,List.contains_iff_mem,not_or,F9,dT,not_and]at A;split at f
      ·rename_i Q e' x L;obtain⟨D,m⟩:=AR L;split at f
       ·rename_i P;subst P;rcases y with y|⟨k,q',l,hk⟩
        ·obtain⟨Y,f⟩:=(Ai f).elim (fun h=>by grind) id;refine⟨x,U,M,n::used,seen,f,h,Ev.refl,Jf.refl,fun _=>⟨rfl,rfl⟩,fun _ g=>g,n,_,rfl,A.1.2,A.2,rfl,rfl,?_,fun g=>⟨?_,rfl,by simp_all⟩⟩
         ·cases Q with
          |false=>exact .inl ⟨m,by rw[h.xR m rfl y];rfl⟩
          |true=>
           rcases h.uJ m with⟨-,b,E⟩|⟨g,-⟩;refine .inr ⟨b,⟨rfl,_,rfl⟩,m,E,?_⟩;obtain⟨r',e2,s2,C,u,G⟩:=y;simp[Cl]at u;rw[<-u.2,E,h.tC D]at G;exact G;simp_all
         simp_all
        simp_all
       simp_all
      simp_all
   |_=>simp only[AE.arg]at f;cases f
theorem sM.args:∀(O:List PA) (as:List AV)(u:List Value){U:AE}{M:Gh}(_:sM B U N tm w M){fz q:Bool}{used seen:List Nat}{i0:Nat}{K:(DG (O.map PA.ty)).sK->AE->List Nat->Rs Z} {z:Z} (_:∀(i:Nat)(a:AV)(v:Value),as[i]?=some a->u[i]?=some v->Ay (Af w M.ov) M.g U.rt (Ba B w M) a v\/cL U a) (_:u.length=as.length) (_:U.args fz q used seen O as K=some z),O.length=as.length/\∃x f M' us,K x f (us.reverse++used)=some z/\sM B f N tm w M'/\Ev B w U M f M'/\Jf (·∉used) U M f M'/\(fz=false\/q=true->f=U/\M'=M)/\(∀n∈seen,n∉us)/\xI fz B w f M' O x u used us i0|[],as,u,U,M,h,fz,q,used,seen,i0,K,z,has,hlen,D=>(by cases as with|nil=>exact⟨rfl,(),U,M,[],D,h,Ev.refl,Jf.refl,fun _=>⟨rfl,rfl⟩,by simp,⟨fun i t y v j=>by simp_all,by simp,rfl,by simp,by simp⟩⟩|cons=>simp_all[AE.args])|[p],as,u,U,M,h,fz,q,used,seen,i0,K,z,has,hlen,D=>(by match as,u,hlen with|[a],[v],_=>(simp[AE.args]at D;have⟨x,f,M',g6,h9,h1,h2,L,R,S,h6,o⟩:=h.arg (has 0 a v rfl rfl) D;cases p with|v t=>(obtain⟨rfl,o⟩:=o;refine⟨rfl,x,f,M',[],h1,h2,L,R,S,by simp,⟨fun i V y l j A=>?_,by simp,rfl,by simp,by simp⟩⟩;cases i with|zero=>(simp[Bw]at j A;cases j;cases A;exact o.frame (fun _ _ _=>rfl) (fun c E=>E.imp id fun⟨e,n,C,Q,I⟩=>⟨e,n,C,by simp,I⟩))|succ i=>simp_all)|r c b=>obtain⟨n,r,rfl,C,Q,I,g4,g5,X⟩:=o;refine⟨rfl,x,f,M',[n],h1,h2,L,R,S,fun m G=>by grind,⟨fun i V y l j A=>?_,fun k m F=>?_,rfl,by simp,by simp_all⟩⟩;grind[Bw];cases k with|zero=>simp at F;subst F;exact⟨0,c,b,x,v,r,rfl,rfl,rfl,g4,g5,X⟩|succ k=>simp_all)|[],_,_=>simp_all[AE.args]|_::_::_,_,_=>simp_all[AE.args])|p::p'::O,as,u,U,M,h,fz,q,used,seen,i0,K,z,has,hlen,D=>by match as,u,hlen with|[],_,_=>simp_all[AE.args]|a::as,v::u,hlen=>simp[AE.args]at D;have⟨x,U1,M1,g9,g0,h1,h2,L,R,S,h6,o⟩:=h.arg (has 0 a v rfl rfl) D;have ⟨hl,y,f,M',us,k1,k2,k3,k4,k5,k6,k7⟩:=sM.args (p'::O) as u (i0:=i0+1) h2 (fun i P l j A=>L.live (has (i+1) P l (by simp_all) (by simp_all))) (by simp_all) h1;refine⟨by simp_all,?_⟩;have d:fz=false\/q=true->f=U/\M'=M:=fun g=>⟨(k5 g).1.trans (S g).1,(k5 g).2.trans (S g).2⟩;cases p with|v t=>(obtain⟨rfl,o⟩:=o;refine⟨(x,y),f,M',us,k1,k2,L.trans k3,R.trans k4,d,fun n T=>k6 n (h6 n T),⟨fun i V H l j A=>?_,fun k n F=>?_,k7.len,k7.nodup,k7.apart⟩⟩;(cases i with|zero=>(simp[Bw]at j A;cases j;cases A;cases fz with|false=>(obtain⟨rfl,rfl⟩:=k5 (.inl rfl);exact o.frame (fun _ _ _=>rfl) (fun c E=>E.imp id fun⟨e,n,C,Q,I⟩=>⟨e,n,C,k6 n Q,I⟩))|true=>have h8:Ci (Af w M1.ov) (Ba B w M1) t x v:=o.frame (fun _ _ _=>rfl) (fun c E=>E.resolve_right (by simp));have k0:=k3.zA h8;simp_all)|succ i=>exact k7.vals i V H l (by simpa[Bw]using j) (by simp_all));have⟨i,c',P,H,l,r',j1,j2,j3,j4⟩:=k7.refs k n F;exact⟨i+1,c',P,H,l,r',by grind[AW],by simpa[Bw]using j2,by simp_all,j4⟩)|r c b=>(obtain⟨n,r,rfl,C,Q,rfl,g4,g5,X⟩:=o;have T:=fun r0 Y=>k4.1 n r0 (.inr (by simp)) Y;refine⟨(x,y),f,M',n::us,by simp_all,k2,L.trans k3,R.trans (k4.mono fun m G g=>G (A4 _ g)),d,fun m G=>?_,⟨fun i V H l j A=>?_,fun k m F=>?_,by simp[AW,k7.len],?_,?_⟩⟩;grind);(cases i with|zero=>grind[Bw]|succ i=>exact(k7.vals i V H l (by simpa[Bw]using j) (by simp_all)).frame (fun _ _ _=>rfl) (fun c E=>E.imp id fun⟨e,m,C,Q,I⟩=>⟨e,m,fun g=>C (A4 _ g),by simp_all,I⟩));(cases k with|zero=>simp at F;subst F;exact⟨0,c,b,x,v,r,rfl,rfl,rfl,g4,g5.keep fun r0 Y=>⟨(T r0 Y).1,(T r0 Y).2.1⟩,fun g=>⟨(T r (X g).1).1,(X g).2⟩⟩|succ k=>have⟨i,c',P,H,l,r',j1,j2,j3,j4⟩:=k7.refs k m (by simp_all);exact⟨i+1,c',P,H,l,r',by grind[AW],by simpa[Bw]using j2,by simp_all,j4⟩);simp;exact⟨fun g=>k7.apart n g (by simp),k7.nodup⟩;intro m G;rcases mC.1 G with rfl|G;omega;exact fun g=>k7.apart m G (A4 _ g)
end
def a5i(m:DU)(Sh:Nat->Prop):((r:RA)×r.ty.sK)->Value->Src×CI->Prop|⟨.v t,x⟩,v,L=>Ci m Sh t x v/\L.2=[]|⟨.o e,x⟩,v,L=>L.1=.one v/\tV m Sh ⟨false,.list true e,x⟩ L.1 L.2|⟨.b t,x⟩,v,L=>tV m Sh ⟨true,t,x⟩ L.1 L.2/\∃b,L.1=.at b 0/\v=.pointer (some ⟨b,0,none⟩)
structure wR (B:Base) (w':World) (its:List ((r:RA)×r.ty.sK)) (vs:List Value) (Ls:List (Src×CI)):Prop where
 lv:vs.length=its.length
 ll:Ls.length=its.length
 ok:∀(k:Nat)(it:(r:RA)×r.ty.sK) (v:Value) (L:Src×CI),its[k]?=some it->vs[k]?=some v->Ls[k]?=some L->
  a5i (cells w') (fun c=>c<w'.heap.size/\(B.S c\/B.F c\/B.size<=c)/\∀L∈Ls,c∉L.2.map (·.1)) it v L
 nodup:∀L∈Ls,(L.2.map (·.1)).Nodup
 sV:∀(k k':Nat)(L L':Src×CI),Ls[k]?=some L->Ls[k']?=some L'->k≠k'->∀c,c∈L.2.map (·.1)->c∉L'.2.map (·.1)
 live:∀L∈Ls,∀p∈L.2,BY w' p.1 p.2
 mine:∀L∈Ls,∀c∈L.2.map (·.1),B.F c\/B.size<=c
 size:B.size<=w'.heap.size
 frame:∀b,b<B.size->¬ B.F b->w'.heap[b]?=B.hp b
 still:Gr w'=B.io
def jU:List Value->Value|[v]=>v|vs=>.tuple vs.toArray
def Gu(ps:List PA)(args:Array Value)(i:Nat):Value:=match mX ps i with|some true=>.slice none 0 0|_=>args.getD i undef
def b2Y(B:Base)(ps:List PA)(args:Array Value):Prop:=∀i∈AW ps 0,mX ps i=some false->∃s,B.pin i=some s/\a7u s (args.getD i undef)
def c3t(C:Array Value->World->(Ending->World->Prop)->Prop)(G:YE)(s:sG):Prop:=∀(w:World)(B:Base)(M:Gh)(args:Array Value) x y,gD G B->s.F x=some y->B.size=w.heap.size->(∀b,B.hp b=w.heap[b]?)->M.ov=none->args.size=s.ps.length->sM B (Ws s.ps x) s.ps.length (fun i=>args.getD i undef) w M->b2Y B s.ps args->C args w fun e w'=>∃vr Ls,e=.returned (jU vr)/\vr.length=s.rs.length/\wR B w' (EJ (RA.all s.ps s.rs) y) (vr++(AW s.ps 0).map (Gu s.ps args)) Ls
def KU(P:Program)(G:YE)(f:FuncId)(s:sG):Prop:=c3t (Calls P f) G s
def b6H(P:Program)(G:YE)(f:FuncId)(s:sG):Prop:=c3t (fun args w R=>∃v w',(callFunc f args).run P w=.ok (.value v) w'/\R (.returned v) w') G s
def ZJ (P : Program) (f : FuncId) : Prop := ∃ fn c, P.funcs[f]? = some fn /\ fn.body = some c /\ (fn.name == "runtime.NumGoroutine") = false
def a7w(P:Program)(G:YE)(f:FuncId)(s:sG):Prop:=(KU P G f s/\ZJ P f)\/b6H P G f s
theorem MU:∀(h:List RA)(x:(DG (h.map RA.ty)).sK),(EJ h x).length=h.length|[],_=>rfl|[_],_=>rfl|_::g::h,x=>by simp only[EJ,lC];rw[MU (g::h) x.2];rfl
theorem TO:∀(g:List RA)(x:(DG (g.map RA.ty)).sK) (k:Nat) it,(EJ g x)[k]?=some it->g[k]?=some it.1|[],_,k,it,h=>by simp[EJ]at h|[r],x,0,it,h=>by grind[EJ]|[r],x,k+1,it,h=>by simp[EJ]at h|r::f::g,x,0,it,h=>by grind[EJ]|r::f::g,x,k+1,it,h=>by simpa using TO (f::g) x.2 k it (by simpa[EJ]using h)
theorem IM:∀(h:List PA)(x:(DG (h.map PA.ty)).sK),(Bw h x).length=h.length|[],_=>rfl|[_],_=>rfl|_::g::h,x=>by simp only[Bw,lC];rw[IM (g::h) x.2];rfl
theorem JE:∀(g:List PA)(x:(DG (g.map PA.ty)).sK) (k:Nat) it,(Bw g x)[k]?=some it->g[k]?=some it.1|[],_,k,it,h=>by simp[Bw]at h|[r],x,0,it,h=>by grind[Bw]|[r],x,k+1,it,h=>by simp[Bw]at h|r::f::g,x,0,it,h=>by grind[Bw]|r::f::g,x,k+1,it,h=>by simpa using JE (f::g) x.2 k it (by simpa[Bw]using h)
theorem gQ:∀(g:List PA)(i0 i:Nat){c a},g[i]?=some (.r c a)->∃k:Nat,(AW g i0)[k]?=some (i0+i)/\(KT g)[k]?=some a|[],_,i,c,a,h=>by grind|p::g,i0,0,c,a,h=>by simp at h;subst h;exact⟨0,rfl,rfl⟩|p::g,i0,i+1,c,a,h=>by(obtain⟨k,f,b⟩:=gQ g (i0+1) i (by simpa using h);have f:(AW g (i0+1))[k]?=some (i0+(i+1)):=by rw[f];congr 1;omega);cases p with|v d=>exact⟨k,f,b⟩|r c d=>exact⟨k+1,by simpa[AW]using f,by simpa[KT]using b⟩
theorem TP:∀(h:List PA)(i0:Nat),(AW h i0).Pairwise (·<·)/\∀i∈AW h i0,i0<=i|[],_=>⟨List.Pairwise.nil,by simp[AW]⟩|.v _::h,i0=>(by have⟨f,k⟩:=TP h (i0+1);exact⟨f,fun i g=>by have:=k i g;omega⟩)|.r _ _::h,i0=>by have⟨f,k⟩:=TP h (i0+1);refine⟨List.Pairwise.cons (fun i g=>by grind) f,fun i g=>?_⟩;rcases mC.1 g with rfl|g;all_goals grind
theorem qP(g:List PA){i0 k k':Nat}(h:(AW g i0)[k]?=some i)(f:(AW g i0)[k']?=some i):k=k':=by have b:=(TP g i0).1;obtain⟨a,rfl⟩:=lS.1 h;grind[C8]
theorem OM(h:List PA):∀i0,(AW h i0).length=(KT h).length:=by induction h with|nil=>intro i0;rfl|cons p h g=>intro i0;cases p<;>simp[AW,KT,g]
def Tr:List Nat->List Nat->Nat->Option Nat|i::is,n::ns,j=>if j=i then some n else Tr is ns j|_,_,_=>none
theorem Ru:∀(is ns:List Nat)(j n:Nat),Tr is ns j=some n->∃k:Nat,is[k]?=some j/\ns[k]?=some n|[],ns,j,n,h=>by simp[Tr]at h|i::is,[],j,n,h=>by simp[Tr]at h|i::is,m::ns,j,n,h=>by simp only[Tr]at h;split at h;rename_i e;simp only[sj]at h;exact⟨0,by simp[e],by simp[h]⟩;have⟨k,g,f⟩:=Ru is ns j n h;exact⟨k+1,by simpa using g,by simpa using f⟩
theorem a5j:∀(is ns:List Nat)(k j n:Nat),is[k]?=some j->ns[k]?=some n->(∀k',is[k']?=some j->k'=k)->Tr is ns j=some n|[],ns,k,j,n,h,_,_=>by grind|i::is,[],k,j,n,_,h,_=>by grind|i::is,m::ns,0,j,n,h,a,_=>by simp_all[Tr]|i::is,m::ns,k+1,j,n,h,a,f=>by(have g:j≠i:=fun e=>by have:=f 0 (by grind);omega);simp[Tr,if_neg g];exact a5j is ns k j n (by simp_all) (by simp_all) (fun k' b=>by have:=f (k'+1) (by simp_all);omega)
section
variable {B:Base} {N:Nat} {tm:Nat->Value} {w:World} {U:AE} {M:Gh}
def WK(ps:List PA)(i:Nat):Bool:=match ps[i]? with|some (.r _ (.b _))=>true|_=>false
def Bk(fz:Bool)(B:Base)(w:World)(M:Gh)(ps:List PA)(us:List Nat):Base where
 size:=w.heap.size
 hp:=fun b=>w.heap[b]?
 F:=fun c=>∃i n,Tr (AW ps 0) us i=some n/\c∈(lo M n (WK ps i)).map (·.1)
 S:=fun c=>Ba B w M c\/(fz=false/\BB M c)
 io:=Gr w
 pin:=fun i=>match mX ps i with
  |some false=>(Tr (AW ps 0) us i).map fun n=>lg w M n (WK ps i)
  |_=>none
def GJ(w:World)(M:Gh)(ps:List PA)(us:List Nat):Gh where
 g:=fun m=>match gI ps m with
  |some i=>(match Tr (AW ps 0) us i with
   |some n=>lg w M n (WK ps i)
   |none=>.one undef)
  |none=>.one undef
 ow:=fun m=>match gI ps m with
  |some i=>(match Tr (AW ps 0) us i with
   |some n=>lo M n (WK ps i)
   |none=>[])
  |none=>[]
 ov:=none
theorem a3C{a:List PA}{m i:Nat}(h:gI a m=some i):∃c,mX a i=some c/\m=b0t c i/\(c=true->i<pinned):=by unfold gI at h;rcases Ai h with⟨b,h⟩|⟨b,h⟩;split at h;rename_i f;cases h;exact⟨true,f,rfl,fun _=>by simp_all⟩;simp_all;obtain⟨k,rfl⟩:=Nat.exists_eq_add_of_le (show pinned<=m by simp_all);rw[D6]at h;split at h;rename_i f;obtain rfl:=Option.some.inj h;exact⟨false,f,rfl,fun g=>by grind⟩;simp_all
theorem b2Z{c:Bool}(h:mX ps i=some c)(hi:c=true->i<pinned):gI ps (b0t c i)=some i:=by unfold gI;cases c with|true=>have:A6 (b0t true i<pinned)=true:=dE (show b0t true i<pinned from hi rfl);simp_all[b0t]|false=>have:A6 (b0t false i<pinned)=false:=dF (by show ¬ pinned+i<pinned;omega);simp_all[b0t]
theorem SD{g:List PA}{i:Nat}{c a}(h:g[i]?=some (.r c a)):mX g i=some c:=by simp[mX,h]
theorem b6I{x:(DG (ps.map PA.ty)).sK}{m:Nat}(h:(Ws ps x).rt m=some r):∃i c a y,gI ps m=some i/\(Bw ps x)[i]?=some ⟨.r c a,y⟩/\Bh ⟨a,y⟩=some r:=by simp[Ws]at h;rcases Ai h with⟨f,h⟩|⟨f,h⟩;grind[SD,JE,gI];split at h;rename_i a y g;have k:=SD (JE _ _ _ _ g);exact⟨m-pinned,false,a,y,by simp[gI,f,k],g,h⟩;simp_all
theorem b6J{g:List PA}{x:(DG (g.map PA.ty)).sK}{i:Nat}{c a y}(h:(Bw g x)[i]?=some ⟨.r c a,y⟩)(hi:c=true->i<pinned):(Ws g x).rt (b0t c i)=Bh ⟨a,y⟩:=by cases c with|true=>have:A6 (b0t true i<pinned)=true:=dE (show b0t true i<pinned from hi rfl);simp[Ws,this];show(match (Bw g x)[i]? with|some ⟨.r true a,y⟩=>Bh ⟨a,y⟩|_=>none)=_;rw[h]|false=>have:A6 (b0t false i<pinned)=false:=dF (by show ¬ pinned+i<pinned;omega);(have e:b0t false i-pinned=i:=by simp[b0t]);simp only[Ws,this,cF,e,h]
theorem Yg{g:List PA}{x:(DG (g.map PA.ty)).sK}{i:Nat}{c a y r}(h:(Bw g x)[i]?=some ⟨.r c a,y⟩)(f:Bh ⟨a,y⟩=some r):WK g i=r.bx:=by have h:=JE _ _ _ _ h;cases a with|v t=>simp[Bh]at f|o e=>grind[Bh,WK]|b t=>grind[Bh,WK]
theorem sM.enter(h:sM B U N tm w M)(A:M.ov=none){fz:Bool}{x:(DG (ps.map PA.ty)).sK}{D:List Value}{us:List Nat}(Y:xI fz B w U M ps x D [] us 0)(hl:D.length=ps.length):sM (Bk fz B w M ps us) (Ws ps x) ps.length (fun i=>D.toArray.getD i undef) w (GJ w M ps us)/\b2Y (Bk fz B w M ps us) ps D.toArray:=by
 have g5:∀k i,(AW ps 0)[k]?=some i->∀k',(AW ps 0)[k']?=some i->k'=k:=fun k i f k' d=>qP ps d f;have T:∀(i:Nat) v,D[i]?=some v->D.toArray.getD i undef=v:=fun i v hv=>by simp_all
 have X:∀(i:Nat) c a y,(Bw ps x)[i]?=some ⟨.r c a,y⟩->∃n v r,Tr (AW ps 0) us i=some n/\n∈us/\D[i]?=some v/\Bh ⟨a,y⟩=some r/\a7v w U M n r v/\WK ps i=r.bx:=by(intro i c a y P;obtain⟨k,V,-⟩:=gQ ps 0 i (JE _ _ _ _ P);rw[C2]at V;have G:k<us.length:=by rw[Y.len];grind);have I:us[k]?=some us[k]:=lG G;obtain⟨i',c',a',y',v,r,j1,j2,j3,j4,j5,-⟩:=Y.refs k _ I;rw[V]at j1;simp at j1;grind[a5j,Yg]
 have R:∀i n,Tr (AW ps 0) us i=some n->n∈us/\∃c a y v r,(Bw ps x)[i]?=some ⟨.r c a,y⟩/\D[i]?=some v/\Bh ⟨a,y⟩=some r/\a7v w U M n r v/\WK ps i=r.bx:=by intro i n P;have⟨k,f,d⟩:=Ru _ _ _ _ P;obtain⟨i',c,a,y,v,r,j1,j2,j3,j4,j5,-⟩:=Y.refs k n d;grind
 have g7:∀i i' n,Tr (AW ps 0) us i=some n->Tr (AW ps 0) us i'=some n->i=i':=by intro i i' n f d;have⟨k,f,O⟩:=Ru _ _ _ _ f;have⟨k',d,C⟩:=Ru _ _ _ _ d;have⟨a1,b1⟩:=lS.1 O;have⟨a2,b2⟩:=lS.1 C;(have:k=k':=by have Q:=C8.1 Y.nodup;grind);grind
 have K:∀m p,p∈(GJ w M ps us).ow m->∃i n,gI ps m=some i/\Tr (AW ps 0) us i=some n/\p∈lo M n (WK ps i)/\p∈M.ow n:=by intro m p Q;cases P:gI ps m with|none=>grind[GJ]|some i=>cases I:Tr (AW ps 0) us i with|none=>grind[GJ]|some n=>(have e:(GJ w M ps us).ow m=lo M n (WK ps i):=by simp[GJ,P,I]);rw[e]at Q;obtain⟨-,c,a,y,v,r,-,-,-,hL,hb⟩:=R _ _ I;exact⟨i,n,rfl,I,Q,(h.xA A hL).2.2.1 p (hb▸Q)⟩
 have L:∀c,BB (GJ w M ps us) c->(Bk fz B w M ps us).F c/\∃n∈us,c∈(M.ow n).map (·.1):=by rintro c ⟨m,hm⟩;obtain⟨p,Q,rfl⟩:=B6.1 hm;obtain⟨i,n,-,f,d,O⟩:=K m p Q;exact⟨⟨i,n,f,A3 d⟩,n,(R _ _ f).1,A3 O⟩
 have g4:∀c,Ba B w M c->Ba (Bk fz B w M ps us) w (GJ w M ps us) c:=fun c z=>⟨z.1,.inl (.inl z),fun g=>by obtain⟨-,n,-,d⟩:=L c g;exact z.2.2 ⟨n,d⟩⟩
 have H:Af w M.ov=Af w (GJ w M ps us).ov:=by rw[A];rfl
 have E:∀m i n,gI ps m=some i->Tr (AW ps 0) us i=some n->(GJ w M ps us).g m=lg w M n (WK ps i)/\(GJ w M ps us).ow m=lo M n (WK ps i):=fun m i n f d=>by simp[GJ,f,d]
 have h9:∀i b,(Bk fz B w M ps us).pin i=some b->mX ps i=some false/\∃n,Tr (AW ps 0) us i=some n/\b=lg w M n (WK ps i):=fun i b hb=>by simp[Bk]at hb;split at hb;rename_i V;obtain⟨n,I,rfl⟩:=C9.1 hb;grind;grind
 refine⟨⟨fun m r hr=>?_,fun m hm=>?_,fun m=>?_,fun m m' k8 c z g1=>?_,fun m p Q=>?_,fun i P=>?_,trivial,B4 _,fun b _ _=>rfl,fun c z=>.inl (L c z).1,fun i b hb _=>?_,rfl⟩,fun i P V=>?_⟩;have⟨i,c,a,y,f,d,O⟩:=b6I hr;have⟨n,v,r',k1,k2,k3,k4,k5,k6⟩:=X i c a y d;rw[O]at k4;cases k4;rw[<-H,(E m i n f k1).1,(E m i n f k1).2,k6];exact(h.xA A k5).1.mono g4;cases ho:(GJ w M ps us).ow m with|nil=>rfl|cons p l=>obtain⟨i,n,f,d,-⟩:=K m p (by grind);obtain⟨-,c,a,y,v,r,h5,-,S,-⟩:=R _ _ d;obtain⟨c',h7,rfl,h8⟩:=a3C f;have:=SD (JE _ _ _ _ h5);grind[b6J]
 cases P:gI ps m with|none=>grind|some i=>cases I:Tr (AW ps 0) us i with|none=>grind|some n=>obtain⟨-,c,a,y,v,r,-,-,-,hL,hb⟩:=R _ _ I;rw[(E m i n P I).2,hb];exact(h.xA A hL).2.2.2.1
 obtain⟨p,Q,rfl⟩:=B6.1 z;have⟨p',g3,e'⟩:=B6.1 g1;obtain⟨i,n,f,d,-,C⟩:=K m p Q;obtain⟨i',n',g9,k0,-,k7⟩:=K m' p' g3;by_cases e:n=n';grind[a3C];exact h.sV n n' e p.1 (A3 C) (by grind);have⟨i,n,f,d,O,C⟩:=K m p Q;exact h.live n p C;have G:i<(Bw ps x).length:=by grind[IM]
 have g6:i<D.length:=by omega
 have hv:D[i]?=some D[i]:=lG g6;have q:(Bw ps x)[i]?=some (Bw ps x)[i]:=lG G;show ZE _ _ _ _ ((Ws ps x).sl i) (D.toArray.getD i undef);rw[T i _ hv];revert q;generalize (Bw ps x)[i]=it;intro q;have⟨p,y⟩:=it;cases p with|v t=>((have e:(Ws ps x).sl i=.one (wI t y):=by simp only[Ws,q]);rw[e];have:=Y.vals i t y _ q hv;refine Ci.wI (this.frame (fun c j _=>by rw[H]) (fun c z=>?_));rcases z with z|⟨hf,n,-,I,z⟩;grind;refine⟨h.lt ⟨n,z⟩,.inl (.inr ⟨hf,n,z⟩),fun g=>?_⟩;obtain⟨-,n',f,d⟩:=L c g;exact h.sV n n' (fun e=>I (e▸f)) c z d)|r c b=>(have e:(Ws ps x).sl i=bif c&&A6 (pinned<=i)then .one .dead else .one (b3Z (b0t c i) ⟨b,y⟩):=by simp only[Ws,q]);rw[e];cases hcp:c&&A6 (pinned<=i)with|true=>trivial|false=>(have h0:c=true->i<pinned:=fun g=>by grind);have⟨n,v,r,f,d,O,C,h5,g0⟩:=X i c b y q;rw[hv]at O;simp at O;rw[O];have V:=SD (JE _ _ _ _ q);have Z:=b6J q h0;rw[C]at Z;obtain⟨hg,-⟩:=E _ i n (b2Z V h0) f;obtain⟨-,S,-,-,h7⟩:=h.xA A h5;rw[<-g0]at S h7;show Ay _ _ _ _ (b3Z (b0t c i) ⟨b,y⟩) v;cases b with|v t=>simp[Bh]at C|o e0=>(simp[Bh]at C;subst C;rcases h7 with⟨g,-⟩|⟨-,u,e2,g,-⟩;grind;rw[g]at S;have S:v=u:=S;refine⟨_,e0,.one u,Z,?_,by rw[S];rfl⟩;rw[hg,g];rfl)|b t=>simp[Bh]at C;subst C;rcases h7 with⟨-,bb,g⟩|⟨g,-⟩;rw[g]at S;refine⟨_,t,bb,0,Z,?_,S.2⟩;rw[hg,g];rfl;grind
 obtain⟨V,n,f,rfl⟩:=h9 i b hb;exact(E _ i n (b2Z (c:=false) V (fun g=>by grind)) f).1;have⟨k,g2⟩:=E1.1 P;have G:k<us.length:=by rw[Y.len];grind
 obtain⟨i',c',a',y',v,r,j1,j2,j3,j4,j5,-⟩:=Y.refs k _ (lG G);rw[g2]at j1;simp at j1;subst j1;refine⟨lg w M us[k] (WK ps i),?_,by rw[T _ _ j3,Yg j2 j4];exact(h.xA A j5).2.1⟩;grind[Bk,a5j]
end
theorem WL{α:Type}{f:Nat->Option (α×CI×List Nat)}:∀(n i:Nat){k os g},Ak f n i=some (k,os,g)->(∀j x o r,f j=some (x,o,r)->o=[]/\r=[])->os=[]/\g=[]|0,i,k,os,g,h,_=>by simp_all[Ak]|n+1,i,k,os,g,h,a=>by simp[Ak]at h;split at h;grind;rename_i x o r b;split at h;grind;rename_i l d e c;simp at h;obtain⟨rfl,rfl,rfl⟩:=h;obtain⟨rfl,rfl⟩:=a _ _ _ _ b;obtain⟨rfl,rfl⟩:=WL n (i+1) c a;simp
theorem Ot{m:DU}:∀(t:Ty){rd:Nat->Option Value}{x O R},t.sS=false->AL m t rd=some (x,O,R)->O=[]/\R=[]|.int k,rd,x,O,R,_,h=>by simp[AL]at h;grind|.bool,rd,x,O,R,_,h=>by simp[AL]at h;grind|.str,rd,x,O,R,_,h=>by simp[AL]at h;grind|.unit,rd,x,O,R,_,h=>by simp only[AL]at h;grind|.pair a b,rd,x,O,R,g,h=>(by simp[Ty.sS]at g;obtain⟨q,e,l,u,i,p,f,c,-,rfl,rfl⟩:=CK h;obtain⟨rfl,rfl⟩:=Ot a g.1 f;obtain⟨rfl,rfl⟩:=Ot b g.2 c;simp)|.arr n t,rd,x,O,R,g,h=>(WL n 0 h fun j x o r d=>Ot t g d)|.list o t,rd,x,O,R,g,h=>by simp[Ty.sS]at g|.nl t,rd,x,O,R,g,h=>by grind[pV]
theorem jV{rd:Nat->Option Value}{x O R}(f:e.sS=false)(h:AL m (.list true e) rd=some (x,O,R)):R=[]:=by rcases Ct h with⟨-,-,-,b⟩|⟨A,n,c,j,d,g,k,i,a⟩;all_goals grind[WL,Ot]
theorem tV.xL{s O}(h:tV m Sh r s O)(g:(r.bx=true/\r.t.sS=false)\/∃e,r.t=.list true e/\e.sS=false):tV m Sh' r s O:=by(have⟨k,R,f,i,a⟩:=h.rd;have b:R=[]:=by rcases g with⟨-,g⟩|⟨e,c,g⟩;grind[Ot];have⟨d,t,x⟩:=r;obtain rfl:t=.list true e:=c;exact jV g f);subst b;exact⟨k,[],f,by simp,a⟩
theorem Ci.xL{t:Ty}{x:t.sK}(h:Ci m Sh t x v)(a:t.sS=false):Ci m Sh' t x v:=by have⟨f,k,R,g,b⟩:=h;obtain⟨-,rfl⟩:=Ot t a g;exact⟨f,k,[],g,by simp⟩
theorem cO:∀(g:List RA)(n k m:Nat),(BA g n)[k]?=some m->m=n+1000*k/\k<g.length|[],_,k,m,h=>by simp[BA]at h|_::g,n,0,m,h=>by simp_all[BA]|_::g,n,k+1,m,h=>by have⟨f,a⟩:=cO g (n+1000) k m (by simpa[BA]using h);grind
theorem PR:∀(h:List RA)(n:Nat),(BA h n).length=h.length|[],_=>rfl|_::h,n=>by simp[BA,PR h]
theorem cP:∀(g:List RA)(n k m:Nat)(r:RA),(BA g n)[k]?=some m->g[k]?=some r->(∀t,r≠.v t)->m∈Dj g n|[],_,k,m,r,h,_,_=>by simp_all|a::g,n,0,m,r,h,f,c=>(by simp[BA]at h f;subst h;subst f;cases a with|v t=>simp_all|o e=>simp[Dj]|b t=>simp[Dj])|a::g,n,k+1,m,r,h,f,c=>by have:=cP g (n+1000) k m r (by simpa[BA]using h) (by simpa using f) c;cases a<;>simp[Dj,this]
section
variable {Z:Type} {B:Base} {N:Nat} {tm:Nat->Value} {w:World}
theorem sM.tY:∀(ns:List Nat) {U:AE}{M:Gh}(_:sM B U N tm w M)(_:U.pd=none){q:Bool}{us:List Nat}{K:AE->Rs Z}{z:Z}(_:U.tY q us ns K=some z),(∀n∈ns,n<pinned/\n∉us)/\∃k M',K k=some z/\sM B k N tm w M'/\k.pd=none/\M'.ov=M.ov/\(∀c,Ba B w M c->Ba B w M' c)/\(∀n∈ns,k.rt n=none)/\((∀n,n∉ns->k.rt n=U.rt n/\M'.ow n=M.ow n)/\M'.g=M.g)/\(∀n,U.rt n=none->k.rt n=none)|[],U,M,h,hpd,q,us,K,z,f=>⟨by simp,U,M,f,h,hpd,rfl,fun _ g=>g,by simp,⟨fun _ _=>⟨rfl,rfl⟩,rfl⟩,fun _ g=>g⟩|n::ns,U,M,h,hpd,q,us,K,z,f=>by(simp only[AE.tY]at f;have⟨p,f⟩:=(Ai f).elim id fun h=>by grind);(simp at p;split at f;rename_i t;have ⟨k1,k,M',h1,h2,h3,h4,h5,h6,⟨h7,h8⟩,h9⟩:=sM.tY ns h hpd f;grind;rename_i r t;rcases Ai f with⟨-,g⟩|⟨-,f⟩;grind;have l:=h.drop (n:=n) (by simp_all);have ⟨k1,k,M',h1,h2,h3,h4,h5,h6,⟨h7,h8⟩,h9⟩:=sM.tY ns l (by simp_all[AE.sI,AE.sJ]) f;have d:((U.sJ (AV.drop n)).sI n none).rt n=none:=by simp[AE.sI]);(refine⟨fun m a=>?_,k,M',h1,h2,h3,h4,fun c j=>h5 c (sM.tT c j),fun m a=>?_,⟨fun m a=>?_,h8⟩,fun m a=>h9 m ?_⟩;grind;grind;have o:m≠n:=fun e=>a (by grind);have b:m∉ns:=fun g=>a (A4 _ g);have⟨a1,i⟩:=h7 m b;have e:(m==n)=false:=by simp_all);exact⟨a1.trans (by simp[AE.sI,AE.sJ,e]),i.trans (by simp_all)⟩;simp_all[AE.sI,AE.sJ]
end
def ZK:List Nat->List ((r:RA)×r.ty.sK)->List (Src×CI)->Nat->Option wF|k::ns,it::its,L::Ls,n=>(match Bh it with|some r=>bif n==k then some ⟨r,L.1,L.2⟩else ZK ns its Ls n|none=>ZK ns its Ls n)|_,_,_,_=>none
theorem a3D:∀(ns:List Nat) its (f:List (Src×CI)) (n:Nat) (e:wF),ZK ns its f n=some e->∃(k:Nat)(it:(r:RA)×r.ty.sK) (L:Src×CI),ns[k]?=some n/\its[k]?=some it/\f[k]?=some L/\Bh it=some e.r/\e.s=L.1/\e.O=L.2|[],its,f,n,e,h=>by simp[ZK]at h|k::ns,[],f,n,e,h=>by simp[ZK]at h|k::ns,it::its,[],n,e,h=>by simp[ZK]at h|k::ns,it::its,L::f,n,e,h=>by(have b:ZK ns its f n=some e->∃(j:Nat)(g:(r:RA)×r.ty.sK) (a:Src×CI),(k::ns)[j]?=some n/\(it::its)[j]?=some g/\(L::f)[j]?=some a/\Bh g=some e.r/\e.s=a.1/\e.O=a.2:=fun h=>by have⟨j,g,a,c,d,i,l⟩:=a3D ns its f n e h;exact⟨j+1,g,a,by simpa using c,by simpa using d,by simpa using i,l⟩);simp[ZK]at h;split at h;rename_i r m;rcases Ai h with⟨o,h⟩|⟨-,h⟩;simp at h;subst h;exact⟨0,it,L,by simp_all,rfl,rfl,m,rfl,rfl⟩;simp_all;simp_all
theorem a5k:∀(ns:List Nat) its (g:List (Src×CI)) (k n:Nat) it L r,ns[k]?=some n->its[k]?=some it->g[k]?=some L->Bh it=some r->(∀(k':Nat) it',ns[k']?=some n->its[k']?=some it'->Bh it'≠none->k'=k)->ZK ns its g n=some ⟨r,L.1,L.2⟩|[],its,g,k,n,it,L,r,h,_,_,_,_=>by grind|m::ns,[],g,k,n,it,L,r,_,h,_,_,_=>by grind|m::ns,it'::its,[],k,n,it,L,r,_,_,h,_,_=>by grind|m::ns,it'::its,L'::g,0,n,it,L,r,f,a,b,d,_=>by simp_all[ZK]|m::ns,it'::its,L'::g,k+1,n,it,L,r,f,a,b,d,i=>by(simp at f a b;have q:=a5k ns its g k n it L r f a b d fun k' c o p j=>by have:=i (k'+1) c (by simp_all) (by grind) j;omega);simp[ZK];cases hr:Bh it' with|none=>omega|some t=>(have l:n≠m:=fun e=>by have:=i 0 it' (by grind) rfl (by simp_all);omega);grind
theorem YS:∀(ns:List Nat) its (g:List (Src×CI)) (n:Nat),g.length=its.length->CJ ns its n=(ZK ns its g n).map (·.r)|[],its,g,n,h=>by rfl|k::ns,[],g,n,h=>by rfl|k::ns,a::its,[],n,h=>by grind|k::ns,a::its,L::g,n,h=>by have f:=YS ns its g n (by simpa using h);simp only[CJ,ZK];cases Bh a with|none=>exact f|some r=>cases hk:(n==k)<;>simp[f]
theorem a3E:∀(ns:List Nat) its (k:Nat) av,(La ns its)[k]?=some av->∃(n:Nat)(it:(r:RA)×r.ty.sK),ns[k]?=some n/\its[k]?=some it/\av=b3Z n it|[],its,k,av,h=>by simp[La]at h|_::_,[],k,av,h=>by simp[La]at h|n::ns,it::its,0,av,h=>by simp[La]at h;simp_all|n::ns,it::its,k+1,av,h=>by have⟨m,g,f,a,b⟩:=a3E ns its k av (by simpa[La]using h);exact⟨m,g,by simpa using f,by simpa using a,b⟩
theorem cQ:∀(ns:List Nat)(g:List ((r:RA)×r.ty.sK)),ns.length<=g.length->(La ns g).length=ns.length|[],g,h=>by rfl|_::_,[],h=>by grind|_::ns,_::g,h=>by simp only[La,lC];rw[cQ ns g (by simpa using h)]
theorem a7x:∀{it:(r:RA)×r.ty.sK} {r:sP},Bh it=some r->it.1.sS=false->(r.bx=true/\r.t.sS=false)\/∃e,r.t=.list true e/\e.sS=false|⟨.v t,x⟩,r,h,_=>by simp[Bh]at h|⟨.o e,x⟩,r,h,g=>by simp[Bh]at h;subst h;exact .inr ⟨e,rfl,g⟩|⟨.b t,x⟩,r,h,g=>by simp[Bh]at h;subst h;exact .inl ⟨rfl,g⟩
theorem a5i.root{m Sh}:∀{it:(r:RA)×r.ty.sK} {v L r},a5i m Sh it v L->Bh it=some r->tV m Sh r L.1 L.2|⟨.v t,x⟩,v,L,r,h,g=>by simp[Bh]at g|⟨.o e,x⟩,v,L,r,h,g=>by simp[Bh]at g;subst g;exact h.2|⟨.b t,x⟩,v,L,r,h,g=>by simp[Bh]at g;subst g;exact h.1
@[reducible] def Fr(ro:Option Nat):Fence:={ fn:=fun _=>True,depth:=none,alive:=false,round:=ro }
theorem a7y{ro:Option Nat}{args:Array Value}{R:Ending->World->Prop}(h:Calls P f args w R):CallsIn (Fr ro) n P f args w R:=(callsIn_wide (n:=n)).2 h
theorem a5l{ro:Option Nat}{P:Program}{o:Oper}{a:Act}{w:World}{next:Act->World->Prop}{Q:Exit->Act->World->Prop}(g:∀c,o.op≠.defer c)(h:o.uponIn (Fr ro) 0 P a next Q ((execOp a.eval o).run P w)):
  o.wpIn (Fr ro) 0 P a w next Q:=
 ⟨fun _ _=>trivial,by simp_all[Oper.semAt_eq]⟩
theorem a7z(hb:ZJ P f)(ho:o.op=.call c)(hc:c.callee=.value (.func f))(a:Act)(w:World):
  (execOp a.eval o).run P w=.ok (.enter f (c.args.map a.eval)) w:=by
 obtain ⟨fn,c',h1,h2,h3⟩:=hb;have h4 : ¬ fn.name = "runtime.NumGoroutine" := by simp_all
 simp [execOp,ho,resolve,hc,Act.eval,Deferred.ofValue,invoke,callFunc,program,Sem.run,h1,h2,h4,Result.andThen]
theorem a7A(hb:ZJ P f){t:Nat}(ho:o.op=.call c)(hc:c.callee=.value (.tmp t))(a:Act)(w:World){us:Array Value}(hv:a.eval (.tmp t)=.func (.func f) #[] us):
  (execOp a.eval o).run P w=.ok (.enter f (c.args.map a.eval++us)) w:=by
 obtain ⟨fn,c',h1,h2,h3⟩:=hb;have h4 : ¬ fn.name = "runtime.NumGoroutine" := by simp_all
 simp [execOp,ho,resolve,hc,hv,Deferred.ofValue,invoke,callFunc,program,Sem.run,h1,h2,h4,Result.andThen]
section
variable {P:Program} {B:Base} {N:Nat} {Z:Type} {U:AE} {a:Act} {w:World} {M:Gh} {ro:Option Nat}
theorem gD.callee(j:gD G B)(h:sM B U N tm w M)(fz:Bool)(u:List PA)(us:List Nat):gD G (Bk fz B w M u us):=by(intro g t x l;have⟨a,b,c,v,d,e⟩:=j g t x l;have f:¬ BB M g:=fun o=>by rcases h.mine _ o with q|q;all_goals grind);have k:=h.size;exact⟨C0 a k,.inl ⟨C0 a k,.inl b,f⟩,fun⟨i,n,_,m⟩=>by obtain⟨p,r,rfl⟩:=B6.1 m;exact f ⟨n,A3 (c3s r)⟩,v,d.trans (h.frame g a c).symm,e⟩
theorem oY:∀(g:List PA)(us:List Nat)(i0 n:Nat),n∈YO g us->∃(k i:Nat)(e:Ty),us[k]?=some n/\(AW g i0)[k]?=some (i0+i)/\g[i]?=some (.r false (.o e))|[],us,i0,n,h=>by simp[YO]at h|.v _::g,us,i0,n,h=>(by have⟨k,i,e,f,d,j⟩:=oY g us (i0+1) n (by simpa[YO]using h);exact⟨k,i+1,e,f,by grind[AW],by simp_all⟩)|.r c a::g,[],i0,n,h=>by simp_all[YO]|.r c a::g,u::us,i0,n,h=>by(have b:n∈YO g us->∃(k i:Nat)(e:Ty),(u::us)[k]?=some n/\(AW (.r c a::g) i0)[k]?=some (i0+i)/\(PA.r c a::g)[i]?=some (.r false (.o e)):=fun h=>by have⟨k,i,e,f,d,j⟩:=oY g us (i0+1) n h;exact⟨k+1,i+1,e,by simp_all,by grind[AW],by simp_all⟩);cases c with|true=>simp_all[YO]|false=>cases a with|o e=>(rcases mC.1 (show n∈u::YO g us from h)with rfl|h;exact⟨0,0,e,rfl,rfl,rfl⟩;simp_all)|_=>simp_all[YO]
def ZL(o:Option sP)(s:Src)(e:wF):wF:=match o,s with|some ⟨true,_,_⟩,.at b _=>if e.r.bx=true then e else⟨⟨true,e.r.t,e.r.x⟩,s,(b,1)::e.O⟩|_,_=>e
theorem Yh{C:Array Value->World->(Ending->World->Prop)->Prop}{d6:List AV}{vals:List Value}{s:sG}{K:AE->Rs Z}{z:Z}(n0:∀R,C vals.toArray w R->(∀e w',R e w'->∃v,e=.returned v/\next (a.put o.dst v) w')->o.wpIn (Fr ro) 0 P a w next Q)(k4:d6.length=vals.length)(l1:∀(i:Nat) av v,d6[i]?=some av->vals[i]?=some v->Ay (Af w M.ov) M.g U.rt (Ba B w M) av v)(hG:gD G B)(hF:c3t C G s)(h:sM B U N (AH a) w M)(hN:a.tmps.size=N)(hz:U.call q o.dst s d6 K=some z)(g5:∀v w' U' M',sM B U' N (AH (a.put o.dst v)) w' M'->K U'=some z->next (a.put o.dst v) w'):o.wpIn (Fr ro) 0 P a w next Q:=by
 unfold AE.call at hz;split at hz;cases hz;rename_i m0;have n5:=h.tC m0;obtain⟨hl,x,U',M',A,m6,h',ev,bx,k8,-,ha⟩:=sM.args s.ps d6 vals (i0:=0) h (fun i av v h1 h2=>.inl (l1 i av v h1 h2)) (by omega) hz;clear hz;obtain⟨fz,l4⟩:∃fz,(s.rs.any RA.sS || (KT s.ps).any RA.sS)=fz:=⟨_,rfl⟩;rw[l4]at ha k8;have m1:U'.pd=none:=ev.pd.trans m0;have b4:M'.ov=none:=ev.ov.trans n5;obtain⟨hnames,U1,M1,hz2,h1,hpd1,hov1,hshr,hnone,⟨d0,e4⟩,hnone'⟩:=sM.tY _ h' m1 m6;clear m6;obtain⟨y,hy,m7⟩:=D5.1 hz2;clear hz2;obtain⟨f7,e6⟩:=h'.enter b4 ha (by omega);obtain⟨ns,d2⟩:∃ns,BA s.rs (o.dst.getD 0+1000)=ns:=⟨_,rfl⟩;have n7:(A.reverse++[]).reverse=A:=by simp
 obtain⟨rn,m3⟩:∃rn,Dj s.rs (o.dst.getD 0+1000)=rn:=⟨_,rfl⟩;rw[m3]at hnames hnone d0;refine n0 _ (hF w _ _ _ x y (hG.callee h' _ _ _) hy rfl (fun _=>rfl) rfl (by rw[F5];omega) f7 e6) ?_
 rintro e w' ⟨vr,Ls,rfl,f9,bk⟩;refine⟨_,rfl,?_⟩;obtain⟨V,k0⟩:∃V,EJ (RA.all s.ps s.rs) y=V:=⟨_,rfl⟩;obtain⟨vs,i8⟩:∃vs,vr++(AW s.ps 0).map (Gu s.ps vals.toArray)=vs:=⟨_,rfl⟩;rw[k0,i8]at bk;have n9:V.length=s.rs.length+A.length:=by
  rw[<-k0,MU,RA.all,lN,ha.len,OM]
 have b0:ns.length=s.rs.length:=by rw[<-d2,PR]
 have h9:∀n∈rn,n<pinned/\n∉A:=fun n hn=>by
  have:=hnames n hn
  simpa using this

 have h7:∀(k n:Nat) X,(ns++A)[k]?=some n->V[k]?=some X->Bh X≠none->(k<ns.length/\n∈rn/\n=o.dst.getD 0+1000+1000*k)\/(ns.length<=k/\A[k-ns.length]?=some n):=by
  intro k n X h1 h2 h3;by_cases hk:k<ns.length;rw[A8 hk]at h1;have hf:=TO (RA.all s.ps s.rs) y k X (by rw[k0];exact h2);rw[RA.all,A8 (by omega)]at hf;refine .inl ⟨hk,?_,?_⟩;rw[<-m3];exact cP s.rs _ k n X.1 (by rw[d2];exact h1) hf fun t ht=>h3 (by
   obtain⟨r,xx⟩:=X;obtain rfl:r=.v t:=ht;rfl)
  exact(cO s.rs _ k n (by rw[d2];exact h1)).1;rw[B9 (by omega)]at h1;exact .inr ⟨by omega,h1⟩
 have d4:∀(k k' n:Nat) X g6,(ns++A)[k]?=some n->V[k]?=some X->Bh X≠none->(ns++A)[k']?=some n->V[k']?=some g6->Bh g6≠none->k'=k:=by
  intro k k' n X g6 h1 h2 h3 h4 h5 h6;rcases h7 k n X h1 h2 h3 with⟨a1,a2,a3⟩|⟨a1,a2⟩;rcases h7 k' n g6 h4 h5 h6 with⟨b1,b2,b3⟩|⟨b1,b2⟩;omega;exact absurd (B3 b2) (h9 n a2).2;rcases h7 k' n g6 h4 h5 h6 with⟨b1,b2,b3⟩|⟨b1,b2⟩;exact absurd (B3 a2) (h9 n b2).2;obtain⟨c1,c2⟩:=lS.1 a2;obtain⟨c3,c4⟩:=lS.1 b2;have hp:=C8.1 ha.nodup;rcases F6 (k-ns.length) (k'-ns.length)with g|g|g;exact absurd (c2.trans c4.symm) (hp _ _ c1 c3 g);omega;exact absurd (c4.trans c2.symm) (hp _ _ c3 c1 g)
 let E0:Nat->Option wF:=ZK (ns++A) V Ls
 have k5:∀n∈A,U1.rt n=U'.rt n/\M1.ow n=M'.ow n:=fun n hn=>d0 n fun g=>(h9 n g).2 hn;have f3:∀c,(Bk fz B w M' s.ps A).F c->∃n∈A,c∈(M'.ow n).map (·.1):=by
  rintro c ⟨i,n,h1,h2⟩;obtain⟨k,q1,q2⟩:=Ru _ _ _ _ h1;obtain⟨i',c',ra,y',v,r,j1,j2,j3,j4,j5,-⟩:=ha.refs k n q2;rw[q1]at j1;simp only[C2,sj]at j1;subst j1;obtain⟨p,hp,rfl⟩:=B6.1 h2;rw[Yg j2 j4]at hp;exact⟨n,B3 q2,A3 ((h'.xA b4 j5).2.2.1 p hp)⟩
 have f0:∀n∈A,∃D r0,E0 n=some D/\U'.rt n=some r0/\
   ((D.r.bx=r0.bx/\(D.s=M'.g n\/(r0.bx=false/\n<pinned/\n∉YO s.ps A))/\(r0.bx=false->∃ε,D.r.t=.list true ε))\/
    ∃b v ε,r0.bx=true/\D.r.bx=false/\D.r.t=.list true ε/\M'.g n=.at b 0/\w.cell? ⟨b,0,none⟩=some v/\D.s=.one v/\b∈(M'.ow n).map (·.1)/\BY w b 1/\¬ (Bk fz B w M' s.ps A).F b):=by
  intro n hn;obtain⟨k,hk⟩:=E1.1 hn;obtain⟨i,c,ra,y',v,r,j1,j2,j3,j4,j5,j7⟩:=ha.refs k n hk;rw[C2]at j1;have b9:=JE _ _ _ _ j2;have o0:k<A.length:=(lS.1 hk).1;have l5:(ns.length+k)<V.length:=by omega
  have g9:=lG l5;have f5:ns.length+k<Ls.length:=by rw[bk.ll];exact l5
  have c5:=lG f5;have k9:=TO (RA.all s.ps s.rs) y (ns.length+k) _ (by rw[k0];exact g9);have b8:(ns++A)[ns.length+k]?=some n:=by rw[B9 (by omega)];simpa using hk
  have l0:(RA.all s.ps s.rs)[ns.length+k]?=some ra:=by
   rw[RA.all,B9 (by omega),b0,D6];obtain⟨k2,q1,q2⟩:=gQ s.ps 0 i b9;rw[C2]at q1;rw[qP s.ps j1 q1];exact q2
  rw[l0]at k9;simp only[sj]at k9;have e7:vs[ns.length+k]?=some (Gu s.ps vals.toArray i):=by
   rw[<-i8,B9 (by omega),f9,b0,D6,D7,j1];rfl
  have d5:vals.toArray.getD i undef=v:=by simp only[Array.getD_eq_getD_getElem?,C7,j3,Option.getD_some]
  have k8:∀k3,A[k3]?=some n->k=k3:=fun k3 q1=>by
   obtain⟨c1,c2⟩:=lS.1 hk;obtain⟨c3,c4⟩:=lS.1 q1;have hp:=C8.1 ha.nodup;rcases F6 k k3 with g|g|g;exact absurd (c2.trans c4.symm) (hp _ _ c1 c3 g);exact g;exact absurd (c4.trans c2.symm) (hp _ _ c3 c1 g)
  have g0:=bk.ok _ _ _ _ g9 e7 c5;revert k9 g0 g9;generalize V[ns.length+k]=X;obtain⟨r0,xx⟩:=X;intro g9 k9 g0;obtain rfl:ra=r0:=k9;have f2:∀r',Bh ⟨ra,xx⟩=some r'->E0 n=some ⟨r',Ls[ns.length+k].1,Ls[ns.length+k].2⟩:=fun r' m2=>
   a5k (ns++A) V Ls (ns.length+k) n _ _ _ b8 g9 c5 m2 (fun k' g6 g1 Y g3=>d4 _ k' n _ g6 b8 g9 (by rw[m2];simp) g1 Y g3)
  cases ra with
  |v t=>simp[Bh]at j4
  |b t=>
   simp only[Bh,sj]at j4;subst j4;cases c with
   |true=>have:=(j7 rfl).2.1;cases this
   |false=>
    have c6:Gu s.ps vals.toArray i=v:=by simp only[Gu,SD b9,d5]
    rw[c6]at g0;obtain⟨hr,b',hs,hv⟩:=g0;rcases j5 with⟨j5,j6⟩|⟨_,⟨g,-⟩,-⟩;refine⟨_,_,f2 _ rfl,j5,.inl ⟨rfl,.inl ?_,fun g=>by cases g⟩⟩;rcases h'.uJ j5 with⟨-,b,g⟩|⟨g,-⟩;rw[g]at j6|-
    have:=j6.2.symm.trans hv
    simp only[Value.pointer.injEq,sj,Addr.mk.injEq,and_true]at this;rw[this];exact hs;cases g;cases g
  |o D=>
   simp only[Bh,sj]at j4;subst j4;obtain⟨hs,hr⟩:=g0;have g7:WK s.ps i=false:=by simp[WK,b9]
   rcases j5 with⟨j5,j6⟩|⟨b,-,j5,hg,f4⟩
   ·refine⟨_,_,f2 _ rfl,j5,.inl ⟨rfl,?_,fun _=>⟨D,rfl⟩⟩⟩;cases c with
    |true=>
     refine .inr ⟨rfl,(j7 rfl).2.2,fun hb=>?_⟩;obtain⟨k3,i3,e3,q1,q2,q3⟩:=oY s.ps A 0 n hb;obtain rfl:=k8 k3 q1;rw[j1]at q2;simp only[C2,sj]at q2;subst q2;rw[b9]at q3;cases q3
    |false=>
     have c6:Gu s.ps vals.toArray i=v:=by simp only[Gu,SD b9,d5]
     rw[c6]at hs;left;rcases h'.uJ j5 with⟨g,-⟩|⟨-,u,e2,g,-⟩;cases g;rw[g]at j6|-;have j6:v=u:=j6;rw[<-j6];exact hs
   ·have m9:c=false:=by
     cases c with
     |false=>rfl
     |true=>have:=(j7 rfl).1;rw[j5]at this;cases this
    subst m9;have c6:Gu s.ps vals.toArray i=v:=by simp only[Gu,SD b9,d5]
    rw[c6]at hs;have f6:M'.ow n=(b,1)::(M'.ow n).tail/\b∉((M'.ow n).tail).map (·.1):=by
     obtain⟨O',R,-,-,q3⟩:=(h'.roots n _ j5).rd;rcases q3 with⟨-,b',q4,q5⟩|⟨q4,-⟩;rw[hg]at q4;simp only[Src.at.injEq,and_true]at q4;subst q4;have l8:=h'.nodup n;rw[q5,B7]at l8;rw[q5];exact⟨rfl,(A9.1 l8).1⟩;cases q4
    have l2:b∈(M'.ow n).map (·.1):=by rw[f6.1];simp
    refine⟨_,_,f2 _ rfl,j5,.inr ⟨b,v,D,rfl,rfl,rfl,hg,f4,hs,l2,h'.live n (b,1) (by rw[f6.1];simp),?_⟩⟩;rintro⟨i',n',q1,q2⟩;obtain⟨k',q3,q4⟩:=Ru _ _ _ _ q1;by_cases hnn:n'=n;subst hnn;obtain rfl:=k8 k' q4;rw[j1]at q3;simp only[sj]at q3;subst q3;rw[g7]at q2;simp only[lo,hg]at q2;exact f6.2 q2;obtain⟨i2,c2,a2,y2,v2,r2,z1,z2,z3,z4,z5,-⟩:=ha.refs k' n' q4;rw[q3]at z1;simp only[C2,sj]at z1;subst z1;obtain⟨p,hp,n6⟩:=B6.1 q2;rw[Yg z2 z4]at hp;exact h'.sV n n' (Ne.symm hnn) b l2 (by rw[<-n6];exact A3 ((h'.xA b4 z5).2.2.1 p hp))
 let E:Nat->Option wF:=fun n=>(E0 n).map fun e=>bif A.contains n then ZL (U1.rt n) (M1.g n) e else e
 have k6:∀n e,E n=some e->∃D,E0 n=some D/\(e=D\/(n∈A/\∃b v ε,D.r.bx=false/\D.r.t=.list true ε/\M'.g n=.at b 0/\w.cell? ⟨b,0,none⟩=some v/\D.s=.one v/\b∈(M'.ow n).map (·.1)/\BY w b 1/\
   ¬ (Bk fz B w M' s.ps A).F b/\e=⟨⟨true,D.r.t,D.r.x⟩,.at b 0,(b,1)::D.O⟩)):=by
  intro n e H;obtain⟨D,T,rfl⟩:=C9.1 H;refine⟨D,T,?_⟩;cases hc:A.contains n with
  |false=>exact .inl rfl
  |true=>
   have hn:n∈A:=by simpa using hc
   obtain⟨e1,r0,q1,q2,q3⟩:=f0 n hn;rw[T]at q1;cases q1;simp only[cT];rw[(k5 n hn).1,q2,e4];obtain⟨bx,t0,x0⟩:=r0;rcases q3 with⟨q3,-⟩|⟨b,v,ε,q3,q4,q5,q6,q7⟩
   ·left;cases bx with
    |false=>rfl
    |true=>
     rcases M'.g n with⟨b,o⟩|u;simp only[ZL];rw[if_pos q3];rfl
   right;have q3:bx=true:=q3;subst q3;refine⟨hn,b,v,ε,q4,q5,q6,q7.1,q7.2.1,q7.2.2.1,q7.2.2.2.1,q7.2.2.2.2,?_⟩;rw[q6];simp only[ZL];rw[if_neg (by rw[q4];simp)]
 have d7:∀n∈A,∃e r,E n=some e/\U'.rt n=some r/\(e.s=M'.g n\/(r.bx=false/\n<pinned/\n∉YO s.ps A))/\(r.bx=false->∃ε,e.r.t=.list true ε):=by
  intro n hn;obtain⟨D,r0,q1,q2,q3⟩:=f0 n hn;have hE:∃e,E n=some e:=⟨_,by simp only[E,q1,E4];rfl⟩;obtain⟨e,H⟩:=hE;obtain⟨e1,z1,z2⟩:=k6 n e H;rw[q1]at z1;cases z1;refine⟨e,r0,H,q2,?_⟩;rcases q3 with⟨q3,q4,q5⟩|⟨b,v,ε,q3,q4,q5,q6,q7⟩;rcases z2 with rfl|⟨-,b,v,ε,z3,z4,z5,z6,z7,z8,z9,g4,rfl⟩;exact⟨q4,q5⟩;rw[z3]at q3;rcases h'.uJ q2 with⟨g,-⟩|⟨-,u,_,g,-⟩;rw[g]at q3;cases q3;rw[g]at z5;cases z5;refine⟨.inl ?_,fun g=>by rw[q3]at g;cases g⟩;rcases z2 with rfl|⟨-,b',v',ε',z3,z4,z5,z6,z7,z8,z9,g4,rfl⟩;exfalso;obtain⟨e2,l3,b7⟩:=C9.1 H;rw[q1]at l3;cases l3;have hc:A.contains n=true:=by simpa using hn
  rw[hc]at b7;simp only[cT]at b7;rw[(k5 n hn).1,q2,e4,q6]at b7;obtain⟨bx,t0,x0⟩:=r0;have q3:bx=true:=q3;subst q3;simp only[ZL]at b7;rw[if_neg (by rw[q4];simp)]at b7
  have:=cG (fun e=>e.r.bx) b7
  rw[q4]at this;cases this;exact z5.symm
 have I:∀n e,E0 n=some e->∃(k:Nat)(X:(r:RA)×r.ty.sK) (v:Value) (L:Src×CI),(ns++A)[k]?=some n/\V[k]?=some X/\vs[k]?=some v/\Ls[k]?=some L/\Bh X=some e.r/\e.s=L.1/\e.O=L.2/\
   a5i (cells w') (fun c=>c<w'.heap.size/\((Bk fz B w M' s.ps A).S c\/(Bk fz B w M' s.ps A).F c\/(Bk fz B w M' s.ps A).size<=c)/\∀L∈Ls,c∉L.2.map (·.1)) X v L:=by
  intro n e H;obtain⟨k,X,L,j1,j2,j3,j4⟩:=a3D _ _ _ _ _ H;have n3:k<vs.length:=by rw[bk.lv];exact(lS.1 j2).1
  have hv:=lG n3;exact⟨k,X,vs[k],L,j1,j2,hv,j3,j4.1,j4.2.1,j4.2.2,bk.ok _ _ _ _ j2 hv j3⟩
 have a6:∀n D c,E0 n=some D->c∈D.O.map (·.1)->(Bk fz B w M' s.ps A).F c\/w.heap.size<=c:=fun n D c H hc=>by
  obtain⟨k,X,v,L,j1,j2,jv,j3,j4,j5,j6,j7⟩:=I n D H;rw[j6]at hc;exact bk.mine L (B3 j3) c hc
 have d1:∀n e,E n=some e->n∈rn\/n∈A:=fun n e H=>by
  obtain⟨D,T,-⟩:=k6 n e H;obtain⟨k,X,v,L,j1,j2,-,-,j4,-⟩:=I n D T;rcases h7 k n X j1 j2 (by rw[j4];simp)with⟨-,g,-⟩|⟨-,g⟩;exact .inl g;exact .inr (B3 g)
 have a5:∀n b,b∈(M'.ow n).map (·.1)->¬ (Bk fz B w M' s.ps A).F b->∀n' D,E0 n'=some D->b∉D.O.map (·.1):=fun n b hb hF n' D H hc=>by
  rcases a6 n' D b H hc with g|g;exact hF g
  have:=h'.lt ⟨n,hb⟩;omega
 have hW:yH w w' M1 (Bk fz B w M' s.ps A).F E:={
  own:=fun c hF=>by
   obtain⟨n,hn,hc⟩:=f3 c hF;obtain⟨e,r,H,-⟩:=d7 n hn;exact⟨n,e,H,by rw[(k5 n hn).2];exact hc⟩
  size:=bk.size
  still:=bk.still
  same:=fun b hb m8=>bk.frame b hb m8
  mine:=fun n e c H hc=>by
   obtain⟨D,T,z⟩:=k6 n e H;rcases z with rfl|⟨hn,b,v,ε,z3,z4,z5,z6,z7,z8,z9,g4,rfl⟩;exact(a6 n e c T hc).imp .inl id;rcases mC.1 (show c∈b::D.O.map (·.1)from hc)with rfl|hc;exact .inl (.inr (by rw[(k5 n hn).2];exact z8));exact(a6 n D c T hc).imp .inl id
  nodup:=fun n e H=>by
   obtain⟨D,T,z⟩:=k6 n e H;have h0:(D.O.map (·.1)).Nodup:=by
    obtain⟨k,X,v,L,j1,j2,jv,j3,j4,j5,j6,j7⟩:=I n D T;rw[j6];exact bk.nodup L (B3 j3)
   rcases z with rfl|⟨hn,b,v,ε,z3,z4,z5,z6,z7,z8,z9,g4,rfl⟩;exact h0;exact A9.2 ⟨a5 n b z8 g4 n D T,h0⟩
  sV:=fun n e n' e' H c7 e5 c hc h8=>by
   obtain⟨D,T,z⟩:=k6 n e H;obtain⟨b5,c8,z'⟩:=k6 n' e' c7;have a8:c∈D.O.map (·.1)->c∈b5.O.map (·.1)->False:=fun hc h8=>by
    obtain⟨k,X,v,L,j1,j2,jv,j3,j4,j5,j6,j7⟩:=I n D T;obtain⟨k',g6,v',L',i1,i2,iv,i3,i4,i5,i6,i7⟩:=I n' b5 c8;rw[j6]at hc;rw[i6]at h8;exact bk.sV k k' L L' j3 i3 (fun g=>by subst g;rw[j1]at i1;exact e5 (Option.some.inj i1)) c hc h8
   rcases z with rfl|⟨hn,b,v,ε,z3,z4,z5,z6,z7,z8,z9,g4,rfl⟩;rcases z' with rfl|⟨l7,b',v',ε',y3,y4,y5,y6,y7,y8,y9,e9,rfl⟩;exact a8 hc h8;rcases mC.1 (show c∈b'::b5.O.map (·.1)from h8)with rfl|h8;exact a5 n' c y8 e9 n e T hc;exact a8 hc h8;rcases mC.1 (show c∈b::D.O.map (·.1)from hc)with rfl|hc;rcases z' with rfl|⟨l7,b',v',ε',y3,y4,y5,y6,y7,y8,y9,e9,rfl⟩;exact a5 n c z8 g4 n' e' c8 h8;rcases mC.1 (show c∈b'::b5.O.map (·.1)from h8)with rfl|h8;exact h'.sV n n' e5 c z8 y8;exact a5 n c z8 g4 n' b5 c8 h8;rcases z' with rfl|⟨l7,b',v',ε',y3,y4,y5,y6,y7,y8,y9,e9,rfl⟩;exact a8 hc h8;rcases mC.1 (show c∈b'::b5.O.map (·.1)from h8)with rfl|h8;exact a5 n' c y8 e9 n D T hc;exact a8 hc h8
  live:=fun n e p H hp=>by
   obtain⟨D,T,z⟩:=k6 n e H;have h0:p∈D.O->BY w' p.1 p.2:=fun hp=>by
    obtain⟨k,X,v,L,j1,j2,jv,j3,j4,j5,j6,j7⟩:=I n D T;rw[j6]at hp;exact bk.live L (B3 j3) p hp
   rcases z with rfl|⟨hn,b,v,ε,z3,z4,z5,z6,z7,z8,z9,g4,rfl⟩;exact h0 hp;rcases mC.1 hp with rfl|hp;obtain⟨c,e,lo,hi,q1,q2⟩:=z9;exact⟨c,e,lo,hi,by rw[bk.frame b (h'.lt ⟨n,z8⟩) g4];exact q1,q2⟩;exact h0 hp }

 have a9:∀c,(c<w'.heap.size/\((Bk fz B w M' s.ps A).S c\/(Bk fz B w M' s.ps A).F c\/(Bk fz B w M' s.ps A).size<=c)/\∀L∈Ls,c∉L.2.map (·.1))->fz=true->
   (c<w'.heap.size/\(Ba B w M1 c\/(Bk fz B w M' s.ps A).F c\/w.heap.size<=c)/\∀n e,E n=some e->c∉e.O.map (·.1)):=by
  rintro c ⟨g1,Y,g3⟩ hfzt;refine⟨g1,?_,fun n e H d8=>?_⟩;rcases Y with(Y|⟨Y,-⟩)|Y|Y;exact .inl (hshr c Y);rw[hfzt]at Y;cases Y;exact .inr (.inl Y);exact .inr (.inr Y);obtain⟨D,T,z⟩:=k6 n e H;have h0:c∉D.O.map (·.1):=by
   obtain⟨k,X,v,L,j1,j2,jv,j3,j4,j5,j6,j7⟩:=I n D T;rw[j6];exact g3 L (B3 j3)
  rcases z with rfl|⟨hn,b,v,ε,z3,z4,z5,z6,z7,z8,z9,g4,rfl⟩;exact h0 d8;rcases mC.1 (show c∈b::D.O.map (·.1)from d8)with rfl|d8;rcases Y with(Y|⟨Y,-⟩)|Y|Y;exact Y.2.2 ⟨n,z8⟩;rw[hfzt]at Y;cases Y;exact g4 Y
  have:=h'.lt ⟨n,z8⟩
  have Y:w.heap.size<=c:=Y;omega;exact h0 d8
 have a4:fz=false->∀(k:Nat) X,V[k]?=some X->X.1.sS=false:=by
  intro d9 k X hk;have h1:=TO (RA.all s.ps s.rs) y k X (by rw[k0];exact hk);rw[<-l4]at d9;simp only[Bool.or_eq_false_iff,List.any_eq_false,F9]at d9;have hm:=B3 h1;simp only[RA.all,mA]at hm;rcases hm with hm|hm;exact d9.1 _ hm;exact d9.2 _ hm
 have f8:∀n e,E n=some e->tV (cells w') (fun c=>c<w'.heap.size/\(Ba B w M1 c\/(Bk fz B w M' s.ps A).F c\/w.heap.size<=c)/\∀n e,E n=some e->c∉e.O.map (·.1)) e.r e.s e.O:=by
  intro n e H;obtain⟨D,T,z⟩:=k6 n e H;have h0:tV (cells w') (fun c=>c<w'.heap.size/\(Ba B w M1 c\/(Bk fz B w M' s.ps A).F c\/w.heap.size<=c)/\∀n e,E n=some e->c∉e.O.map (·.1)) D.r D.s D.O:=by
   obtain⟨k,X,v,L,j1,j2,jv,j3,j4,j5,j6,j7⟩:=I n D T;have hr:=j7.root j4;rw[j5,j6];cases hfz':fz with
   |true=>
    rw[hfz']at hr a9;exact hr.mono fun c hc=>a9 c hc rfl
   |false=>exact hr.xL (a7x j4 (a4 hfz' k X j2))
  rcases z with rfl|⟨hn,b,v,ε,z3,z4,z5,z6,z7,z8,z9,g4,rfl⟩;exact h0;obtain⟨O',R,k1,k2,k3⟩:=h0.rd;rcases k3 with⟨k3,-⟩|⟨-,-,-,k3⟩;rw[z3]at k3;cases k3;refine⟨O',R,AF _ k1 (fun j hj=>?_) (fun _ _ _=>rfl),k2,.inl ⟨rfl,b,rfl,?_⟩⟩;have hj:j<D.r.t.cells:=hj;rw[z4]at hj;have n1:j=0:=by simp only[Ty.cells]at hj;omega
  subst n1;rw[z7];show cells w' b (0+0)=some v
  have:=BE (w':=w') (w:=w) (c:=b) none (bk.frame b (h'.lt ⟨n,z8⟩) g4) 0
  exact this.trans z6;show(b,1)::D.O=(b,D.r.t.cells)::O';rw[z4,k3];rfl
 obtain⟨hM,f1⟩:=h1.yL (hov1.trans b4) hW f8 (fun i b e hb H=>by
   rcases d1 _ e H with g|g;exact absurd (h9 _ g).1 (by omega);obtain⟨e',r',c7,a7,hs,-⟩:=d7 _ g;rw[H]at c7;simp only[sj]at c7;subst c7;rcases hs with hs|⟨-,hs,-⟩;rw[hs];exact h'.pins i b hb (by rw[a7];simp);omega) (f:=AV.sQ A (U1.vT (YO s.ps A))) (fun av v k7=>by
   have i9:∀k q,(av=.ptr k q\/av=.sref k q\/∃o l,av=.swin k q o l)->k∉A->E k=none:=fun k q hk n2=>by
    cases H:E k with
    |none=>rfl
    |some e=>
     rcases d1 k e H with g|g;have hn:=hnone k g;rcases hk with rfl|rfl|⟨o,l,rfl⟩;obtain⟨r,t,b,o,g1,-⟩:=k7;rw[hn]at g1;cases g1;obtain⟨r,e,s,g1,-⟩:=k7;rw[hn]at g1;cases g1;obtain⟨r,e,s,_,_,_,g1,-⟩:=k7;rw[hn]at g1;cases g1;exact absurd g n2
   cases av with
   |sref m p=>
    simp only[AV.sQ];split
    ·rename_i hm;cases p with
     |cons=>exact .inl rfl
     |nil=>
      simp only[];split;rename_i hb;refine .inr ⟨rfl,fun k p' hk=>.inr (.inr ?_)⟩;rcases hk with g|g|⟨o,l,g⟩<;>cases g;obtain⟨e,r,H,a7,hs,ht⟩:=d7 m (by simpa using hm);have c0:=(k5 m (by simpa using hm)).1.trans a7;have hb:m∈U1.vT (YO s.ps A):=by simpa using hb
      simp only[AE.vT,List.mem_filter,E6]at hb;obtain⟨hb,g7⟩:=hb;rcases hs with hs|⟨-,-,hs⟩;obtain⟨r2,e2,s2,g1,Y,g3⟩:=k7;rw[c0]at g1;cases g1;simp only[loc,Cl,sj,pJ]at Y;rcases h1.uJ c0 with⟨b6,b,hg⟩|⟨b6,u,e3,hg,-⟩;rw[c0]at g7;simp only[a7e]at g7;rw[b6]at g7;cases g7;obtain⟨ε,ht⟩:=ht b6;exact⟨rfl,e,u,ε,H,by rw[hs,<-e4];exact hg,hg,ht⟩;exact absurd hb hs;exact .inl rfl
    rename_i hm;refine .inr ⟨rfl,fun k p' hk=>.inl (i9 k p' hk ?_)⟩;rcases hk with g|g|⟨o,l,g⟩<;>cases g;simpa using hm
   |swin m p o l=>
    simp only[AV.sQ];split;exact .inl rfl;rename_i hm;refine .inr ⟨rfl,fun k p' hk=>.inl (i9 k p' hk ?_)⟩;rcases hk with g|g|⟨o,l,g⟩<;>cases g;simpa using hm
   |ptr m p=>
    simp only[AV.sQ];split
    ·rename_i hm;cases p with
     |cons=>exact .inl rfl
     |nil=>
      refine .inr ⟨rfl,fun k p' hk=>.inr (.inl ?_)⟩;rcases hk with g|g|⟨o,l,g⟩<;>cases g;obtain⟨e,r,H,a7,hs,ht⟩:=d7 m (by simpa using hm);have c0:=(k5 m (by simpa using hm)).1.trans a7;obtain⟨r2,t2,b2,o2,g1,Y,-⟩:=k7;rw[c0]at g1;cases g1;simp only[loc,Cl,sj,pJ]at Y;rcases h1.uJ c0 with⟨b6,b,hg⟩|⟨b6,u,e3,hg,-⟩;rcases hs with hs|⟨hs,-⟩;exact⟨rfl,e,b,H,by rw[hs,<-e4];exact hg,hg⟩;rw[b6]at hs;cases hs;rw[hg]at Y;cases Y.2
    rename_i hm;refine .inr ⟨rfl,fun k p' hk=>.inl (i9 k p' hk ?_)⟩;rcases hk with g|g|⟨o,l,g⟩<;>cases g;simpa using hm
   |_=>exact .inr ⟨rfl,fun k p' hk=>by rcases hk with g|g|⟨o,l,g⟩<;>cases g⟩)

 have d3:∀(k:Nat) av,(La ns V)[k]?=some av->∃u,vr[k]?=some u/\Ay (Af w' none) (HF M1 E).g (RK U1 (AV.sQ A (U1.vT (YO s.ps A))) E).rt (Ba B w' (HF M1 E)) av u:=by
  intro k av hk;obtain⟨n,X,g1,Y,rfl⟩:=a3E _ _ _ _ hk;have l6:k<vr.length:=by rw[f9,<-b0];exact(lS.1 g1).1
  have e7:=lG l6;have m5:vs[k]?=some vr[k]:=by rw[<-i8,A8 l6];exact e7
  have f5:k<Ls.length:=by rw[bk.ll];exact(lS.1 Y).1
  have c5:=lG f5;have g0:=bk.ok _ _ _ _ Y m5 c5;have b8:(ns++A)[k]?=some n:=by rw[A8 (by omega)];exact g1
  refine⟨vr[k],e7,?_⟩;have c9:∀r,Bh X=some r->E n=some ⟨r,Ls[k].1,Ls[k].2⟩:=fun r hr=>by
   have h0:E0 n=some ⟨r,Ls[k].1,Ls[k].2⟩:=a5k (ns++A) V Ls k n X _ r b8 Y c5 hr (fun k' g6 a1 a2 a3=>d4 _ k' n _ g6 b8 Y (by rw[hr];simp) a1 a2 a3);have n4:A.contains n=false:=by
    rcases h7 k n X b8 Y (by rw[hr];simp)with⟨-,g,-⟩|⟨g,-⟩;simpa using(h9 n g).2
    have:=(lS.1 g1).1
    omega
   simp only[E,h0,E4,n4,cF]
  obtain⟨r,xx⟩:=X;cases r with
  |v t=>
   obtain⟨hv,-⟩:=g0;cases hfz':fz with
   |true=>
    rw[hfz']at hv a9 f1;exact hv.frame (fun _ _ _=>rfl) fun c hc=>f1 c (a9 c hc rfl)
   |false=>exact hv.xL (a4 hfz' k _ Y)
  |o e=>
   obtain⟨hs,-⟩:=g0;have H:=c9 _ rfl;refine⟨_,e,.one vr[k],GH H,?_,rfl⟩;rw[GI H];show some (_,Ls[k].1)=_;rw[hs]
  |b t=>
   obtain⟨-,b,hs,hv⟩:=g0;have H:=c9 _ rfl;refine⟨_,t,b,0,GH H,?_,hv⟩;rw[GI H];show some (_,Ls[k].1)=_;rw[hs]
 have n8:(⟨fun i=>(U1.sl i).sJ (AV.sQ (A.reverse++[]) (U1.vT (YO s.ps A))),fun n=>match CJ (ns++A) V n with
    |some r=>some (bif (A.reverse++[]).contains n then Wo (U1.rt n) r else r)
    |none=>U1.rt n,none⟩:AE)=RK U1 (AV.sQ A (U1.vT (YO s.ps A))) E:=by
  have e1:AV.sQ (A.reverse++[]) (U1.vT (YO s.ps A))=AV.sQ A (U1.vT (YO s.ps A)):=by
   funext av;cases av<;>simp[AV.sQ]
  have e2:∀n,(A.reverse++[]).contains n=A.contains n:=fun n=>by simp
  rw[e1];simp only[RK,AE.sJ,E,E0,e2];congr 1;funext n;rw[YS _ _ Ls n bk.ll];cases ZK (ns++A) V Ls n with
  |none=>rfl
  |some e=>
   simp only[E4];cases A.contains n with
   |false=>rfl
   |true=>
    simp only[cT,sj];cases a7:U1.rt n with
    |none=>simp[Wo,ZL]
    |some r0=>
     rcases h1.uJ a7 with⟨hb,b,hg⟩|⟨hb,u,D,hg,-⟩;obtain⟨bx,t0,x0⟩:=r0;have hb:bx=true:=hb;subst hb;rw[hg];simp only[Wo,ZL];split;rename_i H;obtain⟨⟨bx,t1,x1⟩,s1,O1⟩:=e;have H:bx=true:=H;subst H;rfl;rfl;obtain⟨bx,t0,x0⟩:=r0;have hb:bx=false:=hb;subst hb;simp[Wo,ZL]
 have hz:(match o.dst with
   |none=>K (RK U1 (AV.sQ A (U1.vT (YO s.ps A))) E)
   |some d=>match La (BA s.rs (d+1000)) V with
    | [v]=>K ((RK U1 (AV.sQ A (U1.vT (YO s.ps A))) E).set d v)
    |vs=>K ((RK U1 (AV.sQ A (U1.vT (YO s.ps A))) E).put d (.cmp .tup vs)))=some z:=by
  rw[n7,d2,k0]at m7;rw[<-n8];exact m7
 cases hd:o.dst with
 |none=>
  rw[hd]at hz g5;simp only[]at hz;exact g5 _ w' _ _ hM hz
 |some d=>
  have l9:BA s.rs (d+1000)=ns:=by rw[<-d2,hd];rfl
  rw[hd]at hz g5;simp only[l9]at hz;have k4:(La ns V).length=vr.length:=by rw[cQ _ _ (by omega),b0,f9]
  split at hz
  ·rename_i av k7;rw[k7]at k4 d3;obtain⟨u,hu,g0⟩:=d3 0 av rfl;have m4:vr=[u]:=by
    match vr,k4,hu with
    | [u'],_,hu=>simp only[List.getElem?_cons_zero,sj]at hu;rw[hu]
   refine g5 _ w' _ _ (hM.uN (sv:=.one av) (v:=jU vr) (d:=d) hN (fun _=>?_)) hz;rw[m4];exact g0
  ·rename_i e5;refine g5 _ w' _ _ (hM.uN (sv:=.cmp .tup (La ns V)) (v:=jU vr) (d:=d) hN (fun _=>?_)) hz;refine⟨vr.toArray,?_,fun k av hk=>?_⟩
   ·match vr,k4 with
    | [],_=>rfl
    | [u],k4=>
     obtain⟨av,k7⟩:=F0.1 (k4.trans rfl);exact absurd k7 (e5 av)
    |_::_::_,_=>rfl
   obtain⟨u,hu,g0⟩:=d3 k av hk;exact⟨u,by simpa using hu,g0⟩
theorem b9O(g:o.op=.call c)(h:c.callee=.value (.func f)):(execOp a.eval o).run P w=(callFunc f (c.args.map a.eval)).run P w:=by simp_all[execOp,resolve,Act.eval,Deferred.ofValue,invoke]
theorem b0P{t:Nat}(g:o.op=.call c)(h:c.callee=.value (.tmp t)){us:Array Value}(hv:a.eval (.tmp t)=.func (.func f) #[] us):(execOp a.eval o).run P w=(callFunc f (c.args.map a.eval++us)).run P w:=by simp_all[execOp,resolve,Deferred.ofValue,invoke]
theorem b3a{b:Array Value}(k:∀c,o.op≠.defer c)(g:(execOp a.eval o).run P w=.ok (.enter f b) w)(R:Ending->World->Prop)(d:Calls P f b w R)(i:∀e w',R e w'->∃v,e=.returned v/\next (a.put o.dst v) w'):o.wpIn (Fr ro) 0 P a w next Q:=by
 refine a5l k ?_
 rw[g,Oper.uponIn_enter];refine⟨fun h=>(by grind),a7y (d.mono fun e w' h=>?_)⟩;grind
theorem b6K{g:Array Value}(k:∀c,o.op≠.defer c)(h:(execOp a.eval o).run P w=(callFunc f g).run P w)(R:Ending->World->Prop)(d:∃v w',(callFunc f g).run P w=.ok (.value v) w'/\R (.returned v) w')(b:∀e w',R e w'->∃v,e=.returned v/\next (a.put o.dst v) w'):o.wpIn (Fr ro) 0 P a w next Q:=by
 grind[a5l,Oper.uponIn_value]
theorem b0Q{s:sG}{K:AE->Rs Z}{z:Z}(D:o.op=.call c)(A:c.callee=.value (.func f))(u:gD G B)(b:a7w P G f s)(h:sM B U N (AH a) w M)(y:a.tmps.size=N)(H:fits N o=true)(E:U.call q o.dst s (c.args.toList.map U.sN) K=some z)(k:∀v w' n M',sM B n N (AH (a.put o.dst v)) w' M'->K n=some z->next (a.put o.dst v) w'):o.wpIn (Fr ro) 0 P a w next Q:=by
 have e:∀x∈c.args.toList,Cj N x=true:=fun x O=>Bg H x (by simp_all[Op.operands,Call.operands]);have d:∀p,o.op≠.defer p:=fun p L=>by simp_all
 have r:(c.args.toList.map a.eval).toArray=c.args.map a.eval:=by grind
 have t:∀(i:Nat) m v,(c.args.toList.map U.sN)[i]?=some m->(c.args.toList.map a.eval)[i]?=some v->Ay (Af w M.ov) M.g U.rt (Ba B w M) m v:=by
  intro i m v j l;rw[D7]at j l;cases hi:c.args.toList[i]? with
  |none=>simp_all
  |some I=>
   rw[hi]at j l;simp only[E4,sj]at j l;subst j;subst l;exact h.sN (e I (B3 hi))
 rcases b with⟨b,F⟩|b;exact Yh (C:=Calls P f) (vals:=c.args.toList.map a.eval) (b3a d (by rw[a7z F D A,r])) (by simp) t u b h y E k;exact Yh (vals:=c.args.toList.map a.eval) (b6K d (by rw[b9O D A,r])) (by simp) t u b h y E k
theorem b4r{t:Nat}{r:List AV}{s:sG}{K:AE->Rs Z}{z:Z}(L:o.op=.call c)(H:c.callee=.value (.tmp t))(S:U.sl t=.cmp (.clo f) r)(E:gD G B)(b:a7w P G f s)(h:sM B U N (AH a) w M)(F:a.tmps.size=N)(I:fits N o=true)(O:U.call q o.dst s (c.args.toList.map U.sN++r) K=some z)(k:∀v w' u M',sM B u N (AH (a.put o.dst v)) w' M'->K u=some z->next (a.put o.dst v) w'):o.wpIn (Fr ro) 0 P a w next Q:=by
 have e:∀x∈c.args.toList,Cj N x=true:=fun x Y=>Bg I x (by simp_all[Op.operands,Call.operands]);have T:t<N:=by
  have:=Bg I (.tmp t) (by simp_all[Op.operands,Call.operands])
  simpa[Cj]using this
 have j:=h.slots t T;rw[S]at j;have⟨us,⟨A,n⟩,h3⟩:=j;have n:a.eval (.tmp t)=.func (.func f) #[] us:=n;have d:∀y,o.op≠.defer y:=fun y X=>by simp_all
 have D:∀(i:Nat) p v,(c.args.toList.map U.sN++r)[i]?=some p->(c.args.toList.map a.eval++us.toList)[i]?=some v->Ay (Af w M.ov) M.g U.rt (Ba B w M) p v:=by
  intro i p v l m;by_cases hi:i<c.args.toList.length
  ·rw[A8 (by simp_all),D7]at l m;cases hi':c.args.toList[i]? with
   |none=>simp_all
   |some V=>
    rw[hi']at l m;simp at l m;subst l;subst m;exact h.sN (e V (B3 hi'))
  grind
 rcases b with⟨b,R⟩|b;exact Yh (C:=Calls P f) (vals:=c.args.toList.map a.eval++us.toList) (b3a d (by rw[a7A R L H a w n];simp)) (by simp[A]) D E b h F O k;exact Yh (vals:=c.args.toList.map a.eval++us.toList) (b6K d (by rw[b0P L H n,show(c.args.toList.map a.eval++us.toList).toArray=c.args.map a.eval++us from by simp])) (by simp[A]) D E b h F O k
end
theorem jW:∀(l:List Nat),b2R l=true->l.Nodup|[],_=>List.nodup_nil|a::l,h=>by simp only[b2R,bA,E6,List.contains_eq_mem,decide_eq_false_iff_not]at h;exact A9.2 ⟨h.1,jW l h.2⟩
section
variable {Z:Type}
inductive uQ (nm:List Nat) (U:AE) (es:Ao) (i:Nat):SV->Prop
 |dead:uQ nm U es i (.one .dead)
 |same (av:AV):U.get i=av->av≠.dead->(∀k q,(av=.ptr k q\/av=.sref k q\/∃o l,av=.swin k q o l)->k∈nm)->uQ nm U es i (.one av)
 |made (n:Nat) (e:Ty):wZ.own i n e∈es->U.rt n=none->n∈nm->(U.get i=.nils\/U.get i=.empt)->uQ nm U es i (.one (.sref n []))
 |clo (f:Nat) (ns:List Nat):U.sl i=.cmp (.clo f) (Tp ns)->(∀k∈ns,k∈nm)->uQ nm U es i (.cmp (.clo f) (Tp ns))
theorem a3F:∀(g:List AV)(ns:List Nat),Wp g ns=true->g=Tp ns|[],[],_=>rfl|v::g,[],h=>by simp_all[Wp]|[],_::_,h=>by simp[Wp]at h|v::g,m::ns,h=>by cases v with|ptr n p=>(cases p with|nil=>simp[Wp]at h;rw[h.1,a3F g ns h.2];rfl|cons=>simp[Wp]at h)|_=>simp[Wp]at h
theorem qQ:∀(ns:List Nat)(k:Nat)(av:AV),(Tp ns)[k]?=some av->∃n∈ns,av=.ptr n []|[],k,av,h=>by simp[Tp]at h|n::ns,0,av,h=>by simp_all[Tp]|n::ns,k+1,av,h=>by have⟨m,g,e⟩:=qQ ns k av (by simpa[Tp]using h);exact⟨m,by simp[g],e⟩
theorem uQ.cons{c U b i v}(h:uQ c U b i v)(e:wZ):uQ c U (e::b) i v:=by cases h with|dead=>exact .dead|same d g k a=>exact .same d g k a|made n j g k a l=>exact .made n j (A4 _ g) k a l|clo f m g k=>exact .clo f m g k
def WM(r' r:sP):Prop:=r'=r\/(r'.bx=true/\r.bx=true/\r'.t.tO=r'.t/\tF r'.t r.t r'.x=some r.x)
theorem b0R{m:DU}:∀(q:BJ)(a b:Ty)(s:Src){k f},a.le b=true->loc m a s q=some (k,f)->∃t2,loc m b s q=some (t2,f)|[],a,b,s,k,f,h,g=>(by simp[Cl]at g;obtain⟨-,rfl⟩:=g;exact⟨b,rfl⟩)|.fst::p,a,b,s,k,f,h,g=>(by obtain⟨a1,d,e,o,rfl,rfl,g⟩:=MN g;cases b with|pair b1 b2=>simp[Ty.le]at h;exact b0R p a1 b1 _ h.1 g|_=>simp[Ty.le]at h)|.snd::p,a,b,s,k,f,h,g=>(by obtain⟨a1,d,e,o,rfl,rfl,g⟩:=MO g;cases b with|pair b1 b2=>(simp[Ty.le]at h;have⟨t2,j⟩:=b0R p d b2 _ h.2 g;rw[Ty.vI _ _ h.1]at j;exact⟨t2,j⟩)|_=>simp[Ty.le]at h)|.idx i::p,a,b,s,k,f,h,g=>by(have l:a=b:=by rcases LK g with⟨n,t,e,o,rfl,rfl,r,g⟩|⟨t,u,n,c,rfl,v,r,g⟩<;>simpa[Ty.le]using h);simp_all
theorem WM.loc{m:DU}{g r:sP}(h:WM g r){p:BJ}{s:Src}{k f}(a:loc m g.t s p=some (k,f)):∃t2,Ab.loc m r.t s p=some (t2,f):=by rcases h with rfl|⟨-,-,-,h⟩;all_goals grind[tF,b0R]
theorem WM.yK{g:sP}(h:WM g r){s:Src}{e f}(k:Ab.loc m g.t s p=some (.list true e,f)):Ab.loc m r.t s p=some (.list true e,f):=by rcases h with rfl|⟨-,-,h,-⟩;omega;have:=MQ p _ _ h k;simp[Ty.tO]at this
theorem Ay.xP{g y:Nat->Src}{rt u:Nat->Option sP}(h:Ay m g rt Sh a v)(B:∀c,Sh c->Sh' c)(x:∀n p r,(a=.ptr n p\/a=.sref n p\/∃o l,a=.swin n p o l)->rt n=some r->y n=g n/\∃f,u n=some f/\WM r f):Ay m y u Sh' a v:=by cases a with|ptr n p=>(have⟨r,t,b,o,k,d,i⟩:=h;have⟨w,f,j,q⟩:=x n p r (.inl rfl) k;have⟨D,z⟩:=q.loc d;exact⟨f,D,b,o,j,by simp_all,i⟩)|sref n p=>(have⟨r,e,s,k,d,i⟩:=h;have⟨w,f,j,q⟩:=x n p r (.inr (.inl rfl)) k;exact⟨f,e,s,j,by rw[w];exact q.yK d,i⟩)|swin n p o l=>(have⟨r,e,s,a,C,c,k,d,i,j,q⟩:=h;have⟨w,f,z,A⟩:=x n p r (.inr (.inr ⟨_,_,rfl⟩)) k;exact⟨f,e,s,a,C,c,z,by rw[w];exact A.yK d,i,j,q⟩)|_=>exact h.frame (fun _ _ _=>rfl) B (by rintro n p r t s (g|g|⟨_,_,g⟩)<;>cases g)
inductive vD (U:AE) (es:Ao) (n:Nat):Option sP->Prop
 |none:n∉es.names->vD U es n none
 |same (r r':sP):n∈es.names->U.rt n=some r'->WM r' r->vD U es n (some r)
 |made (i:Nat) (e:Ty):n∈es.names->n<pinned->wZ.own i n e∈es->U.rt n=Option.none->(U.get i=.nils\/U.get i=.empt)->vD U es n (some ⟨false,.list true e,[]⟩)
theorem Ey(U:AE)(i j:Nat)(v:AV):(U.set i v).sl j=if j=i then .one v else U.sl j:=by simp_all[AE.set,AE.put]
theorem TQ(U:AE)(n m:Nat)(r:Option sP):(U.sI n r).rt m=if m=n then r else U.rt m:=by simp_all[AE.sI]
theorem BS(b:List Nat)(U:AE):∀(N:Ao){K:N.ty.sK->Rs Z}{z:Z},(∀n∈N.names,n∈b)->N.names.Nodup->Ao.rest b U N K=some z->∃x,K x=some z/\(N.enc x).pd=none/\(∀i,uQ b U N i ((N.enc x).sl i))/\∀n,vD U N n ((N.enc x).rt n)|[],K,z,_,_,h=>⟨(),h,rfl,fun i=>.dead,fun n=>.none (by simp[Ao.names])⟩|.sv i t::r,K,z,hnm,hnd,h=>(by simp only[Ao.rest]at h;split at h;rename_i t' x hx;split at h;rename_i X;subst X;have⟨y,G,C,D,w⟩:=BS b U r hnm hnd h;refine⟨(x,y),G,C,fun j=>?_,fun n=>?_⟩;show uQ b U _ j (((Ao.enc r y).set i (.val t' x)).sl j);rw[Ey];split;rename_i e;subst e;exact .same _ hx (by simp) (by rintro k q (g|g|⟨o,l,g⟩)<;>cases g);exact(D j).cons _;show vD U _ n ((Ao.enc r y).rt n);cases hrt:(Ao.enc r y).rt n<;>have:=w n<;>rw[hrt]at this<;>cases this;exact .none (by assumption);exact .same _ _ (by assumption) (by assumption) (by assumption);rename_i E v d a u A B;exact .made E v d a (A4 _ u) A B;cases h;cases h)|.own i n e::r,K,z,hnm,hnd,h=>by(simp[Ao.names]at hnd;have M:∀m∈Ao.names r,m∈b:=fun m S=>hnm m (by simp[Ao.names,S]);have P:n∈b:=hnm n (by simp[Ao.names]);have H:∀(l:List e.sK)(Q:(Ao.ty r).sK->Rs Z),Ao.rest b U r Q=some z->(∀y,Q y=K (l,y))->uQ b U (.own i n e::r) i (.one (.sref n []))->vD U (.own i n e::r) n (some ⟨false,.list true e,l⟩)->∃x,K x=some z/\(Ao.enc (.own i n e::r) x).pd=none/\(∀j,uQ b U (.own i n e::r) j ((Ao.enc (.own i n e::r) x).sl j))/\∀m,vD U (.own i n e::r) m ((Ao.enc (.own i n e::r) x).rt m):=by(intro l Q h hK hs L;have⟨y,G,C,D,w⟩:=BS b U r M hnd.2 h;refine⟨(l,y),by simp_all,C,fun j=>?_,fun m=>?_⟩;show uQ b U _ j ((((Ao.enc r y).sI n (some ⟨false,.list true e,l⟩)).set i (.sref n [])).sl j);rw[Ey];split;simp_all;exact(D j).cons _);(show vD U _ m (((Ao.enc r y).sI n (some ⟨false,.list true e,l⟩)).rt m);rw[TQ];split;simp_all);rename_i T;cases hrt:(Ao.enc r y).rt m with|none=>(have:=w m;rw[hrt]at this;cases this with|none g=>exact .none (by simp_all[Ao.names]))|some rr=>have:=w m;rw[hrt]at this;cases this with|same _ R d u g5=>exact .same rr R (by simp[Ao.names,d]) u g5|made E v d a u A B=>exact .made E v (by simp[Ao.names,d]) a (A4 _ u) A B);(simp[Ao.rest]at h;split at h;rename_i m S;rcases Ai h with⟨T,h⟩|⟨-,g⟩;obtain rfl:m=n:=by simp_all);(split at h;rename_i v l L;split at h;rename_i he;subst he;exact H l _ h (fun _=>rfl) (.same _ S (by simp) (by simp_all)) (.same _ _ (by simp[Ao.names]) L (.inl rfl));simp_all;simp_all;simp_all;rename_i I;split at h;rename_i L;have⟨O,h⟩:=(Ai h).elim id fun h=>by grind);(exact H [] _ h (fun _=>rfl) (.made n e (by simp) L P (.inl I)) (.made i e (by simp[Ao.names]) (by simp_all) (by simp) L (.inl I));simp_all;rename_i I;split at h;rename_i L;have⟨O,h⟩:=(Ai h).elim id fun h=>by grind);exact H [] _ h (fun _=>rfl) (.made n e (by simp) L P (.inr I)) (.made i e (by simp[Ao.names]) (by simp_all) (by simp) L (.inr I));simp_all;simp_all|.box n t::r,K,z,hnm,hnd,h=>by(simp[Ao.names]at hnd;have M:∀m∈Ao.names r,m∈b:=fun m S=>hnm m (by simp[Ao.names,S]);simp[Ao.rest]at h;have H:∀(Y:t.sK)(Q:(Ao.ty r).sK->Rs Z),Ao.rest b U r Q=some z->(∀y,Q y=K (Y,y))->(∃R,U.rt n=some R/\WM R ⟨true,t,Y⟩)->∃x,K x=some z/\(Ao.enc (.box n t::r) x).pd=none/\(∀j,uQ b U (.box n t::r) j ((Ao.enc (.box n t::r) x).sl j))/\∀m,vD U (.box n t::r) m ((Ao.enc (.box n t::r) x).rt m):=by(intro Y Q h hK ⟨R,L,F⟩;have⟨y,G,C,D,w⟩:=BS b U r M hnd.2 h;refine⟨(Y,y),by simp_all,C,fun j=>(D j).cons _,fun m=>?_⟩;show vD U _ m (((Ao.enc r y).sI n (some ⟨true,t,Y⟩)).rt m);rw[TQ];split;rename_i e;subst e;exact .same _ _ (by simp[Ao.names]) L F);rename_i T;cases hrt:(Ao.enc r y).rt m with|none=>(have:=w m;rw[hrt]at this;cases this with|none g=>exact .none (by simp_all[Ao.names]))|some rr=>have:=w m;rw[hrt]at this;cases this with|same _ R d u g5=>exact .same rr R (by simp[Ao.names,d]) u g5|made E v d a u A B=>exact .made E v (by simp[Ao.names,d]) a (A4 _ u) A B);split at h;rename_i t' x L;split at h;rename_i X;subst X;exact H x _ h (fun _=>rfl) ⟨_,L,.inl rfl⟩;split at h;rename_i V;split at h;rename_i z' h0;exact H z' _ h (fun _=>rfl) ⟨_,L,.inr ⟨rfl,rfl,V,h0⟩⟩;simp_all;simp_all;simp_all|.ptr i n p::r,K,z,hnm,hnd,h=>(by(simp only[Ao.rest]at h;split at h;rename_i m q I;have⟨F,h⟩:=(Ai h).elim id fun h=>by grind);simp at F;obtain⟨P,rfl,O⟩:=F;obtain rfl:=My _ _ O;have⟨y,G,C,D,w⟩:=BS b U r hnm hnd h;refine⟨y,G,C,fun j=>?_,fun c=>?_⟩;show uQ b U _ j (((Ao.enc r y).set i (.ptr m q)).sl j);rw[Ey];split;rename_i e;subst e;exact .same _ I (by simp) (by simp_all);exact(D j).cons _;show vD U _ c ((Ao.enc r y).rt c);cases hrt:(Ao.enc r y).rt c<;>have:=w c<;>rw[hrt]at this<;>cases this;exact .none (by assumption);exact .same _ _ (by assumption) (by omega) (by omega);rename_i E v d a u A B;exact .made E v d a (A4 _ u) A B;simp_all)|.vp i t::r,K,z,hnm,hnd,h=>(by simp only[Ao.rest]at h;split at h;rename_i t' x hx;split at h;rename_i X;subst X;have⟨y,G,C,D,w⟩:=BS b U r hnm hnd h;refine⟨(x,y),G,C,fun j=>?_,fun n=>?_⟩;show uQ b U _ j (((Ao.enc r y).set i (.vptr t' x)).sl j);rw[Ey];split;rename_i e;subst e;exact .same _ hx (by simp) (by rintro k q (g|g|⟨o,l,g⟩)<;>cases g);exact(D j).cons _;show vD U _ n ((Ao.enc r y).rt n);cases hrt:(Ao.enc r y).rt n<;>have:=w n<;>rw[hrt]at this<;>cases this;exact .none (by assumption);exact .same _ _ (by assumption) (by assumption) (by assumption);rename_i E v d a u A B;exact .made E v d a (A4 _ u) A B;cases h;cases h)|.ref i n p::r,K,z,hnm,hnd,h=>(by(simp only[Ao.rest]at h;split at h;rename_i m q I;have⟨F,h⟩:=(Ai h).elim id fun h=>by grind);simp at F;obtain⟨P,rfl,O⟩:=F;obtain rfl:=My _ _ O;have⟨y,G,C,D,w⟩:=BS b U r hnm hnd h;refine⟨y,G,C,fun j=>?_,fun c=>?_⟩;show uQ b U _ j (((Ao.enc r y).set i (.sref m q)).sl j);rw[Ey];split;rename_i e;subst e;exact .same _ I (by simp) (by simp_all);exact(D j).cons _;show vD U _ c ((Ao.enc r y).rt c);cases hrt:(Ao.enc r y).rt c<;>have:=w c<;>rw[hrt]at this<;>cases this;exact .none (by assumption);exact .same _ _ (by assumption) (by omega) (by omega);rename_i E v d a u A B;exact .made E v d a (A4 _ u) A B;simp_all)|.rfi i n::r,K,z,hnm,hnd,h=>(by(simp only[Ao.rest]at h;split at h;rename_i m k I;have⟨F,h⟩:=(Ai h).elim id fun h=>by grind);simp at F;obtain⟨P,rfl⟩:=F;have⟨y,G,C,D,w⟩:=BS b U r hnm hnd h;refine⟨((k:Int),y),G,C,fun j=>?_,fun c=>?_⟩;show uQ b U _ j (((Ao.enc r y).set i (.sref m [.idx (k:Int).toNat])).sl j);rw[Ey];split;rename_i e;subst e;exact .same _ (by simp_all) (by simp) (by simp_all);exact(D j).cons _;show vD U _ c ((Ao.enc r y).rt c);cases hrt:(Ao.enc r y).rt c<;>have:=w c<;>rw[hrt]at this<;>cases this;exact .none (by assumption);exact .same _ _ (by assumption) (by omega) (by omega);rename_i E v d a u A B;exact .made E v d a (A4 _ u) A B;simp_all)|.win i n p::r,K,z,hnm,hnd,h=>(by(simp only[Ao.rest]at h;split at h;rename_i m q o k I;have⟨F,h⟩:=(Ai h).elim id fun h=>by grind);simp at F;obtain⟨P,rfl,O⟩:=F;obtain rfl:=My _ _ O;have⟨y,G,C,D,w⟩:=BS b U r hnm hnd h;refine⟨((o:Int),(k:Int),y),G,C,fun j=>?_,fun c=>?_⟩;show uQ b U _ j (((Ao.enc r y).set i (.swin m q (o:Int).toNat (k:Int).toNat)).sl j);rw[Ey];split;rename_i e;subst e;exact .same _ (by simp_all) (by simp) (by simp_all);exact(D j).cons _;show vD U _ c ((Ao.enc r y).rt c);cases hrt:(Ao.enc r y).rt c<;>have:=w c<;>rw[hrt]at this<;>cases this;exact .none (by assumption);exact .same _ _ (by assumption) (by omega) (by omega);rename_i E v d a u A B;exact .made E v d a (A4 _ u) A B;simp_all)|.clo i f ns::r,K,z,hnm,hnd,h=>by(simp[Ao.rest]at h;split at h;rename_i f' vs I;have⟨F,h5⟩:=(Ai h).elim id fun h=>by grind);(simp at F;obtain⟨rfl,P,O⟩:=F;obtain rfl:=a3F _ _ O;have⟨y,G,C,D,w⟩:=BS b U r hnm hnd h5;refine⟨y,G,C,fun j=>?_,fun c=>?_⟩;show uQ b U _ j (bif j==i then(SV.cmp (.clo f') (Tp ns))else(Ao.enc r y).sl j);by_cases e:j=i;subst e);simp;(exact .clo f' ns I P;have v:(j==i)=false:=by simp_all);simp[v];exact(D j).cons _;show vD U _ c ((Ao.enc r y).rt c);cases hrt:(Ao.enc r y).rt c<;>have:=w c<;>rw[hrt]at this<;>cases this;exact .none (by assumption);exact .same _ _ (by assumption) (by omega) (by omega);rename_i E v d a u A B;exact .made E v d a (A4 _ u) A B;simp_all
end
def wZ.fits(N:Nat):wZ->Bool|.sv i _|.own i _ _|.ptr i _ _|.ref i _ _|.rfi i _|.win i _ _|.vp i _|.clo i _ _=>A6 (i<N)|.box _ _=>true
def Ao.fits(N:Nat)(es:Ao):Bool:=es.all (wZ.fits N)
section
variable {Z:Type} {B:Base} {N:Nat} {tm:Nat->Value} {w:World}
theorem FD(h:sM B U N tm w M)(hi:i<N):Ay (Af w M.ov) M.g U.rt (Ba B w M) (U.get i) (tm i):=by have:=h.slots i hi;simp[AE.get];revert this;cases U.sl i with|one v=>(exact fun h=>h)|cmp c f=>exact fun _=>trivial
theorem sM.vals{q:List Nat}:∀(C:Ao) {U:AE} {M:Gh}(_:sM B U N tm w M)(_:U.pd=none){K:C.ty.sK->Rs Z}{z:Z}(_:C.fits N=true)(_:∀n∈C.names,n∈q)(_:C.names.Nodup)(_:Ao.vals q C U K=some z),∃x E L,K x=some z/\sM B E N tm w L/\E.pd=none/\(∀(j:Nat) t y,U.get j=.val t y->E.get j=.val t y)/\(C.enc x).pd=none/\(∀i,uQ q E C i ((C.enc x).sl i))/\∀n,vD E C n ((C.enc x).rt n):=by intro C;induction C with|nil=>(intro U M h b K z Q a k o;have⟨x,c,d,l,m⟩:=BS q U [] a k o;grind)|cons e r ih=>intro U M h b K z Q a k o;cases e with|sv i t=>((simp only[Ao.fits,List.all_cons,bA,wZ.fits,dT]at Q;simp[Ao.vals]at o;have⟨F,o⟩:=(Ai o).resolve_right (fun g=>by grind);have S:∃x A D,Ao.vals q r (A.set i (.val t x)) (fun y=>K (x,y))=some z/\sM B A N tm w D/\A.pd=none/\Ci (Af w D.ov) (Ba B w D) t x (tm i)/\∀(j:Nat) u y,U.get j=.val u y->(A.set i (.val t x)).get j=.val u y:=by(have P:=FD h Q.1;have G:(∀u y,U.get i≠.val u y)->∃x A D,Ao.vals q r (A.set i (.val t x)) (fun y=>K (x,y))=some z/\sM B A N tm w D/\A.pd=none/\Ci (Af w D.ov) (Ba B w D) t x (tm i)/\∀(j:Nat) u y,U.get j=.val u y->(A.set i (.val t x)).get j=.val u y:=fun R=>by(obtain⟨x,A,D,c,d,l,m,-,h5⟩:=h.yA (.inl P) o;refine⟨x,A,D,c,d,m.pd.trans b,l,fun j u y H=>?_⟩;have h0:j≠i:=fun e=>R u y (e▸H));have:=h5.2 j u y H;simp_all[AE.get,Ey]);cases hg:U.get i with|val u x=>(rw[hg]at o P;simp[AE.uT]at o;split at o;rename_i x2 I;rw[hg]at F;simp[AV.exact]at F;subst F;rw[jP]at I;cases I;refine⟨x,U,M,o,h,b,P,fun j t2 y H=>?_⟩;by_cases e:j=i;subst e;rw[hg]at H;simp[AE.get];rw[Ey,if_pos rfl];omega;simp_all[AE.get,Ey];simp_all)|_=>exact G (by rw[hg];intro u y e;cases e));have⟨x,A,D,k1,k2,k3,k4,k5⟩:=S;have k6:sM B (A.set i (.val t x)) N tm w D:=k2.put (v:=tm i) (fun _=>k4) (fun j _=>by simp_all);have⟨y,E,L,j1,j2,j3,j4,j5,j6,j7⟩:=ih k6 k3 (by simp_all[Ao.fits]) a k k1;have hx:E.get i=.val t x:=j4 i t x (by simp[AE.get];rw[Ey,if_pos rfl]);refine⟨(x,y),E,L,j1,j2,j3,fun j u T H=>j4 j u T (k5 j u T H),j5,fun j=>?_,fun n=>?_⟩;show uQ q E _ j (((Ao.enc r y).set i (.val t x)).sl j);rw[Ey];split;rename_i e;subst e;exact .same _ hx (by simp) (by simp);exact(j6 j).cons _;show vD E _ n ((Ao.enc r y).rt n);cases hrt:(Ao.enc r y).rt n<;>have:=j7 n<;>rw[hrt]at this<;>cases this;exact .none (by assumption);exact .same _ _ (by assumption) (by omega) (by omega);rename_i i' V X O Y g3 g4;exact .made i' V X O (A4 _ Y) g3 g4)|own i n e=>exact(fun⟨x,c,d,l,m⟩=>⟨x,U,M,c,h,b,fun _ _ _ g=>g,d,l,m⟩) (BS q U _ a k o)|box n t=>exact(fun⟨x,c,d,l,m⟩=>⟨x,U,M,c,h,b,fun _ _ _ g=>g,d,l,m⟩) (BS q U _ a k o)|ptr i n p=>exact(fun⟨x,c,d,l,m⟩=>⟨x,U,M,c,h,b,fun _ _ _ g=>g,d,l,m⟩) (BS q U _ a k o)|vp i n=>exact(fun⟨x,c,d,l,m⟩=>⟨x,U,M,c,h,b,fun _ _ _ g=>g,d,l,m⟩) (BS q U _ a k o)|ref i n p=>exact(fun⟨x,c,d,l,m⟩=>⟨x,U,M,c,h,b,fun _ _ _ g=>g,d,l,m⟩) (BS q U _ a k o)|rfi i n=>exact(fun⟨x,c,d,l,m⟩=>⟨x,U,M,c,h,b,fun _ _ _ g=>g,d,l,m⟩) (BS q U _ a k o)|clo i f ns=>exact(fun⟨x,c,d,l,m⟩=>⟨x,U,M,c,h,b,fun _ _ _ g=>g,d,l,m⟩) (BS q U _ a k o)|win i n p=>exact(fun⟨x,c,d,l,m⟩=>⟨x,U,M,c,h,b,fun _ _ _ g=>g,d,l,m⟩) (BS q U _ a k o)
theorem a3G:∀(r:Ao){i n e},wZ.own i n e∈r->n∈r.names|a::r,i,n,e,h=>by rcases mC.1 h with h|h;subst h;simp[Ao.names];have:=a3G r h;cases a<;>simp[Ao.names,this]
def Yi:Ao->Nat->Nat|[],_=>0|.own i m _::r,n=>if m=n then i else Yi r n|_::r,n=>Yi r n
theorem ES:∀(f:Ao){i n e},f.names.Nodup->wZ.own i n e∈f->Yi f n=i|.own j m k::r,i,n,e,hnd,h=>(by simp only[Ao.names,A9]at hnd;simp only[Yi];rcases mC.1 h with h|h;cases h;simp;have:=a3G r h;rw[if_neg (fun g=>hnd.1 (by rw[g];exact this))];exact ES r hnd.2 h)|.sv j t::r,i,n,e,hnd,h=>(by rcases mC.1 h with h|h;cases h;exact ES r hnd h)|.box m t::r,i,n,e,hnd,h=>(by simp only[Ao.names,A9]at hnd;rcases mC.1 h with h|h;cases h;exact ES r hnd.2 h)|.ptr j m p::r,i,n,e,hnd,h=>(by rcases mC.1 h with h|h;cases h;exact ES r hnd h)|.vp j m::r,i,n,e,hnd,h=>(by rcases mC.1 h with h|h;cases h;exact ES r hnd h)|.ref j m p::r,i,n,e,hnd,h=>(by rcases mC.1 h with h|h;cases h;exact ES r hnd h)|.rfi j m::r,i,n,e,hnd,h=>(by rcases mC.1 h with h|h;cases h;exact ES r hnd h)|.clo j m p::r,i,n,e,hnd,h=>(by rcases mC.1 h with h|h;cases h;exact ES r hnd h)|.win j m p::r,i,n,e,hnd,h=>by rcases mC.1 h with h|h;cases h;exact ES r hnd h
theorem sM.cut(h:sM B U N tm w M)(h3:U.pd=none){d:Ao}(hf:d.fits N=true)(K:d.names.Nodup){X:AE}(hX:X.pd=none)(hs:∀i,uQ d.names U d i (X.sl i))(L:∀n,vD U d n (X.rt n)):∃M',sM B X N tm w M':=by
 have h4:=h.tC h3;let M':Gh:=⟨fun n=>match U.rt n with|some _=>M.g n|none=>.one (tm (Yi d n)),fun n=>match X.rt n with|some _=>M.ow n|none=>[],none⟩;have V:∀n r,U.rt n=some r->M'.g n=M.g n:=fun n r e=>by grind
 have I:∀n,U.rt n=none->M'.g n=.one (tm (Yi d n)):=fun n e=>by grind
 have ho:∀n r,X.rt n=some r->M'.ow n=M.ow n:=fun n r e=>by grind
 have h2:∀n,X.rt n=none->M'.ow n=[]:=fun n e=>by grind
 have P:∀n p,p∈M'.ow n->p∈M.ow n:=fun n p hp=>by grind
 have a:∀n c,c∈(M'.ow n).map (·.1)->c∈(M.ow n).map (·.1):=fun n c q=>by grind
 have x:∀c,Ba B w M c->Ba B w M' c:=fun c q=>⟨q.1,q.2.1,fun⟨n,l⟩=>q.2.2 ⟨n,a n c l⟩⟩;have t:Af w M'.ov=Af w M.ov:=by grind
 have h1:∀n,n∈d.names->∃r,X.rt n=some r:=fun n l=>by cases hrt:X.rt n<;>have:=L n<;>rw[hrt]at this<;>cases this;all_goals simp_all
 have C:∀n r,n∈d.names->U.rt n=some r->∃r2,X.rt n=some r2/\WM r r2:=fun n r l V=>by cases hrt:X.rt n<;>have:=L n<;>rw[hrt]at this<;>cases this;all_goals simp_all
 have E:∀i e n,wZ.own i n e∈d->i<N:=fun i e n hm=>by have:=lA.1 hf _ hm;simp_all[wZ.fits]
 refine⟨M',fun n r l=>?_,fun n l=>h2 n l,fun n=>?_,fun n m y c q h0=>h.sV n m y c (a n c q) (a m c h0),fun n p hp=>h.live n p (P n p hp),fun i Y=>?_,?_,h.size,h.frame,fun c ⟨n,l⟩=>h.mine c ⟨n,a n c l⟩,fun i b hb y=>?_,h.still⟩;have:=L n;rw[l]at this;rw[t,ho n r l];cases this with|same _ r5 v j g5=>(rw[V n r5 j];rcases g5 with rfl|⟨e1,e2,e3,e4⟩;exact(h.roots n _ j).mono x;have⟨O',R,H,Q,Z⟩:=(h.roots n r5 j).rd;have hO:=RI e3 H;subst hO;refine⟨[],R,ZG e4 H,fun c q=>x c (Q c q),?_⟩;rcases Z with⟨-,b,S,k5⟩|⟨S,-⟩;exact .inl ⟨e2,b,S,by rw[k5,(a3x e4).2]⟩;simp_all)|made i e v g1' j F G=>(rw[I n F,ES d K j,h.norm n F];have Y:=E i e n j;have o:=FD h Y;refine⟨[],[],?_,by simp,.inr ⟨rfl,⟨_,rfl⟩,⟨e,rfl⟩,rfl⟩⟩;show Cq _ true e.cells (AL _ e) (some (tm i))=some (([]:List e.sK),[],[]);rcases G with G|G;rw[G]at o;have o:tm i=.slice none 0 0:=o;rw[o];rfl);rw[G]at o;have⟨A,o⟩:=o;rw[o];cases A with|none=>rfl|some A=>rfl
 cases e:X.rt n with|none=>simp_all|some r=>rw[ho n r e];exact h.nodup n
 have D:=hs i;revert D;generalize X.sl i=sv;intro D;have o:=FD h Y;cases D with|dead=>trivial|clo f ns v j=>(have hb:=h.slots i Y;rw[v]at hb;have⟨us,H,Q⟩:=hb;refine⟨us,H,fun k T hk=>?_⟩;have⟨u,Z,S⟩:=Q k T hk;obtain⟨m,hm,rfl⟩:=qQ ns k T hk;refine⟨u,Z,?_⟩;rw[t];refine S.xP x fun n p r q z=>?_);simp_all|same T v j F=>(rw[v]at o;show Ay _ _ _ _ T _;rw[t];exact o.xP x fun n p r q z=>⟨V n r z,C n r (F n p q) z⟩)|made n e v j F G=>have⟨r,O⟩:=h1 n F;have:=L n;rw[O]at this;cases this with|same _ _ H Q=>simp_all|made i' e' H k1' Q Z S=>refine⟨_,e',.one (tm i),O,?_,rfl⟩;rw[I n j,ES d K v];rfl
 show Tq _ _ _ X.pd none;rw[hX];trivial
 have⟨r,l⟩:=Option.ne_none_iff_exists'.1 y;have:=L (pinned+i);rw[l]at this;cases this with|same _ _ v j=>rw[V _ _ j];exact h.pins i b hb (by simp_all)|made i' e v g1'=>omega
theorem sM.wX(h:sM B U N tm w M){k:Ao}(c:k.fits N=true){K:k.ty.sK->Rs Z}{z:Z}(a:k.wX U K=some z):∃x M',K x=some z/\sM B (k.enc x) N tm w M':=by(unfold Ao.wX at a;split at a;rename_i b;have⟨f,a⟩:=(Ai a).elim id fun h=>by grind);have f:=jW _ f;obtain⟨x,n,m,o,d,e,-,i,j,l⟩:=sM.vals k h b c (fun _ g=>g) f a;have⟨M',p⟩:=d.cut e c f i j l;grind;simp_all
end
structure vC (P:Program) (cx:Cx):Prop extends CxTy P cx where
 C:∀f s,cx.C f=some s->a7w P cx.G f s
section
variable {P:Program} {B:Base} {N:Nat} {Z:Type} {U:AE} {a:Act} {w:World} {M:Gh} {cx:Cx} {ro:Option Nat}
theorem AT.wp{K:AE->Rs Z}{z:Z}(k:∀c,o.op≠.defer c)(h:AT P B N o a w K z)(b:∀v w' f M',sM B f N (AH (a.put o.dst v)) w' M'->K f=some z->next (a.put o.dst v) w'):o.wpIn (Fr ro) 0 P a w next Q:=by
 have⟨v,w',f,M',g,d,e⟩:=h;refine a5l k ?_
 rcases g with h|⟨h,rfl⟩;all_goals grind[Oper.uponIn_value,Oper.uponIn_skip]
theorem Ou(b:vC P cx)(j:gD cx.G B){o:Oper}{q:Bool}{K:AE->Rs Z}{z:Z}{next:Act->World->Prop}{Q:Exit->Act->World->Prop}
  (h:sM B U N (AH a) w M)(l:a.tmps.size=N)(m:fits N o=true)(p:Bc cx q o U K=some z)
  (k:∀v w' r M',sM B r N (AH (a.put o.dst v)) w' M'->K r=some z->next (a.put o.dst v) w'):o.wpIn (Fr ro) 0 P a w next Q:=by
 by_cases d:∃c v,o.op=.call c/\c.callee=.value v
 ·have⟨c,v,i,d⟩:=d;have g:(match v with|.func f=>(match cx.C f with|some s=>U.call q o.dst s (c.args.toList.map U.sN) K|none=>none)|.tmp t=>(if q then none else match U.sl t with|.cmp (.clo f) u=>(match cx.C f with|some s=>U.call q o.dst s (c.args.toList.map U.sN++u) K|none=>none)|_=>none)|_=>none)=some z:=by
   cases hd:o.dst<;>simp only[Bc,i,hd,d]at p<;>rw[<-p]<;>cases v<;>rfl
  cases v with
  |func f=>
   simp at g;split at g;rename_i s n;exact b0Q i d j (b.C f s n) h l m g k;simp_all
  |tmp t=>
   simp only[]at g;split at g;grind;split at g;rename_i f u n;split at g;rename_i s x;exact b4r i d n j (b.C f s x) h l m g k;simp_all;simp_all
  |_=>simp_all
 refine(b4q b.toCxTy j (fun c v i e=>d ⟨c,v,i,e⟩) h l m p).wp (fun y e=>?_) k;simp_all[Bc]
theorem qR{U:AE}(h:a7f U x=some n):∃t,x=.tmp t/\U.sl t=.one (.ptr n [])/\pinned<=n:=by unfold a7f at h;grind
theorem ZM{U:AE}(h:YP o U=some n):∃t,(o.op=.move (.tmp t)\/o.op=.nilCheck (.tmp t))/\U.sl t=.one (.ptr n [])/\pinned<=n:=by unfold YP at h;split at h;rename_i x k;obtain⟨t,rfl,g,f⟩:=qR h;simp_all;rename_i x k;obtain⟨t,rfl,g,f⟩:=qR h;simp_all;simp_all
theorem a3H{Z:Type}{cx:Cx}{o:Oper}{U:AE}{n d:Nat}(h:YP o U=some n)(f:o.dst=some d){q:Bool}(K:AE->Rs Z):Bc cx q o U K=K (U.put d (.one (.ptr n []))):=by obtain⟨t,g|g,k,-⟩:=ZM h;simp_all[Bc];simp[Bc,g,f,AE.sN,AE.get,k];rfl
theorem a5m{m:DU}:∀(p:BJ)(t:Ty)(s:Src){f τ s'},loc m t s p=some (f,s')->c1T t p=some τ->f=τ|[],t,s,f,τ,s',h,g=>by simp_all[Cl,c1T]|.fst::p,t,s,f,τ,s',h,g=>(by obtain⟨a,b,k,o,rfl,rfl,h⟩:=MN h;exact a5m p a _ h g)|.snd::p,t,s,f,τ,s',h,g=>(by obtain⟨a,b,k,o,rfl,rfl,h⟩:=MO h;exact a5m p b _ h g)|.idx i::p,t,s,f,τ,s',h,g=>by cases t<;>cases g
theorem a5n:∀(p:BJ)(t:Ty)(x:t.sK){τ},c1T t p=some τ->(Dc t x p).1=τ|[],t,x,τ,h=>by simp[c1T]at h;subst h;rfl|.fst::p,.pair a b,x,τ,h=>a5n p a x.1 h|.snd::p,.pair a b,x,τ,h=>a5n p b x.2 h|.idx i::p,t,x,τ,h=>(by cases t<;>cases h)|.fst::p,.unit,_,_,h|.fst::p,.int _,_,_,h|.fst::p,.bool,_,_,h|.fst::p,.str,_,_,h|.fst::p,.list _ _,_,_,h|.fst::p,.arr _ _,_,_,h|.fst::p,.nl _,_,_,h=>(by cases h)|.snd::p,.unit,_,_,h|.snd::p,.int _,_,_,h|.snd::p,.bool,_,_,h|.snd::p,.str,_,_,h|.snd::p,.list _ _,_,_,h|.snd::p,.arr _ _,_,_,h|.snd::p,.nl _,_,_,h=>by cases h
theorem sM.cell_of{tm}(h:sM B U N tm w M){n r p b o e}(i:U.rt n=some r)(m:loc (Af w M.ov) r.t (M.g n) p=some (.list true e,.at b o))(hp:p.all Step.uB=true)(E:U.uS=true):
  w.cell? ⟨b,o,none⟩=Af w M.ov b o:=by
 cases hov:M.ov with
 |none=>rfl
 |some I=>
  have⟨A,H,u⟩:=I;have k:=h.pend;rw[hov]at k;cases hpd':U.pd with
  |none=>rw[hpd']at k;exact k.elim
  |some x=>
   have⟨z,a,P⟩:=x;rw[hpd']at k;have⟨Y,Q,l,d⟩:=k;rw[<-hov]at d;have D:a.all Step.uB=false:=by simp_all[AE.uS]
   have q:∀f,p≠a++f:=fun f e=>by simp_all
   have C:¬ (b=A/\o=H):=by
    rintro⟨rfl,rfl⟩;by_cases hn:n=z
    ·subst hn;rw[i]at l;cases l;have⟨K,R,v,S,G,T,V,X⟩:=h.sep i;obtain⟨y,L,O,_,_,_,_,F,-,-,-⟩:=BT a r.t _ v d
     have:=(UJ (m':=fun c j=>if c=b/\j=o then none else Af w M.ov c j) a p r.t (M.g n) v d F G (fun c j=>by
      by_cases hc:c=b/\j=o;all_goals simp_all[Ty.cells]) (fun f e=>absurd e (q f)) m).2 _ _ rfl q
     simp_all[Af,Src.rd]
    exact h.sV n z hn b (h.place i m) (h.place l d)
   simp_all[Af]
theorem UT{n p τ}(h:U.wD x=some (n,p,τ)):∃t r,x=.tmp t/\U.sl t=.one (.ptr n p)/\U.rt n=some r/\c1T r.t p=some τ:=by unfold AE.wD at h;split at h;rename_i t;split at h;rename_i b c a;split at h;rename_i r k;have⟨τ',g,f⟩:=C9.1 h;simp_all;simp_all;simp_all;simp_all
theorem b9P(c:vC P cx)(hG:gD cx.G B){v:AV}{K:AE->Rs Z}{z:Z}(k:U.stay cx o=some v)(hd:o.dst=some d)(hv:v.still=true)(V:U.uS=true)(h:sM B U N (AH a) w M)(I:a.tmps.size=N)(L:fits N o=true)(hz:K (U.put d (.one v))=some z)(g:∀v w' U' M',sM B U' N (AH (a.put o.dst v)) w' M'->K U'=some z->next (a.put o.dst v) w'):o.wpIn (Fr ro) 0 P a w next Q:=by
 unfold AE.stay at k;split at k;rename_i t m;split at k;rename_i u hu;obtain⟨-,k⟩:=(Ai k).elim id fun h=>by grind
 cases k;refine Ou (q:=true) c hG h I L (z:=z) (K:=K) ?_ g;simp_all[Bc];simp_all;rename_i s x f m;split at k;rename_i n p τ S;obtain⟨t,r,rfl,F,j,H⟩:=UT S;split at k;rename_i hc;cases k;refine Ou (q:=true) c hG h I L (z:=z) (K:=K) ?_ g;have hg:(Em p r.t r.x).1=τ:=a5n p r.t r.x H;simp only[Bc,m,hd,AE.sN,AE.get,F,j];show(if Di (Em p r.t r.x).1 f=true/\cx.T s=some (Em p r.t r.x).1.sh then _ else _)=_
 rw[hg,if_pos hc];exact hz;simp_all;simp_all;rename_i s x m;split at k;rename_i n p e S;obtain⟨t,r,rfl,F,j,H⟩:=UT S;split at k;rename_i τ hT;have⟨O,k⟩:=(Ai k).elim id fun h=>by grind
 cases k;have⟨h4,Y⟩:=c.T s _ hT;have A:∀y∈(o.op.operands.toList),Cj N y=true:=Bg L;rw[m]at A;have ht:t<N:=by simp_all[Cj,Op.operands]
 have C:=h.slots t ht;rw[F]at C;have⟨r',t1,b,i,g1,D,E⟩:=C;rw[j]at g1;cases g1;have X:=a5m p r.t _ D H;subst X;obtain⟨O',R,k1,-,-,-,-,-⟩:=h.sep j;obtain⟨y,O2,R2,_,_,_,_,hy,-,-,-⟩:=BT p r.t _ k1 D;obtain⟨u,hu,-⟩:=Kj _ hy 0 (by simp[Ty.cells]);have hw:w.cell? ⟨b,i,none⟩=some u:=by rw[h.cell_of j D hv V];exact hu
 have l:τ.isAgg=false:=by cases τ<;>first|rfl|cases O
 refine AT.wp (fun c' h0=>by simp_all) (AT.set hd I (v:=u) (av:=.sref n p) ?_ h ⟨r,e,.at b i,j,D,hu⟩ hz) g;have E:a.eval (.tmp t)=.pointer (some ⟨b,i,none⟩):=E;simp[execOp,m,E,Instr.loadAt,Instr.sureAddr,loadVar,Mj Y,l,hw];simp_all;simp_all;simp_all
theorem a5o(k:vC P cx)(e:gD cx.G B){o:Oper}{A:Md}{K:AE->Rs Z}{z:Z}{next:Act->World->Prop}{Q:Exit->Act->World->Prop}
  (h:sM B U N (AH a) w M)(i:a.tmps.size=N)(j:fits N o=true)(g:Kh cx A o U K=some z)
  (f:∀v w' c M',sM B c N (AH (a.put o.dst v)) w' M'->K c=some z->next (a.put o.dst v) w'):o.wpIn (Fr ro) 0 P a w next Q:=by
 cases A with
 |x=>exact Ou k e h i j g f
 |w C=>
  simp[Kh]at g;split at g;obtain⟨-,g⟩:=(Ai g).elim id fun h=>by grind
  grind[Ou];simp_all
 |r I=>
  simp only[Kh]at g;obtain⟨-,g⟩:=(Ai g).elim id fun h=>by grind
  split at g;refine Ou k e h i j g fun v w' c M' l m=>f v w' c M' l ?_
  grind;simp_all
 |p=>
  simp[Kh]at g;split at g;rename_i n d E t;refine Ou (q:=true) k e h i j (z:=z) (K:=K) ?_ f;simp_all[a3H];simp_all
 |a C=>
  simp[Kh]at g;split at g;obtain⟨-,g⟩:=(Ai g).elim id fun h=>by grind
  grind[Ou];simp_all
 |b C=>
  simp only[Kh]at g;split at g;obtain⟨-,g⟩:=(Ai g).elim id fun h=>by grind
  refine Ou k e h i j g fun v w' c M' l m=>f v w' c M' l ?_
  grind;simp_all
 |u=>
  simp only[Kh]at g;obtain⟨-,g⟩:=(Ai g).elim id fun h=>by grind
  split at g;refine Ou k e h i j g fun v w' c M' l m=>f v w' c M' l ?_
  grind;simp_all
 |s=>
  simp[Kh]at g;split at g;rename_i v d F t;have⟨D,g⟩:=(Ai g).elim id fun h=>by grind
  have⟨H,y⟩:=Bool.and_eq_true_iff.1 D;exact b9P k e F t H y h i j g f;simp_all
 |q=>
  simp only[Kh]at g;obtain⟨-,g⟩:=(Ai g).elim id fun h=>by grind
  grind[Ou]
 |v=>
  simp only[Kh]at g;split at g;rename_i n E;split at g;rename_i d t;refine Ou (q:=true) k e h i j (z:=z) (K:=K) ?_ f;simp_all[a3H];simp_all;obtain⟨-,g⟩:=(Ai g).elim id fun h=>by grind
  split at g;refine Ou k e h i j g fun v w' c M' l m=>f v w' c M' l ?_
  grind;simp_all
def RM(N:Nat)(ops:List Oper)(o:Oper):Bool:=fits N o&&(match o.guard with|some (j,_)=>(match VG ops j with|some g=>A6 (g<N)|none=>true)|none=>true)
theorem WN{ops:List Oper}(h:RM N ops o=true):fits N o=true:=by simp_all[RM]
theorem sM.skip(h:sM B U N (AH a) w M)(g:a.tmps.size=N)(d:Option Nat):sM B (U.uG d .skp) N (AH (a.put d undef)) w M:=by cases d with|none=>exact h|some d=>exact h.uN g fun _=>rfl
theorem sM.same(h:sM B U N (AH a) w M){g:Nat}(k:U.get g=av):sM B (U.set g av) N (AH a) w M:=by refine h.put (v:=AH a g) (fun f=>?_) (fun i _=>by simp_all);have:=FD h f;rw[k]at this;exact this
theorem b0S{ops:Array Oper}{j g:Nat}(h:VG ops.toList j=some g)(f:g<a.tmps.size):yielded ops a.tmps j=match AH a g with|.bool b=>some b|_=>none:=by(have h:(ops[j]?).bind (·.dst)=some g:=by simpa[VG]using h);simp[yielded,h,AH,Array.getElem?_eq_getElem f];grind
theorem b3b(l:vC P cx)(u:gD cx.G B){ops:Array Oper}{A:Md}{K:AE->Rs Z}{z:Z}(h:sM B U N (AH a) w M)(i:a.tmps.size=N)(y:RM N ops.toList o=true)(e:BC cx A ops.toList o U K=some z)(k:∀v w' t M',sM B t N (AH (a.put o.dst v)) w' M'->K t=some z->next (a.put o.dst v) w'):
  if Region.wanted o (yielded ops a.tmps)then o.wpIn (Fr ro) 0 P a w next Q else((∀f,o.about P w a.eval=some f->(Fr ro).fn f)/\next (a.put o.dst undef) w):=by
 have m:=WN y;unfold BC at e;split at e;rename_i x;rw[if_pos (by simp[Region.wanted,x])];grind[a5o];rename_i j n x;split at e;grind;rename_i g q;have r:g<N:=by
  simp_all[RM]
 have p:=b0S (a:=a) q (by omega);have d:=FD h r;split at e;rename_i b c;rw[c]at d;have hb:=Ay.bool d;rw[hb]at p;simp at p;cases b<;>cases n<;>simp only[cT,cF]at e;rw[if_pos (by simp_all[Region.wanted])];exact a5o l u (h.same c) i m e k;rw[if_neg (by simp_all[Region.wanted])];exact⟨fun _ _=>trivial,k _ w _ _ ((h.same c).skip i o.dst) e⟩;rw[if_neg (by simp_all[Region.wanted])];exact⟨fun _ _=>trivial,k _ w _ _ ((h.same c).skip i o.dst) e⟩;rw[if_pos (by simp_all[Region.wanted])];exact a5o l u (h.same c) i m e k;rename_i c;rw[c]at d;have d:AH a g=undef:=d;rw[d]at p;simp[undef]at p;rw[if_neg (by simp_all[Region.wanted])];exact⟨fun _ _=>trivial,k _ w _ _ (h.skip i o.dst) e⟩;simp_all
theorem b3c(g:vC P cx)(i:gD cx.G B){ops:Array Oper}{Q:Exit->Act->World->Prop}{D:List Deferred}{z:Z}:∀(l:List (Md×Oper)) {U:AE} {a:Act} {w:World} {M:Gh} {K:AE->Rs Z} (_:sM B U N (AH a) w M) (_:a.tmps.size=N) (_:a.defers=D)
  (_:∀p∈l,RM N ops.toList p.2=true) (_:Tn cx ops.toList l U K=some z) (_:∀f w' b M',sM B b N (AH f) w' M'->f.tmps.size=N->f.defers=D->K b=some z->Q .normal f w'),
  wpListIn (Fr ro) 0 P ops Q (l.map (·.2)) a w
 | [],U,a,w,M,K,h,c,e,_,k,d=>d a w U M h c e k
 |(md,o)::l,U,a,w,M,K,h,c,e,j,k,d=>by
  simp[Tn]at k
  have:=b3b (ro:=ro) (next:=wpListIn (Fr ro) 0 P ops Q (l.map (·.2))) (Q:=Q) g i h c (j (md,o) (by simp)) k fun v w' b M' n m=>
   b3c g i l n (by rw[Wx];omega) (by simp_all[UP]) (fun p q=>j p (by grind)) m d
  simp only[B7,wpListIn];omega
end
theorem Ov{B:Base}{N:Nat}{tm:Nat->Value}{w:World}{Z:Type}:∀(os:Wq){U:AE}{M:Gh}(_:sM B U N tm w M){e:Ex}{K:os.sK->Rs Z}{z:Z}(_:os.all (fun p=>p.2.fits N)=true) (_:os.pack e U K=some z),∃y X M',K y=some z/\sM B X N tm w M'/\∀{d:Type}(f:Ex->AE->Rs d),os.open y f=f e X|[],U,M,h,e,K,z,c,g=>by simp_all[Wq.pack]|[(i,s)],U,M,h,e,K,z,c,g=>(by simp only[Wq.pack]at g;split at g;rename_i b;subst b;have⟨x,M',k,a⟩:=h.wX (by simp_all) g;exact⟨x,_,M',k,a,fun f=>rfl⟩;simp_all)|(i,s)::x::r,U,M,h,e,K,z,c,g=>by simp[Wq.pack]at g;split at g;rename_i b;subst b;have⟨y,M',k,a⟩:=h.wX (by simp_all) g;exact⟨.inl y,_,M',k,a,fun f=>rfl⟩;have⟨y,X,M',k,a,j⟩:=Ov (x::r) h (by grind) g;exact⟨.inr y,X,M',k,a,fun f=>j f⟩
theorem b0T{M β:Type}{f:M->Option (M ⊕ β)}{s:M}{b:β}(h:pU f s=some b):∃n,Je f n s=some b:=by unfold pU at h;split at h;all_goals grind
theorem b4s{M β:Type}{f:M->Option (M ⊕ β)}{s:M}{b:β}(h:Ah f s=some b):∃n,Je f n s=some b:=by grind[Ah,b0T]
structure Dl where
 rs:List (Nat×sP)
 sv:SV
def Dl.app(δ:Dl)(d:Nat)(U:AE):AE:=⟨fun i=>bif i==d then δ.sv else U.sl i,fun n=>match find δ.rs n with|some r=>some r|none=>U.rt n,U.pd⟩
def AG(o:Oper):List Nat:=o.op.operands.toList.filterMap fun x=>match x with|.tmp t=>some t|_=>none
def DV(T:List Nat)(U U2:AE):Prop:=U2.pd=U.pd/\∀t∈T,U2.sl t=U.sl t/\∀n∈(U.sl t).refs,U2.rt n=U.rt n
theorem DV.refl{T U}:DV T U U:=⟨rfl,fun _ _=>⟨rfl,fun _ _=>rfl⟩⟩
theorem CL{o:Oper}{t:Nat}(h:Operand.tmp t∈o.op.operands.toList):t∈AG o:=List.mem_filterMap.2 ⟨_,h,rfl⟩
theorem DV.sN{o:Oper}{U U2:AE}(h:DV (AG o) U U2){x:Operand}(g:x∈o.op.operands.toList):U2.sN x=U.sN x:=by cases x with|tmp t=>simp[AE.sN,AE.get];rw[(h.2 t (CL g)).1]|_=>rfl
theorem DV.rt(a:DV (AG o) U U2)(b:x∈o.op.operands.toList)(k:n∈(U.sN x).refs):U2.rt n=U.rt n:=by cases x with|tmp t=>(refine(a.2 t (CL b)).2 n ?_;simp[AE.sN,AE.get]at k;revert k;cases U.sl t with|one v=>exact id|cmp c d=>exact fun h=>by cases h)|const v=>(simp[AE.sN]at k;unfold Ya at k;split at k<;>cases k)|global g=>(cases k)|func f=>cases k
theorem DV.look{o:Oper}{U U2:AE}(h:DV (AG o) U U2){x:Operand}(f:x∈o.op.operands.toList){n:Nat}(g:n∈(U.sN x).refs):U2.look n=U.look n:=by simp only[AE.look,h.1,h.rt f g]
def a7B{Z:Type}(r:Option Dl)(d:Nat)(U2:AE)(K:AE->Rs Z):Rs Z:=match r with|none=>none|some δ=>bif δ.rs.all fun p=>A6 (p.1<pinned)&&(U2.rt p.1).isNone then K (δ.app d U2)else none
def CF(cx:Cx)(o:Oper)(d:Nat)(U:AE):Prop:=∃r:Option Dl,(∀δ,r=some δ->(δ.sv.tX=true->δ.rs=[])/\∀n,find δ.rs n≠none->n∈LJ cx o d)/\∀U2,DV (AG o) U U2->∀{Z:Type}(K:AE->Rs Z),Bc cx true o U2 K=a7B r d U2 K
theorem CF.none{cx o d U}(h:∀U2,DV (AG o) U U2->∀{Z:Type}(K:AE->Rs Z),Bc cx true o U2 K=none):CF cx o d U:=⟨.none,by simp,fun U2 g Z K=>h U2 g K⟩
theorem CF.put{cx o d U}(sv:SV)(h:∀U2,DV (AG o) U U2->∀{Z:Type}(K:AE->Rs Z),Bc cx true o U2 K=K (U2.put d sv)):CF cx o d U:=⟨some ⟨[],sv⟩,fun δ e=>by cases e;exact⟨fun _=>rfl,fun n f=>absurd rfl f⟩,fun U2 g Z K=>by rw[h U2 g K];rfl⟩
theorem CF.of{cx o d U}(r:Option AV)(h:∀U2,DV (AG o) U U2->∀{Z:Type}(K:AE->Rs Z),Bc cx true o U2 K=r.elim .none fun v=>K (U2.set d v)):CF cx o d U:=by cases r with|none=>exact CF.none h|some v=>exact CF.put (.one v) h
theorem b9Q{Z:Type}{U2:AE}{d:Nat}{r:sP}{v:AV}{K:AE->Rs Z}:(U2.fresh true d r fun U=>K (U.set d v))=a7B (some ⟨[(d,r)],.one v⟩) d U2 K:=by unfold AE.fresh a7B;cases hd:A6 (d<pinned);grind;simp[hd];cases hr:U2.rt d with|some h=>simp|none=>simp;congr 1;simp only[AE.uM,hr,AE.sI,AE.set,AE.put,Dl.app];congr 1;funext n;simp[find];grind
theorem CF.vE{cx o d U}(r:sP)(v:AV)(hv:v.tX=false)(h:∀U2,DV (AG o) U U2->∀{Z:Type}(K:AE->Rs Z),Bc cx true o U2 K=U2.fresh true d r fun U=>K (U.set d v)):CF cx o d U:=⟨some ⟨[(d,r)],.one v⟩,(fun δ e=>by cases e;refine⟨fun k=>?_,fun n g=>?_⟩;simp_all[SV.tX];simp only[find]at g;by_cases e:d=n;subst e;exact List.mem_cons_self;grind),fun U2 f Z K=>by simp_all[b9Q]⟩
def TR(t:Ty)(a:AV):Option t.sK:=match a with|.val t' x=>tF t' t x|.nils=>(match t with|.list false _=>some []|.nl _=>some []|_=>none)|.empt=>(match t with|.list false _=>some []|_=>none)|_=>none
theorem a3I(U:AE)(t:Ty)(a:AV)(K:t.sK->AE->Rs Z):U.uT true t a K=(TR t a).elim none fun x=>K x U:=by cases a with|val h x=>grind[AE.uT,TR]|nils=>(cases t with|list o e=>(cases o<;>rfl)|_=>rfl)|empt=>(cases t with|list o e=>(cases o<;>rfl)|_=>rfl)|sref n p=>(cases p<;>simp[AE.uT,TR])|swin n p o k=>(cases p<;>simp[AE.uT,TR])|_=>rfl
def Tt(f:Operand->AV)(t:Ty):List (Nat×Operand)->t.sK->Option t.sK|[],x=>some x|(i,o)::r,x=>bif AE.vM t i then(match Dc t x (AE.pathOf t i)with|⟨t',_⟩=>(TR t' (f o)).elim none fun y=>Tt f t r (Fp t x (AE.pathOf t i) t' y))else none
theorem a5p{Z:Type}(U:AE)(t:Ty):∀(h:List (Nat×Operand)) (x:t.sK) (K:t.sK->AE->Rs Z),U.fills true t h x K=(Tt U.sN t h x).elim none fun y=>K y U|[],x,K=>rfl|(i,o)::r,x,K=>by simp[AE.fills,Tt];cases AE.vM t i;rfl;simp;rw[a3I];cases TR _ (U.sN o)with|none=>rfl|some y=>exact a5p U t r _ K
theorem UU(f g:Operand->AV)(t:Ty):∀(k:List (Nat×Operand)) (x:t.sK),(∀p∈k,f p.2=g p.2)->Tt f t k x=Tt g t k x|[],x,_=>rfl|(i,o)::r,x,h=>by simp[Tt];rw[h (i,o) (by simp)];cases AE.vM t i;rfl;simp;cases TR _ (g o)with|none=>rfl|some y=>exact UU f g t r _ fun p a=>h p (by simp[a])
def b0U(f:Operand->AV)(e:Ty)(n:Nat):List (Nat×Operand)->List e.sK->Option (List e.sK)|[],x=>some x|(i,o)::r,x=>bif A6 (i<n)then(TR e (f o)).elim none fun y=>b0U f e n r (x.set i y)else none
theorem b3d{Z:Type}(U:AE)(e:Ty)(n:Nat):∀(h:List (Nat×Operand)) (x:List e.sK) (K:List e.sK->AE->Rs Z),U.lit true e n h x K=(b0U U.sN e n h x).elim none fun y=>K y U|[],x,K=>rfl|(i,o)::r,x,K=>by simp[AE.lit,b0U];cases A6 (i<n);rfl;simp;rw[a3I];cases TR _ (U.sN o)with|none=>rfl|some y=>exact b3d U e n r _ K
theorem UV(f g:Operand->AV)(e:Ty)(n:Nat):∀(k:List (Nat×Operand)) (x:List e.sK),(∀p∈k,f p.2=g p.2)->b0U f e n k x=b0U g e n k x|[],x,_=>rfl|(i,o)::r,x,h=>by simp[b0U];rw[h (i,o) (by simp)];cases A6 (i<n);rfl;simp;cases TR _ (g o)with|none=>rfl|some y=>exact UV f g e n r _ fun p a=>h p (by simp[a])
def MV(lk:Nat->Option sP)(n:Nat)(p:BJ):Option ((e:Ty)×List e.sK):=match lk n with|some r=>(match Dc r.t r.x p with|⟨.list true e,l⟩=>some ⟨e,l⟩|_=>none)|none=>none
theorem PS(U:AE)(n:Nat)(p:BJ)(K:(e:Ty)->List e.sK->Rs Z):U.body n p K=(MV U.look n p).elim none fun x=>K x.1 x.2:=by unfold AE.body MV;grind
theorem oZ(U:AE)(n:Nat)(p:BJ)(K:(e:Ty)->List e.sK->Rs Z):U.wS n p K=(MV U.rt n p).elim none fun x=>K x.1 x.2:=by unfold AE.wS MV;cases U.rt n with|none=>rfl|some r=>simp only[];generalize Dc r.t r.x p=X;have⟨h,l⟩:=X;cases h with|list o e=>(cases o<;>rfl)|_=>rfl
def VI(lk:Nat->Option sP)(t:Ty)(a:AV):Option t.sK:=match a with|.val t' x=>tF t' t x|.nils=>(match t with|.list false _=>some []|.nl _=>some []|_=>none)|.empt=>(match t with|.list false _=>some []|_=>none)|.sref n p=>((MV lk n p).elim none fun x=>if h:Ty.list false x.1.sh=t then some (h▸Ty.wE (.list false x.1) x.2)else none)|.swin n p o k=>((MV lk n p).elim none fun x=>if h:Ty.list false x.1.sh=t then some (h▸Ty.wE (.list false x.1) ((x.2.drop o).take k))else none)|_=>none
theorem b6L(U:AE)(t:Ty)(a:AV)(K:t.sK->Rs Z):U.view t a K=(VI U.look t a).elim none K:=by cases a with|val h x=>grind[AE.view,VI]|nils=>(cases t with|list o e=>(cases o<;>rfl)|_=>rfl)|empt=>(cases t with|list o e=>(cases o<;>rfl)|_=>rfl)|sref n p=>simp[AE.view,VI,MV];grind|swin n p o k=>simp[AE.view,VI,MV];grind|_=>rfl
theorem Hw{f g:Nat->Option sP}{n:Nat}(h:g n=f n)(p:BJ):MV g n p=MV f n p:=by simp only[MV,h]
theorem jX{f g:Nat->Option sP}{t:Ty}{a:AV}(h:∀n∈a.refs,g n=f n):VI g t a=VI f t a:=by cases a with|sref n p=>simp_all[VI,Hw,AV.refs]|swin n p o k=>simp_all[VI,Hw,AV.refs]|_=>rfl
def RN(lk:Nat->Option sP)(e:Ty)(a:AV):Option (List e.sK):=match a with|.val (.list false t') x=>if h:t'=e then some (h▸(show List t'.sK from x))else none|.nils|.empt=>some []|.sref n p=>((MV lk n p).elim none fun x=>if h:x.1=e then some (h▸x.2)else none)|.swin n p o k=>((MV lk n p).elim none fun x=>if h:x.1=e then some (E2 k (F4 o (h▸x.2)))else none)|_=>none
theorem cR{Z:Type}(U:AE)(e:Ty)(a:AV)(K:List e.sK->Rs Z):U.elems e a K=(RN U.look e a).elim none K:=by cases a with|val h x=>(cases h with|list o h=>(cases o;all_goals grind[AE.elems,RN])|_=>rfl)|sref n p=>simp[AE.elems,RN,MV];grind|swin n p o k=>simp[AE.elems,RN,MV];grind|_=>rfl
theorem UW{f g:Nat->Option sP}{e:Ty}{a:AV}(h:∀n∈a.refs,g n=f n):RN g e a=RN f e a:=by cases a with|sref n p=>simp_all[RN,Hw,AV.refs]|swin n p o k=>simp_all[RN,Hw,AV.refs]|val b x=>(cases b with|list o b=>(cases o<;>rfl)|_=>rfl)|_=>rfl
section
variable {cx:Cx} {o:Oper} {d:Nat} {U:AE}
theorem b6M(h:o.op=.move x)(a:o.dst=some d):CF cx o d U:=by(have c:x∈o.op.operands.toList:=by simp[h,Op.operands]);cases x with|tmp t=>(exact CF.put (U.sl t) fun b k Z K=>by simp[Bc,h,a];rw[(k.2 t (CL c)).1])|const v=>(exact CF.put (.one (U.sN (.const v))) fun b k Z K=>by simp[Bc,h,a];rfl)|global g=>(exact CF.put (.one (.tZ g)) fun b k Z K=>by simp[Bc,h,a];rfl)|func f=>exact CF.put (.one .dead) fun b k Z K=>by simp[Bc,h,a];rfl
theorem c1U(U:AE)(v:AV)(K:AE->Rs Z):U.yS true cx d v K=K (U.set d v):=by unfold AE.yS;split;rename_i r;split;cases hrd:(r==d);simp;simp;rfl;rename_i r k;split;simp;rfl;split;simp;rfl;rfl
theorem b0V(f:o.op=.assign x)(k:o.dst=some d):CF cx o d U:=by(have a:x∈o.op.operands.toList:=by simp[f,Op.operands]);cases x with|tmp t=>(have b:∀h,DV (AG o) U h->h.sl t=U.sl t:=fun h g=>(g.2 t (CL a)).1;cases hv:U.sl t with|one v=>(exact CF.put (.one v) fun h g Z K=>by simp[Bc,f,k,AE.xV,b h g,hv];rw[c1U];rfl)|cmp c e=>exact CF.put (.cmp c e) fun h g Z K=>by simp_all[Bc,AE.xV])|_=>exact CF.put (.one (U.sN _)) fun h g Z K=>by simp only[Bc,f,k,AE.xV];rw[c1U,g.sN a];rfl
theorem a5q{fn:Fn}{first h:Array Operand}(b:o.op=.makeFunc fn first h)(a:o.dst=some d):CF cx o d U:=by cases fn with|func f=>(cases hf:first.isEmpty with|false=>(exact CF.none fun g k Z K=>by simp only[Bc,b,a,hf,cF])|true=>(refine CF.put (.cmp (.clo f) (h.toList.map U.sN)) fun g k Z K=>?_);simp[Bc,b,a,hf];(have:h.toList.map g.sN=h.toList.map U.sN:=List.map_congr_left fun x c=>k.sN (by simp_all[Op.operands]));grind)|_=>simp_all[CF.none,Bc]
theorem c3u(c x y:AV)(K:AV->Rs Z):a3u c x y K=(a3u c x y some).elim none K:=by unfold a3u;grind
theorem b6N{c:Operand}(h:o.op=.pick c x y)(k:o.dst=some d):CF cx o d U:=by
 have f:c∈o.op.operands.toList:=by simp[h,Op.operands]
 have a:x∈o.op.operands.toList:=by simp[h,Op.operands]
 have b:y∈o.op.operands.toList:=by simp[h,Op.operands]
 refine CF.of (a3u (U.sN c) (U.sN x) (U.sN y) some) fun e g Z K=>?_
 simp[Bc,h,k,g.sN f,g.sN a,g.sN b];exact c3u _ _ _ _
theorem b4t(a:o.op=.alloc t)(k:o.dst=some d):CF cx o d U:=by cases ht:cx.own d t with|none=>simp_all[CF.none,Bc]|some h=>exact CF.vE ⟨true,h,h.dflt⟩ (.ptr d []) rfl fun g f Z K=>by simp_all[Bc]
theorem b9R(g:o.op=.box t x)(f:o.dst=some d):CF cx o d U:=by(have k:x∈o.op.operands.toList:=by simp[g,Op.operands]);cases ht:cx.T t with|none=>simp_all[CF.none,Bc]|some a=>cases ha:TR a (U.sN x)with|none=>(exact CF.none fun b h Z K=>by simp[Bc,g,f,ht];rw[a3I,h.sN k,ha];rfl)|some y=>cases hk:cx.K d with|true=>(exact CF.put (.one (.vptr a y)) fun b h Z K=>by simp[Bc,g,f,ht];rw[a3I,h.sN k,ha];simp[hk,AE.set])|false=>exact CF.vE ⟨true,a,y⟩ (.ptr d []) rfl fun b h Z K=>by simp[Bc,g,f,ht];rw[a3I,h.sN k,ha];grind
theorem Mz{g:Array (Nat×Operand)}(h:o.op=.build t g\/∃n,o.op=.buildSlice t n g):∀p∈g.toList,p.2∈o.op.operands.toList:=by intro p f;rcases h with h|⟨n,h⟩<;>rw[h]<;>simp only[Op.operands]<;>exact B6.2 ⟨p,f,rfl⟩
theorem Ow{U U2:AE}:∀(τ:Ty)(k:Nat)(g:List (Nat×Operand)),(∀p∈g,U2.sN p.2=U.sN p.2)->U2.tQ k τ g=U.tQ k τ g|.pair u v,k,[],_=>by simp only[AE.tQ];rw[Ow v (k+1) [] (by simp)]|.pair u v,k,(i,o)::r,h=>by simp only[AE.tQ];rw[Ow v (k+1) r fun p f=>h p (by simp[f]),Ow v (k+1) ((i,o)::r) h,h (i,o) (by simp)]|.unit,_,[],_=>rfl|.unit,_,_::_,_=>rfl|.int _,_,_,_=>rfl|.bool,_,_,_=>rfl|.str,_,_,_=>rfl|.list _ _,_,_,_=>rfl|.arr _ _,_,_,_=>rfl|.nl _,_,_,_=>rfl
theorem b4u{c:Array (Nat×Operand)}(g:o.op=.build t c)(b:o.dst=some d):CF cx o d U:=by
 cases hn:cx.yD d t with
 |some h=>
  cases hagg:h.isAgg with
  |false=>simp_all[CF.none,Bc]
  |true=>
   refine CF.of ((Tt U.sN h c.toList h.dflt).map fun y=>.val h y) fun k f Z K=>?_
   simp only[Bc,g,b,hn,hagg,cT];rw[a5p,UU k.sN U.sN h _ _ fun p a=>f.sN (Mz (.inl g) p a)];cases Tt U.sN h c.toList h.dflt<;>rfl
 |none=>
 cases hO:cx.O d with
 |some h=>
  by_cases hT:cx.T t=some h.sh
  ·cases hv:U.tQ 0 h c.toList with
   |none=>exact CF.none fun k f Z K=>by simp only[Bc,g,b,hn,hO,if_pos hT,Ow h 0 _ fun p a=>f.sN (Mz (.inl g) p a),hv]
   |some e=>
    cases hc:A6 (0<h.cells)with
    |false=>exact CF.none fun k f Z K=>by simp only[Bc,g,b,hn,hO,if_pos hT,Ow h 0 _ fun p a=>f.sN (Mz (.inl g) p a),hv,hc,cF]
    |true=>exact CF.put (.cmp .agg e) fun k f Z K=>by simp only[Bc,g,b,hn,hO,if_pos hT,Ow h 0 _ fun p a=>f.sN (Mz (.inl g) p a),hv,hc,cT]
  exact CF.none fun k f Z K=>by simp only[Bc,g,b,hn,hO,if_neg hT]
 |none=>
 cases ht:cx.T t with
 |none=>exact CF.none fun k f Z K=>by simp only[Bc,g,b,hn,hO,ht]
 |some h=>
  cases hagg:h.isAgg with
  |false=>exact CF.none fun k f Z K=>by simp[Bc,g,b,hn,hO,ht,hagg]
  |true=>
   refine CF.of ((Tt U.sN h c.toList h.dflt).map fun y=>.val h y) fun k f Z K=>?_
   simp only[Bc,g,b,hn,hO,ht,hagg,cT];rw[a5p,UU k.sN U.sN h _ _ fun p a=>f.sN (Mz (.inl g) p a)];cases Tt U.sN h c.toList h.dflt<;>rfl
theorem qS{t:TypeId}{n:Nat}{b:Array (Nat×Operand)}(h:o.op=.buildSlice t n b)(k:o.dst=some d):CF cx o d U:=by cases ht:cx.T t with|none=>simp_all[CF.none,Bc]|some c=>cases c with|list i e=>(cases hc:(AZ n&&A6 (n*e.cells<=16777216))with|false=>(exact CF.none fun g f Z K=>by simp only[Bc,h,k,ht,hc,cF,cT,Bool.true_or])|true=>cases hl:b0U U.sN e n b.toList (C6 n e.dflt)with|none=>(exact CF.none fun g f Z K=>by simp[Bc,h,k,ht,hc];rw[b3d,UV g.sN U.sN e n _ _ (fun p a=>f.sN (Mz (.inr ⟨n,h⟩) p a)),hl];rfl)|some y=>cases hK:cx.K d with|true=>(exact CF.put (.one (.val (.list false e) y)) fun g f Z K=>by simp[Bc,h,k,ht,hc,hK];rw[b3d,UV g.sN U.sN e n _ _ (fun p a=>f.sN (Mz (.inr ⟨n,h⟩) p a)),hl];rfl)|false=>exact CF.vE ⟨false,.list true e,y⟩ (.sref d []) rfl fun g f Z K=>by simp[Bc,h,k,ht,hc,hK];rw[b3d,UV g.sN U.sN e n _ _ (fun p a=>f.sN (Mz (.inr ⟨n,h⟩) p a)),hl];rfl)|_=>exact CF.none fun g f Z K=>by simp only[Bc,h,k,ht]
def b0W(lk:Nat->Option sP)(ty:Ty)(a:AV):Option AV:=match a with|.vptr t x=>if t=ty then some (.val t x)else none|.ptr n p=>(match lk n with|some r=>(match Dc r.t r.x p with|⟨.list true _,_⟩=>if ty.isList then some (.sref n p)else none|⟨t,y⟩=>if t.sh=ty/\t.tO=t then some (.val t y)else none)|none=>none)|_=>none
theorem c4T(U:AE)(ty:Ty)(a:AV)(K:AV->AE->Rs Z):U.wM true ty a K=(b0W U.look ty a).elim none fun v=>K v U:=by cases a with|vptr t x=>grind[AE.wM,b0W]|ptr n p=>simp[AE.wM,b0W];grind|_=>rfl
theorem b6O(k:o.op=.load t x)(c:o.dst=some d):CF cx o d U:=by(have a:x∈o.op.operands.toList:=by simp[k,Op.operands]);cases ht:cx.T t with|none=>simp_all[CF.none,Bc]|some h=>(refine CF.of (b0W U.look h (cx.tZ (U.sN x))) fun b f Z K=>?_);simp[Bc,k,c,ht];rw[c4T,f.sN a];(have:b0W b.look h (cx.tZ (U.sN x))=b0W U.look h (cx.tZ (U.sN x)):=by have e:=fun n i=>f.look (n:=n) a i;revert e;cases U.sN x with|ptr n p=>simp_all[Cx.tZ,b0W,AV.refs]|tZ g=>intro _;simp[Cx.tZ];split<;>rfl|_=>intro _;rfl);grind
theorem a5r(h:o.op=.nilCheck x)(f:o.dst=some d):CF cx o d U:=by
 have k:x∈o.op.operands.toList:=by simp[h,Op.operands]
 refine CF.of (match U.sN x with|.ptr n p=>some (.ptr n p)|.vptr t y=>some (.vptr t y)|_=>none) fun a g Z K=>?_
 simp[Bc,h,f,g.sN k];grind
theorem b6P{Z:Type}(h:BinOp)(k:IntKind)(x y:Int)(K:AV->Rs Z):Wn h k x y K=(Wn h k x y some).elim none K:=by cases h<;>simp only[Wn]<;>first|rfl|(cases (y==0)<;>rfl)|grind
theorem b6Q{Z:Type}(g:BinOp)(ty:Nat)(t:Ty)(x:t.sK)(h:Ty)(y:h.sK)(K:AV->Rs Z):gF cx g ty t x h y K=(gF cx g ty t x h y some).elim none K:=by grind[gF]
theorem c3v(h:BinOp)(ty:Nat)(a b:AV)(K:AV->Rs Z):cE cx h ty a b K=(cE cx h ty a b some).elim none K:=by unfold cE;split;grind[b6P];grind;grind;all_goals grind[b6Q]
theorem b4v{c:BinOp}(g:o.op=.binOp c t x y s)(f:o.dst=some d):CF cx o d U:=by(have k:x∈o.op.operands.toList:=by simp[g,Op.operands]);(have a:y∈o.op.operands.toList:=by simp[g,Op.operands]);cases hl:b2Q (cx.T t)with|true=>(cases hn:b0x (cx.T t) (U.sN x) (U.sN y)with|some e=>(exact CF.none fun b h Z K=>by simp only[Bc,g,f,h.sN k,h.sN a,hl,hn,cT,if_true])|none=>exact CF.none fun b h Z K=>by simp only[Bc,g,f,h.sN k,h.sN a,hl,hn,cT])|false=>(refine CF.of (cE cx c t (U.sN x) (U.sN y) some) fun b h Z K=>?_);simp[Bc,g,f,h.sN k,h.sN a,hl];exact c3v _ _ _ _ _
theorem c9I(h:UnOp)(a:AV)(K:AV->Rs Z):AE.un h a K=(AE.un h a some).elim none K:=by unfold AE.un;grind
theorem b6R{g:UnOp}(h:o.op=.unOp g t x)(k:o.dst=some d):CF cx o d U:=by
 have a:x∈o.op.operands.toList:=by simp[h,Op.operands]
 refine CF.of (AE.un g (U.sN x) some) fun b f Z K=>?_
 simp[Bc,h,k,f.sN a];exact c9I _ _ _
theorem c3w(U:AE)(s t:Nat)(g f:Option Ty)(a:AV)(K:AV->Rs Z)(h:sP->Rs Z):U.vL s t g f a K h=(U.vL s t g f a (fun v=>some (Sum.inl v)) (fun r=>some (Sum.inr r)):Option (AV ⊕ sP)).elim none fun y=>match y with
  |.inl v=>K v
  |.inr r=>h r:=by
 unfold AE.vL;split;rfl;grind;rfl;grind;rw[cR,cR (Z:=AV ⊕ sP)];generalize RN U.look (.int .u8) _=r;cases r<;>rfl;rfl
theorem b0X{U:AE}(s t:Nat)(f k:Option Ty)(h:∀n∈a.refs,U2.look n=U.look n)(K:AV->Rs Z)(g:sP->Rs Z):U2.vL s t f k a K g=U.vL s t f k a K g:=by unfold AE.vL;grind[AV.refs,cR,UW]
theorem a7C(k:o.op=.convert s t x)(b:o.dst=some d):CF cx o d U:=by
 have a:x∈o.op.operands.toList:=by simp[k,Op.operands]
 have h:∀g,DV (AG o) U g->∀{Z:Type}(K:AE->Rs Z),Bc cx true o g K=(U.vL s t (cx.T s) (cx.T t) (U.sN x) (fun v=>some (Sum.inl v)) (fun r=>some (Sum.inr r)):Option (AV ⊕ sP)).elim none fun y=>match y with
   |.inl v=>K (g.set d v)
   |.inr r=>g.fresh true d r fun U=>K (U.set d (.sref d [])):=fun g f Z K=>by
  simp[Bc,k,b,f.sN a,AE.conv];rw[c3w,b0X s t _ _ fun n c=>f.look a c]
 revert h;generalize (U.vL s t (cx.T s) (cx.T t) (U.sN x) (fun v=>some (Sum.inl v)) (fun r=>some (Sum.inr r)):Option (AV ⊕ sP))=r;cases r with
 |none=>simp_all[CF.none]
 |some y=>
  cases y with
  |inl v=>exact fun h=>CF.put (.one v) h
  |inr r=>exact fun h=>CF.vE r (.sref d []) rfl h
theorem b3e{Z:Type}(a:AV)(t:Ty)(K:t.sK->Rs Z):a.vG t K=(a.vG t some).elim none K:=by cases a with|val h x=>grind[AV.vG]|_=>rfl
theorem a2j{t:TypeId}{n c:Operand}(k:o.op=.makeSlice t n c)(a:o.dst=some d):CF cx o d U:=by(have i:n∈o.op.operands.toList:=by simp[k,Op.operands]);(have b:c∈o.op.operands.toList:=by simp[k,Op.operands]);cases ht:cx.own d t with|none=>simp_all[CF.none,Bc]|some j=>cases j with|list l e=>((have h:∀g,DV (AG o) U g->∀{Z:Type}(K:AE->Rs Z),Bc cx true o g K=((U.sN n).vG (.int .i64) some).elim none fun(x:Int)=>((U.sN c).vG (.int .i64) some).elim none fun(y:Int)=>bif A6 (0<=x)&&(A6 (x<=y)&&AZ y.toNat)then g.fresh true d ⟨false,.list true e,C6 x.toNat e.dflt⟩ fun U=>K (U.set d (.sref d []))else none:=fun g f Z K=>by simp[Bc,k,a,ht,f.sN i,f.sN b];refine(b3e _ (.int .i64) _).trans ?_;grind[b3e]);revert h;generalize (U.sN n).vG (.int .i64) some=rx;generalize (U.sN c).vG (.int .i64) some=ry;intro h;cases rx with|none=>exact CF.none h|some x=>cases ry with|none=>exact CF.none h|some y=>cases hb:(A6 (0<=(show Int from x))&&(A6 ((show Int from x)<=(show Int from y))&&AZ (show Int from y).toNat))with|false=>grind[CF.none]|true=>(refine CF.vE ⟨false,.list true e,C6 (show Int from x).toNat e.dflt⟩ (.sref d []) rfl fun g f Z K=>(h g f K).trans ?_);grind)|_=>exact CF.none fun g f Z K=>by simp only[Bc,k,a,ht]
theorem b3f(U:AE)(h g:Nat)(x:Option Operand)(K:Nat->Rs Z):U.bnd h g x K=(U.bnd h g x some).elim none K:=by cases x with|none=>rfl|some x=>simp[AE.bnd];grind
theorem PT(U:AE)(g:Nat)(lo hi:Option Operand)(K:Nat->Nat->Rs Z):U.uU g lo hi K=(U.uU g lo hi fun x y=>some (x,y)).elim none fun p=>K p.1 p.2:=by unfold AE.uU;rw[b3f,b3f (Z:=Nat×Nat)];cases U.bnd g g hi some with|none=>rfl|some h=>simp[G3];rw[b3f,b3f (Z:=Nat×Nat)];cases U.bnd h 0 lo some<;>rfl
theorem b0Y{U:AE}{lo:Option Operand}(k:∀x,lo=some x->U2.sN x=U.sN x)(f:∀x,hi=some x->U2.sN x=U.sN x)(h:Nat)(K:Nat->Nat->Rs Z):U2.uU h lo hi K=U.uU h lo hi K:=by(have a:∀(x:Option Operand),(∀y,x=some y->U2.sN y=U.sN y)->∀(l g:Nat){Z:Type}(K:Nat->Rs Z),U2.bnd l g x K=U.bnd l g x K:=by intro x b l g Z K;cases x with|none=>rfl|some y=>simp[AE.bnd];simp_all);unfold AE.uU;simp_all
theorem c3x{Z:Type}(U:AE)(ty:Option Ty)(a:AV)(lo hi h:Option Operand)(K:AV->Rs Z):U.wQ ty a lo hi h K=(U.wQ ty a lo hi h some).elim none K:=by unfold AE.wQ;cases h with|some m=>(simp;cases (gG (some m)&&gG hi&&lo.isNone);rfl;simp[oW];grind)|none=>simp;cases a with|val t l=>(cases t with|str=>(simp;split;rw[PT,PT (Z:=AV)];generalize (U.uU _ lo hi fun x y=>some (x,y):Option (Nat×Nat))=r;cases r<;>rfl;rfl)|list o e=>(cases o;simp;split;rw[PT,PT (Z:=AV)];generalize (U.uU _ lo hi fun x y=>some (x,y):Option (Nat×Nat))=r;cases r<;>rfl;rfl;rfl)|_=>rfl)|nils=>(cases ty with|none=>rfl|some t=>cases t with|list o e=>(simp;rw[PT,PT (Z:=AV)];generalize (U.uU _ lo hi fun x y=>some (x,y):Option (Nat×Nat))=r;cases r<;>rfl)|_=>rfl)|sref n p=>(simp;rw[PS,PS (Z:=AV)];cases MV U.look n p with|none=>rfl|some x=>simp[G3];split;cases lo<;>cases hi<;>simp only[]<;>(try rfl)<;>(rw[PT,PT (Z:=AV)];generalize (U.uU _ _ _ fun x y=>some (x,y):Option (Nat×Nat))=r;cases r<;>rfl);rfl)|swin n p o k=>(simp;rw[PS,PS (Z:=AV)];cases MV U.look n p with|none=>rfl|some x=>simp[G3];split;rw[PT,PT (Z:=AV)];generalize (U.uU _ _ _ fun x y=>some (x,y):Option (Nat×Nat))=r;cases r<;>rfl;rfl)|vptr t l=>(cases t with|arr n e=>(simp;split;rw[PT,PT (Z:=AV)];generalize (U.uU _ lo hi fun x y=>some (x,y):Option (Nat×Nat))=r;cases r<;>rfl;rfl)|_=>rfl)|_=>rfl
theorem b0Z{U:AE}{lo:Option Operand}(c:∀n∈a.refs,U2.look n=U.look n)(g:∀x,lo=some x->U2.sN x=U.sN x)(h:∀x,hi=some x->U2.sN x=U.sN x)(ty:Option Ty)(b:Option Operand)(K:AV->Rs Z):U2.wQ ty a lo hi b K=U.wQ ty a lo hi b K:=by have hb:=fun(f:Nat) {Z:Type} (K:Nat->Nat->Rs Z)=>b0Y (U:=U) (U2:=U2) g h f K;unfold AE.wQ;cases b with|some m=>rfl|none=>simp;cases a with|val t l=>(cases t with|str=>simp_all|list o e=>grind|_=>rfl)|nils=>simp_all|sref n p=>simp;rw[PS,PS,Hw (c n (by simp[AV.refs]))];grind|swin n p o k=>simp only[];rw[PS,PS,Hw (c n (by simp[AV.refs]))];simp only[hb]|vptr t l=>grind|_=>rfl
theorem b4w{lo c:Option Operand}(a:o.op=.slice t x lo hi c)(e:o.dst=some d):CF cx o d U:=by
 have b:x∈o.op.operands.toList:=by simp[a,Op.operands]
 have k:∀y,lo=some y->y∈o.op.operands.toList:=fun y h=>by simp_all[Op.operands]
 have f:∀y,hi=some y->y∈o.op.operands.toList:=fun y h=>by simp_all[Op.operands]
 refine CF.of (U.wQ (cx.T t) (U.sN x) lo hi c some) fun j g Z K=>?_
 simp[Bc,a,e,g.sN b];rw[b0Z (fun n i=>g.look b i) (fun y h=>g.sN (k y h)) (fun y h=>g.sN (f y h))];grind[c3x]
theorem a2k{s:TypeId}{x:Operand}{f:Nat}(k:o.op=.fieldAddr s x f)(b:o.dst=some d):CF cx o d U:=by(have a:x∈o.op.operands.toList:=by simp[k,Op.operands]);cases ha:U.sN x with|ptr n p=>(have c:∀g,DV (AG o) U g->g.rt n=U.rt n:=fun g h=>h.rt a (by rw[ha];simp[AV.refs]);cases hrt:U.rt n with|none=>(exact CF.none fun g h Z K=>by simp only[Bc,k,b,h.sN a,ha,c g h,hrt])|some r=>(by_cases hc:Di (Dc r.t r.x p).1 f=true/\cx.T s=some (Dc r.t r.x p).1.sh;exact CF.put (.one (.ptr n (p++BD f))) fun g h Z K=>by simp[Bc,k,b,h.sN a,ha,c g h,hrt];rw[if_pos hc];rfl);exact CF.none fun g h Z K=>by simp only[Bc,k,b,h.sN a,ha,c g h,hrt];simp_all)|vptr t y=>((by_cases hc:Di t f=true/\cx.T s=some t;exact CF.put (.one (.vptr (Dc t y (BD f)).1 (Dc t y (BD f)).2)) fun g h Z K=>by simp[Bc,k,b,h.sN a,ha];rw[if_pos hc];rfl);exact CF.none fun g h Z K=>by simp only[Bc,k,b,h.sN a,ha];simp_all)|_=>exact CF.none fun g h Z K=>by simp only[Bc,k,b,h.sN a,ha]
theorem b4x{f:Nat}(g:o.op=.field s x f)(k:o.dst=some d):CF cx o d U:=by(have a:x∈o.op.operands.toList:=by simp[g,Op.operands]);cases ha:U.sN x with|val t y=>((by_cases hc:Di t f=true/\cx.T s=some t;exact CF.put (.one (.val (Dc t y (BD f)).1 (Dc t y (BD f)).2)) fun b h Z K=>by simp[Bc,g,k,h.sN a,ha];rw[if_pos hc];rfl);exact CF.none fun b h Z K=>by simp only[Bc,g,k,h.sN a,ha];simp_all)|_=>exact CF.none fun b h Z K=>by simp only[Bc,g,k,h.sN a,ha]
theorem pB{α β γ:Type}{o:Option α}{f:α->β}{K:β->Option γ}:(o.bind fun x=>K (f x))=(o.bind fun x=>some (f x)).elim none K:=by cases o<;>rfl
theorem c3y(U:AE)(ty:Option Ty)(a:AV)(i:Int)(K:AV->Rs Z):U.uE ty a i K=(U.uE ty a i some).elim none K:=by cases a with|val t l=>(cases t with|list o e=>(cases o;simp[AE.uE];split;exact pB;rfl;rfl)|_=>rfl)|sref n p=>(simp only[AE.uE];rw[oZ,oZ (Z:=AV)];cases MV U.rt n p with|none=>rfl|some x=>grind)|swin n p o k=>(simp[AE.uE];rw[PS,PS (Z:=AV)];cases MV U.look n p with|none=>rfl|some x=>grind)|ptr n p=>simp[AE.uE];grind|vptr t l=>(cases t with|arr k e=>simp[AE.uE];split;exact pB;rfl|_=>rfl)|_=>rfl
theorem b1a{U:AE}(h:∀n∈a.refs,U2.look n=U.look n)(g:∀n∈a.refs,U2.rt n=U.rt n)(ty:Option Ty)(i:Int)(K:AV->Rs Z):U2.uE ty a i K=U.uE ty a i K:=by cases a with|sref n p=>simp only[AE.uE];rw[oZ,oZ,Hw (g n (by simp[AV.refs]))]|swin n p o k=>simp only[AE.uE];rw[PS,PS,Hw (h n (by simp[AV.refs]))]|ptr n p=>simp_all[AE.uE,AV.refs]|val t l=>(cases t with|list o e=>(cases o<;>rfl)|_=>rfl)|vptr t l=>(cases t<;>rfl)|_=>rfl
theorem a2l{t:TypeId}{x i:Operand}(c:o.op=.indexAddr t x i)(j:o.dst=some d):CF cx o d U:=by
 have e:x∈o.op.operands.toList:=by simp[c,Op.operands]
 have l:i∈o.op.operands.toList:=by simp[c,Op.operands]
 have m:(∀k y,U.sN i≠.val (.int k) y)->CF cx o d U:=fun h=>CF.none fun p f Z K=>by simp[Bc,c,j,f.sN l];grind
 cases ha:U.sN i with|val q y=>(cases q with|int k=>(refine CF.of (U.uE (cx.T t) (cx.tZ (U.sN x)) (show Int from y) some) fun p f Z K=>?_);(simp[Bc,c,j,f.sN l,f.sN e,ha];have a:∀n∈(cx.tZ (U.sN x)).refs,n∈(U.sN x).refs:=fun n b=>by revert b;cases U.sN x with|tZ g=>(simp[Cx.tZ];split<;>exact fun h=>h)|_=>exact id);exact(b1a (fun n b=>f.look e (a n b)) (fun n b=>f.rt e (a n b)) (cx.T t) (show Int from y) _).trans (c3y _ _ _ _ _)|_=>exact m (by rw[ha];intro k y h;cases h))|_=>exact m (by rw[ha];intro k y h;cases h)
def qT{Z:Type}(ty:Option Ty)(x i:AV)(K:AV->Rs Z):Rs Z:=match x,i with|.val (.arr n t) l,.val (.int _) (i:Int)=>(if ty=some (.arr n t)then(Aq l i).bind fun y=>K (.val t y)else none)|.val .str (l:List Int),.val (.int _) (i:Int)=>(if ty=some .str then(Aq l i).bind fun y=>K (.val (.int .u8) y)else none)|_,_=>none
theorem b6S{Z:Type}(ty:Option Ty)(x i:AV)(K:AV->Rs Z):qT ty x i K=(qT ty x i some).elim none K:=by unfold qT;split;split;exact pB;rfl;split;exact pB;rfl;rfl
theorem b4y{i:Operand}(h:o.op=.index s x i)(k:o.dst=some d):CF cx o d U:=by
 have b:x∈o.op.operands.toList:=by simp[h,Op.operands]
 have a:i∈o.op.operands.toList:=by simp[h,Op.operands]
 refine CF.of (qT (cx.T s) (U.sN x) (U.sN i) some) fun g f Z K=>?_
 have:Bc cx true o g K=qT (cx.T s) (U.sN x) (U.sN i) fun v=>K (g.set d v):=by simp[Bc,h,k,f.sN b,f.sN a];rfl
 grind[b6S]
theorem a7D(k:o.op=.extract x i)(a:o.dst=some d):CF cx o d U:=by
 have e:x∈o.op.operands.toList:=by simp[k,Op.operands]
 cases x with
 |tmp t=>
  have b:∀h,DV (AG o) U h->h.sl t=U.sl t:=fun h g=>(g.2 t (CL e)).1;cases hv:U.sl t with
  |one v=>simp_all[CF.none,Bc]
  |cmp c j=>
   cases c with
   |agg=>simp_all[CF.none,Bc]
   |clo f=>simp_all[CF.none,Bc]
   |tup=>
   cases hi:j[i]? with
   |none=>simp_all[CF.none,Bc]
   |some v=>exact CF.put (.one v) fun h g Z K=>by simp[Bc,k,a,b h g,hv,hi];rfl
 |_=>simp_all[CF.none,Bc]
end
end Go.Ab
