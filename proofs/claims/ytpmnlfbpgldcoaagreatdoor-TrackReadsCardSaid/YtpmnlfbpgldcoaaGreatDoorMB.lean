/- Part of the proof: LibR. Conditions: as each statement tells. -/
import Derived.Laws.AppendOwn
import Derived.CallsIn
import Derived.Tactics
import Derived.Deep.LoopGhost
import Derived.TacticsIn
import Derived.Test.YtpmnlfbpgldcoaaGreatDoorMA
noncomputable section
set_option linter.unusedSimpArgs false
set_option linter.unusedVariables false
open Array renaming getElem?_toList->a09,length_toList->a41,range->a42,getElem?_eq_some_iff->a43,mapM_eq_mapM_toList->a44,foldl_toList->a56
open Bool renaming not_eq_true'->a46,and_eq_true_iff->a53,not_eq_true->a62
open List renaming mem_map_of_mem->a00,mem_cons_of_mem->a01,length_eq_zero_iff->a02,getElem?_append_left->a03,nodup_cons->a05,mem_of_getElem?->a06,map_cons->a07,mem_map->a08,getElem?_append_right->a15,length->a19,nodup_append->a20,getElem?_toArray->a22,append->a23,pairwise_iff_getElem->a25,getD->a29,mem_append_left->a31,drop_eq_getElem_cons->a32,replicate->a35,getElem?_map->a36,take_succ_eq_append_getElem->a37,mem_append_right->a38,mem_iff_getElem?->a39,length_nil->a40,take->a45,map_nil->a49,nil_append->a50,length_eq_one_iff->a51,take_set_of_le->a54,set->a55,size_toArray->a59,take_length->a61,append_nil->a64,length_map->a65,drop_zero->a66,drop->a67
open Nat renaming le_refl->a04,zero_add->a16,lt_of_lt_of_le->a18,add_mul->a24,mul_le_mul_right->a26,add_sub_cancel_left->a27,le_trans->a30,le_of_eq->a48,mul_le_mul->a52,add_zero->a57,le_of_lt->a58,lt_trichotomy->a60,mul_eq_zero->a63
open Option renaming map_eq_some_iff->a28,map_some->a33,bind_eq_some_iff->a34,isSome_iff_exists->a47
namespace Go.Ab
variable {A:Option Addr}{G:b0Z}{M:Gh}{P:Program}{Q:Exit->Act->World->Prop}{Sh Sh':Nat->Prop}{U:AE}{av:AV}{b d i n:Nat}{c:Call}{cx:Cx}{e τ:Ty}{f:FuncId}{k:IntKind}{m:Mem}{next:Act->World->Prop}{o:Oper}{p:a0C}{ps:List PA}{q:Bool}{r:Root}{s u v vy x:Value}{t t':TypeId}{tm:Nat->Value}{ts:Array TypeId}{w w' w2:World}{l ys:List e.den}
def c6v(t:Ty)(place:Nat->Option (Nat×Nat)):Prop:=∀i,AE.pathOk t i=true->∃τ' k,place i=some (k,τ'.cells)/\k+τ'.cells<=t.cells/\∀(m:Mem) b o,loc m t (.at b o) (AE.pathOf t i)=some (τ',.at b (o+k))
theorem c6w(n:Nat)(e:Ty):c6v (.arr n e) fun i=>some (i*e.cells,e.cells):=by
 intro i hi;simp[AE.pathOk]at hi;refine⟨e,i*e.cells,rfl,?_,fun m b o=>?_⟩
 have:(i+1)*e.cells<=n*e.cells:=a26 _ (by omega)
 rw[Nat.succ_mul]at this;exact this;show(if i<n then a0U m [] e (.at b (o+i*e.cells))else none)=_
 rw[if_pos hi];rfl
theorem d9X{sz:Nat}(M:∀c,Sh c->c<sz){t τ':Ty}{cs:Array Value}{x:t.den}{R i k}(N:dec m t (fun j=>cs[j]?)=some (x,[],R))(E:∀c∈R,Sh c)(P:∀(m:Mem) b o,loc m t (.at b o) (AE.pathOf t i)=some (τ',.at b (o+k)))(Y:k+τ'.cells<=cs.size){y:τ'.den}(hv:VOk m Sh τ' y v):
  ∃R',dec m t (fun j=>(v.cells.zipIdx.foldl (fun cs (c,j)=>cs.setIfInBounds (k+j) c) cs)[j]?)=some (a1T t x (AE.pathOf t i) τ' y,[],R')/\∀c∈R',Sh c:=by
 obtain⟨T,-⟩:=hv.cells;obtain⟨-,-,R2,w,z⟩:=hv;have f:v.cells.zipIdx.foldl (fun cs (c,j)=>cs.setIfInBounds (k+j) c) cs=(v.cells.toList.zipIdx 0).foldl (fun cs (c:Value×Nat)=>cs.setIfInBounds (k+c.2) c.1) cs:=by
  rw[<-a56];simp
 obtain⟨-,h⟩:=c6u k v.cells.toList 0 cs;rw[f];generalize (v.cells.toList.zipIdx 0).foldl (fun cs (c:Value×Nat)=>cs.setIfInBounds (k+c.2) c.1) cs=cs' at h
 let m0:Mem:=fun c j=>if c=sz then cs[j]? else m c j
 let a:Mem:=fun c j=>if c=sz then cs'[j]? else m c j
 have u:∀c,Sh c->c≠sz:=fun c g e=>by grind
 have Q:∀c j,Sh c->m0 c j=m c j:=fun c j g=>by grind
 have S:∀c j,Sh c->a c j=m c j:=fun c j g=>by grind
 have C:dec m0 t ((Src.at sz 0).rd m0)=some (x,[],R):=a0y t N (fun j _=>by simp[Src.rd,m0]) (fun b j hb=>by
  simp_all)
 have n:=P m0 sz 0;obtain⟨Z,H,R1,U,V,F,G,s,-,X,-⟩:=a1w _ t _ C n;have q:H=[]:=by
  simp_all
 subst q;have K:dec a τ' ((Src.at sz (0+k)).rd a)=some (y,[],R2):=a0y τ' w (fun j O=>by
   simp only[Src.rd,a,if_true,a16,h,a57];rw[if_pos ⟨by omega,by grind,by omega⟩,a27];simp) (fun b j hb=>by
  grind)
 have p:Sep (Src.at sz 0) [] R:=⟨by simp,by simp,fun c g=>⟨by simp,fun e=>u c (E c g) e⟩⟩;have l:Chg m0 a (Src.at sz 0) [] R sz (0+k) τ'.cells []:=fun c j=>by
  by_cases g:c=sz
  by_cases O:k<=j/\j<k+τ'.cells
  omega;refine .inl ?_
  simp only[m0,a,if_pos g,h];rw[if_neg (by grind)]
  grind
 obtain⟨A,B',B,I,D,L⟩:=c5l _ t _ C n s K p l;have d:A=[]/\B'=[]:=by
  have:=congrArg a19 I
  simp at this;exact⟨a02.1 (by omega),a02.1 (by omega)⟩
 rw[d.1,d.2]at D;have r:∀c∈B,Sh c:=fun c g=>(L c g).elim (E c) (z c);exact⟨B,a0y t D (fun j _=>by simp[Src.rd,a]) (fun b j hb=>by
  grind),r⟩
section
variable {P:Program} {B:Base} {N:Nat} {Z:Type} {U:AE} {a:Act} {w:World} {M:Gh}
theorem b9M{q:Bool}{t:Ty}{place:Nat->Option (Nat×Nat)}(hp:c6v t place):∀(l:List (Nat×Operand)) {U:AE} {M:Gh} {x:t.den} {cs:Array Value} {R} {K:t.den->AE->Rs Z} {z:Z},Rel B U N (a0o a) w M->
  (∀y∈l,a1m N y.2=true)->cs.size=t.cells->dec (a0a w M.ov) t (fun j=>cs[j]?)=some (x,[],R)->(∀c∈R,Shr B w M c)->U.fills q t l x K=some z->
  ∃y g e M' n,K y e=some z/\Rel B e N (a0o a) w M'/\Instr.fill place cs (l.map fun(i,x)=>(i,a.eval x))=some g/\g.size=t.cells/\dec (a0a w M'.ov) t (fun j=>g[j]?)=some (y,[],n)/\(∀c∈n,Shr B w M' c)
 | [],U,M,x,cs,R,K,z,h,_,hs,hd,hR,f=>⟨x,cs,U,M,R,f,h,rfl,hs,hd,hR⟩
 |(i,o)::l,U,M,x,cs,R,K,z,h,hl,hs,hd,hR,f=>by
  unfold AE.fills at f;rcases a0f f with⟨hi,f⟩|⟨-,f⟩;obtain⟨τ',k,h1,h2,A⟩:=hp i hi;have m:(a0T t x (AE.pathOf t i)).1=τ':=by
   have O:dec (fun c j=>if c=w.heap.size then cs[j]? else a0a w M.ov c j) t ((Src.at w.heap.size 0).rd fun c j=>if c=w.heap.size then cs[j]? else a0a w M.ov c j)=some (x,[],R):=
    a0y t hd (fun j _=>by simp[Src.rd]) (fun b j hb=>by
     rcases hb with hb|hb;simp_all
     have:=(hR b hb).1
     grind)
   obtain⟨y0,O1,R1,Y,B1,C,D,T,m,-⟩:=a1w _ t _ O (A _ _ _)
   grind
  generalize hgg:a0T t x (AE.pathOf t i)=gg at f m;obtain⟨t2,y2⟩:=gg;simp only at m;subst m;simp only at f;obtain⟨y,U1,E,f,P,hv,d,-⟩:=h.asV (.inl (h.opd (hl _ (List.mem_cons_self ..)))) f;have s:dec (a0a w E.ov) t (fun j=>cs[j]?)=some (x,[],R):=by rw[d.ov];omega
  obtain⟨n,Q,S⟩:=d9X (sz:=w.heap.size) (fun c r=>r.1) s (fun c r=>d.shr c (hR c r)) A (by omega) hv;obtain⟨y',g,e,M',p,F,G,g3,H,I,L⟩:=b9M hp l P (fun u V=>hl u (a01 _ V)) (cs:=(a.eval o).cells.zipIdx.foldl (fun cs (c,j)=>cs.setIfInBounds (k+j) c) cs) (by
   have v:(a.eval o).cells.zipIdx.foldl (fun cs (c,j)=>cs.setIfInBounds (k+j) c) cs=((a.eval o).cells.toList.zipIdx 0).foldl (fun cs (c:Value×Nat)=>cs.setIfInBounds (k+c.2) c.1) cs:=by
    rw[<-a56];simp
   simp_all[c6u]) Q S f
  refine⟨y',g,e,M',p,F,G,?_,H,I,L⟩;have X:=hv.cells.1;simp_all[Instr.fill];simp_all
theorem c9R{q:Bool}{e:Ty}{n:Nat}:∀(l:List (Nat×Operand)) (U:AE) (x:List e.den) (K:List e.den->AE->Rs Z),U.lit q e n l x K=U.fills q (.arr n e) l x K
 | [],_,_,_=>rfl
 |(i,o)::l,U,x,K=>by
  show(bif decide (i<n)then U.asV q e (U.opd o) (fun y g=>g.lit q e n l (x.set i y) K)else none) =
   (bif decide (i<n)then U.asV q e (U.opd o) (fun y g=>g.fills q (.arr n e) l (a1T (.arr n e) x [.idx i] e y) K)else none)
  congr 2;funext y g;rw[c9R l];congr 1;show x.set i y=a55 x i (if h:e=e then h▸y else _)
  simp
theorem c6x{ps:Array (Nat×Operand)}{K:AE->Rs Z}{z:Z}(S:CxTy P cx)(Q:o.op=.buildSlice t n ps)(hd:o.dst=some d)(hO:∀o' e,cx.T t=some (.list o' e)->(bif q || !e.isList then none else cx.O d)=none)(h:Rel B U N (a0o a) w M)(hN:a.tmps.size=N)(hf:fits N o=true)(s:aop cx q o U K=some z):a0w P B N o a w K z:=by
 have r:∀y∈(o.op.operands.toList),a1m N y=true:=a0R hf;rw[Q]at r;simp[aop,Q,hd]at s
 split at s
 rename_i o' e hT;rw[hO o' e hT]at s;rcases a0f s with⟨v,s⟩|⟨-,s⟩;simp[lim]at v;rw[c9R]at s;obtain⟨h7,hty⟩:=S.T t _ hT;obtain⟨k,hu,X,h4⟩:=a1G hty;obtain⟨I⟩:=a0D (a0L X);obtain⟨y,f,U',M',L,A,u,g3,g4,C,g6⟩:=b9M (c6w n e) ps.toList h (fun y hy=>r y.2 (by
   simp only[Op.operands]
   grind)) (cs:=madeCells I.z.cells (n*e.cells)) (size_madeCells _ _) (c5o (m:=a0a w M.ov) I.zok I.zsize n) (by simp) s
 have C:a0j (fun i=>dec (a0a w M'.ov) e fun j=>f[i*e.cells+j]?) n 0=some (y,[],L):=C;have E:=a0W n 0 C;have h6:n*e.cells=0->n=0:=fun e0=>by
  grind[a63]
 have G:(execOp a.eval o).run P w=.ok (.value (.slice (some ⟨w.heap.size,0,none⟩) n n)) (w.alloc (.cells f k)):=by
  have D:¬ (n*e.cells > 2^24):=by omega
  have F:(ps.map fun(i,x)=>(i,a.eval x)).toList=ps.toList.map fun(i,x)=>(i,a.eval x):=by simp
  by_cases h0:n*e.cells=0
  have:(a42 (n*e.cells)).map (fun i=>(#[]:Array Value)[i%(#[]:Array Value).size]!)=madeCells I.z.cells (n*e.cells):=by
   simp_all[madeCells]
  have l:=g3;rw[<-this]at l;simp only[execOp,Q,Instr.buildSlice,Sem.run_bind,run_underlying hu,Result.andThen_ok,I.sizeOf,if_neg D,if_pos h0,Sem.run_pure,F,l,newRow]
  simp
  have l:Instr.fill (fun i=>some (i*e.cells,e.cells)) ((a42 (n*e.cells)).map (I.z.cells[·%I.z.cells.size]!)) (ps.toList.map fun(i,x)=>(i,a.eval x))=some f:=g3;simp only[execOp,Q,Instr.buildSlice,Sem.run_bind,run_underlying hu,Result.andThen_ok,I.sizeOf,if_neg D,if_neg h0,Sem.run_pure,I.zeroValue,F,l,newRow]
  simp
 have H:a19 (show List e.den from y)=n:=E;rcases a0f A with⟨-,A⟩|⟨-,A⟩;have p:∀c,c<w.heap.size->(w.alloc (.cells f k)).heap[c]?=w.heap[c]?:=fun c v=>a1I _ c v;have h2:=u.ext p (a2b _);have h5:∀c,Shr B w M' c->Shr B (w.alloc (.cells f k)) M' c:=fun c ⟨a1,a2,a3⟩=>⟨a18 a1 (a2b _),a2,a3⟩;have h3:Shr B (w.alloc (.cells f k)) M' w.heap.size:=⟨(a43.1 (a1B (w:=w) (Obj.cells f k))).1,.inr (.inr u.size),fun g=>Nat.lt_irrefl _ (u.lt g)⟩;have Y:a0j (fun i=>dec (a0a (w.alloc (.cells f k)) M'.ov) e fun j=>a0a (w.alloc (.cells f k)) M'.ov w.heap.size (0+(i*e.cells+j))) n 0=some (y,[],L):=by
  have h1:dec (a0a w M'.ov) (.arr n e) (fun j=>f[j]?)=some (y,[],L):=C;refine a0y (.arr n e) h1 (rd':=fun j=>a0a (w.alloc (.cells f k)) M'.ov w.heap.size (0+j)) (fun j _=>?_) (fun b j hb=>?_);show a0a _ M'.ov w.heap.size (0+j)=_;rw[a16];exact u.memo_new (a1B (Obj.cells f k)) j;rcases hb with hb|hb;simp_all;exact u.memo_old p (g6 b hb).1
 have V:∃R,dec (a0a (w.alloc (.cells f k)) M'.ov) (.list false e) ((Src.one (.slice (some ⟨w.heap.size,0,none⟩) n n)).rd (a0a (w.alloc (.cells f k)) M'.ov))=some (y,[],R)/\∀c∈R,Shr B (w.alloc (.cells f k)) M' c:=by
  show ∃R,a0Y (a0a (w.alloc (.cells f k)) M'.ov) false e.cells (dec (a0a (w.alloc (.cells f k)) M'.ov) e) (some (.slice (some ⟨w.heap.size,0,none⟩) n n))=some (y,[],R)/\_;simp only[a0Y];rw[if_pos ⟨.inr trivial,a04 _⟩,Y];simp only[Bool.false_eq_true,if_false];split;exact⟨[],rfl,by simp⟩;refine⟨w.heap.size::L,by rfl,fun c v=>?_⟩
  grind
 obtain⟨R2,k1,k2⟩:=V;exact a0w.set hd hN G h2 (av:=.val (.list false e) y) (VOk.one (t:=.list false e) rfl rfl k1 k2 rfl) A;obtain⟨U2,M2,k1,k2,k3,-,-⟩:=u.newSlice (c:=n) A (fun c v=>a1I _ c v) (a2b _) (a1B (Obj.cells f k)) (.inl rfl) (a48 g4.symm) (a48 H) (by rw[H];exact C) g6
 grind[a0w.set]
 simp_all;simp_all
theorem b8g{P:Program}{w:World}:∀(fs:List Field),(∀f∈fs,∃i,P.info? f.type=some i)->
  ∃l:List (Nat×Nat),(fs.mapM fun f=>do pure (f.offset,<-sizeOf f.type):Sem (List (Nat×Nat))).run P w=.ok l w/\l.length=fs.length/\∀(k:Nat) f,fs[k]?=some f->∃i,P.info? f.type=some i/\l[k]?=some (f.offset,i.size)
 | [],_=>⟨[],rfl,rfl,by simp⟩
 |f::fs,h=>by
  obtain⟨i,hi⟩:=h f (by simp);obtain⟨l,b,c,d⟩:=b8g (w:=w) fs (fun g a=>h g (by grind));refine⟨(f.offset,i.size)::l,?_,by grind,fun k g a=>?_⟩;simp_all[sizeOf,typeInfo]
  grind
theorem b2h{P:Program}:∀(τ:Ty)(fs:List Field)(off:Nat),a0u P τ (.inr (fs,off))=true->∀f∈fs,∃i,P.info? f.type=some i
 |.pair a b,f::r,off,h=>by
  simp only[a0u,bA9]at h;obtain⟨I⟩:=a0D (a0L h.1.1.2);intro g k;rcases mC.1 k with rfl|k;exact⟨_,I.info⟩;exact b2h b r _ h.2 g k
 |.unit,[],_,_=>by simp
 |.unit,_::_,_,h=>by simp[a0u]at h
 |.pair _ _,[],_,h=>by simp
 |.int _,_,_,h=>by simp[a0u]at h
 |.bool,_,_,h=>by simp[a0u]at h
 |.str,_,_,h=>by simp[a0u]at h
 |.list _ _,_,_,h=>by simp[a0u]at h
 |.arr _ _,_,_,h=>by simp[a0u]at h
theorem c9S{ps:Array (Nat×Operand)}{K:AE->Rs Z}{z:Z}(hty:a0u P τ (.inl t)=true)(Q:o.op=.build t ps)(hd:o.dst=some d)(h:Rel B U N (a0o a) w M)(hN:a.tmps.size=N)(hf:fits N o=true)(S:(bif τ.isAgg then U.fills q τ ps.toList τ.dflt fun y U=>K (U.set d (.val τ y))else none)=some z):a0w P B N o a w K z:=by
 have m:∀y∈(o.op.operands.toList),a1m N y=true:=a0R hf;rw[Q]at m
 ·obtain⟨I⟩:=a0D (a0L hty);obtain⟨g,S⟩:τ.isAgg=true/\_:=(a0f S).elim id fun h=>by grind
  have s:∀y∈ps.toList,a1m N y.2=true:=fun y hy=>m y.2 (by
     simp only[Op.operands]
     grind)
  have D:(ps.map fun(i,x)=>(i,a.eval x)).toList=ps.toList.map fun(i,x)=>(i,a.eval x):=by simp
  have p:∀place,c6v τ place->(∀b,Instr.fill place I.z.cells (ps.toList.map fun(i,x)=>(i,a.eval x))=some b->(execOp a.eval o).run P w=.ok (.value (.agg b)) w)->τ.isAgg=true->a0w P B N o a w K z:=by
   intro place hp E g;obtain⟨y,b,U',M',Y,g1,g2,g3,g4,g5,g6⟩:=b9M hp ps.toList h s I.zsize (a6v τ I.zok) (by simp) S;exact a0w.set hd hN (E b g3) g2 (av:=.val τ y) ⟨fun _=>⟨b,rfl,g4⟩,fun e=>(by simp_all),Y,g5,g6⟩ g1
  have str:∀fs:Array Field,P.underlying t=some (.struct fs)->a0u P τ (.inr (fs.toList,0))=true->(∀i,AE.pathOk τ i=a1Z τ i/\AE.pathOf τ i=a1l i)->τ.isAgg=true->a0w P B N o a w K z:=by
   intro fs j R c g;obtain⟨l,h1,h2,h3⟩:=b8g (P:=P) (w:=w) fs.toList (b2h τ _ _ R);refine p (fun i=>l.toArray[i]?) (fun i hi=>?_) (fun b L=>?_) g;rw[(c i).1]at hi;rw[(c i).2];obtain⟨H,τ',k,V,k2,k3,k4,k5⟩:=b5G i τ _ 0 R hi;obtain⟨h0,τ2,k',j1,j2,j3,j4,-⟩:=b8f i τ _ 0 R hi;rw[V]at j1;simp at j1;subst j1;obtain⟨i',O,T⟩:=h3 i H V;obtain⟨C⟩:=a0D (a0L k3);obtain⟨G⟩:=a0D (a0L j3);have e1:i'=C.i:=by have:=O.symm.trans C.info;simp_all
   have e2:C.i=G.i:=by have:=C.info.symm.trans G.info;simp_all
   refine⟨τ',k,?_,?_,k5⟩;have hk:H.offset=k:=by omega
   simp
   rw[T,e1,C.size,hk];have s1:=C.size;have s2:=G.size;simp_all;have hm:(fs.mapM fun f=>do pure (f.offset,<-sizeOf f.type):Sem (Array (Nat×Nat))).run P w=.ok l.toArray w:=by
    simp_all[a44]
   simp only[execOp,Q,Instr.build,Sem.run_bind,I.zeroValue,Result.andThen_ok,run_underlying j,hm,D,L]
   simp
  have arr:∀n F e,P.underlying t=some (.array n F)->a0u P e (.inl F)=true->c6v τ (fun i=>some (i*e.cells,e.cells))->τ.isAgg=true->a0w P B N o a w K z:=by
   intro n F e j A hp g;obtain⟨X⟩:=a0D (a0L A);refine p _ hp (fun b L=>?_) g;simp only[execOp,Q,Instr.build,Sem.run_bind,I.zeroValue,Result.andThen_ok,run_underlying j,X.sizeOf,D,L]
   simp
  clear p;cases τ with
  |pair u v=>
   simp[a0u]at hty;obtain⟨-,hty⟩:=hty
   split at hty
   rename_i fs j
   split at hty
   rename_i H r T;refine str fs j ?_ (fun i=>⟨rfl,rfl⟩) rfl;simp_all[a0u];simp_all;simp_all
  |unit=>
   simp[a0u]at hty;obtain⟨-,hty⟩:=hty
   split at hty
   rename_i fs j;refine str fs j ?_ (fun i=>⟨rfl,rfl⟩) rfl
   have:fs.toList=[]:=by simp_all
   rw[this];rfl;simp_all
  |arr n e=>
   obtain⟨F,j,A,-⟩:=b2f hty;exact arr n F e j A (c6w n e) rfl
  |_=>cases g
theorem c6y{o:Oper}{t:TypeId}{ps:Array (Nat×Operand)}{d:Nat}{cx:Cx}{q:Bool}{K:AE->Rs Z}{z:Z}(f:CxTy P cx)(b:o.op=.build t ps)(k:o.dst=some d)(i:cx.nlT d t=none->cx.O d=none)
  (h:Rel B U N (a0o a) w M)(c:a.tmps.size=N)(e:fits N o=true)(g:aop cx q o U K=some z):a0w P B N o a w K z:=by
 simp[aop,b,k]at g;cases hn:cx.nlT d t with
 |some τ=>
  rw[hn]at g;refine c9S ?_ b k h c e g;simp[Cx.nlT]at hn
  split at hn
  split at hn
  rename_i l _ j;cases hn;rw[<-a3A];exact(f.T t _ j.2).2;simp_all;simp_all
 |none=>
 rw[hn]at g;simp[i hn]at g
 split at g
 rename_i τ hT;exact c9S (f.T t _ hT).2 b k h c e g;simp_all
theorem c1t(h:a1A u=true):u.cells=#[u]:=by
 cases u<;>first|rfl|(simp[a1A]at h)
theorem d2x(h:Rel B U N (a0o a) w M){v:AV}(hv:a0l (a0a w M.ov) M.g U.rt (Shr B w M) v u)(f:v.fits1 τ=true):a1A u=true:=by
 unfold AV.fits1 at f
 split at f
 rename_i t x;simp at f;exact hv.2.1 f.1;rename_i n e;obtain⟨r,d,s,k,b,l⟩:=hv;obtain⟨m,R,i,p,-⟩:=h.sep k;obtain⟨y,o,R1,_,_,_,_,q,j,-⟩:=a1w _ r.t _ i b;obtain⟨s',A,c,-,-,hv,-,z,-⟩:=h.sref_head ⟨r,d,s,k,b,l⟩ k j;rw[hv];rfl;have hv:u=.slice none 0 0:=hv;rw[hv];rfl;simp_all
theorem d9Y{place:Nat->Option (Nat×Nat)}{k:Nat}{u:Value}{l:List (Nat×Value)}{pre zs:List Value}{c:Value}(hp:place k=some (k,1))(h:a1A u=true)(g:pre.length=k):
  Instr.fill place (pre++c::zs).toArray ((k,u)::l)=Instr.fill place (pre++[u]++zs).toArray l:=by
 have h:=c1t h;simp only[Instr.fill,hp];simp_all
theorem d9Z{g:Nat->Src}{rt:Nat->Option Root}{v:AV}{rd:Nat->Option Value}(h:a9R τ=some v)(f:a2v τ rd=true)(d:rd 0=some u):τ.cells=1/\a1A u=true/\a0l m g rt Sh v u:=by
 have a:τ.isAgg=false->a1A u=true->τ.cells=1->a2v τ (fun j=>u.cells[j]?)=true->VOk m Sh τ τ.dflt u:=fun p i q l=>
  ⟨fun g=>(by simp_all),fun _=>i,[],a6v τ l,by simp⟩
 cases τ with
 |int k=>
  simp[a9R]at h;simp[a2v,d]at f;cases u with
  |int k' n=>
   subst h;exact⟨rfl,rfl,a rfl rfl rfl (by simp_all[a2v,Value.cells])⟩
  |_=>cases f
 |bool=>
  simp[a9R]at h;simp[a2v,d]at f;cases u with
  |bool b=>
   subst h;exact⟨rfl,rfl,a rfl rfl rfl (by simp_all[a2v,Value.cells])⟩
  |_=>cases f
 |str=>
  simp[a9R]at h;simp[a2v,d]at f;cases u with
  |string b=>
   subst h;exact⟨rfl,rfl,a rfl rfl rfl (by simp_all[a2v,Value.cells])⟩
  |_=>cases f
 |list o e=>
  simp[a9R]at h;simp[a2v,d]at f;subst h
  split at f
  rename_i c;simp at c;subst c;exact⟨rfl,rfl,rfl⟩;simp_all
 |_=>cases h
theorem c1u{place:Nat->Option (Nat×Nat)}(h:Rel B U N (a0o a) w M):∀(τ:Ty)(k:Nat)(ps:List (Nat×Operand)) (vs:List AV),U.aggV k τ ps=some vs->(∀p∈ps,a1m N p.2=true)->
  (∀j,j<τ.cells->place (k+j)=some (k+j,1))->∀(pre zs:List Value),pre.length=k->zs.length=τ.cells->a2v τ (fun j=>zs[j]?)=true->
  ∃us:List Value,us.length=τ.cells/\vs.length=τ.cells/\Instr.fill place (pre++zs).toArray (ps.map fun p=>(p.1,a.eval p.2))=some (pre++us).toArray/\
   ∀(j:Nat) v,vs[j]?=some v->∃u,us[j]?=some u/\a1A u=true/\a0l (a0a w M.ov) M.g U.rt (Shr B w M) v u
 |.unit,k,[],vs,hv,_,_,pre,zs,hp,hz,_=>by
  simp only[AE.aggV,sj]at hv;subst hv
  have:zs=[]:=List.eq_nil_of_length_eq_zero hz
  subst this;exact⟨[],rfl,rfl,rfl,fun j v c=>by simp_all⟩
 |.pair u v,k,ps,vs,hv,hops,hpl,pre,zs,hp,hz,hzr=>by
  have zero:((a9R u).bind fun x=>(U.aggV (k+1) v ps).map (x::·))=some vs->∃us:List Value,us.length=(Ty.pair u v).cells/\vs.length=(Ty.pair u v).cells/\Instr.fill place (pre++zs).toArray (ps.map fun p=>(p.1,a.eval p.2))=some (pre++us).toArray/\
    ∀(j:Nat) v,vs[j]?=some v->∃u,us[j]?=some u/\a1A u=true/\a0l (a0a w M.ov) M.g U.rt (Shr B w M) v u:=fun hb=>by
   cases hx:a9R u with
   |none=>simp_all
   |some x=>
    rw[hx]at hb;cases hr:U.aggV (k+1) v ps with
    |none=>simp_all
    |some vs'=>
     rw[hr]at hb;cases hb;simp[a2v]at hzr;have l:0<u.cells:=by
      cases u<;>first|(cases hx;done)|exact Nat.one_pos
     cases zs with
     |nil=>grind[Ty.cells]
     |cons z0 zs=>
      obtain⟨D,E,F⟩:=d9Z (m:=a0a w M.ov) (g:=M.g) (rt:=U.rt) (Sh:=Shr B w M) hx hzr.1 (by simp:(z0::zs)[0]?=some z0);have b:zs.length=v.cells:=by grind[Ty.cells]
      obtain⟨us,t,z,A,C⟩:=c1u h v (k+1) ps vs' hr hops (fun j c=>by
       have:=hpl (j+1) (by grind)
       rwa [show k+(j+1)=k+1+j from by omega]at this) (pre++[z0]) zs (by grind) b (by
       grind)
      refine⟨z0::us,by simp_all,by simp_all,?_,fun j y c=>?_⟩
      all_goals grind
  cases ps with
  |nil=>exact zero hv
  |cons p r=>
   obtain⟨i,o⟩:=p;simp[AE.aggV]at hv;rcases a0f hv with⟨hi,f⟩|⟨-,f⟩
   ·have hi:i=k:=by simp_all
    subst hi;obtain⟨e,f⟩:=(a0f f).elim id fun h=>by grind
    simp at e;obtain⟨G,n⟩:=e;cases hr:U.aggV (i+1) v r with
    |none=>simp_all
    |some vs'=>
     rw[hr]at f;cases f;have d:=h.opd (hops (i,o) (by simp));have s:=d2x h d n;cases zs with
     |nil=>grind[Ty.cells]
     |cons z0 zs=>
      have b:zs.length=v.cells:=by grind[Ty.cells]
      simp[a2v]at hzr;obtain⟨us,t,z,A,C⟩:=c1u h v (i+1) r vs' hr (fun p hp=>hops p (by grind)) (fun j c=>by
       have:=hpl (j+1) (by grind)
       rwa [show i+(j+1)=i+1+j from by omega]at this) (pre++[a.eval o]) zs (by grind) b (by
       grind)
      refine⟨a.eval o::us,by simp_all,by simp_all,?_,fun j y c=>?_⟩;rw[a07];have q:=hpl 0 (by grind);simp_all[d9Y]
      grind
   simp_all
 |.unit,_,_::_,_,hv,_,_,_,_,_,_,_=>by simp[AE.aggV]at hv
 |.int _,_,_,_,hv,_,_,_,_,_,_,_=>by simp[AE.aggV]at hv
 |.bool,_,_,_,hv,_,_,_,_,_,_,_=>by simp[AE.aggV]at hv
 |.str,_,_,_,hv,_,_,_,_,_,_,_=>by simp[AE.aggV]at hv
 |.list _ _,_,_,_,hv,_,_,_,_,_,_,_=>by simp[AE.aggV]at hv
 |.arr _ _,_,_,_,hv,_,_,_,_,_,_,_=>by simp[AE.aggV]at hv
theorem d2y:∀(τ:Ty)(k:Nat)(ps:List (Nat×Operand)) (vs:List AV),U.aggV k τ ps=some vs->vs.length=τ.cells/\
  ∀{P:Program} fs,a0u P τ (.inr (fs,k))=true->fs.length=vs.length/\∀(j:Nat) f,fs[j]?=some f->f.offset=k+j/\∃τ',a0u P τ' (.inl f.type)=true/\τ'.cells=1
 |.unit,k,[],vs,hv=>by
  simp only[AE.aggV,sj]at hv;subst hv;exact⟨rfl,fun fs h=>by
   cases fs with
   |nil=>simp
   |cons f r=>simp[a0u]at h⟩
 |.pair u v,k,ps,vs,hv=>by
  have d:∀x b g,u.cells=1->U.aggV (k+1) v b=some g->vs=x::g->vs.length=(Ty.pair u v).cells/\
    ∀{P:Program} fs,a0u P (.pair u v) (.inr (fs,k))=true->fs.length=vs.length/\∀(j:Nat) f,fs[j]?=some f->f.offset=k+j/\∃τ',a0u P τ' (.inl f.type)=true/\τ'.cells=1:=fun x b g q c e=>by
   subst e;obtain⟨m,n⟩:=d2y v (k+1) b g c;refine⟨by grind[Ty.cells],fun fs h=>?_⟩;cases fs with
   |nil=>simp[a0u]at h
   |cons f fs=>
    simp[a0u]at h
    grind
  have zero:((a9R u).bind fun x=>(U.aggV (k+1) v ps).map (x::·))=some vs->vs.length=(Ty.pair u v).cells/\
    ∀{P:Program} fs,a0u P (.pair u v) (.inr (fs,k))=true->fs.length=vs.length/\∀(j:Nat) f,fs[j]?=some f->f.offset=k+j/\∃τ',a0u P τ' (.inl f.type)=true/\τ'.cells=1:=fun hb=>by
   cases hx:a9R u with
   |none=>simp_all
   |some x=>
    rw[hx]at hb;cases c:U.aggV (k+1) v ps with
    |none=>simp_all
    |some g=>
     rw[c]at hb;cases hb;exact d x ps g (by cases u<;>first|(cases hx;done)|rfl) c rfl
  cases ps with
  |nil=>exact zero hv
  |cons p r=>
   obtain⟨i,o⟩:=p;simp[AE.aggV]at hv;rcases a0f hv with⟨-,a⟩|⟨-,a⟩
   ·obtain⟨l,a⟩:=(a0f a).elim id fun h=>by grind
    simp at l;cases c:U.aggV (k+1) v r with
    |none=>simp_all
    |some g=>
     grind
   grind
 |.unit,_,_::_,_,hv=>by simp[AE.aggV]at hv
 |.int _,_,_,_,hv=>by simp[AE.aggV]at hv
 |.bool,_,_,_,hv=>by simp[AE.aggV]at hv
 |.str,_,_,_,hv=>by simp[AE.aggV]at hv
 |.list _ _,_,_,_,hv=>by simp[AE.aggV]at hv
 |.arr _ _,_,_,_,hv=>by simp[AE.aggV]at hv
theorem d0X{o:Oper}{t:TypeId}{ps:Array (Nat×Operand)}{d:Nat}{cx:Cx}{q:Bool}{K:AE->Rs Z}{z:Z}{τ:Ty}(E:CxTy P cx)(L:o.op=.build t ps)(X:o.dst=some d)(hO:cx.O d=some τ)(H:cx.nlT d t=none)
  (h:Rel B U N (a0o a) w M)(hN:a.tmps.size=N)(hf:fits N o=true)(C:aop cx q o U K=some z):a0w P B N o a w K z:=by
 have c:∀y∈(o.op.operands.toList),a1m N y=true:=a0R hf;rw[L]at c;have r:∀y∈ps.toList,a1m N y.2=true:=fun y hy=>c y.2 (by
  simp only[Op.operands]
  grind)
 simp only[aop,L,X,hO,H]at C
 ·split at C
  ·rename_i hT
   split at C
   ·rename_i V g;obtain⟨m,S⟩:=(a0f C).elim id fun h=>by grind
    have m:0<τ.cells:=by simp_all
    have hty:a0u P τ (.inl t)=true:=by rw[<-a3A];exact(E.T t _ hT).2
    obtain⟨h0,g4⟩:=d2y τ 0 ps.toList V g;cases τ with
    |pair u v=>
     obtain⟨I⟩:=a0D (a0L hty);obtain⟨fs,hu,Y⟩:=b4o (f:=0) hty rfl;obtain⟨g5,g6⟩:=g4 _ Y;obtain⟨l,h1,h2,h3⟩:=b8g (P:=P) (w:=w) fs.toList (b2h _ _ _ Y);have hm:(fs.mapM fun f=>do pure (f.offset,<-sizeOf f.type):Sem (Array (Nat×Nat))).run P w=.ok l.toArray w:=by
      simp_all[a44]
     have Q:∀j,j<(Ty.pair u v).cells->(fun i=>l.toArray[i]?) (0+j)=some (0+j,1):=fun j hj=>by
      have F:j<fs.toList.length:=by omega
      have s:=lG F;obtain⟨i,hi,hl⟩:=h3 j _ s;obtain⟨e1,τ',e2,e3⟩:=g6 j _ s;obtain⟨D⟩:=a0D (a0L e2);have e4:i=D.i:=by have:=hi.symm.trans D.info;simp_all
      simp
      rw[hl,e1,e4,D.size,e3,a16]
     obtain⟨us,k1,-,b,k4⟩:=c1u h (Ty.pair u v) 0 ps.toList V g r Q [] I.z.cells.toList rfl (by simpa using I.zsize) (by simpa using I.zok);simp at b;have R:(ps.map fun(i,x)=>(i,a.eval x)).toList=ps.toList.map fun p=>(p.1,a.eval p.2):=by simp
     have A:(execOp a.eval o).run P w=.ok (.value (.agg us.toArray)) w:=by
      simp only[execOp,L,Instr.build,Sem.run_bind,I.zeroValue,Result.andThen_ok,run_underlying hu,hm,R,b]
      simp
     refine⟨_,w,_,M,.inl A,?_,S⟩;rw[X];refine h.putd hN (fun _=>⟨_,⟨by simp_all,rfl,fun k x hx=>?_⟩,fun k av hk=>?_⟩);rw[a22]at hx;have G:k<V.length:=by
      grind
     obtain⟨u',q1,q2,-⟩:=k4 k _ (lG G);simp_all
     grind
    |unit=>simp[Ty.cells]at m
    |int k=>simp[AE.aggV]at g
    |bool=>simp[AE.aggV]at g
    |str=>simp[AE.aggV]at g
    |list o' e=>simp[AE.aggV]at g
    |arr n e=>simp[AE.aggV]at g
    |nl e=>simp[AE.aggV]at g
   simp_all
  simp_all
end
theorem b4P{o:Nat}{os R}(h:a0j (fun i=>dec m e fun j=>m b (o+(i*e.cells+j))) n 0=some (l,os,R)):
  ∃cs:List Value,cs.length=n*e.cells/\(∀j u,cs[j]?=some u->m b (o+j)=some u)/\(∀u∈cs,a1A u=true)/\a0j (fun i=>dec m e fun j=>cs[i*e.cells+j]?) n 0=some (l,os,R):=by
 have k:dec m (.arr n e) (fun j=>m b (o+j))=some (l,os,R):=h;have d:∀j,j<n*e.cells->∃u,m b (o+j)=some u/\a1A u=true:=a6x (.arr n e) k
 let cs:List Value:=(List.range (n*e.cells)).map fun j=>(m b (o+j)).getD undef
 have f:∀j,j<n*e.cells->cs[j]?=m b (o+j):=fun j a=>by
  grind
 have g:cs.length=n*e.cells:=by grind
 refine⟨cs,g,fun j u c=>?_,fun u c=>?_,?_⟩
 grind
 grind
 exact a0y (.arr n e) k (rd':=fun j=>cs[j]?) (fun j a=>f j a) (fun _ _ _=>rfl)
theorem c8C{o:Bool}(u:e.sh=e){O R}(h:dec m (.list o e) ((Src.one v).rd m)=some (l,O,R)):
  (v=.slice none 0 0/\l=[])\/∃a n c g,v=.slice (some a) n c/\(c=0\/a.spot=none)/\n<=c/\n=l.length/\a0j (fun i=>dec m e fun j=>m a.block (a.off+(i*e.cells+j))) n 0=some (l,[],g)/\
   (∀x∈g,x∈R)/\(o=false->0<n->a.block∈R):=by
 have h:a0Y m o e.cells (dec m e) (some v)=some (l,O,R):=h;unfold a0Y at h
 split at h
 simp_all;rename_i a n c hv;simp at hv
 split at h
 rename_i t
 split at h
 grind
 rename_i d os g b;have f:os=[]:=by
  have p:dec m (.arr n e) (fun j=>m a.block (a.off+j))=some (d,os,g):=b;exact b2g (by simp_all[Ty.shn]) p
 subst f;have k:d=l/\(∀x∈g,x∈R)/\(o=false->0<n->a.block∈R):=by
  split at h
  grind
  split at h
  rename_i q;subst q;simp[a0j]at b;simp_all
  grind
 obtain⟨rfl,r,s⟩:=k
 grind[a0W]
 simp_all;simp_all
def b1D(w:World)(m:Mem)(Sh:Nat->Prop)(e:Ty)(l:List e.den)(v:Value):Prop:=
 ∃A n c,∃cs:List Value,v=.slice A n c/\n=l.length/\cs.length=n*e.cells/\(∀u∈cs,a1A u=true)/\(∃R,a0j (fun i=>dec m e fun j=>cs[i*e.cells+j]?) n 0=some (l,[],R)/\∀c∈R,Sh c)/\
  (∀b,A=some b->∀j u,cs[j]?=some u->w.cell? (b.add j)=some u)/\(A=none->n=0)/\(∀b,A=some b->n=0\/b.spot=none)
theorem b1D.nil{w m Sh e}{A:Option Addr}{c:Nat}:b1D w m Sh e [] (.slice A 0 c):=
 ⟨A,0,c,[],rfl,rfl,by simp,by simp,⟨[],rfl,by simp⟩,by simp,fun _=>rfl,fun _ _=>.inl rfl⟩
section
variable {P:Program} {B:Base} {N:Nat} {Z:Type} {U:AE} {a:Act} {w:World} {M:Gh}
theorem Rel.ov_none{tm}(h:Rel B U N tm w M)(hp:U.pd=none):M.ov=none:=by
 have:=h.pend
 rw[hp]at this;cases hov:M.ov with
 |none=>rfl
 |some x=>rw[hov]at this;exact this.elim
theorem Rel.memo_shr{tm}(h:Rel B U N tm w M){c j:Nat}(k:Shr B w M c):a0a w M.ov c j=w.cell? ⟨c,j,none⟩:=by
 unfold a0a;split
 ·rename_i b o v g;have hp:=h.pend;rw[g]at hp;cases hpd:U.pd with
  |none=>rw[hpd]at hp;exact hp.elim
  |some x=>
   obtain⟨n,p,d⟩:=x;rw[hpd]at hp;obtain⟨r,e,a,f⟩:=hp;rw[<-g]at f;have hb:=h.place a f;rw[if_neg]
   rintro⟨rfl,-⟩
   exact k.2.2 ⟨n,hb⟩
 rfl
theorem b6l{A:Addr}(h:A.spot=none)(j:Nat):w.cell? (A.add j)=w.cell? ⟨A.block,A.off+j,none⟩:=by rw[a3N h]
theorem Rel.elems{tm}{e:Ty}(he:e.sh=e)(h:Rel B U N tm w M){av v}{K:List e.den->Rs Z}{z:Z}(d:a0l (a0a w M.ov) M.g U.rt (Shr B w M) av v)(f:U.elems e av K=some z):
  ∃l,K l=some z/\b1D w (a0a w M.ov) (Shr B w M) e l v:=by
 unfold AE.elems at f
 split at f
 rename_i t' x
 split at f
 rename_i ht;subst ht;refine⟨_,f,?_⟩;obtain⟨R,h1,h2⟩:=VOk.rd (t:=.list false t') d rfl rfl;rcases c8C he h1 with⟨rfl,h3⟩|⟨A,n,c,X,rfl,g1,g2,Q,F,S,g6⟩;simp_all[b1D.nil];obtain⟨cs,E,V,I,L⟩:=b4P F;refine⟨some A,n,c,cs,rfl,Q,E,I,⟨X,L,fun b hb=>h2 b (S b hb)⟩,fun b hb j u H=>?_,by simp,fun b hb=>by grind⟩;simp at hb;subst hb;have G:0<n:=by
  grind
 rw[b6l (g1.resolve_left (by omega)),<-h.memo_shr (h2 _ (g6 rfl G))];simp_all;simp_all;refine⟨[],f,?_⟩;have d:v=.slice none 0 0:=d;rw[d];exact b1D.nil;refine⟨[],f,?_⟩;obtain⟨A,hv⟩:=d;rw[hv];exact b1D.nil;rename_i n p
 split at f
 rename_i r D;obtain⟨C,D⟩:=a0K D
 split at f
 rename_i a l hg
 split at f
 rename_i m;subst m;obtain⟨s,O',R',g1,g2,Q,F,S,g6⟩:=h.slice d D hg;refine⟨l,f,?_⟩;have y:=h.ov_none C;rcases c8C he F with⟨rfl,h3⟩|⟨A,n,c,X,rfl,Y,f2,f3,P,f5,-⟩;rw[h3];exact b1D.nil;obtain⟨cs,E,V,I,L⟩:=b4P P;refine⟨some A,n,c,cs,rfl,f3,E,I,⟨X,L,fun b hb=>S b (f5 b hb)⟩,fun b hb j u H=>?_,by simp,fun b hb=>by grind⟩;simp at hb;subst hb;have G:0<n:=by
  grind
 rw[b6l (Y.resolve_left (by omega))]
 have:=V j u H
 rw[y]at this;exact this;simp_all;simp_all;simp_all
 ·rename_i n p o k
  split at f
  ·rename_i r D;obtain⟨C,D⟩:=a0K D
   split at f
   ·rename_i a l hg
    split at f
    ·rename_i m;subst m;obtain⟨s,O',R',A0,n0,c,g1,g2,Q,F,S,g6,a',rfl,g7,g8⟩:=h.window d D hg;refine⟨_,f,?_⟩;show b1D _ _ _ _ (a45 k (a67 o l)) _;have y:=h.ov_none C;rcases c8C he Q with⟨hv,h3⟩|⟨A,n,c',X,hv,Y,f2,f3,P,f5,-⟩;simp_all[b1D.nil]
     ·simp at hv;obtain⟨rfl,rfl,rfl⟩:=hv;rw[show n0=o+(k+(n0-o-k))from by omega]at P;obtain⟨h7,g0,h8,g9,j1,j2,e1,rfl⟩:=a4J o _ 0 P;obtain⟨h5,O,h9,k0,j3,j4,rfl,rfl⟩:=a4J k _ (0+o) j2;have h4:h5=[]:=by
       simp_all
      subst h4;have T:∀(q i:Nat),a0j (fun i=>dec (a0a w M.ov) a fun j=>a0a w M.ov A.block (A.off+o*a.cells+(i*a.cells+j))) q i=a0j (fun i=>dec (a0a w M.ov) a fun j=>a0a w M.ov A.block (A.off+(i*a.cells+j))) q (o+i):=by
       intro q
       induction q with
       |zero=>intro i;rfl
       |succ q ih=>
        intro i;have hf:(fun j=>a0a w M.ov A.block (A.off+o*a.cells+(i*a.cells+j)))=fun j=>a0a w M.ov A.block (A.off+((o+i)*a.cells+j)):=by
         funext j
         grind
        simp[a0j];rw[ih (i+1),hf,show o+(i+1)=o+i+1 from by rfl]
      have hc:a0j (fun i=>dec (a0a w M.ov) a fun j=>a0a w M.ov A.block (A.off+o*a.cells+(i*a.cells+j))) k 0=some (a45 k (a67 o l),[],O):=by
       grind
      obtain⟨cs,E,V,I,L⟩:=b4P hc;refine⟨a',k,c-o,cs,rfl,?_,E,I,⟨O,L,fun b hb=>F b (f5 b (by grind))⟩,fun b hb j u H=>?_,fun hn=>?_,fun b hb=>(g7 b hb).imp (fun e=>by omega) id⟩;have e0:n0=l.length:=f3;have e1:(a45 k (a67 o l)).length=min k (l.length-o):=List.length_take.trans (congrArg (min k) List.length_drop);omega;have h0:=(lS.1 H).1;rw[E]at h0;have h6:0<k:=Nat.pos_of_ne_zero fun e0=>by grind
      rcases g8 with g8|g8;omega;rw[g8]at hb;simp at hb;rw[<-hb,a3N (Y.resolve_left (by omega)),b6l rfl]
      have:=V j u H
      rw[y]at this;exact this
      grind
    simp_all
   simp_all
  simp_all
 simp_all
theorem b2y{w:World}{c:Nat}{cs:List Value}(hv:v=.slice A n c)(i:∀x,w2.cell? x=w.cell? x)(h:cs.length=n*e.cells)(g:∀b,A=some b->∀j u,cs[j]?=some u->w.cell? (b.add j)=some u)(a:A=none->n=0)(k:Nat)(f:k<=n):
  (Builtin.firstCells e.cells k v).run P w2=.ok (cs.take (k*e.cells)).toArray w2:=by
 subst hv;cases A with
 |none=>
  have:k=0:=by simp_all
  simp_all[Builtin.firstCells]
 |some b=>
  refine run_firstCells_some w2 e.cells k b n c _ ?_ fun j u d=>?_
  simp_all
  grind
end
theorem e2b(h:a0u P τ (.inl t)=true):∃d,P.underlying t=some d:=by
 cases hu:P.underlying t with
 |some d=>simp
 |none=>cases τ<;>simp[a0u,hu]at h
theorem b2i(h:a0u P (.int k) (.inl t)=true):P.underlying t=some (.int k):=by
 simp[a0u]at h
 grind
theorem b6m(h:a0u P .str (.inl t)=true):P.underlying t=some .string:=by
 simp[a0u]at h
 grind
theorem b5I{m:Mem}{k:IntKind}:∀(l:List Int)(n i:Nat){cs:List Value}{R},cs.length=i+n->a0j (fun i=>dec m (.int k) fun j=>cs[i*1+j]?) n i=some (l,[],R)->cs.drop i=l.map (Value.int k)
 |l,0,i,cs,R,hl,h=>by
  have q:[]=l:=congrArg (·.1) (Option.some.inj h);simp_all
 |l,n+1,i,cs,R,hl,h=>by
  simp only[a0j]at h
  split at h
  grind
  rename_i x o r g
  split at h
  grind
  rename_i c os t d;have hi:i<cs.length:=by omega
  simp[dec,lG hi]at g
  split at g
  rename_i k' p hv
  split at g
  rename_i e;subst e;have b:p=x:=congrArg (·.1) (Option.some.inj g);have f:x::c=l:=congrArg (·.1) (Option.some.inj h);have s:o=[]:=by
   simp_all
  have a:os=[]:=by
   grind
  subst a;rw[a32 hi,b5I c n (i+1) (by omega) d,<-f];simp at hv;rw[hv,b];rfl;simp_all;simp_all
section
variable {P:Program} {B:Base} {N:Nat} {Z:Type} {U:AE} {a:Act} {w:World} {M:Gh}
theorem d7n(ns:List Int):∀(s:ByteArray),((ns.foldl (fun r n=>r.push (UInt8.ofNat n.toNat)) s).data.toList.map fun b=>(b.toNat:Int))=(s.data.toList.map fun b=>(b.toNat:Int))++b2s ns:=by
 induction ns with
 |nil=>intro s;simp[b2s]
 |cons n ns ih=>
  simp_all[b2s]
theorem b8h(w:World)(a:Addr)(c:Nat):(w.freeze a 1).heap[c]?=if c=a.block then(w.heap[c]?).map (fun|.cells cs elem (lo,hi)=>.cells cs elem (if lo==hi then(a.off,a.off+1)else(min lo a.off,max hi (a.off+1)))|o=>o)else w.heap[c]?:=by
 unfold World.freeze
 grind
theorem d4L(w:World)(a p:Addr):(w.freeze a 1).cell? p=w.cell? p:=by
 unfold World.cell?;rw[b8h]
 grind
theorem b8i(w:World)(a:Addr)(ov):a0a (w.freeze a 1) ov=a0a w ov:=by
 funext b o;simp_all[d4L,a0a]
theorem Rel.frozen{U:AE}{w:World}{M:Gh}(h:Rel B U N tm w M)(i:a0P M b){cs:Array Value}{el:TypeId}{lo hi:Nat}(r:w.heap[b]?=some (.cells cs el (lo,hi))):
  Rel B U N tm (w.freeze { block:=b,off:=cs.size } 1) M:=by
 have f:(w.freeze { block:=b,off:=cs.size } 1).heap.size=w.heap.size:=by
  simp_all[World.freeze]
 refine h.mem (fun c j _=>by rw[b8i]) (fun n p hp=>?_) (a48 f.symm) (fun c a k=>?_);obtain⟨c,e,l,d,m,o,q⟩:=h.live n p hp;unfold a0Q;rw[b8h]
 grind
 ·rw[b8h,if_neg (fun e=>?_)];exact h.frame c a k
  ·rcases h.mine b i with g|g
   all_goals grind
theorem d2z{o:Oper}{t t2:TypeId}{x:Operand}{d:Nat}{cx:Cx}{q:Bool}{K:AE->Rs Z}{z:Z}(f:CxTy P cx)(ho:o.op=.convert t t2 x)(hd:o.dst=some d)
  (h:Rel B U N (a0o a) w M)(hN:a.tmps.size=N)(hf:fits N o=true)(g:aop cx q o U K=some z):a0w P B N o a w K z:=by
 have I:=h.opd (a0R hf x (by simp[ho,Op.operands]));simp[aop,ho,hd]at g;have p:∀v w',(convert t t2 (a.eval x)).run P w=.ok v w'->(execOp a.eval o).run P w=.ok (.value v) w':=fun v w' hv=>by simp[execOp,ho,hv]
 unfold AE.conv AE.convK at g
 split at g
 rename_i τ k k' n L m H;rw[H]at I;have hv:=a0l.int I;obtain⟨u,S⟩:=e2b (f.T _ _ L).2;have C:=b2i (f.T _ _ m).2;refine a0w.set hd hN (p (.int k (k.wrap n)) w ?_) h (a0l.mk_int _) g;rw[hv];simp[convert,run_underlying S,run_underlying C,Conv.intToInt]
 ·rename_i o' l L m H
  suffices main:∀l:List Int,U.opd x=.val .str l->(bif lim (a19 l)then U.fresh q d ⟨false,.list true (.int .u8),l⟩ fun U=>K (U.set d (.sref d []))else none)=some z->a0w P B N o a w K z from main l H g
  clear H g;intro l H g;rw[H]at I;obtain⟨s,hv,hl⟩:=a0l.str I;have S:=b6m (f.T _ _ L).2;obtain⟨h7,h9⟩:=f.T _ _ m;obtain⟨e,C,F,-⟩:=a1G h9;have G:=b2i F;rcases a0f g with⟨-,g⟩|⟨-,g⟩
  ·have hr:=run_bytes_of_string (P:=P) w t t2 e s S C G;rw[<-hv]at hr;have hg:=grownCap_ge w s.size 0 e;have E:(bytesRow s (grownCap w s.size 0 e)).size=grownCap w s.size 0 e:=by
    have:s.data.size=s.size:=rfl
    simp_all[bytesRow]
   have g6:a19 l=s.size:=by simp_all
   have h5:@List.length (Ty.int .u8).den l=s.size:=g6;have y:a0j (fun i=>dec (a0a w M.ov) (.int .u8) fun j=>(bytesRow s (grownCap w s.size 0 e))[i*(Ty.int .u8).cells+j]?) (a19 l) 0=some (l,[],[]):=by
    have k9:∀(n i:Nat)(l':List Int),l'=l.drop i->l'.length=n->i+n=s.size->a0j (fun i=>dec (a0a w M.ov) (.int .u8) fun j=>(bytesRow s (grownCap w s.size 0 e))[i*(Ty.int .u8).cells+j]?) n i=some (l',[],[]):=by
     intro n
     induction n with
     |zero=>intro i l' _ h2 _;rw[a02.1 h2];rfl
     |succ n ih=>
      intro i l' h1 h2 h3;have hi:i<s.data.toList.length:=by
       grind
      have k5:i<(List.map (fun b:UInt8=>(b.toNat:Int)) s.data.toList).length:=by simp_all
      have V:(bytesRow s (grownCap w s.size 0 e))[i]?=some (.int .u8 ((s.data.toList[i]).toNat:Int)):=by
       simp_all[bytesRow,Array.getElem?_append_left]
      have g5:l'=((s.data.toList[i]).toNat:Int)::l.drop (i+1):=by
       simp_all[a32]
      subst g5;have h4:=ih (i+1) (l.drop (i+1)) rfl (by grind) (by omega);simp only[a0j];rw[h4];simp only[dec,Ty.cells,Nat.mul_one,a57,V,if_true];rfl
    grind
   obtain⟨U',M',g1,g2,g3,-,-⟩:=h.newSlice (c:=grownCap w s.size 0 e) g (w':=w.drew.alloc (.cells (bytesRow s (grownCap w s.size 0 e)) e ((bytesRow s (grownCap w s.size 0 e)).size,(bytesRow s (grownCap w s.size 0 e)).size+1)))
    (fun c hc=>a1I (w:=w.drew) _ c hc) (a2b (w:=w.drew) _) (a1B (w:=w.drew) _) (.inr (by simp[E,Ty.cells])) (by simp[E,Ty.cells]) (a30 (a48 h5) hg) y (by simp)
   grind[a0w.set]
  simp_all
 rename_i l L m H;rw[H]at I;obtain⟨s,hv,hl⟩:=a0l.str I;have S:=b6m (f.T _ _ L).2;have C:=b6m (f.T _ _ m).2;refine a0w.set hd hN (p (.string s) w ?_) h (hl▸a0l.mk_str s) g;simp_all[convert,run_underlying];rename_i o1 o2 n L m H
 split at g
 rename_i k0;subst k0
 split at g
 rename_i l hl;obtain⟨Q,g⟩:=(a0f g).elim id fun h=>by grind
 have Q:0<a19 l:=by simp_all
 obtain⟨k8,hr⟩:=a0K hl;rw[H]at I;obtain⟨h7,hty⟩:=f.T _ _ L;obtain⟨e,S,F,-⟩:=a1G hty;have G:=b2i F;obtain⟨s,O',R',f1,f2,f3,f4,f5,f6⟩:=h.slice I hr (show a0T (.list true (.int .u8)) l []=⟨.list true (.int .u8),l⟩from rfl);obtain⟨b,n1,c1,g0,hb,k7,k4,O⟩:∃(b:Addr)(n1 c1:Nat),a.eval x=.slice (some b) n1 c1/\b.spot=none/\n1<=c1/\c1≠0/\b.block∈(M.ow n).map (·.1):=by
  rcases a2a f4 with⟨hs,k6,-,-⟩|⟨b,n1,c1,os,hs,hA,hn,y,ho⟩;simp_all;simp[Src.rd]at hs
  grind[a0W]
 have h6:a0P M b.block:=⟨n,O⟩;obtain⟨p0,g7,g9⟩:=a08.1 O;obtain⟨cs,el,lo,hi,D,-,-⟩:=h.live n p0 g7;rw[g9]at D;have Y:(convert t t (a.eval x)).run P w=.ok (a.eval x) (w.freeze { block:=b.block,off:=cs.size } 1):=by
  have h8:w.shape? b.block=some (el,cs.size):=by simp_all[World.shape?]
  rw[g0];simp[convert,run_underlying S,run_underlying G,markStringish,h8]
 exact a0w.set hd hN (p _ _ Y) (h.frozen h6 D) (av:=.sref n []) (by
  obtain⟨r,e',s',k1,k2,k3⟩:=I;exact⟨r,e',s',k1,by simp_all[b8i],by simp_all[b8i]⟩) g
 simp_all;simp_all
 ·rename_i o' L m;obtain⟨h7,hty⟩:=f.T _ _ L;obtain⟨e,S,F,-⟩:=a1G hty;have G:=b2i F;have C:=b6m (f.T _ _ m).2;obtain⟨l,g,A,n,c,cs,hv,hn,Q,-,⟨R,y,-⟩,hc,hnil,-⟩:=h.elems rfl I g;have X:cs.length=n:=by simp_all[Ty.cells]
  have g4:cs=l.map (Value.int .u8):=by
   have:=b5I (k:=.u8) l n 0 (cs:=cs) (by omega) y
   grind
  cases A with
  |none=>
   have h0:l=[]:=by
    grind
   refine a0w.set hd hN (p (.string .empty) w ?_) h (av:=.val .str (b2s l)) (by rw[h0];exact a0l.mk_str .empty) g;simp_all[run_convert_bytes_string,Conv.bytesToString]
  |some b=>
   refine a0w.set hd hN (p (.string (l.foldl (fun r n=>r.push (UInt8.ofNat n.toNat)) ByteArray.empty)) w ?_) h (av:=.val .str (b2s l)) ?_ g;rw[hv,run_convert_bytes_string w t t2 e _ n c S G C];refine run_bytesToString w b n c l ?_
   rw[<-g4,<-X];exact run_loadCells_list w b cs (hc b rfl)
   have:=d7n l ByteArray.empty
   have e1:b2s l=((l.foldl (fun r n=>r.push (UInt8.ofNat n.toNat)) ByteArray.empty).data.toList.map fun b=>(b.toNat:Int)):=by
    exact(this.trans (a50 _)).symm
   simp_all[a0l.mk_str]
 simp_all
theorem b6b{b:Builtin}(h:o.op=.call c)(hb:c.callee=.builtin b):
  ∃cs,(execOp a.eval o).run P w=(builtin b c.argTypes o.type cs (c.args.map a.eval)).run P w:=by
 exact⟨_,by simp[execOp,h,resolve,hb,invoke];rfl⟩
theorem e2c{o:Oper}{c:Call}{d:Nat}{cx:Cx}{q:Bool}{K:AE->Rs Z}{z:Z}(e:CxTy P cx)(s:o.op=.call c)(hb:c.callee=.builtin .len)(r:o.dst=some d)
  (h:Rel B U N (a0o a) w M)(u:a.tmps.size=N)(v:fits N o=true)(g:aop cx q o U K=some z):a0w P B N o a w K z:=by
 obtain⟨cs,k⟩:=b6b (P:=P) (a:=a) (w:=w) s hb;have f:=a0R v;have i:∃x,c.args.toList=[x]:=by
  cases i:c.args.toList with
  |nil=>simp_all[aop,AE.blt]
  |cons x l=>
   cases l with
   |nil=>simp
   |cons y l=>simp_all[aop,AE.blt]
 obtain⟨x,A⟩:=i;have b:c.args=#[x]:=by grind
 have p:a1m N x=true:=f x (by simp_all[Op.operands,Call.operands]);simp[aop,s,r,hb,A,AE.blt]at g;cases ht:c.argTypes.toList.head? with
  |none=>
   simp_all[AE.lenK]
  |some t=>
   rw[ht]at g;simp at g;obtain⟨n,g,C⟩:=d9W e h p g o.type;have m:c.argTypes[0]?=some t:=by
    rw[<-a09];cases i:c.argTypes.toList with
    |nil=>simp_all
    |cons y l=>simp_all
   refine a0w.set r u (k.trans ?_) h (a0l.mk_int _) g;have j:Builtin.len_ c.argTypes o.type #[a.eval x]=Builtin.len_ #[t] o.type #[a.eval x]:=by
    simp[Builtin.len_,m]
   simp_all[builtin]
theorem e2d{o:Oper}{c:Call}{d:Nat}{cx:Cx}{q:Bool}{K:AE->Rs Z}{z:Z}(u:CxTy P cx)(m:o.op=.call c)(hb:c.callee=.builtin .cap)(p:o.dst=some d)
  (h:Rel B U N (a0o a) w M)(C:a.tmps.size=N)(D:fits N o=true)(k:aop cx q o U K=some z):a0w P B N o a w K z:=by
 obtain⟨cs,s⟩:=b6b (P:=P) (a:=a) (w:=w) m hb;have r:=a0R D;have i:∃x,c.args.toList=[x]/\U.opd x=.nils:=by
  cases i:c.args.toList with
  |nil=>simp only[aop,m,p,hb,i,a49,AE.blt]at k;cases k
  |cons x l=>
   cases l with
   |nil=>
    refine⟨x,rfl,?_⟩;cases n:U.opd x<;>first|rfl|(simp only[aop,m,p,hb,i,a07,a49,AE.blt,n]at k;cases k)
   |cons y l=>
    simp only[aop,m,p,hb,i,a07,AE.blt]at k;cases n:U.opd x<;>(rw[n]at k;cases k)
 obtain⟨x,n,j⟩:=i;have f:c.args=#[x]:=by rw[<-Array.toList_inj];simpa using n
 have A:a1m N x=true:=r x (by simp[m,Op.operands,hb,f,Call.operands]);simp only[aop,m,p,hb,n,a07,a49,AE.blt,j]at k;have hv:=h.opd A;rw[j]at hv;obtain hv:a.eval x=.slice none 0 0:=hv;rcases a0f k with⟨b,k⟩|⟨-,g⟩
 ·cases ht:c.argTypes.toList.head? with
  |none=>rw[ht]at b;cases b
  |some t=>
   rw[ht]at b;simp only[oB]at b;cases hc:cx.T t with
   |none=>rw[hc]at b;cases b
   |some τ=>
    rw[hc]at b;cases τ with
    |list o e=>
     obtain⟨E,hty⟩:=u.T t _ hc;obtain⟨H,G,F,-⟩:=a1G hty;have v:c.argTypes[0]?=some t:=by
      rw[<-a09];cases i:c.argTypes.toList with
      |nil=>rw[i]at ht;cases ht
      |cons y l=>rw[i]at ht;simpa using ht
     exact a0w.set p C (s.trans (by simp[builtin,f,hv,Builtin.cap_,v,run_underlying G,goInt])) h (a0l.mk_int _) k
    |_=>cases b
 cases g
theorem b7q{b:Builtin}(g:o.op=.call c)(hb:c.callee=.builtin b)(h:fits N o=true):∀y∈c.args.toList,a1m N y=true:=fun y f=>
 a0R h y (by simp_all[Op.operands,Call.operands])
theorem e2e{o:Oper}{c:Call}{d:Nat}{cx:Cx}{q:Bool}{K:AE->Rs Z}{z:Z}(m:o.op=.call c)(hb:c.callee=.builtin .max)(p:o.dst=some d)
  (h:Rel B U N (a0o a) w M)(v:a.tmps.size=N)(A:fits N o=true)(e:aop cx q o U K=some z):a0w P B N o a w K z:=by
 obtain⟨cs,i⟩:=b6b (P:=P) (a:=a) (w:=w) m hb;have b:=b7q m hb A;cases hl:c.args.toList with
 |nil=>simp_all[aop,AE.blt]
 |cons x l=>
  simp[aop,m,p,hb,hl,AE.blt]at e
  split at e
  all_goals first|(rename_i j;cases j;done)|(rename_i j _;cases j;done)|(cases e;done)|skip
  rename_i k n r j u;have s:=h.opd (b x (by simp_all));obtain⟨t,rfl⟩:=List.cons.inj u;rw[t]at s;obtain⟨r,e,D⟩:=c1s (P:=P) (f:=a1s) (g:=Builtin.max2) (k:=k) (fun x y w=>by simp[Builtin.max2,a1s]) l n h (fun y E=>b y (by simp_all)) e;refine a0w.set p v (i.trans ?_) h (a0l.mk_int _) e;have C:(c.args.map a.eval).toList=a.eval x::l.map a.eval:=by simp_all
  simp only[builtin,Builtin.max_,C,a0l.int s,Sem.run_bind];simp_all
theorem e2f{o:Oper}{c:Call}{d:Nat}{cx:Cx}{q:Bool}{K:AE->Rs Z}{z:Z}(m:o.op=.call c)(hb:c.callee=.builtin .min)(p:o.dst=some d)
  (h:Rel B U N (a0o a) w M)(v:a.tmps.size=N)(A:fits N o=true)(e:aop cx q o U K=some z):a0w P B N o a w K z:=by
 obtain⟨cs,i⟩:=b6b (P:=P) (a:=a) (w:=w) m hb;have b:=b7q m hb A;cases hl:c.args.toList with
 |nil=>simp_all[aop,AE.blt]
 |cons x l=>
  simp[aop,m,p,hb,hl,AE.blt]at e
  split at e
  all_goals first|(rename_i j;cases j;done)|(rename_i j _;cases j;done)|(cases e;done)|skip
  rename_i k n r j u;have s:=h.opd (b x (by simp_all));obtain⟨t,rfl⟩:=List.cons.inj u;rw[t]at s;obtain⟨r,e,D⟩:=c1s (P:=P) (f:=a2P) (g:=Builtin.min2) (k:=k) (fun x y w=>by simp[Builtin.min2,a2P]) l n h (fun y E=>b y (by simp_all)) e;refine a0w.set p v (i.trans ?_) h (a0l.mk_int _) e;have C:(c.args.map a.eval).toList=a.eval x::l.map a.eval:=by simp_all
  simp only[builtin,Builtin.min_,C,a0l.int s,Sem.run_bind];simp_all
end
open IntKind(wrap)
theorem b4Q{m:Mem}:∀(p:a0C)(t:Ty)(s:Src){x O R t' b o y O' R'},dec m t (s.rd m)=some (x,O,R)->loc m t s p=some (t',.at b o)->dec m t' ((Src.at b o).rd m)=some (y,O',R')->
  (O.map (·.1)).Nodup->(∀c∈O.map (·.1),s.avoids c)->b∉O'.map (·.1)
 | [],t,s,x,O,R,t',b,o,y,O',R',h,g,hy,hn,hs=>by
  simp[a0U]at g;obtain⟨rfl,rfl⟩:=g;rw[h]at hy;simp at hy;obtain⟨-,rfl,-⟩:=hy;exact fun hb=>hs b hb rfl
 |.fst::p,t,s,x,O,R,t',b,o,y,O',R',h,g,hy,hn,hs=>by
  obtain⟨a,r,bl,so,rfl,rfl,g⟩:=a7A g;obtain⟨G,o1,F,H,o2,r2,u,l,rfl,rfl,rfl⟩:=a2u h;simp only[pA]at hn hs;exact b4Q p a (.at bl so) u g hy (a20.1 hn).1 (fun c f=>hs c (a31 _ f))
 |.snd::p,t,s,x,O,R,t',b,o,y,O',R',h,g,hy,hn,hs=>by
  obtain⟨a,r,bl,so,rfl,rfl,g⟩:=a7B g;obtain⟨G,o1,F,H,o2,r2,u,l,rfl,rfl,rfl⟩:=a2u h;rw[a6e]at l;simp only[pA]at hn hs;exact b4Q p r (.at bl (so+a.cells)) l g hy (a20.1 hn).2.1 (fun c f=>hs c (a38 _ f))
 |.idx i::p,t,s,x,O,R,t',b,o,y,O',R',h,g,hy,hn,hs=>by
  rcases a6n g with⟨n,q,bl,so,rfl,rfl,hi,g⟩|⟨q,a,n,c,rfl,k,hi,g⟩;simp[dec,a6e]at h;obtain⟨I,D,E,v,w,e,j,d,-,rfl,rfl⟩:=a0V n 0 i h hi;simp at d;simp only[pA]at hn hs;exact b4Q p q _ d g hy (a20.1 (a20.1 hn).2.1).1 (fun c f=>hs c (a38 _ (a31 _ f)));rcases a2a h with⟨hv,-⟩|⟨K,C,L,os,hv,M,z,B,A⟩;simp_all;rw[hv]at k;simp at k;obtain⟨rfl,rfl,rfl⟩:=k;obtain⟨I,D,E,v,w,e,j,d,-,rfl,rfl⟩:=a0V C 0 i B hi;simp at d;rcases A with⟨f,-⟩|⟨-,rfl⟩;omega;simp only[pA,a07,a05]at hn hs;exact b4Q p q _ d g hy (a20.1 (a20.1 hn.2).2.1).1 (fun c f=>by
   rintro rfl
   simp_all)
section
variable {P:Program} {B:Base} {N:Nat} {Z:Type} {U:AE} {a:Act} {w:World} {M:Gh}
theorem Rel.own{tm}(h:Rel B U N tm w M){n p v r}(L:a0l (a0a w M.ov) M.g U.rt (Shr B w M) (.sref n p) v)(D:U.rt n=some r)(O:a0T r.t r.x p=⟨.list true e,l⟩):
  ∃s f k,loc (a0a w M.ov) r.t (M.g n) p=some (.list true e,s)/\s.rd (a0a w M.ov) 0=some v/\dec (a0a w M.ov) (.list true e) (s.rd (a0a w M.ov))=some (l,f,k)/\
   dec (a0a w M.ov) (.list true e) ((Src.one v).rd (a0a w M.ov))=some (l,f,k)/\(∀c∈k,Shr B w M c)/\(∀q∈f,q∈M.ow n)/\(f.map (·.1)).Nodup/\(∀b o,s=.at b o->b∉f.map (·.1)):=by
 obtain⟨r',I,s,i,m,C⟩:=L;rw[D]at i;simp at i;subst i;obtain⟨H,R1,F,Q,z,Y,Z,k6⟩:=h.sep D;obtain⟨y,f,k,A,B',R,G,d,a,S,T⟩:=a1w p r.t _ F m;rw[O]at a;have K:e=I:=by grind
 subst K;have a:=eq_of_heq (Sigma.mk.inj a).2;subst a;have E:∀q∈f,q∈H:=fun q hq=>by simp_all
 refine⟨s,f,k,m,C,d,a0y _ d (fun j X=>?_) (fun _ _ _=>rfl),fun c V=>Q c (by simp_all),fun q hq=>?_,?_,fun b o P=>?_⟩;have u:j=0:=by simp_all[Ty.cells]
 subst u;rw[C];rfl
 grind
 have:=z.nodup
 grind
 subst P;exact b4Q p r.t _ F m d z.nodup z.src
theorem b8j{l1 l2:List e.den}{cs1 cs2 rest:List Value}{n1 n2:Nat}{o1 o2 R1 R2}(a:a0j (fun i=>dec m e fun j=>cs1[i*e.cells+j]?) n1 0=some (l1,o1,R1))(g:cs1.length=n1*e.cells)(b:a0j (fun i=>dec m e fun j=>cs2[i*e.cells+j]?) n2 0=some (l2,o2,R2))(f:cs2.length=n2*e.cells):
  a0j (fun i=>dec m e fun j=>(cs1++(cs2++rest))[i*e.cells+j]?) (n1+n2) 0=some (a23 l1 l2,o1++o2,R1++R2):=by
 have a1:a0j (fun i=>dec m e fun j=>(cs1++(cs2++rest))[i*e.cells+j]?) n1 0=some (l1,o1,R1):=by
  refine a0y (.arr n1 e) (show dec m (.arr n1 e) (fun j=>cs1[j]?)=_ from a) (rd':=fun j=>(cs1++(cs2++rest))[j]?) (fun j h=>?_) (fun _ _ _=>rfl);exact a03 (by rw[g];exact h)
 have d:a0j (fun i=>dec m e fun j=>(cs1++(cs2++rest))[i*e.cells+j]?) n2 n1=some (l2,o2,R2):=by
  have c:∀(k i:Nat),i+k<=n2->a0j (fun i=>dec m e fun j=>(cs1++(cs2++rest))[i*e.cells+j]?) k (n1+i)=a0j (fun i=>dec m e fun j=>(cs2++rest)[i*e.cells+j]?) k i:=by
   intro k
   induction k with
   |zero=>intro i _;rfl
   |succ k ih=>
    intro i hi;have l:(fun j=>(cs1++(cs2++rest))[(n1+i)*e.cells+j]?)=fun j=>(cs2++rest)[i*e.cells+j]?:=by
     grind
    grind[a0j]
  have:=c n2 0 (by omega)
  rw[a57]at this;rw[this];refine a0y (.arr n2 e) (show dec m (.arr n2 e) (fun j=>cs2[j]?)=_ from b) (rd':=fun j=>(cs2++rest)[j]?) (fun j h=>?_) (fun _ _ _=>rfl);exact a03 (by rw[f];exact h)
 have:=b8M n1 n2 0 a1 (by rw[a16];omega)
 omega
theorem d4M(g:CxTy P cx)(h:c1m cx ts.toList=true):ts[1]?=none\/∃t2,ts[1]?=some t2/\(P.underlying t2=some .string\/∃e,P.underlying t2=some (.slice e)):=by
 rw[<-a09];unfold c1m at h
 split at h
 simp_all;rename_i t2 _ k;rw[k];refine .inr ⟨t2,rfl,?_⟩
 split at h
 rename_i f;obtain⟨e,a,-⟩:=a1G (g.T _ _ f).2;simp_all;rename_i f;exact .inl (b6m (g.T _ _ f).2);simp_all;simp_all
theorem a6y{ty:TypeId}(I:Info P e t')(i:ts[0]?=some t)(j:P.underlying t=some (.slice t'))(a:ts[1]?=none\/∃t2,ts[1]?=some t2/\(P.underlying t2=some .string\/∃e,P.underlying t2=some (.slice e))){c k:Nat}{new:List Value}(g:(Builtin.lenOf x).run P w=.ok k w)(f:(Builtin.firstCells e.cells k x).run P w=.ok new.toArray w)(h:n+k<=c)(m:∀b,A=some b->(storeCells (b.add (n*e.cells)) new).run P w=.ok () w2)(l:A=none->w2=w):
  (Builtin.append_ ts ty #[.slice A n c,x]).run P w=.ok (.slice A (n+k) c) w2:=by
 have q:∀A,(A=none->w2=w)->(∀b,A=some b->(storeCells (b.add (n*e.cells)) new).run P w=.ok () w2)->(Builtin.append_ ts ty #[.slice A n c,x]).run P w=.ok (.slice A (n+k) c) w2:=by
  intro A l m;cases A with
  |none=>
   have:=l rfl
   subst this;rcases a with a|⟨t2,a,d|⟨p,d⟩⟩;simp[Builtin.append_,i,a,run_underlying j,I.sizeOf,g,h,f];simp[Builtin.append_,i,a,run_underlying j,run_underlying d,I.sizeOf,g,h,f];simp[Builtin.append_,i,a,run_underlying j,run_underlying d,I.sizeOf,g,h,f]
  |some b=>
   have o:=m b rfl;rcases a with a|⟨t2,a,d|⟨p,d⟩⟩;simp[Builtin.append_,i,a,run_underlying j,I.sizeOf,g,h,f,o];simp[Builtin.append_,i,a,run_underlying j,run_underlying d,I.sizeOf,g,h,f,o];simp[Builtin.append_,i,a,run_underlying j,run_underlying d,I.sizeOf,g,h,f,o]
 simp_all
theorem b2j{ty:TypeId}(I:Info P e t')(l:ts[0]?=some t)(q:P.underlying t=some (.slice t'))(d:ts[1]?=none\/∃t2,ts[1]?=some t2/\(P.underlying t2=some .string\/∃e,P.underlying t2=some (.slice e))){c k:Nat}{old new:List Value}(h:(Builtin.lenOf x).run P w=.ok k w)(g:(Builtin.firstCells e.cells k x).run P w.drew=.ok new.toArray w.drew)(f:(Builtin.firstCells e.cells n (.slice A n c)).run P w.drew=.ok old.toArray w.drew)(s:c<n+k)(j:n+k<2147483648):
  (Builtin.append_ ts ty #[.slice A n c,x]).run P w=.ok (.slice (some ⟨w.heap.size,0,none⟩) (n+k) (grownCap w (n+k) c t'))
   (w.drew.alloc (.cells (old++(new++(Builtin.zeroCells I.z.cells (grownCap w (n+k) c t'-(n+k))).toList)).toArray t')):=by
 have p:¬ (n+k<=c):=by omega
 have o:Builtin.nextslicecap (n+k) c*I.i.bytes<=281474976710656:=growslice_fits s (by
  have:=a52 (a58 j) I.bytes
  omega)
 have a:¬ (281474976710656<Builtin.nextslicecap (n+k) c*I.i.bytes):=by omega
 have b:¬ (9223372036854775807<((n:Int)+(k:Int))):=by omega
 have r:∀X Y:Array Value,X.toList=Y.toList->w.drew.alloc (Obj.cells X t')=w.drew.alloc (Obj.cells Y t'):=fun X Y e=>by simp_all
 rcases d with d|⟨t2,d,m|⟨u,m⟩⟩;simp[Builtin.append_,l,d,run_underlying q,I.sizeOf,I.typeInfo,I.zeroValue,h,p,g,f,a,b,Question.forced,newRow,grownCap]
 grind
 simp[Builtin.append_,l,d,run_underlying q,run_underlying m,I.sizeOf,I.typeInfo,I.zeroValue,h,p,g,f,a,b,Question.forced,newRow,grownCap]
 grind
 simp[Builtin.append_,l,d,run_underlying q,run_underlying m,I.sizeOf,I.typeInfo,I.zeroValue,h,p,g,f,a,b,Question.forced,newRow,grownCap]
 grind
theorem c5p{t2 ty:TypeId}(I:Info P e t')(j:ts[0]?=some t)(p:P.underlying t=some (.slice t'))(l:ts[1]?=some t2)(m:P.underlying t2=some (.int .i64))(d:0<e.cells)(o:0<n)(h:n<2147483648):
  (Builtin.append_ ts ty #[.slice none 0 0,.int .i64 (n:Int)]).run P w=.ok (.slice (some ⟨w.heap.size,0,none⟩) n (grownCap w n 0 t'))
   (w.drew.alloc (.cells (([]:List Value)++((Builtin.zeroCells I.z.cells n).toList++(Builtin.zeroCells I.z.cells (grownCap w n 0 t'-n)).toList)).toArray t')):=by
 have b:Builtin.nextslicecap n 0*I.i.bytes<=281474976710656:=growslice_fits o (by
  have:=a52 (a58 h) I.bytes
  omega)
 have hb:n*I.i.bytes<=281474976710656:=a30 (a52 (a58 h) I.bytes) (by simp);have f:¬ (281474976710656<Builtin.nextslicecap n 0*I.i.bytes):=by omega
 have k:¬ (9223372036854775807<(n:Int)):=by omega
 have q:IntKind.i64.wrap (n:Int)=n:=by
  grind[wrap,IntKind.bits]
 have g:¬ ((n:Int)<0):=by omega
 have a:¬ (281474976710656<(n:Int)*(I.i.bytes:Int)):=by omega
 have r:¬ (n*e.cells=0):=by grind[a63]
 have c:¬ (n=0):=by omega
 simp[Builtin.append_,j,l,run_underlying p,run_underlying m,I.sizeOf,I.typeInfo,I.zeroValue,asInt,asIntOf,q,g,a,r,c,f,k,Question.forced,newRow,grownCap,Builtin.firstCells];exact congrArg (fun X=>w.drew.alloc (Obj.cells X t')) (Array.ext' (by simp))
end
theorem d6t(x:e.sh=e){O R}(h:dec m (.list true e) ((Src.one v).rd m)=some (l,O,R)):
  (v=.slice none 0 0/\l=[]/\O=[]/\R=[])\/∃b n c,∃cs:List Value,v=.slice (some b) n c/\(c=0\/b.spot=none)/\n<=c/\n=l.length/\O=(if c=0 then[]else[(b.block,b.off+c*e.cells)])/\
   cs.length=n*e.cells/\(∀j u,cs[j]?=some u->m b.block (b.off+j)=some u)/\(∀u∈cs,a1A u=true)/\a0j (fun i=>dec m e fun j=>cs[i*e.cells+j]?) n 0=some (l,[],R):=by
 rcases a2a h with⟨hv,s,t,w⟩|⟨b,n,c,os,hv,hb,a,d,y⟩;simp_all[Src.rd];simp[Src.rd]at hv;have g:a0j (fun i=>dec m e fun j=>m b.block (b.off+(i*e.cells+j))) n 0=some (l,os,R):=by simp_all[b9H]
 have f:os=[]:=by
  have k:dec m (.arr n e) (fun j=>m b.block (b.off+j))=some (l,os,R):=g;exact b2g (by simp_all[Ty.shn]) k
 subst f;obtain⟨cs,o,p,q,r⟩:=b4P g;refine .inr ⟨b,n,c,cs,hv,hb,a,(a0W n 0 d).symm,?_,o,p,q,r⟩
 grind
theorem c3o{m0:Mem}{b:Addr}{c:Nat}{cs:List Value}{os R}(hb:c=0\/b.spot=none)(g:n<=c)(k:n*e.cells<=cs.length)(p:∀j u,j<n*e.cells->cs[j]?=some u->m b.block (b.off+j)=some u)(a:a0j (fun i=>dec m0 e fun j=>cs[i*e.cells+j]?) n 0=some (l,os,R))(o:∀c∈R,∀j,m c j=m0 c j)(d:∀c∈os.map (·.1),∀j,m c j=m0 c j:=by simp):
  dec m (.list true e) ((Src.one (.slice (some b) n c)).rd m)=some (l,if c=0 then[]else(b.block,b.off+c*e.cells)::os,R):=by
 have h:dec m (.arr n e) (fun j=>m b.block (b.off+j))=some (l,os,R):=a0y (.arr n e) (show dec m0 (.arr n e) (fun j=>cs[j]?)=_ from a) (fun j f=>by
  have f:j<n*e.cells:=f
  grind) (fun c j hb=>by
  grind)
 have h:a0j (fun i=>dec m e fun j=>m b.block (b.off+(i*e.cells+j))) n 0=some (l,os,R):=h;show a0Y m true e.cells (dec m e) (some (.slice (some b) n c))=_;simp only[a0Y];rw[if_pos ⟨hb,g⟩,h]
 simp
 split
 all_goals simp_all[a0j]
theorem c1v{m:Mem}:∀(p:a0C)(t:Ty)(s:Src){t' s'},loc m t s p=some (t',s')->p≠[]->∃b o,s'=.at b o
 | [],_,_,_,_,_,hp=>absurd rfl hp
 |.fst::p,t,s,t',s',h,_=>by
  obtain⟨a,g,bl,so,rfl,rfl,h⟩:=a7A h;cases p with
  |nil=>simp[a0U]at h;grind
  |cons x p=>exact c1v (x::p) _ _ h (by simp)
 |.snd::p,t,s,t',s',h,_=>by
  obtain⟨a,g,bl,so,rfl,rfl,h⟩:=a7B h;cases p with
  |nil=>simp[a0U]at h;grind
  |cons x p=>exact c1v (x::p) _ _ h (by simp)
 |.idx i::p,t,s,t',s',h,_=>by
  rcases a6n h with⟨n,k,bl,so,rfl,rfl,hi,h⟩|⟨k,a,n,c,rfl,f,hi,h⟩
  ·cases p with
   |nil=>simp[a0U]at h;grind
   |cons x p=>exact c1v (x::p) _ _ h (by simp)
  ·cases p with
   |nil=>simp[a0U]at h;grind
   |cons x p=>exact c1v (x::p) _ _ h (by simp)
theorem b0w(r:Option Root):(U.setRt n r).rt n=r:=by simp[AE.setRt]
section
variable {P:Program} {B:Base} {N:Nat} {Z:Type} {U:AE} {a:Act} {w:World} {M:Gh}
structure News (P:Program) (w:World) (m:Mem) (Sh:Nat->Prop) (e:Ty) (ys:List e.den) (x:Value) where
 cs:List Value
 len:(Builtin.lenOf x).run P w=.ok ys.length w
 size:cs.length=ys.length*e.cells
 one:∀u∈cs,a1A u=true
 R:List Nat
 rd:a0j (fun i=>dec m e fun j=>cs[i*e.cells+j]?) ys.length 0=some (ys,[],R)
 shr:∀c∈R,Sh c
 run:(Builtin.firstCells e.cells ys.length x).run P w=.ok cs.toArray w
 drew:(Builtin.firstCells e.cells ys.length x).run P w.drew=.ok cs.toArray w.drew
theorem Rel.turn{K:AE->Rs Z}{z:Z}{l':List e.den}{v':Value}{s O' R' O2 R2}(h:Rel B U N (a0o a) w M)(hN:a.tmps.size=N)(P:U.look n=some r)(hl:loc (a0a w M.ov) r.t (M.g n) p=some (.list true e,s))(hg:a0T r.t r.x p=⟨.list true e,l⟩)(hv:s.rd (a0a w M.ov) 0=some v)(hd:dec (a0a w M.ov) (.list true e) (s.rd (a0a w M.ov))=some (l,O',R'))(h0:∀q∈O',q∈M.ow n)(g7:∀b o,s=.at b o->b∉O'.map (·.1))(h4:dec (a0a w2 none) (.list true e) ((Src.one v').rd (a0a w2 none))=some (l',O2,R2))(g3:∀c j,a0a w2 none c j=a0a w none c j\/c∈O'.map (·.1)\/w.heap.size<=c)(H:∀c∈O2.map (·.1),c∈O'.map (·.1)\/w.heap.size<=c)(X:(O2.map (·.1)).Nodup)(A:∀p∈O2,a0Q w2 p.1 p.2)(y:∀c k,a0Q w c k->a0P M c->a0Q w2 c k)(L:w.heap.size<=w2.heap.size)(V:∀b,b<B.size->¬ B.F b->w2.heap[b]?=B.hp b)(Q:∀c∈R2,Shr B w M c)(D:(let u:=((U.mapv (AV.kill n p)).setRt n (some ⟨r.bx,r.t,a1T r.t r.x p (.list true e) l'⟩)).set d (.sref n p)
   match p,r.bx with
   | [],false=>bif decide (n<pinned)then K u else none
   |p,_=>match U.pd with
    |none=>K { u with pd:=some (n,p,d) }
    |some _=>none)=some z)(hio:a2n w2=a2n w:=by first|rfl|assumption):
  ∃u M',Rel B u N (a0o (a.put (some d) v')) w2 M'/\K u=some z:=by
 obtain⟨C,P⟩:=a0K P;have g9:=h.ov_none C;have E:∀c∈R2,c<w2.heap.size/\(B.S c\/B.F c\/B.size<=c)/\¬ a0P M c/\c∉O2.map (·.1):=fun c I=>by
  have hs:=Q c I;refine⟨a18 hs.1 L,hs.2.1,hs.2.2,fun g=>?_⟩;rcases H c g with g|g;obtain⟨q,hq,rfl⟩:=a08.1 g;exact hs.2.2 ⟨n,a00 (h0 q hq)⟩
  have:=hs.1;omega
 have top:p=[]->r.bx=false->∃u M',Rel B u N (a0o (a.put (some d) v')) w2 M'/\K u=some z:=by
  intro hp T;subst hp;obtain⟨bx,t,x⟩:=r;simp only at T;subst T;simp[a0T,a1j]at hg;cases hg;have D:(bif decide (n<pinned)then K (((U.mapv (AV.kill n [])).setRt n (some ⟨false,.list true e,a1T (.list true e) l [] (.list true e) l'⟩)).set d (.sref n []))else none)=some z:=D;obtain⟨Y,D⟩:=(a0f D).elim id fun h=>by grind
  have Y:n<pinned:=by simp_all
  have g4:a1T (.list true e) l [] (.list true e) l'=l':=c5k _ _ _;replace D:K (((U.mapv (AV.kill n [])).setRt n (some ⟨false,.list true e,l'⟩)).set d (.sref n []))=some z:=by
   simp_all
  have i:=h.top P Y C (w':=w2) (v':=v') (l':=l') (by grind) (fun c j I hn=>by
    grind) (fun c I=>(H c I).imp (fun g=>by
     grind) id) X A y L V E (f:=AV.kill n []) (fun av=>by
    cases av with
    |ptr m q=>
     simp only[AV.kill]
     by_cases hm:m=n
     ·subst hm;cases q with
      |nil=>simp
      |cons=>left;simp[a3H]
     simp_all
    |sref m q=>
     grind[AV.kill,a3H]
    |swin m q o k=>
     grind[AV.kill,a3H]
    |_=>exact .inr ⟨rfl,fun k q G _=>by rcases G with G|G|⟨_,_,G⟩<;>cases G⟩)
  refine⟨_,_,i.putd (sv:=.one (.sref n [])) (v:=v') hN (fun _=>⟨⟨false,.list true e,l'⟩,e,.one v',b0w _,?_,rfl⟩),D⟩;show some (_,if n=n then Src.one v' else _)=_
  simp
 have h8:(∃b o,s=.at b o)->K { (((U.mapv (AV.kill n p)).setRt n (some ⟨r.bx,r.t,a1T r.t r.x p (.list true e) l'⟩)).set d (.sref n p))with pd:=some (n,p,d) }=some z->
   ∃u M',Rel B u N (a0o (a.put (some d) v')) w2 M'/\K u=some z:=by
  rintro⟨b,o,rfl⟩ D
  have hb:=h.place P hl;have R:a0P M b:=⟨n,hb⟩;have g2:=h.lt R;have g0:b∉O2.map (·.1):=fun g=>by
   grind
  have g1:b∉R2:=fun g=>(Q b g).2.2 R;have h7:∀c j,c≠b->a0a w2 (some (b,o,v')) c j=a0a w2 none c j:=fun c j I=>by
   simp_all[a0a]
  have h5:dec (a0a w2 (some (b,o,v'))) (.list true e) ((Src.at b o).rd (a0a w2 (some (b,o,v'))))=some (l',O2,R2):=a0y _ h4 (fun j hj=>by
   simp_all[Ty.cells,Src.rd,a0a]) (fun c j I=>h7 c j fun e=>by
    simp_all)
  obtain⟨k1,k0,i⟩:=h.chg P hl hd (w':=w2) (ov':=some (b,o,v')) (pd':=some (n,p,d)) (.new d v' e C rfl) h5 (fun c j=>by
    by_cases I:c=b/\j=o
    simp_all[Ty.cells];have e1:a0a w2 (some (b,o,v')) c j=a0a w2 none c j:=by
     simp_all[a0a]
    grind) H X A y L V E (f:=AV.kill n p) (fun av=>b9K n p _ av)
  obtain⟨h9,h3,G,h2⟩:=i.pend;exact⟨_,_,i.putd (sv:=.one (.sref n p)) (v:=v') hN (fun _=>⟨h9,h3,.at b o,G,h2,by simp[Src.rd,a0a]⟩),D⟩
 cases p with
 |nil=>
  cases hb:r.bx with
  |false=>
   simp_all
  |true=>
   have O:(match U.pd with
    |none=>K { (((U.mapv (AV.kill n [])).setRt n (some ⟨r.bx,r.t,a1T r.t r.x [] (.list true e) l'⟩)).set d (.sref n []))with pd:=some (n,[],d) }
    |some _=>none)=some z:=by
    simp_all
   rw[C]at O;refine h8 ?_ O;simp[a0U]at hl;obtain⟨g5,g6,-,-,-,-,-,h6⟩:=h.sep P
   grind
 |cons x p=>
  have O:(match U.pd with
   |none=>K { (((U.mapv (AV.kill n (x::p))).setRt n (some ⟨r.bx,r.t,a1T r.t r.x (x::p) (.list true e) l'⟩)).set d (.sref n (x::p)))with pd:=some (n,x::p,d) }
   |some _=>none)=some z:=D
  grind[c1v]
end
section
variable {P:Program} {B:Base} {N:Nat} {Z:Type} {U:AE} {a:Act} {w:World} {M:Gh}
theorem a8H(b:Nat):∀(vs:List Value)(o:Nat)(w:World),a2n (w.setCells b o vs)=a2n w
 | [],_,_=>rfl
 |v::r,o,w=>(a8H b r (o+1) (w.setCell ⟨b,o,none⟩ v)).trans rfl
theorem b5J{z:Array Value}(n:Nat):Builtin.zeroCells z n=madeCells z (n*z.size):=rfl
theorem e0a(he:e.sh=e){ty:TypeId}(I:Info P e t')(h0:ts[0]?=some t)(H:P.underlying t=some (.slice t'))(h1:ts[1]?=none\/∃t2,ts[1]?=some t2/\(P.underlying t2=some .string\/∃e,P.underlying t2=some (.slice e))){K:AE->Rs Z}{z:Z}(h:Rel B U N (a0o a) w M)(hN:a.tmps.size=N)(h7:a0l (a0a w M.ov) M.g U.rt (Shr B w M) av s)(Y:News P w (a0a w M.ov) (Shr B w M) e ys x)(D:U.apnd q d e av ys K=some z):
  ∃v w' T M',(Builtin.append_ ts ty #[s,x]).run P w=.ok v w'/\Rel B T N (a0o (a.put (some d) v)) w' M'/\K T=some z:=by

 have k7:∀(l:List e.den)(n:Nat)(cs:List Value)(R:List Nat)(rest:List Value),cs.length=n*e.cells->a0j (fun i=>dec (a0a w M.ov) e fun j=>cs[i*e.cells+j]?) n 0=some (l,[],R)->
   a0j (fun i=>dec (a0a w M.ov) e fun j=>(cs++(Y.cs++rest)).toArray[i*e.cells+j]?) (n+ys.length) 0=some (a23 l ys,[],R++Y.R):=by
  intro l n cs R rest hl E;simp only[a22];exact b8j E hl Y.rd Y.size
 have a5:∀k,(Builtin.zeroCells I.z.cells k).size=k*e.cells:=fun k=>by rw[b5J,size_madeCells,I.zsize]
 have b8:∀A:Option Addr,s=.slice A 0 0->(bif lim ys.length then U.fresh q d ⟨false,.list true e,ys⟩ fun U=>K (U.set d (.sref d []))else none)=some z->
   ∃v w' T M',(Builtin.append_ ts ty #[s,x]).run P w=.ok v w'/\Rel B T N (a0o (a.put (some d) v)) w' M'/\K T=some z:=by
  intro A hs D;subst hs;obtain⟨h3,D⟩:lim ys.length=true/\_:=(a0f D).elim id fun h=>by grind
  simp[lim]at h3
  by_cases hk:ys.length=0
  ·have k8:Y.cs=[]:=a02.1 (by rw[Y.size,hk];omega);have hy:ys=[]:=a02.1 hk;have o:=a6y (P:=P) (w2:=w) (ty:=ty) I h0 H h1 (A:=A) (n:=0) (c:=0) Y.len Y.run (by omega) (fun b _=>by rw[k8];rfl) (fun _=>rfl);obtain⟨T,M',g1,g2,g3,g4,g5,g6⟩:=h.fresh D (fun _ _=>rfl) (a04 _) (s:=.one (.slice A (0+ys.length) 0)) (O:=[]) (by simp) (by simp) (by simp) ⟨[],[],by
    show a0Y (a0a w M.ov) true e.cells (dec (a0a w M.ov) e) (some (.slice A (0+ys.length) 0))=some (ys,[],[]);rw[hk,hy];cases A with
    |none=>rfl
    |some b=>rfl,by simp,.inr ⟨rfl,⟨_,rfl⟩,⟨e,rfl⟩,rfl⟩⟩
   exact⟨_,w,_,M',o,g2.putd (sv:=.one (.sref d [])) hN (fun _=>⟨_,e,_,g3,by rw[g4];rfl,rfl⟩),g1⟩
  have h5:(Builtin.firstCells e.cells 0 (.slice A 0 0)).run P w.drew=.ok ([]:List Value).toArray w.drew:=by
   have:=b2y (P:=P) (w:=w) (w2:=w.drew) (e:=e) (v:=.slice A 0 0) (cs:=[]) rfl (fun _=>rfl) (by simp) (by simp) (fun _=>rfl) 0 (by omega)
   simp_all
  have o:=b2j (P:=P) (w:=w) (ty:=ty) I h0 H h1 (A:=A) (n:=0) (c:=0) Y.len Y.drew h5 (by omega) (by omega);have hg:=grownCap_ge w (0+ys.length) 0 t';obtain⟨T,M',g1,g2,g3,-,-⟩:=h.newSlice (c:=grownCap w (0+ys.length) 0 t') D (fun c E=>a1I (w:=w.drew) _ c E) (a2b (w:=w.drew) _)
   (a1B (w:=w.drew) (Obj.cells (([]:List Value)++(Y.cs++(Builtin.zeroCells I.z.cells (grownCap w (0+ys.length) 0 t'-(0+ys.length))).toList)).toArray t')) (.inl rfl) (by
    have:(([]:List Value)++(Y.cs++(Builtin.zeroCells I.z.cells (grownCap w (0+ys.length) 0 t'-(0+ys.length))).toList)).length=grownCap w (0+ys.length) 0 t'*e.cells:=by
     simp only[a50,lN,Y.size,a41,a5];rw[<-a24];simp_all
    simp_all) (by omega) (by
    have:=k7 [] 0 [] [] (Builtin.zeroCells I.z.cells (grownCap w (0+ys.length) 0 t'-(0+ys.length))).toList (by simp) rfl
    simp_all) Y.shr
  refine⟨_,_,_,M',o,g2.putd (sv:=.one (.sref d [])) hN (fun _=>?_),g1⟩;rw[a16]at g3|-;exact g3
 unfold AE.apnd at D
 split at D
 have h7:s=.slice none 0 0:=h7;simp_all;obtain⟨A,hv⟩:=h7;simp_all
 ·rename_i n p;obtain⟨-,D⟩:q=false/\_:=by
   by_cases hq:q
   rw[hq]at D;simp at D;exact⟨by simp_all,(a0f D).elim (fun h=>absurd h.1 hq) (·.2)⟩
  split at D
  ·rename_i r hr;obtain⟨b5,b6⟩:=a0K hr;have g0:=h.ov_none b5
   split at D
   ·rename_i e' l hg
    split at D
    ·rename_i b0;subst b0;obtain⟨h3,D⟩:lim (a19 l+ys.length)=true/\_:=(a0f D).elim id fun h=>by grind
     simp[lim]at h3;obtain⟨s',O',R',f1,f2,f3,f4,f5,f6,f7,f8⟩:=h.own h7 b6 hg;have g7:∀c∈R'++Y.R,Shr B w M c:=fun c E=>(mA.1 E).elim (f5 c) (Y.shr c);have k5:∀c∈O'.map (·.1),a0P M c:=fun c E=>by
      obtain⟨q,hq,rfl⟩:=a08.1 E;exact⟨n,a00 (f6 q hq)⟩

     have g9:∀(A:Option Addr)(f c:Nat)(cs:List Value),s=.slice A f c->f=a19 l->cs.length=f*e.cells->(∀b,A=some b->∀j u,cs[j]?=some u->w.cell? (b.add j)=some u)->(A=none->f=0)->
       a0j (fun i=>dec (a0a w M.ov) e fun j=>cs[i*e.cells+j]?) f 0=some (l,[],R')->c<f+ys.length->
       ∃v w' T M',(Builtin.append_ ts ty #[s,x]).run P w=.ok v w'/\Rel B T N (a0o (a.put (some d) v)) w' M'/\K T=some z:=by
      intro A f c cs hs a3 F C k4 Q b3;subst hs;have h5:(Builtin.firstCells e.cells f (.slice A f c)).run P w.drew=.ok cs.toArray w.drew:=by
       have:=b2y (P:=P) (w:=w) (w2:=w.drew) (e:=e) (v:=.slice A f c) (cs:=cs) rfl (fun _=>rfl) F C k4 f (a04 _)
       grind
      have o:=b2j (P:=P) (w:=w) (ty:=ty) I h0 H h1 (A:=A) (n:=f) (c:=c) Y.len Y.drew h5 b3 (by omega);have k3:=grownCap_ge w (f+ys.length) c t';generalize hw2:w.drew.alloc _=w2 at o;generalize hgc:grownCap w (f+ys.length) c t'=gc at o k3;have h6:∀c,c<w.heap.size->w2.heap[c]?=w.heap[c]?:=fun c E=>by rw[<-hw2];exact a1I (w:=w.drew) _ c E
      have G:=a1B (w:=w.drew) (.cells (cs++(Y.cs++(Builtin.zeroCells I.z.cells (gc-(f+ys.length))).toList)).toArray t');have G:w2.heap[w.heap.size]?=some (.cells (cs++(Y.cs++(Builtin.zeroCells I.z.cells (gc-(f+ys.length))).toList)).toArray t'):=by
       rw[<-hw2,hgc];simp_all
      have a4:w.heap.size<=w2.heap.size:=by grind
      have k9:(cs++(Y.cs++(Builtin.zeroCells I.z.cells (gc-(f+ys.length))).toList)).length=gc*e.cells:=by
       simp[F,Y.size,a5];rw[<-a24,<-a24]
       grind
      have h2:=c3o (m:=a0a w2 none) (m0:=a0a w M.ov) (b:=⟨w.heap.size,0,none⟩) (n:=f+ys.length) (c:=gc) (cs:=cs++(Y.cs++(Builtin.zeroCells I.z.cells (gc-(f+ys.length))).toList)) (.inr rfl) k3 (by
        rw[k9];exact a26 _ k3) (fun j u _ H=>by
        simp only[a0a,a16,World.cell?,G]
        grind) (by
        have:=k7 l f cs R' (Builtin.zeroCells I.z.cells (gc-(f+ys.length))).toList F Q
        simpa only[a22]using this) (fun c E j=>by
        rw[g0];exact a1y none (h6 c (g7 c E).1) j)
      have a2:gc≠0:=by omega
      rw[if_neg a2]at h2;have k0:∀c k,a0Q w c k->a0Q w2 c k:=fun c k hf=>by
       obtain⟨cc,e1,lo,hi,g1,g2⟩:=hf;exact⟨cc,e1,lo,hi,by grind,g2⟩
      obtain⟨T,M',k1,k2⟩:=h.turn (w2:=w2) hN hr f1 hg f2 f3 f6 f8 h2 (fun c j=>by
        grind[a1y]) (fun c E=>by
        grind) (by simp) (fun p hp=>by
        simp only[List.mem_singleton]at hp;subst hp;exact⟨_,t',0,0,G,by grind,.inl rfl⟩) (fun c k hf _=>k0 c k hf) a4 (fun b hb hF=>by
        have:=h.size
        rw[h6 b (by omega)];exact h.frame b hb hF) g7 D (hio:=by rw[<-hw2];rfl)
      grind
     rcases d6t he f4 with⟨hs,b4,b9,a7⟩|⟨b,f,c,cs,hs,hb,c1,a3,hO,F,C,b7,Q⟩
     by_cases hk:ys.length=0
     have k8:Y.cs=[]:=a02.1 (by rw[Y.size,hk];omega);have hy:ys=[]:=a02.1 hk;have o:=a6y (P:=P) (w2:=w) (ty:=ty) I h0 H h1 (A:=none) (n:=0) (c:=0) Y.len Y.run (by omega) (fun b hb=>by grind) (fun _=>rfl);subst hs;obtain⟨T,M',k1,k2⟩:=h.turn (w2:=w) (v':=.slice none (0+ys.length) 0) (O2:=[]) (R2:=[]) (l':=a23 l ys) hN hr f1 hg f2 f3 f6 f8 (by
       grind[a23]) (fun c j=>.inl rfl) (by simp) (by simp) (by simp) (fun _ _ hf _=>hf) (a04 _) h.frame (by simp) D
     grind
     exact g9 none 0 0 [] hs (by grind) (by simp) (by simp) (fun _=>rfl) (by rw[b4,a7];rfl) (by omega)
     ·have h8:∀b',some b=some b'->∀j u,cs[j]?=some u->w.cell? (b'.add j)=some u:=fun b' V j u H=>by
       simp at V;subst V;have a9:c≠0:=fun e0=>by
        grind
       rw[b6l (hb.resolve_left a9)]
       have:=C j u H
       rw[g0]at this;exact this
      by_cases hfit:f+ys.length<=c
      ·
       let w2:=w.setCells b.block (b.off+f*e.cells) Y.cs
       have h4:c≠0->a0Q w b.block (b.off+c*e.cells):=fun E=>h.live n (b.block,b.off+c*e.cells) (f6 _ (by grind));have k6:Y.cs≠[]->c≠0/\b.off+f*e.cells+Y.cs.length<=b.off+c*e.cells:=fun y=>by
        have:ys.length≠0:=fun e0=>y (a02.1 (by rw[Y.size,e0];omega))
        refine⟨by omega,?_⟩
        have:=a26 e.cells hfit
        rw[a24,<-Y.size]at this;omega
       have a6:(storeCells (b.add (f*e.cells)) Y.cs).run P w=.ok () w2:=by
        by_cases y:Y.cs=[]
        simp[w2,y];rfl;obtain⟨E,c0⟩:=k6 y;rw[a3N (hb.resolve_left E)]
        have:=run_storeCells_cells (P:=P) b.block (b.off+f*e.cells) Y.cs 0 w (fun j hj=>((h4 E).cell (by omega)).1) (fun j hj=>((h4 E).cell (by omega)).2) (fun u H=>a9r (Y.one u H))
        omega
       have h9:∀L j,w2.cell? ⟨L,j,none⟩=if L=b.block/\b.off+f*e.cells<=j/\j<b.off+f*e.cells+Y.cs.length then Y.cs[j-(b.off+f*e.cells)]? else w.cell? ⟨L,j,none⟩:=fun L j=>by
        by_cases y:Y.cs=[]
        simp only[w2,y,World.setCells,a40]
        grind
        grind[a8G]
       have o:=a6y (P:=P) (w2:=w2) (ty:=ty) I h0 H h1 (A:=some b) (n:=f) (c:=c) Y.len Y.run hfit (fun b' V=>by
        grind) (fun hn=>by grind)
       have S:∀L,L≠b.block->w2.heap[L]?=w.heap[L]?:=fun L X=>a4r _ _ _ _ _ X;have a8:Y.cs≠[]->b.block∈O'.map (·.1):=fun y=>by grind
       have h2:=c3o (m:=a0a w2 none) (m0:=a0a w M.ov) (b:=b) (n:=f+ys.length) (c:=c) (cs:=cs++(Y.cs++[])) (l:=a23 l ys) (R:=R'++Y.R) hb hfit (by
         simp only[lN,F,Y.size,a40]
         grind) (fun j u hj H=>by
         simp only[a0a,h9]
         by_cases hj2:j<f*e.cells
         rw[if_neg (by omega)];rw[a03 (by omega)]at H
         have:=C j u H
         rw[g0]at this;exact this;rw[a24,<-Y.size]at hj;rw[if_pos ⟨trivial,by omega,by omega⟩];rw[a15 (by omega),a64,F]at H;rw[<-H];congr 1;omega) (by
         have:=k7 l f cs R' [] F Q
         simpa only[a22]using this) (fun L X j=>by
         rw[g0]
         by_cases y:Y.cs=[]
         grind[World.setCells]
         exact a1y none (S L fun e1=>(g7 L X).2.2 (by grind)) j)
       rw[<-hO]at h2;subst hs;obtain⟨T,M',k1,k2⟩:=h.turn (w2:=w2) hN hr f1 hg f2 f3 f6 f8 h2 (fun L j=>by
         grind[World.setCells,a1y]) (fun L X=>.inl X) f7 (fun p hp=>(h.live n p (f6 p hp)).setCells _ _ _) (fun _ _ hf _=>hf.setCells _ _ _) (by rw[a6o];simp) (fun b' V hF=>by
         by_cases y:Y.cs=[]
         simp[w2,y,World.setCells];exact h.frame b' V hF
         ·rw[S b' ?_];exact h.frame b' V hF
          ·rintro rfl
           rcases h.mine _ (k5 _ (a8 y))with g|g
           all_goals grind) g7 D (hio:=a8H _ _ _ _)
       grind
      exact g9 (some b) f c cs hs a3 F h8 (by simp) Q (by omega)
    simp_all
   simp_all
  simp_all
 simp_all
end
theorem d6u{O R}(h:dec m (.list true e) ((Src.one v).rd m)=some (l,O,R)):
  ∃A n c,∃cs:List Value,∃os,v=.slice A n c/\n=l.length/\n<=c/\cs.length=n*e.cells/\(∀u∈cs,a1A u=true)/\a0j (fun i=>dec m e fun j=>cs[i*e.cells+j]?) n 0=some (l,os,R)/\
   (∀b,A=some b->(c=0\/b.spot=none)/\O=(if c=0 then[]else(b.block,b.off+c*e.cells)::os)/\∀j u,cs[j]?=some u->m b.block (b.off+j)=some u)/\(A=none->c=0)/\(c=0->O=[]/\os=[]/\R=[]):=by
 rcases a2a h with⟨hv,rfl,rfl,rfl⟩|⟨b,n,c,os,hv,hb,o,p,x⟩;simp[Src.rd]at hv;exact⟨none,0,0,[],[],hv,rfl,a04 _,by simp,by simp,rfl,by simp,fun _=>rfl,fun _=>⟨rfl,rfl,rfl⟩⟩;simp[Src.rd]at hv;have k:a0j (fun i=>dec m e fun j=>m b.block (b.off+(i*e.cells+j))) n 0=some (l,os,R):=by simp_all[b9H]
 obtain⟨cs,q,y,r,s⟩:=b4P k;have a:c=0->os=[]/\R=[]:=fun f=>by
  simp_all[a0j]
 have w:O=if c=0 then[]else(b.block,b.off+c*e.cells)::os:=by
  grind
 exact⟨some b,n,c,cs,os,hv,(a0W n 0 p).symm,o,q,r,s,fun t d=>by
  simp_all,fun g=>(by grind),fun f=>⟨by simp_all,(a f).1,(a f).2⟩⟩
section
variable {P:Program} {B:Base} {N:Nat} {Z:Type} {U:AE} {a:Act} {w:World} {M:Gh}
theorem Rel.one{tm}(h:Rel B U N tm w M){n}(b:U.rt n=some ⟨false,.list true e,l⟩):
  ∃v R,M.g n=.one v/\dec (a0a w M.ov) (.list true e) ((Src.one v).rd (a0a w M.ov))=some (l,M.ow n,R)/\∀c∈R,Shr B w M c:=by
 obtain⟨d,R,f,k,-,-,-,a⟩:=h.sep b;rcases a with⟨g,-⟩|⟨-,⟨v,hv⟩,-,hO⟩
 grind
 rw[hv]at f;exact⟨v,R,hv,by rw[hO];exact f,k⟩
theorem c6z{m:Nat}{es:Ty}(d7:e.sh=es){ty:TypeId}(I:Info P es t')(h0:ts[0]?=some t)(hu:P.underlying t=some (.slice t'))(h1:ts[1]?=none\/∃t2,ts[1]?=some t2/\(P.underlying t2=some .string\/∃e,P.underlying t2=some (.slice e))){K:AE->Rs Z}{z:Z}(h:Rel B U N (a0o a) w M)(hN:a.tmps.size=N)(d9:M.g n=.one s)(d8:M.g m=.one x)(hm:U.rt m=some ⟨false,.list true e,ys⟩)(hz:U.gathN d m e ys n K=some z):
  ∃v w' U' M',(Builtin.append_ ts ty #[s,x]).run P w=.ok v w'/\Rel B U' N (a0o (a.put (some d) v)) w' M'/\K U'=some z:=by
 have a7:es.cells=e.cells:=by rw[<-d7,Ty.cells_sh]
 unfold AE.gathN at hz
 split at hz
 rotate_left;cases hz;rename_i e' l hl
 split at hz
 rotate_left;cases hz;rename_i d6;subst d6;obtain⟨c5,hr⟩:=a0K hl;obtain⟨C,hz⟩:=(a0f hz).elim id fun h=>by cases h.2
 simp only[bA9,lim,dT,a46,beq_eq_false_iff_ne]at C;obtain⟨⟨f0,Y⟩,hlim⟩:=C;have h8:=h.ov_none c5;obtain⟨s',Rn,g1,g2,g3⟩:=h.one hr;rw[d9]at g1;cases g1;obtain⟨x',Rm,f1,f2,f3⟩:=h.one hm;rw[d8]at f1;cases f1;obtain⟨An,Q,cn,h9,h6,hs,e6,e9,k3,f9,f5,a4,g4,k4⟩:=d6u g2;obtain⟨Am,k0,cm,r,h5,hx,e5,c4,V,f6,c6,g7,h7,b4⟩:=d6u f2;subst hs;subst hx;have cell:∀{A:Option Addr}{cs:List Value}{c:Nat}{O os:a1k},(∀b,A=some b->(c=0\/b.spot=none)/\O=(if c=0 then[]else(b.block,b.off+c*e.cells)::os)/\∀j u,cs[j]?=some u->a0a w M.ov b.block (b.off+j)=some u)->(∃n,cs.length=n*e.cells/\n<=c)->
   ∀b,A=some b->∀j u,cs[j]?=some u->w.cell? (b.add j)=some u:=fun {A cs c O os} hA ⟨n,hl,k6⟩ b hb j u hu=>by
  obtain⟨q1,-,q2⟩:=hA b hb;have a6:c≠0:=fun e0=>by
   have:=(lS.1 hu).1
   rw[hl,show n=0 from by omega,Nat.zero_mul]at this;omega
  rw[b6l (q1.resolve_left a6)]
  have:=q2 j u hu
  rw[h8]at this;exact this
 have g6:∀(w2:World),(∀x,w2.cell? x=w.cell? x)->∀{A:Option Addr}{cs:List Value}{n c:Nat}{O os:a1k},(∀b,A=some b->(c=0\/b.spot=none)/\O=(if c=0 then[]else(b.block,b.off+c*e.cells)::os)/\∀j u,cs[j]?=some u->a0a w M.ov b.block (b.off+j)=some u)->
   cs.length=n*e.cells->n<=c->(A=none->c=0)->(Builtin.firstCells es.cells n (.slice A n c)).run P w2=.ok cs.toArray w2:=fun w2 hw A cs n c O os hA hl k6 h0=>by
  have:=b2y (P:=P) (w:=w) (w2:=w2) (e:=e) (v:=.slice A n c) rfl hw hl (cell hA ⟨n,hl,k6⟩) (fun g=>by have:=h0 g;omega) n (a04 _)
  rw[<-hl,a61]at this;rw[a7];exact this
 have k7:(Builtin.lenOf (.slice Am k0 cm)).run P w=.ok k0 w:=rfl;have k9:∀rest,a0j (fun i=>dec (a0a w M.ov) e fun j=>(h9++(r++rest))[i*e.cells+j]?) (Q+k0) 0=some (a23 l ys,h6++h5,Rn++Rm):=fun rest=>b8j f5 k3 c6 V;have a3:∀p∈h6,p∈M.ow n:=fun p hp=>by
  by_cases e0:cn=0
  rw[(k4 e0).2.1]at hp;cases hp
  ·cases hA:An with
   |none=>exact absurd (g4 hA) e0
   |some b=>rw[(a4 b hA).2.1,if_neg e0];exact a01 _ hp
 have h4:∀p∈h5,p∈M.ow m:=fun p hp=>by
  by_cases e0:cm=0
  rw[(b4 e0).2.1]at hp;cases hp
  ·cases hA:Am with
   |none=>exact absurd (h7 hA) e0
   |some b=>rw[(g7 b hA).2.1,if_neg e0];exact a01 _ hp
 have b0:∀p∈h6++h5,p∈M.ow n\/p∈M.ow m:=fun p hp=>(mA.1 hp).imp (a3 p) (h4 p);have b6:∀c∈(h6++h5).map (·.1),a0P M c:=fun c C=>by
  obtain⟨p,hp,rfl⟩:=a08.1 C;rcases b0 p hp with g|g;exact⟨n,a00 g⟩;exact⟨m,a00 g⟩
 have d2:(h6.map (·.1)).Nodup:=by
  have:=h.nodup n
  by_cases e0:cn=0
  rw[(k4 e0).2.1];simp
  ·cases hA:An with
   |none=>exact absurd (g4 hA) e0
   |some b=>rw[(a4 b hA).2.1,if_neg e0]at this;exact(a05.1 this).2
 have d1:(h5.map (·.1)).Nodup:=by
  have:=h.nodup m
  by_cases e0:cm=0
  rw[(b4 e0).2.1];simp
  ·cases hA:Am with
   |none=>exact absurd (h7 hA) e0
   |some b=>rw[(g7 b hA).2.1,if_neg e0]at this;exact(a05.1 this).2
 have d0:((h6++h5).map (·.1)).Nodup:=by
  rw[pA];refine a20.2 ⟨d2,d1,fun c C H L e=>?_⟩;subst e;obtain⟨p,hp,rfl⟩:=a08.1 C;obtain⟨p',f4,e⟩:=a08.1 L;exact h.disj n m Y p.1 (a00 (a3 p hp)) (by rw[<-e];exact a00 (h4 p' f4))
 have a2:∀c∈Rn++Rm,Shr B w M c:=fun c C=>(mA.1 C).elim (g3 c) (f3 c)

 have b8:∀{w2:World}{v':Value}{O2:a1k},dec (a0a w2 none) (.list true e) ((Src.one v').rd (a0a w2 none))=some (a23 l ys,O2,Rn++Rm)->
   (∀c j,c<w.heap.size->c∉(M.ow n).map (·.1)->a0a w2 none c j=a0a w none c j)->(∀c∈O2.map (·.1),(c∈(M.ow n).map (·.1)\/c∈(M.ow m).map (·.1))\/w.heap.size<=c)->(O2.map (·.1)).Nodup->
   (∀p∈O2,a0Q w2 p.1 p.2)->(∀c k,a0Q w c k->a0P M c->a0Q w2 c k)->w.heap.size<=w2.heap.size->(∀b,b<B.size->¬ B.F b->w2.heap[b]?=B.hp b)->a2n w2=a2n w->
   ∃U' M',Rel B U' N (a0o (a.put (some d) v')) w2 M'/\K U'=some z:=by
  intro w2 v' O2 q1 q2 q3 q4 q5 q6 q7 q8 q9;have b7:=h.topG (w':=w2) (v':=v') (l':=a23 l ys) (O2:=O2) (R2:=Rn++Rm) (G:=fun j=>j==m) hr f0 c5 (by simpa using Y) (by rw[h8];exact q1) (fun c j c1 c2 _=>by rw[h8];exact q2 c j c1 c2)
   (fun c C=>(q3 c C).imp (fun g=>g.imp id fun g=>⟨m,by simp,g⟩) id) q4 q5 q6 q7 q8 (fun c C=>by
    have hs:=a2 c C;refine⟨a18 hs.1 q7,hs.2.1,hs.2.2,fun g=>?_⟩;rcases q3 c g with(g|g)|g;exact hs.2.2 ⟨n,g⟩;exact hs.2.2 ⟨m,g⟩
    have:=hs.1;omega) (f:=fun av=>(av.kill n []).drop m) (fun av=>by
    have same:(∀k q,(av=.ptr k q\/av=.sref k q\/∃o l,av=.swin k q o l)->False)->(av.kill n []).drop m=av->(av.kill n []).drop m=.dead\/((av.kill n []).drop m=av/\∀k q,(av=.ptr k q\/av=.sref k q\/∃o l,av=.swin k q o l)->(k=n->av=.ptr n [])/\(k==m)=false):=
     fun h1 h2=>.inr ⟨h2,fun k q hk=>(h1 k q hk).elim⟩
    cases av with
    |sref k q=>
     by_cases D:k=n
     left;simp[AV.kill,AV.drop,D,a3H]
     by_cases e2:k=m
     left;simp[AV.kill,AV.drop,e2,Ne.symm Y];right;simp[AV.kill,AV.drop,D,e2]
    |swin k q o l=>
     by_cases D:k=n
     left;simp[AV.kill,AV.drop,D,a3H]
     by_cases e2:k=m
     left;simp[AV.kill,AV.drop,e2,Ne.symm Y];right;simp[AV.kill,AV.drop,D,e2]
    |ptr k q=>
     by_cases e2:k=m
     left
     by_cases D:k=n
     exact absurd (D.symm.trans e2) Y;simp[AV.kill,AV.drop,e2,Ne.symm Y]
     ·by_cases D:k=n
      ·cases q with
       |nil=>right;simp[AV.kill,AV.drop,D,Y,a3H]
       |cons=>left;simp[AV.kill,AV.drop,D,a3H]
      right;simp[AV.kill,AV.drop,D,e2]
    |_=>exact same (by rintro k q (g|g|⟨_,_,g⟩)<;>cases g) rfl) q9
  have d4:(⟨(U.mapv fun av=>(av.kill n []).drop m).sl,fun j=>if j=n then some ⟨false,.list true e,a23 l ys⟩else bif j==m then none else U.rt j,none⟩:AE) =
    (((U.mapv (AV.kill n [])).mapv (AV.drop m)).setRt m none).setRt n (some ⟨false,.list true e,a23 l ys⟩):=by
   simp only[AE.setRt,AE.mapv,c5];congr 1;funext j;cases U.sl j<;>simp[SV.mapv];funext j
   by_cases D:j=n
   simp[D];have e2:(j==n)=false:=by simpa using D
   simp[D,e2]
  rw[d4]at b7;refine⟨_,_,b7.putd (sv:=.one (.sref n [])) (v:=v') hN (fun _=>⟨_,e,.one v',b0w _,?_,rfl⟩),hz⟩;show some (_,if n=n then Src.one v' else _)=_
  rw[if_pos rfl]
 by_cases hfit:Q+k0<=cn
 ·cases hA:An with
  |none=>
   have a6:=g4 hA;have c3:k0=0:=by omega
   have c9:Q=0:=by omega
   have e4:a23 l ys=[]:=by
    have D:l=[]:=a02.1 (by omega);have e2:ys=[]:=a02.1 (by omega);rw[D,e2];rfl
   have f8:r=[]:=a02.1 (by rw[V,c3];omega);have d5:Rm=[]:=by
    subst c3;simp only[a0j,sj,pJ]at c6;exact c6.2.2.symm
   have T:=a6y (P:=P) (w:=w) (w2:=w) (ty:=ty) (A:=none) (n:=Q) (c:=cn) (k:=k0) (new:=r) I h0 hu h1 k7 (g6 w (fun _=>rfl) g7 V c4 h7) hfit (fun b hb=>by cases hb) (fun _=>rfl);obtain⟨U',M',k1,k2⟩:=b8 (w2:=w) (v':=.slice none (Q+k0) cn) (O2:=[]) (by
    rw[e4,c3,c9,a6,(k4 a6).2.2,d5];rfl) (fun _ _ _ _=>rfl) (by simp) (by simp) (by simp) (fun _ _ hf _=>hf) (a04 _) h.frame rfl
   exact⟨_,w,U',M',T,k1,k2⟩
  |some b=>
   obtain⟨hb,hO,b9⟩:=a4 b hA;obtain⟨w2,E⟩:∃w2,w2=w.setCells b.block (b.off+Q*e.cells) r:=⟨_,rfl⟩;have g0:cn≠0->a0Q w b.block (b.off+cn*e.cells):=fun C=>h.live n (b.block,b.off+cn*e.cells) (by rw[hO,if_neg C];simp);have h3:r≠[]->cn≠0/\b.off+Q*e.cells+r.length<=b.off+cn*e.cells:=fun y=>by
    have:k0≠0:=fun e0=>y (a02.1 (by rw[V,e0];omega))
    refine⟨by omega,?_⟩
    have:=a26 e.cells hfit
    rw[a24,<-V]at this;omega
   have b3:(storeCells (b.add (Q*es.cells)) r).run P w=.ok () w2:=by
    rw[a7,E]
    by_cases y:r=[]
    simp only[y];rfl;obtain⟨C,k6⟩:=h3 y;rw[a3N (hb.resolve_left C)]
    have:=run_storeCells_cells (P:=P) b.block (b.off+Q*e.cells) r 0 w (fun j hj=>((g0 C).cell (by omega)).1) (fun j hj=>((g0 C).cell (by omega)).2) (fun u hu=>a9r (f6 u hu))
    simpa using this
   have a8:∀H j,w2.cell? ⟨H,j,none⟩=if H=b.block/\b.off+Q*e.cells<=j/\j<b.off+Q*e.cells+r.length then r[j-(b.off+Q*e.cells)]? else w.cell? ⟨H,j,none⟩:=fun H j=>by
    rw[E]
    by_cases y:r=[]
    simp only[y,World.setCells,a40];rw[if_neg (by omega)];obtain⟨C,k6⟩:=h3 y;exact a8G _ _ _ w _ (g0 C) k6 H j
   have T:=a6y (P:=P) (w:=w) (w2:=w2) (ty:=ty) (A:=some b) (n:=Q) (c:=cn) (k:=k0) (new:=r) I h0 hu h1 k7 (g6 w (fun _=>rfl) g7 V c4 h7) hfit (fun b' g9=>by
    simp only[sj]at g9;subst g9;exact b3) (fun hn=>by cases hn)
   have g5:∀H,H≠b.block->w2.heap[H]?=w.heap[H]?:=fun H L=>by rw[E];exact a4r _ _ _ _ _ L
   have a5:r≠[]->b.block∈(M.ow n).map (·.1):=fun y=>by rw[hO,if_neg (h3 y).1];simp
   have k8:∀H,(r≠[]->H≠b.block)->∀j,a0a w2 none H j=a0a w M.ov H j:=fun H L j=>by
    rw[h8]
    by_cases y:r=[]
    rw[E,y];rfl;exact a1y none (g5 H (L y)) j
   have a9:=c3o (m:=a0a w2 none) (m0:=a0a w M.ov) (b:=b) (n:=Q+k0) (c:=cn) (cs:=h9++(r++[])) (l:=a23 l ys) (os:=h6++h5) (R:=Rn++Rm) hb hfit (by
     simp only[lN,k3,V,a40];rw[a24];omega) (fun j u hj hu=>by
     simp only[a0a,a8]
     by_cases hj2:j<Q*e.cells
     rw[if_neg (by omega)];rw[a03 (by omega)]at hu
     have:=b9 j u hu
     rw[h8]at this;exact this;rw[a24,<-V]at hj;rw[if_pos ⟨trivial,by omega,by omega⟩];rw[a15 (by omega),a64,k3]at hu;rw[<-hu];congr 1;omega) (k9 []) (fun H L j=>k8 H (fun y D=>(a2 H L).2.2 ⟨n,by rw[D];exact a5 y⟩) j) (fun H L j=>k8 H (fun y D=>by
     obtain⟨p,hp,rfl⟩:=a08.1 L;rcases mA.1 hp with hp|hp
     have:=h.nodup n
     rw[hO,if_neg (h3 y).1,a07,a05]at this;exact this.1 (by show b.block∈_;rw[<-D];exact a00 hp);exact h.disj n m Y b.block (a5 y) (by rw[<-D];exact a00 (h4 p hp))) j)
   have c7:∀p∈(if cn=0 then[]else(b.block,b.off+cn*e.cells)::(h6++h5)),p∈M.ow n\/p∈M.ow m:=fun p hp=>by
    split at hp
    cases hp;rename_i C;rcases mC.1 hp with rfl|hp;left;rw[hO,if_neg C];simp;exact b0 p hp
   obtain⟨U',M',k1,k2⟩:=b8 (w2:=w2) a9 (fun H j L e7=>by
     have:=k8 H (fun y D=>e7 (by rw[D];exact a5 y)) j
     rw[h8]at this;exact this) (fun H L=>by
     obtain⟨p,hp,rfl⟩:=a08.1 L;exact .inl ((c7 p hp).imp a00 a00)) (by
     split
     simp
     rename_i C;rw[a07,a05];refine⟨fun g=>?_,d0⟩;obtain⟨p,hp,D⟩:=a08.1 g;have D:p.1=b.block:=D;rcases mA.1 hp with hp|hp
     have:=h.nodup n
     rw[hO,if_neg C,a07,a05]at this;exact this.1 (by show b.block∈_;rw[<-D];exact a00 hp);exact h.disj n m Y b.block (by rw[hO,if_neg C];simp) (by rw[<-D];exact a00 (h4 p hp))) (fun p hp=>by
     have:a0Q w p.1 p.2:=(c7 p hp).elim (h.live n p) (h.live m p)
     rw[E];exact this.setCells _ _ _) (fun _ _ hf _=>by rw[E];exact hf.setCells _ _ _) (by rw[E,a6o];exact a04 _) (fun b' g9 hF=>by
     by_cases y:r=[]
     rw[E,y];exact h.frame b' g9 hF;rw[g5 b' ?_];exact h.frame b' g9 hF
     rintro rfl
     rcases h.mine _ ⟨n,a5 y⟩with g|g;exact hF g;omega) (by rw[E];exact a8H _ _ _ _)
   exact⟨_,w2,U',M',T,k1,k2⟩
 have e3:cn<Q+k0:=by omega
 have T:=b2j (P:=P) (w:=w) (ty:=ty) (A:=An) (n:=Q) (c:=cn) (k:=k0) (old:=h9) (new:=r) I h0 hu h1 k7 (g6 w.drew (fun _=>rfl) g7 V c4 h7) (g6 w.drew (fun _=>rfl) a4 k3 e9 g4) e3 (by rw[e6,e5];exact hlim);have c0:=grownCap_ge w (Q+k0) cn t';generalize E:w.drew.alloc _=w2 at T;generalize hgc:grownCap w (Q+k0) cn t'=gc at T c0;have S:∀c,c<w.heap.size->w2.heap[c]?=w.heap[c]?:=fun c C=>by rw[<-E];exact a1I (w:=w.drew) _ c C
 have X:=a1B (w:=w.drew) (.cells (h9++(r++(Builtin.zeroCells I.z.cells (gc-(Q+k0))).toList)).toArray t');have X:w2.heap[w.heap.size]?=some (.cells (h9++(r++(Builtin.zeroCells I.z.cells (gc-(Q+k0))).toList)).toArray t'):=by
  rw[<-E,hgc];exact X
 have d3:w.heap.size<=w2.heap.size:=by rw[<-E];exact a2b (w:=w.drew) _
 have f7:∀k,(Builtin.zeroCells I.z.cells k).size=k*e.cells:=fun k=>by rw[b5J,size_madeCells,I.zsize,a7]
 have b5:(h9++(r++(Builtin.zeroCells I.z.cells (gc-(Q+k0))).toList)).length=gc*e.cells:=by
  simp only[lN,k3,V,a41,f7];rw[<-a24,<-a24];congr 1;omega
 have a9:=c3o (m:=a0a w2 none) (m0:=a0a w M.ov) (b:=⟨w.heap.size,0,none⟩) (n:=Q+k0) (c:=gc) (cs:=h9++(r++(Builtin.zeroCells I.z.cells (gc-(Q+k0))).toList)) (os:=h6++h5) (.inr rfl) c0 (by
   rw[b5];exact a26 _ c0) (fun j u _ hu=>by
   simp only[a0a,a16,World.cell?,X];simpa using hu) (k9 _) (fun c C j=>by
   rw[h8];exact a1y none (S c (a2 c C).1) j) (fun c C j=>by
   rw[h8];exact a1y none (S c (h.lt (b6 c C))) j)
 have c8:gc≠0:=by omega
 rw[if_neg c8]at a9;have k5:∀c k,a0Q w c k->a0Q w2 c k:=fun c k hf=>by
  obtain⟨cc,D,lo,hi,g1,g2⟩:=hf;exact⟨cc,D,lo,hi,by rw[S c (a43.1 g1).1];exact g1,g2⟩
 obtain⟨U',M',k1,k2⟩:=b8 (w2:=w2) a9 (fun c j C _=>a1y none (S c C) j) (fun c C=>by
   rw[a07,mC]at C;rcases C with C|C;exact .inr (by have C:c=w.heap.size:=C;omega);obtain⟨p,hp,rfl⟩:=a08.1 C;exact .inl ((b0 p hp).imp a00 a00)) (by
   rw[a07,a05];refine⟨fun g=>?_,d0⟩
   have:=h.lt (b6 _ g)
   exact absurd this (Nat.lt_irrefl _)) (fun p hp=>by
   rcases mC.1 hp with rfl|hp;exact⟨_,t',0,0,X,by show 0+gc*e.cells<=_;rw[a59,b5];omega,.inl rfl⟩;exact k5 _ _ ((b0 p hp).elim (h.live n p) (h.live m p))) (fun c k hf _=>k5 c k hf) d3 (fun b hb hF=>by
   have:=h.size
   rw[S b (by omega)];exact h.frame b hb hF) (by rw[<-E];rfl)
 exact⟨_,w2,U',M',by rw[<-a7]at *;exact T,k1,k2⟩
theorem e0b{m:Nat}{y:Operand}{q:a0C}(h:U.opd y=.sref m q)(g:d≠m):(U.newRt d r).opd y=.sref m q:=by
 unfold AE.newRt;split;exact h
 ·cases y with
  |tmp t=>
   have e:(m==d)=false:=by grind
   simp[AE.opd,AE.get,AE.setRt,AE.mapv]at h|-
   grind[SV.mapv,AV.drop]
  |_=>exact h
theorem Rel.top1{tm}(h:Rel B U N tm w M){k:Nat}(a:U.rt k=some r)(hb:r.bx=false)(hv:a0l (a0a w M.ov) M.g U.rt (Shr B w M) (.sref k []) v):M.g k=.one v:=by
 obtain⟨l,j,s',b,c,e⟩:=hv;rw[a]at b;cases b;simp[a0U]at c;obtain⟨i,R,-,-,d⟩:=(h.roots k r a).rd;rcases d with⟨g,-⟩|⟨-,⟨m,f⟩,-⟩;simp_all;rw[<-c.2,f]at e;simp_all[Src.rd]
theorem e0c{m:Nat}{es:Ty}(c:e.sh=es){ty:TypeId}(I:Info P es t')(A:ts[0]?=some t)(E:P.underlying t=some (.slice t'))(C:ts[1]?=none\/∃t2,ts[1]?=some t2/\(P.underlying t2=some .string\/∃e,P.underlying t2=some (.slice e))){y:Operand}{K:AE->Rs Z}{z:Z}(h:Rel B U N (a0o a) w M)(D:a.tmps.size=N)(k:a0l (a0a w M.ov) M.g U.rt (Shr B w M) av s)(p:a1m N y=true)(G:U.opd y=.sref m [])(i:U.look m=some ⟨false,.list true e,ys⟩)(f:U.gath d m e ys av K=some z):
  ∃v w' U' M',(Builtin.append_ ts ty #[s,a.eval y]).run P w=.ok v w'/\Rel B U' N (a0o (a.put (some d) v)) w' M'/\K U'=some z:=by
 obtain⟨R,i⟩:=a0K i;unfold AE.gath at f
 split at f
 have k:s=.slice none 0 0:=k;subst k;rcases a0f f with⟨-,g⟩|⟨b,f⟩;cases g;have b:d≠m:=by simpa using b
 obtain⟨H,V,S,u,Y,T,k5,x⟩:=h.fresh f (fun _ _=>rfl) (a04 _) (s:=.one (.slice none 0 0)) (O:=[]) (by simp) (by simp) (by simp) ⟨[],[],rfl,by simp,.inr ⟨rfl,⟨_,rfl⟩,⟨e,rfl⟩,rfl⟩⟩;have j:H.rt m=some ⟨false,.list true e,ys⟩:=by
  have L:(m==d)=false:=by simpa using Ne.symm b
  rw[x];unfold AE.newRt
  split<;>simp[AE.setRt,AE.mapv,L,i]
 have o:=u.opd p;rw[x,e0b G b,<-x]at o;exact c6z c I A E C u D T (u.top1 j rfl o) j S;rename_i n;have F:=h.opd p;rw[G]at F;have r:∃l,U.rt n=some ⟨false,.list true e,l⟩:=by
  unfold AE.gathN at f
  split at f
  rename_i X l Q
  split at f
  rename_i q;subst q;exact⟨l,(a0K Q).2⟩;cases f;cases f
 obtain⟨l,r⟩:=r;exact c6z c I A E C h D (h.top1 r rfl k) (h.top1 i rfl F) i f;simp_all
end
section
variable {P:Program} {B:Base} {N:Nat} {Z:Type} {U:AE} {a:Act} {w:World} {M:Gh}
theorem b1D.news{m Sh}(h:b1D w m Sh e l v):Nonempty (News P w m Sh e l v):=by
 obtain⟨A,n,c,cs,hv,hn,hlen,hone,⟨R,g,a⟩,hc,hnone,-⟩:=h;have f:=b2y (P:=P) (w:=w) (w2:=w) (e:=e) hv (fun _=>rfl) hlen hc hnone n (a04 _);have k:=b2y (P:=P) (w:=w) (w2:=w.drew) (e:=e) hv (fun _=>rfl) hlen hc hnone n (a04 _);rw[<-hlen,a61]at f k;refine⟨⟨cs,?_,by simp_all,hone,R,by simp_all,a,by simp_all,by simp_all⟩⟩;rw[hv,<-hn];rfl
theorem e2g{m Sh}(s:ByteArray){l:List (Ty.int .u8).den}(e:l=(s.data.toList.map fun b=>(b.toNat:Int):List Int)):Nonempty (News P w m Sh (.int .u8) l (.string s)):=by
 have k:(s.data.toList.map fun b=>(b.toNat:Int)).length=s.size:=by simp
 have g:l.length=s.size:=(congrArg a19 e).trans k;have a:∀w:World,(Builtin.firstCells (Ty.int .u8).cells s.size (.string s)).run P w=.ok (s.data.toList.map fun b=>Value.int .u8 (b.toNat:Int)).toArray w:=fun w=>by
  have o:s.extract 0 s.size=s:=by simp
  simp only[Builtin.firstCells,o,Sem.run_pure];congr 1
  grind
 refine⟨⟨s.data.toList.map fun b=>Value.int .u8 (b.toNat:Int),?_,?_,?_,[],?_,by simp,?_,?_⟩⟩;rw[g];rfl;rw[g,a65];show s.data.toList.length=s.size*1
 simp
 intro u n;obtain⟨b,-,rfl⟩:=a08.1 n;rfl
 ·have c:∀(l:List UInt8)(h:List Value)(i:Nat),h.length=i->a0j (fun i=>dec m (.int .u8) fun j=>(h++l.map fun b=>Value.int .u8 (b.toNat:Int))[i*(Ty.int .u8).cells+j]?) l.length i =
    some ((l.map fun b=>(b.toNat:Int):List Int),[],[]):=by
   intro l
   induction l with
   |nil=>intro h i _;rfl
   |cons b l ih=>
    intro h i hp;have d:=ih (h++[Value.int .u8 (b.toNat:Int)]) (i+1) (by grind);simp at d;have f:(h++(b::l).map fun b=>Value.int .u8 (b.toNat:Int))[i*(Ty.int .u8).cells+0]?=some (.int .u8 (b.toNat:Int)):=by
     show(h++_)[i*1+0]?=_;simp_all
    simp only[lC,a0j];rw[show dec m (.int .u8) (fun j=>(h++(b::l).map fun b=>Value.int .u8 (b.toNat:Int))[i*(Ty.int .u8).cells+j]?)=some ((b.toNat:Int),[],[])from by
     simp only[dec];rw[f];rfl]
    simp only[a07];rw[d];rfl
  have:=c s.data.toList [] 0 rfl
  rw[g];rw[show s.data.toList.length=s.size from rfl]at this;rw[e];exact this
 all_goals simp_all
theorem d7o{t2 ty:TypeId}{K:AE->Rs Z}{z:Z}(I:Info P e t')(y:ts[0]?=some t)(E:P.underlying t=some (.slice t'))(A:ts[1]?=some t2)(C:P.underlying t2=some (.int .i64))(b:0<e.cells)(h:Rel B U N (a0o a) w M)(D:a.tmps.size=N)(l:U.apnd q d e .nils (a35 n e.dflt) K=some z):
  ∃v w' o M',(Builtin.append_ ts ty #[.slice none 0 0,.int .i64 (n:Int)]).run P w=.ok v w'/\Rel B o N (a0o (a.put (some d) v)) w' M'/\K o=some z:=by
 simp only[AE.apnd]at l;obtain⟨f,l⟩:lim (a35 n e.dflt).length=true/\_:=(a0f l).elim id fun h=>by grind
 simp[lim]at f
 by_cases hk:n=0
 subst hk;have g:(Builtin.append_ ts ty #[.slice none 0 0,.int .i64 ((0:Nat):Int)]).run P w=.ok (.slice none 0 0) w:=by
  have L:IntKind.i64.wrap (0:Int)=0:=rfl;simp[Builtin.append_,y,A,run_underlying E,run_underlying C,I.sizeOf,I.typeInfo,asInt,asIntOf,L]
 obtain⟨o,M',r,u,p,F,Q,S⟩:=h.fresh l (fun _ _=>rfl) (a04 _) (s:=.one (.slice none 0 0)) (O:=[]) (by simp) (by simp) (by simp) ⟨[],[],by
   rfl,by simp,.inr ⟨rfl,⟨_,rfl⟩,⟨e,rfl⟩,rfl⟩⟩
 exact⟨_,w,_,M',g,u.putd (sv:=.one (.sref d [])) D (fun _=>⟨_,e,_,p,by rw[F];rfl,rfl⟩),r⟩;have g:=c5p (P:=P) (w:=w) (ty:=ty) I y E A C b (n:=n) (by omega) f;have T:=grownCap_ge w n 0 t';have x:∀k,(Builtin.zeroCells I.z.cells k).size=k*e.cells:=fun k=>by rw[b5J,size_madeCells,I.zsize]
 have rd:a0j (fun i=>dec (a0a w M.ov) e fun j=>(Builtin.zeroCells I.z.cells n).toList[i*e.cells+j]?) n 0=some (a35 n e.dflt,[],[]):=by
  have:=c5o (m:=a0a w M.ov) I.zok I.zsize n
  rw[b5J,I.zsize];simp_all
 have H:(a35 n e.dflt).length=n:=List.length_replicate;obtain⟨o,M',r,u,p,-,-⟩:=h.newSlice (c:=grownCap w n 0 t') l (fun c G=>a1I (w:=w.drew) _ c G) (a2b (w:=w.drew) _)
  (a1B (w:=w.drew) (Obj.cells (([]:List Value)++((Builtin.zeroCells I.z.cells n).toList++(Builtin.zeroCells I.z.cells (grownCap w n 0 t'-n)).toList)).toArray t')) (.inl rfl) (by
   have:(([]:List Value)++((Builtin.zeroCells I.z.cells n).toList++(Builtin.zeroCells I.z.cells (grownCap w n 0 t'-n)).toList)).length=grownCap w n 0 t'*e.cells:=by
    simp[x];rw[<-a24];simp_all
   simp_all) (by omega) (R:=[]) (by
   have:=b8j (m:=a0a w M.ov) (e:=e) (l1:=[]) (l2:=a35 n e.dflt) (cs1:=[]) (cs2:=(Builtin.zeroCells I.z.cells n).toList) (rest:=(Builtin.zeroCells I.z.cells (grownCap w n 0 t'-n)).toList) (n1:=0) (n2:=n) (o1:=[]) (o2:=[]) (R1:=[]) (R2:=[]) rfl (by simp) rd (by simp_all)
   simp_all) (by simp)
 rw[H]at p;exact⟨_,_,_,M',g,u.putd (sv:=.one (.sref d [])) D (fun _=>p),r⟩
theorem d4N{o:Oper}{c:Call}{d:Nat}{cx:Cx}{q:Bool}{K:AE->Rs Z}{z:Z}(s:CxTy P cx)(ho:o.op=.call c)(hb:c.callee=.builtin .append)(hd:o.dst=some d)
  (h:Rel B U N (a0o a) w M)(hN:a.tmps.size=N)(hf:fits N o=true)(b:aop cx q o U K=some z):a0w P B N o a w K z:=by
 obtain⟨cs,r⟩:=b6b (P:=P) (a:=a) (w:=w) ho hb;have hl:∃x y,c.args.toList=[x,y]:=by
  cases hl:c.args.toList with
  |nil=>simp_all[aop,AE.blt]
  |cons x l=>
   cases l with
   |nil=>simp_all[aop,AE.blt]
   |cons y l=>
    cases l with
    |nil=>simp
    |cons u l=>simp_all[aop,AE.blt]
 obtain⟨x,y,L⟩:=hl;have h5:c.args=#[x,y]:=by grind
 have i:=b7q ho hb hf;rw[L]at i;have H:=h.opd (i x (by simp));have S:=h.opd (i y (by simp));simp[aop,ho,hd,hb,L,AE.blt]at b;rcases a0f b with⟨h8,b⟩|⟨-,b⟩;rotate_left;rw[b8L]at b
 split at b
 rename_i e ys j;unfold d2m at j
 split at j
 rename_i t t2 rr n G h6 h7
 split at j
 rename_i o2 e2 E h4;rcases a0f j with⟨hc,j⟩|⟨-,g⟩;cases j;simp at hc;obtain⟨h9,hty⟩:=s.T t _ E;obtain⟨t',R,C,A⟩:=a1G hty;obtain⟨I⟩:=a0D (a0L C);have h0:c.argTypes[0]?=some t:=by rw[<-a09,G];rfl
 have Q:c.argTypes[1]?=some t2:=by rw[<-a09,G];rfl
 have h2:P.underlying t2=some (.int .i64):=by
  have hty:=(s.T t2 _ h4).2;simp[a0u]at hty
  grind
 rw[h6]at H;obtain H:a.eval x=.slice none 0 0:=H;rw[h7]at S;have S:=a0l.int S;obtain⟨v,w',D,M',V,k2,O⟩:=d7o (ty:=o.type) I h0 R Q h2 A h hN b;rw[Int.toNat_of_nonneg hc.1]at V;refine⟨v,w',D,M',.inl (r.trans ?_),by simp_all,O⟩;simp_all[builtin];simp_all;simp_all;simp_all;simp_all;have Q:=d4M s h8
 split at b
 ·rename_i o' e E;obtain⟨t,ht,E⟩:=a34.1 E;have F:c.argTypes[0]?=some t:=by
   rw[<-a09];cases hl:c.argTypes.toList with
   |nil=>simp_all
   |cons y l=>simp_all
  obtain⟨h9,hty⟩:=s.T t _ E;obtain⟨t',R,C,A⟩:=a1G hty;obtain⟨I⟩:=a0D (a0L C);have he:e.sh=e:=by
   simp_all[Ty.sh]
  have h3:∀ys,Nonempty (News P w (a0a w M.ov) (Shr B w M) e ys (a.eval y))->U.apnd q d e (U.opd x) ys K=some z->a0w P B N o a w K z:=by
   rintro ys ⟨Y⟩ b
   obtain⟨v,w',D,M',V,k2,O⟩:=e0a (ty:=o.type) he I F R Q h hN H Y b;refine⟨v,w',D,M',.inl (r.trans ?_),by simp_all,O⟩;simp_all[builtin]
  split at b
  grind[a0l.str,e2g]
  ·split at b
   ·rename_i m X ys f;have g0:=b;cases q with
    |true=>simp_all
    |false=>
     cases hel:e.isList with
     |false=>simp_all
     |true=>
      rw[hel]at f;have f:U.ownB e (U.opd y)=some (m,⟨X,ys⟩):=f;have g1:U.opd y=.sref m []/\U.look m=some ⟨false,.list true X,ys⟩/\X.sh=e:=by
       revert f
       cases U.opd y with
       |sref k p=>
        cases p with
        |cons=>simp_all[AE.ownB]
        |nil=>
         intro f;simp[AE.ownB]at f
         grind
       |_=>intro f;simp[AE.ownB]at f
      obtain⟨V,k2,O⟩:=g1;obtain⟨v,w',D,M',j1,j2,j3⟩:=e0c (ty:=o.type) O I F R Q h hN H (i y (by simp)) V k2 g0;exact⟨v,w',D,M',.inl (r.trans (by simp_all[builtin])),by simp_all,j3⟩
   obtain⟨l,b,hE⟩:=h.elems he S b;exact h3 l hE.news b
 simp_all
end
theorem e2h(n:Nat)(av:AV):AV.kill n [] av=.dead\/(AV.kill n [] av=av/\∀k q,(av=.ptr k q\/av=.sref k q\/∃o l,av=.swin k q o l)->k=n->av=.ptr n []):=by
 cases av with
 |ptr m q=>
  simp only[AV.kill]
  by_cases hm:m=n
  ·subst hm;cases q with
   |nil=>simp
   |cons=>left;simp[a3H]
  simp_all
 |sref m q=>
  grind[AV.kill,a3H]
 |swin m q o k=>
  grind[AV.kill,a3H]
 |_=>exact .inr ⟨rfl,fun k q h _=>by rcases h with h|h|⟨_,_,h⟩<;>cases h⟩
section
variable {P:Program} {B:Base} {N:Nat} {Z:Type} {U:AE} {a:Act} {w:World} {M:Gh}
theorem d4O{o:Oper}{x:Operand}{d:Nat}{cx:Cx}{q:Bool}{K:AE->Rs Z}{z:Z}(O:o.op=.assign x)(S:o.dst=some d)
  (h:Rel B U N (a0o a) w M)(V:a.tmps.size=N)(hf:fits N o=true)(m:aop cx q o U K=some z):a0w P B N o a w K z:=by
 have R:=h.opd (a0R hf x (by simp[O,Op.operands]));have y:(execOp a.eval o).run P w=.ok (.value (a.eval x)) w:=by simp[execOp,O]
 simp[aop,O,S]at m;have same:∀av,U.opd x=av->K (U.set d av)=some z->a0w P B N o a w K z:=fun av u m=>a0w.set S V y h (u▸R) m
 split at m
 case h_2=>
  rename_i c vs C;cases x with
  |tmp t=>
   have C:U.sl t=.cmp c vs:=C;have ht:t<N:=by have:=a0R hf (.tmp t) (by simp[O,Op.operands]);simpa[a1m]using this
   have h4:=h.slots t ht;rw[C]at h4;exact⟨_,w,_,M,.inl y,by rw[S];exact h.putd V (fun _=>h4),m⟩
  |_=>cases C
 rename_i vx G;have G:vx=U.opd x:=by
  cases x with
  |tmp t=>
   have G:U.sl t=.one vx:=G;simp_all[AE.opd,AE.get]
  |_=>exact(SV.one.inj G).symm
 subst G;unfold AE.asg at m
 split at m
 rename_i r u
 split at m
 rename_i t x0 X;obtain⟨E,T⟩:=a0K X;rcases a0f m with⟨-,m⟩|⟨Q,m⟩;simp_all;rcases a0f m with⟨-,m⟩|⟨-,m⟩;simp_all;obtain⟨h9,m⟩:=(a0f m).elim id fun h=>by grind
 have h9:d<pinned:=by simp_all
 have k7:r≠d:=by
  simp_all
 have h1:=h.drop (n:=d) (by simp_all);have g4:((U.mapv (AV.drop d)).setRt d none).rt r=some ⟨false,t,x0⟩:=by
  grind[AE.setRt,AE.mapv]
 have h2:=h1.rename g4 (d:=d) (b0w _) (fun i b e _=>by omega) (by simp_all[AE.setRt,AE.mapv]);have hΓ:((((U.mapv (AV.drop d)).setRt d none).mapv (AV.ren r d)).setRt r none).setRt d (some ⟨false,t,x0⟩)=(((U.mapv (AV.drop d)).mapv (AV.ren r d)).setRt r none).setRt d (some ⟨false,t,x0⟩):=by
  simp only[AE.setRt,AE.mapv]
  grind
 rw[hΓ]at h2;rw[u]at R;obtain⟨r',e',s',g1,g2,g3⟩:=R;rw[T]at g1;simp at g1;subst g1;simp[a0U]at g2;have D:loc (a0a w M.ov) t (if d=d then M.g r else M.g d) []=some (.list true e',s'):=by
  show some (t,if d=d then M.g r else _)=_
  simp_all
 have h3:=h2.putd (sv:=.one (.sref d [])) (v:=a.eval x) (d:=d) V (fun _=>⟨⟨false,t,x0⟩,e',s',b0w _,D,g3⟩);exact⟨_,w,_,_,.inl y,by rw[S];exact h3,m⟩;simp_all
 ·rename_i r k u
  split at m
  ·rename_i e l X;obtain⟨E,T⟩:=a0K X;rcases a0f m with⟨Q,m⟩|⟨-,m⟩
   ·simp only[bA9,beq_iff_eq]at Q;obtain⟨rfl,-⟩:=Q;obtain⟨L,m⟩:=(a0f m).elim id fun h=>by grind
    simp at L;replace L:=L.symm;rw[u]at R;obtain⟨s,O',R',a0,n0,c,f1,f2,f3,f4,f5,f6,H,hv,f7,f8⟩:=h.window R T (show a0T (.list true e) l []=⟨.list true e,l⟩from rfl);rw[a16]at f6;rw[Nat.sub_zero]at hv;have k8:=h.ov_none E;simp[a0U]at f1;obtain⟨O1,R1,k1,k2,k3,k4,k5,k6⟩:=h.sep T;rw[f1]at k1;have h8:dec (a0a w M.ov) (.list true e) (s.rd (a0a w M.ov))=some (l,O',R'):=a0y _ f3 (fun j hj=>by
     have g0:j=0:=by simp_all[Ty.cells]
     subst g0;rw[f2];rfl) (fun _ _ _=>rfl)
    rw[h8]at k1;simp at k1;obtain⟨rfl,rfl⟩:=k1;have g5:∃O2 R2,dec (a0a w M.ov) (.list true e) ((Src.one (.slice H k c)).rd (a0a w M.ov))=some (a45 k l,O2,R2)/\(∀p∈O2,p∈O')/\(O2.map (·.1)).Nodup/\(∀c∈R2,c∈R'):=by
     rcases a2a f3 with⟨C,g9,-,-⟩|⟨A,n1,c1,os,C,hA,hn,h6,O⟩
     ·simp[Src.rd]at C;obtain⟨rfl,rfl,rfl⟩:=C;have hk:k=0:=by omega
      subst hk;refine⟨[],[],?_,by simp,by simp,by simp⟩;show a0Y (a0a w M.ov) true e.cells (dec (a0a w M.ov) e) (some (.slice H 0 0))=some (([]:List e.den),[],[]);cases H with
      |none=>rfl
      |some b=>rfl
     ·simp[Src.rd]at C;obtain⟨rfl,rfl,rfl⟩:=C;rw[show n0=k+(n0-k)from by omega]at h6;obtain⟨g6,g7,k9,a2,j1,-,rfl,rfl⟩:=a4J k _ 0 h6;have k0:=k3.nodup
      by_cases I:c=0
      ·subst I;have hk:k=0:=by omega
       subst hk;refine⟨[],[],?_,by simp,by simp,by simp⟩;show a0Y (a0a w M.ov) true e.cells (dec (a0a w M.ov) e) (some (.slice H 0 0))=some (([]:List e.den),[],[]);cases H with
       |none=>rfl
       |some b=>rfl
      ·rcases O with⟨h0,-⟩|⟨-,O⟩;omega
       ·have h7:H=some ⟨A.block,A.off,none⟩:=by
         simp_all[a3N]
        subst h7;refine⟨(A.block,A.off+c*e.cells)::g6,g7,b9I (a:=⟨A.block,A.off,none⟩) rfl rfl (by omega) I j1,?_,?_,fun c I=>a31 _ I⟩
        all_goals grind
    obtain⟨O2,R2,j1,j2,j3,j4⟩:=g5;have h5:∀p∈O2,p∈M.ow r:=fun p hp=>by
     simp_all
    have F:∀c∈O2.map (·.1),c∈(M.ow r).map (·.1):=fun c I=>by
     grind
    have Y:=h.top T L.2 E (w':=w) (v':=.slice H k c) (l':=a45 k l) j1 (fun _ _ _ _=>rfl) (fun c I=>.inl (F c I)) j3 (fun p hp=>h.live r p (h5 p hp)) (fun _ _ hf _=>hf) (a04 _) h.frame
     (fun c I=>by
      have C:=f4 c (j4 c I);exact⟨C.1,C.2.1,C.2.2,fun g=>C.2.2 ⟨r,F c g⟩⟩) (f:=AV.kill r []) (e2h r)
    have D:loc (a0a w M.ov) (.list true e) (if r=r then Src.one (.slice H k c)else M.g r) []=some (.list true e,.one (.slice H k c)):=by
     show some (_,if r=r then Src.one _ else _)=_
     simp
    have h3:=Y.putd (sv:=.one (.sref r [])) (v:=a.eval x) (d:=r) V (fun _=>⟨⟨false,.list true e,a45 k l⟩,e,.one (.slice H k c),b0w _,D,by rw[hv];rfl⟩);exact⟨_,w,_,_,.inl y,by rw[S];exact h3,m⟩
   exact same _ u m
  exact same _ u m
 rename_i u
 split at m
 rename_i t x0 X;obtain⟨E,T⟩:=a0K X;rcases a0f m with⟨-,m⟩|⟨-,m⟩;exact same _ u m;exact a0w.set S V y (h.drop (n:=d) (by simp[E])) (av:=.nils) (by rw[u]at R;exact R) m;exact same _ u m;exact same _ rfl m
end
theorem Rel.move{B U N tm w M}(h:Rel B U N tm w M){n r p ε b o y O1 R1}(hr:U.rt n=some r)(hl:loc (a0a w M.ov) r.t (M.g n) p=some ((.list true ε),.at b o))(hy:dec (a0a w M.ov) (.list true ε) ((Src.at b o).rd (a0a w M.ov))=some (y,O1,R1)){m0:Nat}{y':List ε.den}(b9:U.rt m0=some ⟨false,(.list true ε),y'⟩)(b7:M.g m0=.one v)(L:m0≠n)(a7:U.pd=none){f:AV->AV}(hf:∀a,f a=.dead\/(f a=a/\d1W n p (.list true ε) a/\∀k q,(a=.ptr k q\/a=.sref k q\/∃o l,a=.swin k q o l)->k≠m0)):
  ∃d,Rel B (((U.mapv f).setRt m0 none).setRt n (some ⟨r.bx,r.t,a1T r.t r.x p (.list true ε) y'⟩)) N tm (w.setCell ⟨b,o,none⟩ v) ⟨M.g,d,none⟩:=by
 have c2:M.ov=none:=h.ov_none a7;obtain⟨O2,R2,i1,i2,i3,i4,i5,i6⟩:=h.sep b9;have i6:M.ow m0=O2:=by
  simp_all
 rw[b7]at i1;obtain⟨w',h0⟩:∃w',w'=w.setCell ⟨b,o,none⟩ v:=⟨_,rfl⟩;rw[<-h0];have k6:b∈(M.ow n).map (·.1):=h.place hr hl;have a3:=h.room hr hl;have a6:(Ty.list true ε).cells=1:=rfl;have k8:∀c j,a0a w' none c j=if c=b/\j=o then some v else a0a w M.ov c j:=fun c j=>by
  rw[c2,h0];simp[a0a]
  by_cases G:c=b/\j=o
  obtain⟨rfl,rfl⟩:=G
  have:=(a3.cell (o:=j) (by omega)).1
  grind[a47,World.cell?_setCell_same]
  rw[if_neg G,World.cell?_setCell_other]
  grind
 have c5:∀c j,a0a w' none c j=a0a w M.ov c j\/(c=b/\o<=j/\j<o+(Ty.list true ε).cells)\/c∈O1.map (·.1)\/w.heap.size<=c:=fun c j=>by
  grind
 have c4:dec (a0a w' none) (.list true ε) ((Src.at b o).rd (a0a w' none))=some (y',O2,R2):=by
  refine a0y _ i1 (fun j hj=>?_) (fun c j z=>?_);simp_all[Src.rd];rw[k8,if_neg]
  rintro⟨rfl,-⟩
  rcases z with z|z;exact h.disj n m0 (Ne.symm L) c k6 (i4 c z);exact(i2 c z).2.2 ⟨n,k6⟩
 have X:∀c∈O2.map (·.1),c∈(M.ow m0).map (·.1):=i4;have c1:(O2.map (·.1)).Nodup:=i3.nodup;have I:∀c k,a0Q w c k->a0P M c->a0Q w' c k:=fun c k hf _=>by rw[h0];exact hf.setCell _ _
 have b8:∀p∈O2,a0Q w' p.1 p.2:=fun p hp=>by
  rw[<-i6]at hp;exact I _ _ (h.live m0 p hp) ⟨m0,a00 hp⟩
 have b3:w.heap.size<=w'.heap.size:=by simp_all
 have b6:∀b,b<B.size->¬ B.F b->w'.heap[b]?=B.hp b:=fun c z hF=>by
  rw[h0,a9U,if_neg];exact h.frame c z hF
  ·rintro rfl
   rcases h.mine c ⟨n,k6⟩with g|g
   all_goals grind
 obtain⟨O',R,h1,h2,h3,h4,h5,h6⟩:=h.sep hr;obtain⟨y1,d0,d1,A1,B1,c8,c9,hd,hg,G,e2⟩:=a1w p r.t _ h1 hl;rw[hy]at hd;simp at hd;obtain⟨rfl,rfl,rfl⟩:=hd;have d2:∀c,c∈O1.map (·.1)->c∈(M.ow n).map (·.1):=fun c z=>h4 c (by grind);have hb:b∈(M.ow n).map (·.1):=h.place hr hl;have a5:Chg (a0a w M.ov) (a0a w' none) (M.g n) O' R b o (Ty.list true ε).cells O1:=fun c j=>by
  grind
 obtain⟨A,B',R',e3,h7,h8⟩:=c5l p r.t (M.g n) h1 hl hy c4 h3 a5

 have P:∀c j,c∉(M.ow n).map (·.1)->c<w.heap.size->a0a w' none c j=a0a w M.ov c j:=fun c j z d4=>by
  grind
 have O:∀m,m≠n->∀c j,c∈(M.ow m).map (·.1)->a0a w' none c j=a0a w M.ov c j:=fun m hm c j z=>
  P c j (h.disj m n hm c z) (h.lt ⟨m,z⟩)
 have a9:∀c j,Shr B w M c->a0a w' none c j=a0a w M.ov c j:=fun c j z=>P c j (fun g=>z.2.2 ⟨n,g⟩) z.1

 let on:a1k:=match r.bx with|true=>(match M.g n with|.at b0 _=>[(b0,r.t.cells)]|_=>[])++(A++(O2++B'))|false=>A++(O2++B')
 let d:Nat->a1k:=fun m=>if m=n then on else if m=m0 then[]else M.ow m
 have g0:d n=on:=by grind
 have E:∀m,m≠n->m≠m0->d m=M.ow m:=fun m hm d5=>by grind
 have c7:d m0=[]:=by grind
 have g9:∀c,c∈on.map (·.1)->c∈(M.ow n).map (·.1)\/c∈O2.map (·.1):=by
  grind
 have K:∀c,(∃m,c∈(d m).map (·.1))->a0P M c:=by
  rintro c ⟨m,hm⟩
  by_cases e:m=n
  subst e;rw[g0]at hm;rcases g9 c hm with g|g;exact⟨m,g⟩;exact⟨m0,X c g⟩
  by_cases T:m=m0
  grind
  rw[E m e T]at hm;exact⟨m,hm⟩
 have a4:∀c,Shr B w M c->Shr B w' ⟨M.g,d,none⟩ c:=fun c ⟨g1,g2,g3⟩=>⟨a18 g1 b3,g2,fun g4=>g3 (K c g4)⟩;have c3:∀c∈R2,Shr B w' ⟨M.g,d,none⟩ c:=fun c z=>a4 c (i2 c z)

 have g7:∀m q H tq s,U.rt m=some H->loc (a0a w M.ov) H.t (M.g m) q=some (tq,s)->(m=n->∀rest,q=p++rest->rest=[]\/(Ty.list true ε).shn=(Ty.list true ε))->
   loc (a0a w' none) H.t (M.g m) q=some (tq,s)/\∀e,tq=.list true e->(m=n->∀rest,q=p++rest->(Ty.list true ε).shn=(Ty.list true ε))->s.rd (a0a w' none) 0=s.rd (a0a w M.ov) 0:=by
  intro m q H tq s hrm D hq
  by_cases e:m=n
  subst e;rw[hr]at hrm;simp at hrm;subst hrm
  have:=b3N p q r.t (M.g m) h1 hl hy h3 a5 (hq rfl) D
  refine⟨this.1,fun e ht h9=>this.2 e s (by grind) (fun rest he=>?_)⟩;have hp:=h9 rfl rest he
  grind[Ty.shn]
  ·obtain⟨Om,Rm,g1,g2,g3,g4,g5,-⟩:=h.sep hrm;have Z:∀j,j<H.t.cells->(M.g m).rd (a0a w' none) j=(M.g m).rd (a0a w M.ov) j:=fun j _=>by
    cases es:M.g m with
    |one v=>rfl
    |_=>rename_i b' o';exact O m e b' _ (g5 _ _ es)
   refine⟨a2G q H.t _ g1 D Z (fun c j z=>O m e c j (g4 c z)),fun T ht _=>?_⟩;rw[ht]at D;exact b2w g1 D Z (fun c j z=>O m e c j (g4 c z))
 have k7:∀a v,a0l (a0a w M.ov) M.g U.rt (Shr B w M) a v->a0l (a0a w' none) M.g (fun j=>bif j==n then some ⟨r.bx,r.t,a1T r.t r.x p (Ty.list true ε) y'⟩else bif j==m0 then none else U.rt j) (Shr B w' ⟨M.g,d,none⟩) (f a) v:=by
  intro a v ha;rcases hf a with g|⟨g,hk,d3⟩;rw[g];trivial
  ·rw[g];refine ha.frame a9 a4 fun m q H tq s Y hrm D=>?_
   have hq:m=n->∀rest,q=p++rest->rest=[]\/(Ty.list true ε).shn=(Ty.list true ε):=by
    intro e rest he;rcases Y with rfl|rfl|⟨o',l',rfl⟩;exact hk e rest he;exact .inr (hk e rest he);exact .inr (hk e rest he)
   have hp:=g7 m q H tq s hrm D hq;refine⟨if m=n then⟨r.bx,r.t,a1T r.t r.x p (Ty.list true ε) y'⟩else H,?_,?_,?_⟩
   grind
   ·by_cases e:m=n
    all_goals grind
   intro u h9 hu;rcases Y with rfl|rfl|⟨o',l',rfl⟩
   grind
   obtain⟨r0,e0,s0,k1,k2,k3⟩:=ha;rw[hrm]at k1;simp at k1;subst k1;rw[D]at k2;simp at k2;rw[hp.2 e0 k2.1 (fun e rest he=>hk e rest he)];omega;obtain⟨r0,e0,s0,a0,l0,c0,k1,k2,k3⟩:=ha;rw[hrm]at k1;simp at k1;subst k1;rw[D]at k2;simp at k2;rw[hp.2 e0 k2.1 (fun e rest he=>hk e rest he)];omega
 have a2:∀i b,B.pin i=some b->(bif pinned+i==n then some (Root.mk r.bx r.t (a1T r.t r.x p (Ty.list true ε) y'))else bif pinned+i==m0 then none else U.rt (pinned+i))≠none->M.g (pinned+i)=b:=fun i b hb h9=>by
  refine h.pins i b hb fun e=>h9 ?_
  by_cases T:pinned+i=n
  grind
  have b5:(pinned+i==n)=false:=by grind
  rw[b5,e];simp
 refine⟨d,?_,?_,?_,?_,?_,?_,?_,a30 h.size b3,b6,?_,a2,by rw[h0];exact h.still⟩
 ·intro m H hrm
  by_cases e:m=n
  subst e;simp[AE.setRt]at hrm;subst hrm;refine⟨_,R',h7,fun c z=>?_,?_⟩
  grind
  rcases h6 with⟨Q,b0,hs,ho⟩|⟨Q,hs,ht,ho⟩
  grind
  grind
  ·have G:m≠m0:=by
    rintro rfl
    have T:(m==n)=false:=by grind
    simp[AE.setRt,T,AE.mapv]at hrm
   have a8:U.rt m=some H:=by
    have T:(m==n)=false:=by grind
    have k0:(m==m0)=false:=by grind
    simpa[AE.setRt,T,k0,AE.mapv]using hrm
   obtain⟨Om,Rm,g1,g2,g3,g4,g5,g6⟩:=h.sep a8;refine⟨Om,Rm,a0y H.t g1 (fun j _=>?_) (fun c j z=>?_),fun c z=>a4 c (g2 c z),?_⟩
   ·cases es:M.g m with
    |one v=>rfl
    |_=>rename_i b' o';exact O m e b' _ (g5 _ _ es)
   grind
   show(H.bx=true/\∃b,M.g m=.at b 0/\d m=(b,H.t.cells)::Om)\/(H.bx=false/\(∃v,M.g m=.one v)/\(∃e,H.t=.list true e)/\d m=Om);rw[E m e G];omega
 intro m hm
 by_cases e:m=n
 grind[AE.setRt]
 by_cases G:m=m0
 grind
 have T:(m==n)=false:=by grind
 have k0:(m==m0)=false:=by grind
 show d m=[];rw[E m e G];exact h.norm m (by simpa[AE.setRt,T,k0,AE.mapv]using hm);intro m;show((d m).map (·.1)).Nodup
 by_cases e:m=n
 subst e;rw[g0];have k9:=h.nodup m;have b4:((A++(O2++B')).map (·.1)).Nodup:=by
  have V:=h3.nodup;rw[e3]at V;simp only[pA,a20,mA]at V|-;obtain⟨k1,⟨k2,k3,k4⟩,k5⟩:=V;refine⟨k1,⟨c1,k3,fun a ha c z e=>?_⟩,fun a ha c z e=>?_⟩;subst e;exact h.disj m m0 (Ne.symm L) a (h4 a (by grind)) (X a ha);subst e;rcases z with z|z;exact h.disj m m0 (Ne.symm L) a (h4 a (by grind)) (X a z)
  grind
 rcases h6 with⟨Q,b0,hs,ho⟩|⟨Q,-,-,ho⟩;simp only[on,Q,hs,List.singleton_append,a07,a05];refine⟨fun g=>?_,b4⟩;rw[ho]at k9;simp only[a07,a05]at k9;simp only[pA,mA]at g;rcases g with g|g|g
 grind
 exact h.disj m m0 (Ne.symm L) b0 (by grind) (X b0 g);exact k9.1 (by rw[e3];simp only[pA,mA];grind)
 grind
 by_cases G:m=m0
 grind
 rw[E m e G];exact h.nodup m;have one:∀m m',m≠m'->m=n->∀c,c∈(d m).map (·.1)->c∉(d m').map (·.1):=by
  intro m m' S e c z C;subst e
  by_cases G:m'=m0
  grind
  rw[g0]at z;rw[E m' (Ne.symm S) G]at C;rcases g9 c z with g|g;exact h.disj m m' S c g C;exact h.disj m0 m' (Ne.symm G) c (X c g) C
 intro m m' S c z C
 by_cases e:m=n
 exact one m m' S e c z C
 by_cases T:m'=n
 exact one m' m (Ne.symm S) T c C z
 by_cases G:m=m0
 grind
 by_cases e2:m'=m0
 grind
 rw[show(Gh.mk M.g d none).ow m=d m from rfl,E m e G]at z;rw[show(Gh.mk M.g d none).ow m'=d m' from rfl,E m' T e2]at C;exact h.disj m m' S c z C;intro m q hq;rw[show(Gh.mk M.g d none).ow m=d m from rfl]at hq
 by_cases e:m=n
 subst e;rw[g0]at hq;have c6:q∈M.ow m->a0Q w' q.1 q.2:=fun g=>I _ _ (h.live m q g) ⟨m,a00 g⟩;have b4:q∈A++(O2++B')->a0Q w' q.1 q.2:=by
  grind
 rcases h6 with⟨Q,b0,hs,ho⟩|⟨Q,-,-,ho⟩
 grind
 grind
 by_cases G:m=m0
 grind
 rw[E m e G]at hq;exact I _ _ (h.live m q hq) ⟨m,a00 hq⟩;intro i hi;exact(h.slots i hi).mapv k7;show b1j _ _ _ U.pd none;rw[a7];trivial
 rintro c ⟨m,hm⟩
 exact h.mine c (K c ⟨m,hm⟩)
section
variable {P:Program} {B:Base} {N:Nat} {Z:Type} {U:AE} {a:Act} {w:World} {M:Gh}
theorem b9N{c o k:Nat}(e:a0u P τ (.inl t)=true)(i:τ.cells=1)(f:a0Q w b k)(l:o+1<=k):
  (Instr.storeAt t (.pointer (some ⟨b,o,none⟩)) (.slice A n c)).run P w=.ok () (w.setCell ⟨b,o,none⟩ (.slice A n c)):=by
 obtain⟨I⟩:=a0D (a0L e);have h:(Value.slice A n c).cells=#[Value.slice A n c]:=rfl
 have:=run_storeCells_cells (P:=P) b o [Value.slice A n c] 0 w (fun j d=>(f.cell (o:=o+0+j) (by grind)).1) (fun j d=>(f.cell (o:=o+0+j) (by grind)).2) (fun u a=>by
  simp at a;subst a;rfl)
 have g:(Value.slice A n c).cells.size=τ.cells:=by simp_all
 simp[Instr.storeAt,Instr.sureAddr,storeVar,I.sizeOf,g];rw[h];simp at this;exact this
theorem d2A{o k:Nat}(h:a0Q w b k)(g:o<k)(v:Value)(c j:Nat):a0a (w.setCell ⟨b,o,none⟩ v) none c j=if c=b/\j=o then some v else a0a w none c j:=by
 simp[a0a]
 by_cases e1:c=b/\j=o
 obtain⟨rfl,rfl⟩:=e1;obtain⟨u,f⟩:=a47.1 (h.cell g).1;simp_all[World.cell?_setCell_same];rw[if_neg e1,World.cell?_setCell_other]
 grind
theorem e5s(U:AE):U.mapv id=U:=by
 have:∀s:SV,s.mapv id=s:=fun s=>by cases s<;>simp[SV.mapv]
 simp_all[AE.mapv]
theorem a0w.skip{K:AE->Rs Z}{z:Z}{U':AE}{M':Gh}(k:a.tmps.size=N)(g:(execOp a.eval o).run P w=.ok .skip w')(h:Rel B U' N (a0o a) w' M')(f:K (U'.setD o.dst .dead)=some z):a0w P B N o a w K z:=by
 cases hd:o.dst with
 |none=>exact⟨undef,w',U',M',.inr ⟨g,rfl⟩,by rw[hd];exact h,by rw[hd]at f;exact f⟩
 |some d=>exact⟨undef,w',U'.set d .dead,M',.inr ⟨g,rfl⟩,by rw[hd];exact h.putd k (fun _=>trivial),by rw[hd]at f;exact f⟩
theorem b2K{t:Ty}(h:t.isList=true):t.cells=1:=by cases t<;>first|rfl|cases h
theorem a5C:∀(p q:a0C),a8F p q=true->p=q
 | [],[],_=>rfl
 |.fst::p,.fst::q,h=>by rw[a5C p q h]
 |.snd::p,.snd::q,h=>by rw[a5C p q h]
 |.idx i::p,.idx j::q,h=>by
  simp[a8F]at h;rw[h.1,a5C p q h.2]
 | [],_::_,h=>by cases h
 |.fst::_,[],h=>by cases h
 |.fst::_,.snd::_,h=>by cases h
 |.fst::_,.idx _::_,h=>by cases h
 |.snd::_,[],h=>by cases h
 |.snd::_,.fst::_,h=>by cases h
 |.snd::_,.idx _::_,h=>by cases h
 |.idx _::_,[],h=>by cases h
 |.idx _::_,.fst::_,h=>by cases h
 |.idx _::_,.snd::_,h=>by cases h
theorem d4P(n:Nat)(U:AE)(r g:Option Root):(((U.mapv (AV.deeps [n] [])).setRt n r).mapv (AV.deeps [n] [])).setRt n g=(U.mapv (AV.deeps [n] [])).setRt n g:=by
 have h:∀a:AV,(a.deeps [n] []).deeps [n] []=a.deeps [n] []:=fun a=>by
  cases a with
  |sref m q=>
   by_cases hm:m=n
   subst hm;cases q<;>simp[AV.deeps];simp[AV.deeps,hm]
  |swin m q o l=>
   grind[AV.deeps]
  |ptr m q=>
   by_cases hm:m=n
   subst hm;cases q<;>simp[AV.deeps];simp[AV.deeps,hm]
  |_=>rfl
 simp only[AE.setRt,AE.mapv];congr 1
 ·funext i;cases U.sl i with
  |one v=>simp[SV.mapv,h]
  |cmp c vs=>simp[SV.mapv,h]
 grind
theorem Rel.setBox(h:Rel B U N tm w M)(hr:U.rt n=some r)(hg:M.g n=.at b 0)(ho:M.ow n=[(b,r.t.cells)])(I:U.pd=none){t2:Ty}{z:t2.den}{R2}(y:t2.cells=r.t.cells)(hd:dec (a0a w' none) t2 ((Src.at b 0).rd (a0a w' none))=some (z,[],R2))(hR:∀c∈R2,Shr B w M c)(x:∀c,c≠b->w'.heap[c]?=w.heap[c]?)(G:∀c k,a0Q w c k->a0Q w' c k)(Q:w.heap.size<=w'.heap.size)(hio:a2n w'=a2n w):
  Rel B ((U.mapv (AV.deeps [n] [])).setRt n (some ⟨true,t2,z⟩)) N tm w' M:=by
 have Z:=h.ov_none I;have D:b∈(M.ow n).map (·.1):=by simp_all
 have K:∀c,Shr B w M c->Shr B w' M c:=fun c y=>⟨a18 y.1 Q,y.2⟩;have L:∀c j,c≠b->a0a w' M.ov c j=a0a w M.ov c j:=fun c j S=>a1y _ (x c S) j;have Y:∀c j,Shr B w M c->a0a w' M.ov c j=a0a w M.ov c j:=fun c j V=>L c j fun e=>V.2.2 ⟨n,e▸D⟩;have C:∀m c j,m≠n->c∈(M.ow m).map (·.1)->a0a w' M.ov c j=a0a w M.ov c j:=fun m c j f T=>L c j fun e=>h.disj n m (Ne.symm f) c (e▸D) T;have P:∀k,k≠n->((U.mapv (AV.deeps [n] [])).setRt n (some ⟨true,t2,z⟩)).rt k=U.rt k:=fun k X=>c3n X _;have O:((U.mapv (AV.deeps [n] [])).setRt n (some ⟨true,t2,z⟩)).rt n=some ⟨true,t2,z⟩:=by simp[AE.setRt]
 have a1A:∀m:Nat,[n].contains m=(m==n):=fun m=>by grind
 refine⟨fun m r' d=>?_,fun m L=>?_,h.nodup,h.disj,fun m p hp=>G _ _ (h.live m p hp),fun i hi=>(h.slots i hi).mapv fun a v ha=>?_,?_,a30 h.size Q,fun c R hF=>?_,h.mine,fun i A hb h0=>h.pins i A hb fun e=>?_,hio.trans h.still⟩
 ·by_cases f:m=n
  subst f;rw[O]at d;simp at d;subst d;refine⟨[],R2,?_,fun c y=>K c (hR c y),.inl ⟨rfl,b,hg,by simp_all⟩⟩;simp_all
  ·rw[P m f]at d;obtain⟨O1,R1,l1,l2,l3,l4,l5,l6⟩:=h.sep d;refine⟨O1,R1,a0y _ l1 (fun j _=>?_) (fun c j y=>?_),fun c y=>K c (l2 c y),l6⟩
   ·cases es:M.g m with
    |one v=>rfl
    |_=>rename_i A o;exact C m A _ f (l5 _ _ es)
   grind
 by_cases f:m=n
 simp_all;rw[P m f]at L;exact h.norm m L
 ·have other:(∀k q,(a=.ptr k q\/a=.sref k q\/∃o l,a=.swin k q o l)->k≠n)->a0l (a0a w' M.ov) M.g ((U.mapv (AV.deeps [n] [])).setRt n (some ⟨true,t2,z⟩)).rt (Shr B w' M) a v:=fun X=>by
   refine ha.frame Y K fun k q rk t s E hrk hl=>?_
   have H:=X k q E;obtain⟨O1,R1,l1,l2,l3,l4,l5,l6⟩:=h.sep hrk;have F:∀j,(M.g k).rd (a0a w' M.ov) j=(M.g k).rd (a0a w M.ov) j:=fun j=>by
    cases es:M.g k with
    |one v=>rfl
    |_=>rename_i A o;exact C k A _ H (l5 _ _ es)
   refine⟨rk,by simp_all,a2G q rk.t _ l1 hl (fun j _=>F j) (fun c j y=>C k c j H (l4 c y)),fun u _ hu=>?_⟩;rw[<-hu];cases s with
   |one v=>rfl
   |_=>rename_i A o;exact C k A _ H (h.place hrk hl)
  cases a with
  |ptr m q=>
   simp only[AV.deeps,a1A];split
   ·rename_i f;have f:m=n:=by simp_all
    subst f;cases q with
    |cons=>trivial
    |nil=>
     obtain⟨r',t',A,o',p1,p2,p3⟩:=ha;simp[a0U]at p2;exact⟨⟨true,t2,z⟩,t2,A,o',O,by show some (t2,M.g m)=_;grind,p3⟩
   simp_all
  |sref m q=>
   simp only[AV.deeps,a1A];split;cases q<;>exact True.intro;simp_all
  |swin m q o l=>
   simp only[AV.deeps,a1A];split;trivial;simp_all
  |_=>exact other (by rintro k q' (g|g|⟨o,l,g⟩)<;>cases g)
 have:=h.pend
 rw[I]at this;show b1j _ _ _ U.pd M.ov;rw[I,Z];trivial
 ·rw[x c fun e=>?_];exact h.frame c R hF
  ·subst e;rcases h.mine c ⟨n,D⟩with g|g
   all_goals grind
 grind
theorem Rel.overR{ty:Ty}{yv:AV}{vx:Value}{K:AE->Rs Z}{z:Z}(hty:a0u P ty (.inl t)=true)(h:Rel B U N tm w M)(Q:U.rt n=some r)(hx:a0l (a0a w M.ov) M.g U.rt (Shr B w M) (.ptr n []) vx)(A:a0l (a0a w M.ov) M.g U.rt (Shr B w M) yv vy)(D:U.over ty n r yv K=some z):
  ∃w' U' M' b o,vx=.pointer (some ⟨b,o,none⟩)/\w'=w.setCells b o vy.cells.toList/\(Instr.storeAt t vx vy).run P w=.ok () w'/\Rel B U' N tm w' M'/\K U'=some z:=by
 unfold AE.over at D
 split at D
 rename_i e y rr hl;obtain⟨i,-⟩:=a0K hl;have O:=h.ov_none i
 split at D
 rename_i G;obtain⟨F,h4,h3,V⟩:=G;have A:VOk (a0a w M.ov) (Shr B w M) e y vy:=A;have H:e.cells=r.t.cells:=by grind[Ty.cells_sh]
 obtain⟨b,C,L⟩:=h.frzBox Q F i;obtain⟨r',t1,b1,o1,q1,X,q3⟩:=hx;simp[a0U,C]at X;obtain⟨-,rfl,rfl⟩:=X;have d:a0Q w b (0+r.t.cells):=by
  have:=h.room (p:=[]) (t:=r.t) (b:=b) (o:=0) Q (by rw[C];rfl)
  omega
 have s:a0u P e (.inl t)=true:=by grind[a3A]
 have l:=c4c s A (b:=b) (o:=0) (by rw[H];omega) (a04 _);rw[<-q3]at l;obtain⟨h5,-⟩:=A.cells;have S:vy.cells.toList.length=r.t.cells:=by simp_all
 obtain⟨-,-,T,R,u⟩:=id A;obtain⟨w',v⟩:∃w',w'=w.setCells b 0 vy.cells.toList:=⟨_,rfl⟩;have hm:∀c j,a0a w' none c j=if c=b/\0<=j/\j<0+r.t.cells then vy.cells.toList[j-0]? else a0a w none c j:=fun c j=>by
  have:=a8G b vy.cells.toList 0 w _ d (by omega) c j
  rw[S]at this;rw[v];exact this
 have k:a0P M b:=⟨n,h.place (p:=[]) (t:=r.t) (b:=b) (o:=0) Q (by rw[C];rfl)⟩;have I:dec (a0a w' none) e ((Src.at b 0).rd (a0a w' none))=some (y,[],T):=a0y e R (fun j hj=>by
  show a0a w' none b (0+j)=_;simp_all) (fun c j f=>by
  rcases f with f|f;simp_all;rw[hm,if_neg,O]
  rintro⟨rfl,-⟩
  exact(u c f).2.2 k)
 have Y:∀(t2:Ty)(E:t2.den),castTo e t2 y=some E->t2.cells=r.t.cells->K ((U.mapv (AV.deeps [n] [])).setRt n (some ⟨true,t2,E⟩))=some z->
   ∃w' U' M' b o,vx=.pointer (some ⟨b,o,none⟩)/\w'=w.setCells b o vy.cells.toList/\(Instr.storeAt t vx vy).run P w=.ok () w'/\Rel B U' N tm w' M'/\K U'=some z:=fun t2 E a h0 hK=>by
  have q:∀c,Shr B w M c->Shr B w ⟨M.g,fun m=>if m=n then[(b,r.t.cells)]else M.ow m,M.ov⟩ c:=fun c ⟨g1,g2,g3⟩=>⟨g1,g2,fun⟨m,h2⟩=>g3 ⟨m,by
   grind⟩⟩
  have:=L.setBox (w':=w') (b:=b) (r:=⟨true,r.t.shn,Ty.shnx r.t r.x⟩) (by simp[AE.setRt]) C (by simp[Ty.cells_shn]) (by simp_all[AE.setRt,AE.mapv]) (t2:=t2) (z:=E) (R2:=T) (by simp_all[Ty.cells_shn]) (b9L a I) (fun c G=>q c (u c G))
   (fun c h1=>by simp_all[a4r]) (fun _ _ hf=>by rw[v];exact hf.setCells _ _ _) (by simp_all[a6o]) (by simp_all[a8H])
  grind[d4P]
 split at D
 grind
 grind[Ty.cells_shn,c4b]
 simp_all;simp_all
theorem Rel.storR{ty:Ty}{yv:AV}{vx:Value}{K:AE->Rs Z}{z:Z}(_hsh:ty.sh=ty)(hty:a0u P ty (.inl t)=true)(h:Rel B U N tm w M)(hx:a0l (a0a w M.ov) M.g U.rt (Shr B w M) (.ptr n p) vx)(L:a0l (a0a w M.ov) M.g U.rt (Shr B w M) yv vy)(C:U.stor ty n p yv K=some z):
  ∃w' U' M' b o,vx=.pointer (some ⟨b,o,none⟩)/\w'=w.setCells b o vy.cells.toList/\(Instr.storeAt t vx vy).run P w=.ok () w'/\Rel B U' N tm w' M'/\K U'=some z:=by
 obtain⟨yw,h7⟩:∃f:AV->AV,f yv=yv:=⟨fun v=>v,rfl⟩;rw[<-h7]at L C;clear h7;obtain⟨r,t0,b,off,X,hl,H⟩:=id hx;obtain⟨O1,R1,k1,k2,k3,k4,k5,k6⟩:=h.sep X;obtain⟨y0,O',R',A1,B1,a4,a6,hd,hg,e1,e2⟩:=a1w p r.t _ k1 hl;unfold AE.stor at C;rw[X]at C;simp only at C
 split at C
 ·rename_i e l g5
  split at C
  ·rename_i G;have k0:t0=.list true e:=by
    simp_all
   subst k0;have d:=h.room X hl;have x:a0P M b:=⟨n,h.place X hl⟩
   split at C
   ·
    rename_i h4;rw[h4]at L;have L:vy=.slice none 0 0:=L
    split at C
    grind
    ·rename_i r2 h0;obtain⟨E,-⟩:=a0K h0;have i:=h.ov_none E;have a:=b9N (A:=none) (n:=0) (c:=0) hty (b2K G) d (o:=off) (a04 _);rw[<-H,<-L]at a;have hm:=d2A (v:=vy) d (o:=off) (Nat.lt_succ_self _);obtain⟨h8,-,u⟩:=h.chg X hl hd (w':=w.setCell ⟨b,off,none⟩ vy) (ov':=M.ov) (pd':=U.pd) (y':=([]:List e.den)) (O2:=[]) (R2:=[]) (.same (by simp_all)) (by
       rw[i];show a0Y _ true e.cells _ (a0a _ none b (off+0))=_;rw[hm,if_pos ⟨rfl,rfl⟩,L];rfl) (fun c j=>by
       rw[i,hm]
       by_cases e1:c=b/\j=off
       simp_all[Ty.cells];simp_all) (by simp) (by simp) (by simp) (fun c k hf _=>hf.setCell _ _) (by simp) (fun c D hF=>by
       rw[a9U,if_neg];exact h.frame c D hF
       ·rintro rfl
        rcases h.mine _ x with g|g
        all_goals grind) (by simp) (f:=AV.kill n p) (fun av=>b9K n p _ av)
     exact⟨_,_,_,b,off,H,by rw[L];rfl,a,u,C⟩
   ·
    rename_i m p' h4;rw[h4]at L;rcases a0f C with⟨D,F⟩|⟨-,F⟩<;>clear C
    ·simp at D;obtain⟨rfl,D⟩:=D;have h2:=a5C _ _ D;subst h2
     split at F
     ·rename_i m2 p2 d2 E;rcases a0f F with⟨V,I⟩|⟨-,I⟩<;>clear F
      ·simp at V;obtain⟨rfl,V⟩:=V;have h2:=a5C _ _ V;subst h2;have hp:=h.pend;rw[E]at hp;cases i:M.ov with
       |none=>rw[i]at hp;exact hp.elim
       |some ov=>
        obtain⟨b2,o2,v2⟩:=ov;rw[i]at hp;obtain⟨r2,e2,q1,R⟩:=hp;rw[X]at q1;simp at q1;subst q1;rw[<-i,hl]at R;simp only[sj,pJ,Src.at.injEq]at R;obtain⟨-,rfl,rfl⟩:=R;obtain⟨r3,e3,s3,S,q4,q5⟩:=L;rw[X]at S;simp at S;subst S;rw[hl]at q4;simp only[sj,pJ]at q4;obtain⟨-,rfl⟩:=q4;have hv:v2=vy:=by
         simp_all[Src.rd,a0a]
        have y:∃A n' T,vy=.slice A n' T:=by
         rcases a2a hd with⟨g,-⟩|⟨A,n',T,os,g,-⟩
         all_goals simp_all
        obtain⟨A,n',T,y⟩:=y;have a:=b9N (A:=A) (n:=n') (c:=T) hty (b2K G) d (o:=off) (a04 _);rw[<-H,<-y,<-hv]at a
        have:=h.done E i
        refine⟨_,_,_,b,off,H,?_,?_,this,I⟩;rw[hv,y];rfl;simp_all
      simp_all
     simp_all
    ·split at F
     ·rename_i r2 e' l' b4 g6
      split at F
      ·rename_i g0;subst g0;rcases a0f F with⟨-,I⟩|⟨h6,I⟩<;>clear F
       grind
       ·have h6:m≠n:=by simp_all
        obtain⟨E,h3⟩:=a0K g6;obtain⟨r3,e3,s3,S,q4,q5⟩:=L;rw[h3]at S;simp at S;subst S;simp only[loc,a0U,sj,pJ]at q4;obtain⟨q4,rfl⟩:=q4;obtain⟨O3,R3,i1,-,-,-,-,i6⟩:=h.sep h3;have g4:M.g m=.one vy:=by
         rcases i6 with⟨a8,-⟩|⟨-,⟨v,hs⟩,-⟩
         all_goals simp_all[Src.rd]
        have y:∃A n' T,vy=.slice A n' T:=by
         rcases a2a i1 with⟨g,-⟩|⟨A,n',T,os,g,-⟩
         all_goals simp_all
        obtain⟨A,n',T,y⟩:=y;have a:=b9N (A:=A) (n:=n') (c:=T) hty (b2K G) d (o:=off) (a04 _);rw[<-H,<-y]at a;obtain⟨h8,u⟩:=h.move X hl hd h3 g4 h6 E (f:=fun av=>AV.drop m (AV.kill n p av)) (fun av=>by
         rcases b9K n p (.list true e') av with g|⟨g,g2⟩;left;rw[g];rfl
         ·rw[g];cases av with
          |ptr m2 R=>
           grind[AV.drop]
          |sref m2 R=>
           grind[AV.drop]
          |swin m2 R o2 k2=>
           grind[AV.drop]
          |_=>exact .inr ⟨rfl,g2,fun k q hh=>by rcases hh with hh|hh|⟨_,_,hh⟩<;>cases hh⟩)
        have g7:(U.mapv (AV.kill n p)).mapv (AV.drop m)=U.mapv fun av=>AV.drop m (AV.kill n p av):=by
         have:∀s:SV,(s.mapv (AV.kill n p)).mapv (AV.drop m)=s.mapv fun av=>AV.drop m (AV.kill n p av):=fun s=>by
          cases s<;>simp[SV.mapv]
         simp_all[AE.mapv]
        rw[g7]at I;exact⟨_,_,_,b,off,H,by rw[y];rfl,a,u,I⟩
      simp_all
     simp_all
   simp_all
  simp_all
 ·rename_i t1 y1 b5 g5
  split at C
  ·rename_i g9;obtain⟨O,a3⟩:=g9;have hty:a0u P t1 (.inl t)=true:=by grind[a3A]
   obtain⟨yv,U1,M1,C,h1,hv,g3,-⟩:=h.asV (.inl L) C
   split at C
   ·rename_i r1 h0;obtain⟨E,Q⟩:=a0K h0;have i:=h1.ov_none E
    split at C
    ·rename_i b0;have a2:a0l (a0a w M1.ov) M1.g U1.rt (Shr B w M1) (.ptr n p) vx:=by
      rcases g3.live (.inl hx)with g|⟨k,q,g1,g2⟩
      all_goals grind
     obtain⟨r3,t3,b3,o3,q1,R,S⟩:=a2;rw[Q]at q1;simp at q1;subst q1;obtain⟨O4,R4,j1,j2,j3,j4,j5,j6⟩:=h1.sep Q;obtain⟨y4,O5,R5,A5,B5,a5,a7,h5,a9,-,-⟩:=a1w p r1.t _ j1 R;have k7:t3=t1:=by
      simp_all
     subst k7;have h9:=b2g O h5;subst h9;have d:=h1.room Q R;have x:a0P M1 b3:=⟨n,h1.place Q R⟩;have a:=c4c hty hv d (o:=o3) (a04 _);rw[<-S]at a;obtain⟨b6,-⟩:=hv.cells;obtain⟨-,-,R6,k8,Y⟩:=id hv;have k9:vy.cells.toList.length=t3.cells:=by omega
     have hm:∀c j,a0a (w.setCells b3 o3 vy.cells.toList) none c j=if c=b3/\o3<=j/\j<o3+t3.cells then vy.cells.toList[j-o3]? else a0a w none c j:=fun c j=>by
      have:=a8G b3 vy.cells.toList o3 w _ d (by omega) c j
      rw[k9]at this;exact this
     obtain⟨h8,-,u⟩:=h1.chg Q R h5 (w':=w.setCells b3 o3 vy.cells.toList) (ov':=M1.ov) (pd':=U1.pd) (y':=yv) (O2:=[]) (R2:=R6) (.same (by simp_all)) (by
       rw[i];refine a0y t3 k8 (fun j hj=>?_) (fun c j D=>?_);show a0a _ none b3 (o3+j)=_;simp_all;rcases D with D|D;simp_all;rw[hm,if_neg,i]
       rintro⟨rfl,-⟩
       exact(Y c D).2.2 x) (fun c j=>by
       grind) (by simp) (by simp) (by simp) (fun c k hf _=>hf.setCells _ _ _) (by simp_all[a6o]) (fun c D hF=>by
       rw[a4r];exact h1.frame c D hF
       ·rintro rfl
        rcases h1.mine _ x with g|g
        all_goals grind) (fun c D=>⟨by rw[a6o];exact(Y c D).1,(Y c D).2.1,(Y c D).2.2,by simp⟩) (f:=id) (fun av=>.inr ⟨rfl,d7d n p O av⟩) (hio:=a8H _ _ _ _)
     rw[e5s]at u;exact⟨_,_,_,b3,o3,S,rfl,a,u,C⟩
    simp_all
   simp_all
  ·cases p with
   |nil=>exact h.overR (hty:=hty) X hx L C
   |cons=>cases C
theorem c6A{o:Oper}{t:TypeId}{x y:Operand}{cx:Cx}{q:Bool}{K:AE->Rs Z}{z:Z}(e:CxTy P cx)(c:o.op=.store t x y)(d:U.aggOf y=none)
  (h:Rel B U N (a0o a) w M)(s:a.tmps.size=N)(l:fits N o=true)(g:aop cx q o U K=some z):a0w P B N o a w K z:=by
 have m:=h.opd (a0R l x (by simp[c,Op.operands]));have v:=h.opd (a0R l y (by simp[c,Op.operands]));have g:(if q then none else match U.opd x with
  |.ptr n p=>match cx.T t with
   |some t=>U.stor t n p (U.opd y) fun U=>K (U.setD o.dst .dead)
   |none=>none
  |_=>none)=some z:=by
  simp only[aop,c,d]at g;omega
 split at g
 grind
 split at g
 rename_i n p j;rw[j]at m
 split at g
 rename_i ty u;obtain⟨i,hty⟩:=e.T t _ u;obtain⟨w',A,M',b,off,-,-,k,f,r⟩:=Rel.storR i hty h m v g;exact a0w.skip s (by simp[execOp,c,k]) f r;simp_all;simp_all
theorem c0D(w:World)(cs:Array Value)(t:TypeId)(k:Nat)(u:Value):
  (w.alloc (.cells cs t)).setCell ⟨w.heap.size,k,none⟩ u=w.alloc (.cells (cs.setIfInBounds k u) t):=by
 have:(w.heap.push (.cells cs t)).modify w.heap.size (fun
   |.cells c elem frozen=>.cells (if(none:Option Nat).isSome then c else c.setIfInBounds k u) elem frozen
   |o=>o)=w.heap.push (.cells (cs.setIfInBounds k u) t):=by
  grind
 simp only[World.setCell,World.alloc]
 grind
theorem sh_sh:∀τ:Ty,τ.sh.sh=τ.sh
 |.int _|.bool|.str|.unit=>rfl
 |.list _ e=>by simp only[Ty.sh,sh_sh e]
 |.nl e=>by simp only[Ty.sh,sh_sh e]
 |.arr _ e=>by simp only[Ty.sh,sh_sh e]
 |.pair a b=>by simp only[Ty.sh,sh_sh a,sh_sh b]
def b2L:Nat->Ty->Option Ty
 |0,τ=>some τ
 |k+1,.pair a b=>if a.cells=1 then b2L k b else none
 |_+1,_=>none
theorem c4f:∀(k:Nat)(τ:Ty){a b:Ty},b2L k τ=some (.pair a b)->a1Z τ k=true/\(a.cells=1->b2L (k+1) τ=some b)/\∀(m:Mem) bl o,loc m τ (.at bl o) (a1l k)=some (a,.at bl (o+k))
 |0,τ,a,b,h=>by
  simp[b2L]at h;subst h;exact⟨rfl,fun h=>by simp[b2L,h],fun m bl o=>rfl⟩
 |k+1,τ,a,b,h=>by
  cases τ with
  |pair u v=>
   simp only[b2L]at h
   split at h
   rename_i c;obtain⟨g,d,f⟩:=c4f k v h;refine⟨g,fun e=>by simp_all[b2L],fun m bl o=>?_⟩
   have:=f m bl (o+u.cells)
   rw[c]at this;show loc m v (.at bl (o+u.cells)) (a1l k)=_
   grind
   simp_all
  |_=>simp[b2L]at h
theorem c5q{τ0:Ty}{t:TypeId}(hty:a0u P τ0 (.inl t)=true){i d b0:Nat}(hi:i<N)(p:d<N){us:Array Value}{tm:Nat->Value}(o:tm i=.agg us)(q:tm d=.pointer (some ⟨b0,0,none⟩)){z:Z}{K:AE->Rs Z}:
  ∀(τ:Ty)(k:Nat){U:AE}{M:Gh}{w:World},Rel B U N tm w M->b2L k τ0=some τ->
   AE.stors (.tmp i) d τ0 k τ U K=some z->us.size=k+τ.cells/\∃y M',Rel B y N tm (w.setCells b0 k (us.toList.drop k)) M'/\K y=some z
 |.unit,k,U,M,w,h,_,hz=>by
  simp[AE.stors]at hz
  split at hz
  rename_i x f;obtain⟨hk,I⟩:=(a0f hz).elim id fun h=>by grind
  have c:=h.slots i hi;simp[AE.aggOf]at f
  split at f
  rename_i Q E;simp at f;subst f;rw[E]at c;obtain⟨us',⟨S,s,T⟩,h4⟩:=c;rw[o]at s;cases s;have hk:Q.length=k:=by simp_all
  refine⟨by simp_all[Ty.cells],U,M,?_,I⟩;rw[List.drop_of_length_le (by simp_all)];exact h;simp_all;simp_all
 |.pair a b,k,U,M,w,h,htl,hz=>by
  simp[AE.stors]at hz
  split at hz
  rename_i r n v V C hv
  split at hz
  rename_i hc;obtain⟨h0,rfl,ha⟩:=hc;obtain⟨S,s,T⟩:=c4f k τ0 htl;have l:=h.slots n p;rw[q]at l;have D:a0l (a0a w M.ov) M.g U.rt (Shr B w M) (.ptr n []) (.pointer (some ⟨b0,0,none⟩)):=by
   simp[AE.get]at C
   split at C
   rename_i v' j;subst C;rw[j]at l;exact l;simp_all
  obtain⟨r',t',b',o',L,O,X⟩:=D;rw[V]at L;simp at L;subst L;simp[a0U]at O;obtain⟨rfl,O⟩:=O;simp at X;obtain⟨rfl,rfl⟩:=X;have hx:a0l (a0a w M.ov) M.g U.rt (Shr B w M) (.ptr n (a1l k)) (.pointer (some ⟨b0,k,none⟩)):=by
   refine⟨r,a,b0,0+k,V,?_,by simp⟩;simp_all
  have c:=h.slots i hi;have f:∃x,U.sl i=.cmp .agg x/\x[k]?=some v:=by
   grind[AE.aggOf]
  obtain⟨x,E,H⟩:=f;rw[E]at c;obtain⟨us',⟨g1,R,g3⟩,g4⟩:=c;rw[o]at R;cases R;obtain⟨u,G,hu⟩:=g4 k v H;obtain⟨fs,h5,j⟩:∃fs,P.underlying t=some (.struct fs)/\a0u P τ0 (.inr (fs.toList,0))=true:=by
   grind[b4o]
  obtain⟨fl,τ',k',q1,q2,q3,q4,q5⟩:=b5G k τ0 _ 0 j S;have e:=(q5 (a0a w none) 0 0).symm.trans (T (a0a w none) 0 0);simp only[sj,pJ]at e;obtain⟨rfl,-⟩:=e;have F:a0u P τ'.sh (.inl fl.type)=true:=by rw[a3A];omega
  have m:τ'.sh.sh=τ'.sh:=sh_sh τ';obtain⟨w',y,M',b2,o2,s1,Y,s3,s4,s5⟩:=Rel.storR m F h hx hu hz;simp at s1;obtain⟨rfl,rfl⟩:=s1;rw[c1t (g3 k u G)]at Y;subst Y;obtain⟨c1,U2,M2,c2,c3⟩:=c5q hty hi p o q b (k+1) s4 (s ha) s5;refine⟨by grind[Ty.cells],U2,M2,?_,c3⟩;have A:us.toList.drop k=u::us.toList.drop (k+1):=by
   grind[a32]
  rw[A];exact c2;simp_all;simp_all
 |.int _,k,U,M,w,_,_,hz=>by simp[AE.stors]at hz
 |.bool,k,U,M,w,_,_,hz=>by simp[AE.stors]at hz
 |.str,k,U,M,w,_,_,hz=>by simp[AE.stors]at hz
 |.list _ _,k,U,M,w,_,_,hz=>by simp[AE.stors]at hz
 |.arr _ _,k,U,M,w,_,_,hz=>by simp[AE.stors]at hz
theorem b8P(w:World)(t:TypeId):∀(l:List Value)(k:Nat)(cs:Array Value),k+l.length=cs.size->
  (w.alloc (.cells cs t)).setCells w.heap.size k l=w.alloc (.cells (cs.toList.take k++l).toArray t)
 | [],k,cs,h=>by
  simp_all[World.setCells,List.take_of_length_le]
 |u::l,k,cs,h=>by
  simp only[World.setCells,lC]at h|-;rw[c0D,b8P w t l (k+1) _ (by simp;omega)];congr 2;have g:k<cs.toList.length:=by simp;omega
  simp only[Array.toList_setIfInBounds];rw[a37 (by simpa using g)];simp[a54]
theorem d4Q{o:Oper}{t:TypeId}{x:Operand}{d:Nat}{cx:Cx}{q:Bool}{K:AE->Rs Z}{z:Z}{vs:List AV}(j:CxTy P cx)(r:o.op=.box t x)(H:o.dst=some d)(e:(bif q then none else U.aggOf x)=some vs)
  (h:Rel B U N (a0o a) w M)(E:a.tmps.size=N)(O:fits N o=true)(b:aop cx q o U K=some z):a0w P B N o a w K z:=by
 have g:U.aggOf x=some vs:=by
  grind
 have m:=a0R O x (by simp[r,Op.operands]);have l:d<N:=by
  simp_all[fits]
 simp[aop,r,H,e]at b
 ·split at b
  ·rename_i τ hrd hO
   split at b
   ·rename_i F;have hty:a0u P τ (.inl t)=true:=by rw[<-a3A];exact(j.T t _ F).2
    obtain⟨I⟩:=a0D (a0L hty);cases x with
    |tmp i=>
     have hi:i<N:=by simpa[a1m]using m
     have k:=h.slots i hi;have R:U.sl i=.cmp .agg vs:=by
      grind[AE.aggOf]
     rw[R]at k;obtain⟨us,⟨Y,D,h3⟩,h4⟩:=k;have L:a.eval (.tmp i)=.agg us:=D;have f:(execOp a.eval o).run P w=.ok (.value (.pointer (some ⟨w.heap.size,0,none⟩))) (w.alloc (.cells us t)):=by
      simp_all[execOp,Instr.box,newVar,newRow,Value.cells]
     obtain⟨V,S,n,u,y⟩:=h.newBox b (fun c G=>a1I _ c G) (a2b _) (a1B (w:=w) (.cells I.z.cells t)) I.zsize (a6v _ I.zok) (by simp);have Q:i≠d:=by
      rintro rfl
      cases τ<;>simp[AE.stors,AE.aggOf,AE.set,AE.put]at n
     have A:=u.putd (sv:=.one (.ptr d [])) (v:=.pointer (some ⟨w.heap.size,0,none⟩)) (d:=d) E (fun _=>y);obtain⟨X,s,M',p,C⟩:=c5q hty hi l (us:=us) (tm:=a0o (a.put (some d) (.pointer (some ⟨w.heap.size,0,none⟩)))) (by simp_all[b6j]) (by rw[b6j d (by omega),if_pos rfl]) τ 0 A rfl n;rw[a66,b8P w t us.toList 0 I.z.cells (by rw[I.zsize,a41];omega)]at p;simp at p;exact⟨_,_,s,M',.inl f,by simp_all,C⟩
    |_=>simp[AE.aggOf]at g
   simp_all
  simp_all
theorem c0E{o:Oper}{t:TypeId}{x y:Operand}{cx:Cx}{q:Bool}{K:AE->Rs Z}{z:Z}{vs:List AV}(G:CxTy P cx)(H:o.op=.store t y x)(n:U.aggOf x=some vs)
  (h:Rel B U N (a0o a) w M)(hN:a.tmps.size=N)(X:fits N o=true)(f:aop cx q o U K=some z):a0w P B N o a w K z:=by
 have O:=a0R X x (by simp[H,Op.operands]);have Q:=a0R X y (by simp[H,Op.operands]);have f:(if q then none else match y with
   |.tmp s=>match U.rt s with
    |some r=>if cx.T t=some r.t.sh/\0<r.t.cells then AE.stors x s r.t 0 r.t U fun U=>K (U.setD o.dst .dead)else none
    |none=>none
   |_=>none)=some z:=by
  simp only[aop,H,n]at f;omega
 split at f
 grind
 ·cases y with
  |tmp d=>
   simp at f;have p:d<N:=by simpa[a1m]using Q
   split at f
   ·rename_i r I
    split at f
    ·rename_i F;obtain⟨F,c⟩:=F;have hty:a0u P r.t (.inl t)=true:=by rw[<-a3A];exact(G.T t _ F).2
     cases x with
     |tmp i=>
      have hi:i<N:=by simpa[a1m]using O
      have D:=h.slots i hi;have hs:U.sl i=.cmp .agg vs:=by
       grind[AE.aggOf]
      rw[hs]at D;obtain⟨us,⟨h1,V,h3⟩,h4⟩:=D;have h5:a.eval (.tmp i)=.agg us:=V

      have C:∃e,a0o a d=.pointer (some ⟨e,0,none⟩)/\loc (a0a w M.ov) r.t (M.g d) []=some (r.t,.at e 0):=by
       have j:U.get d=.ptr d []:=by
        revert f c
        cases r.t with
        |pair u v=>
         grind[AE.stors]
        |unit=>simp_all[Ty.cells]
        |_=>intro c f;simp[AE.stors]at f
       have b:a0l (a0a w M.ov) M.g U.rt (Shr B w M) (.ptr d []) (a0o a d):=by
        have b:=h.slots d p;simp[AE.get]at j
        split at j
        rename_i v' L;subst j;rw[L]at b;exact b;simp_all
       obtain⟨r',t',b',o',R,m,p3⟩:=b;rw[I]at R;simp at R;subst R;simp[a0U]at m;obtain⟨rfl,m⟩:=m;obtain⟨O',R',-,-,hb⟩:=(h.roots d r I).rd;rcases hb with⟨-,e,q1,-⟩|⟨-,⟨v,q1⟩,-⟩;rw[q1]at m;simp at m;obtain⟨rfl,rfl⟩:=m;simp_all[a0U];simp_all
      obtain⟨e,E,A⟩:=C;have l:=h.room I A;obtain⟨g0,U',M',S,g6⟩:=c5q hty hi p (us:=us) V E r.t 0 h rfl f;rw[a66]at S;have Y:(Instr.storeAt t (.pointer (some ⟨e,0,none⟩)) (.agg us)).run P w=.ok () (w.setCells e 0 us.toList):=
       c1q hty (by simp_all[Value.cells]) (fun u hu=>by
        obtain⟨k,hk⟩:=a39.1 hu;exact h3 k u (by rw[<-a09];exact hk)) l (a04 _)
      have h0:a.eval (.tmp d)=.pointer (some ⟨e,0,none⟩):=E;exact a0w.skip hN (by simp_all[execOp]) S g6
     |_=>simp[AE.aggOf]at n
    simp_all
   simp_all
  |_=>grind
end
theorem b3O:∀(p q:a0C)(t:Ty)(x:t.den),a1j (p++q) t x=a1j q (a1j p t x).1 (a1j p t x).2
 | [],_,_,_=>rfl
 |.fst::p,q,t,x=>by
  cases t with
  |pair a b=>exact b3O p q a x.1
  |_=>cases q with
   |nil=>rfl
   |cons s q=>cases s<;>rfl
 |.snd::p,q,t,x=>by
  cases t with
  |pair a b=>exact b3O p q b x.2
  |_=>cases q with
   |nil=>rfl
   |cons s q=>cases s<;>rfl
 |.idx i::p,q,t,x=>by
  cases t with
  |arr n e=>exact b3O p q e _
  |list o e=>cases o with
   |true=>exact b3O p q e _
   |false=>cases q with
    |nil=>rfl
    |cons s q=>cases s<;>rfl
  |_=>cases q with
   |nil=>rfl
   |cons s q=>cases s<;>rfl
theorem b6n(t:Ty)(x y:t.den):a2e [] t x t y=y:=c5k t x y
theorem b6o:∀(p q:a0C)(t:Ty)(x:t.den)(t':Ty)(y:t'.den),a2e (p++q) t x t' y=a2e p t x (a1j p t x).1 (a2e q (a1j p t x).1 (a1j p t x).2 t' y)
 | [],q,t,x,t',y=>(b6n t x (a2e q t x t' y)).symm
 |.fst::p,q,t,x,t',y=>by
  cases t with
  |pair a b=>
   show(a2e (p++q) a x.1 t' y,x.2)=(a2e p a x.1 (a1j p a x.1).1 (a2e q (a1j p a x.1).1 (a1j p a x.1).2 t' y),x.2);simp_all[b6o]
  |_=>rfl
 |.snd::p,q,t,x,t',y=>by
  cases t with
  |pair a b=>
   show(x.1,a2e (p++q) b x.2 t' y)=(x.1,a2e p b x.2 (a1j p b x.2).1 (a2e q (a1j p b x.2).1 (a1j p b x.2).2 t' y));simp_all[b6o]
  |_=>rfl
 |.idx i::p,q,t,x,t',y=>by
  cases t with
  |arr n e=>
   show a55 x i (a2e (p++q) e (a29 x i e.dflt) t' y)=a55 x i (a2e p e (a29 x i e.dflt) (a1j p e (a29 x i e.dflt)).1 (a2e q (a1j p e (a29 x i e.dflt)).1 (a1j p e (a29 x i e.dflt)).2 t' y));simp_all[b6o]
  |list o e=>cases o with
   |true=>
    show a55 x i (a2e (p++q) e (a29 x i e.dflt) t' y)=a55 x i (a2e p e (a29 x i e.dflt) (a1j p e (a29 x i e.dflt)).1 (a2e q (a1j p e (a29 x i e.dflt)).1 (a1j p e (a29 x i e.dflt)).2 t' y));simp_all[b6o]
   |false=>rfl
  |_=>rfl
theorem c1w:∀(p:a0C)(t:Ty)(x:t.den)(t':Ty)(y:t'.den),b6f p=true->(a1j p t x).1=t'->a1j p t (a2e p t x t' y)=⟨t',y⟩
 | [],t,x,t',y,_,h=>by
  have h:t=t':=h;subst h;exact congrArg (Sigma.mk t) (b6n t x y)
 |.fst::p,t,x,t',y,hp,h=>by
  cases t with
  |pair a b=>exact c1w p a x.1 t' y hp h
  |_=>
   have h:Ty.unit=t':=h;subst h;rfl
 |.snd::p,t,x,t',y,hp,h=>by
  cases t with
  |pair a b=>exact c1w p b x.2 t' y hp h
  |_=>
   have h:Ty.unit=t':=h;subst h;rfl
 |.idx _::_,_,_,_,_,hp,_=>by cases hp
theorem c1x:∀(p:a0C)(t:Ty)(x:t.den)(t':Ty)(y z:t'.den),b6f p=true->(a1j p t x).1=t'->a2e p t (a2e p t x t' y) t' z=a2e p t x t' z
 | [],t,x,t',y,z,_,h=>by
  have h:t=t':=h
  grind[b6n]
 |.fst::p,t,x,t',y,z,hp,h=>by
  cases t with
  |pair a b=>
   show(a2e p a (a2e p a x.1 t' y) t' z,x.2)=(a2e p a x.1 t' z,x.2);rw[c1x p a x.1 t' y z hp h]
  |_=>rfl
 |.snd::p,t,x,t',y,z,hp,h=>by
  cases t with
  |pair a b=>
   show(x.1,a2e p b (a2e p b x.2 t' y) t' z)=(x.1,a2e p b x.2 t' z);rw[c1x p b x.2 t' y z hp h]
  |_=>rfl
 |.idx _::_,_,_,_,_,_,hp,_=>by cases hp
theorem b7r:∀(p:a0C)(t:Ty)(x:t.den),b6f p=true->a2e p t x (a1j p t x).1 (a1j p t x).2=x
 | [],t,x,_=>b6n t x x
 |.fst::p,t,x,hp=>by
  cases t with
  |pair a b=>
   show(a2e p a x.1 (a1j p a x.1).1 (a1j p a x.1).2,x.2)=x;rw[b7r p a x.1 hp];rfl
  |_=>rfl
 |.snd::p,t,x,hp=>by
  cases t with
  |pair a b=>
   show(x.1,a2e p b x.2 (a1j p b x.2).1 (a1j p b x.2).2)=x;rw[b7r p b x.2 hp];rfl
  |_=>rfl
 |.idx _::_,_,_,hp=>by cases hp
section
variable {P:Program} {B:Base} {N:Nat} {Z:Type} {U:AE} {a:Act} {w:World} {M:Gh}
theorem c9T(h:Rel B U N tm w M){n p v r k}{l:List Int}(q:a0l (a0a w M.ov) M.g U.rt (Shr B w M) (.sref n p) v)(i:U.rt n=some r)(y:a0T r.t r.x p=⟨.list true (.int k),l⟩):
  ∃A c,v=.slice A l.length c/\∀j,j<l.length->∃f,A=some f/\f.spot=none/\a0l (a0a w M.ov) M.g U.rt (Shr B w M) (.ptr n (p++[.idx (0+j)])) (.pointer (some ⟨f.block,f.off+j,none⟩)):=by
 obtain⟨s,D,E,m,F,G,o,-,-⟩:=h.slice q i y;rcases a2a o with⟨hv,a⟩|⟨f,C,c,os,hv,b,z,u,-⟩;simp[Src.rd]at hv;obtain⟨a,-⟩:=a;subst a;exact⟨none,0,hv,fun j d=>absurd d (Nat.not_lt_zero j)⟩;simp[Src.rd]at hv;have e:l.length=C:=a0W _ _ u;refine⟨some f,c,by simp_all,fun j d=>⟨f,rfl,b.resolve_left (by omega),r,.int k,f.block,f.off+j,i,?_,rfl⟩⟩;rw[a3M p _ _ _ m];simp_all[a0U,Ty.cells]
theorem c9U(h:Rel B U N tm w M){n p v r k off len}{l:List Int}(u:a0l (a0a w M.ov) M.g U.rt (Shr B w M) (.swin n p off len) v)(e:U.rt n=some r)(z:a0T r.t r.x p=⟨.list true (.int k),l⟩):
  off+len<=l.length/\∃A c,v=.slice A len c/\∀j,j<len->∃a,A=some a/\a.spot=none/\a0l (a0a w M.ov) M.g U.rt (Shr B w M) (.ptr n (p++[.idx (off+j)])) (.pointer (some ⟨a.block,a.off+j,none⟩)):=by
 obtain⟨s,E,F,A,i,c,o,H,q,I,K,L,m,hv,O,g8⟩:=h.window u e z;rcases a2a q with⟨f,Q⟩|⟨a,R,G,os,f,b,D,y,-⟩;simp[Src.rd]at f;simp_all;simp[Src.rd]at f;obtain⟨rfl,rfl,rfl⟩:=f;have d:l.length=i:=a0W _ _ y;refine⟨by omega,m,_,hv,fun j P=>?_⟩;rcases g8 with g8|g8;omega;simp[a3N (b.resolve_left (by omega))]at g8;refine⟨_,g8,rfl,r,.int k,a.block,a.off+off*1+j,e,?_,rfl⟩;rw[a3M p _ _ _ o];have C:off+j<i:=by omega
 simp_all[a0U,Ty.cells,Nat.add_assoc]
theorem c6B{U:AE}(h:U.rt n=some r):U.setRt n (some r)=U:=by
 have:(fun j=>bif j==n then some r else U.rt j)=U.rt:=by
  grind
 simp_all[AE.setRt]
theorem d4R{U:AE}{r r':Option Root}:(U.setRt n r).setRt n r'=U.setRt n r':=by
 simp only[AE.setRt]
 grind
theorem d2B(l:List Int)(i:Nat):a1j [.idx i] (.list true (.int k)) l=⟨.int k,l.getD i 0⟩:=rfl
theorem e2i(l:List Int)(i:Nat)(y:Int):a2e [.idx i] (.list true (.int k)) l (.int k) y=l.set i y:=by
 show l.set i (a2e [] (.int k) (l.getD i 0) (.int k) y)=_;exact congrArg _ (b6n (.int k) _ y)
theorem e2j{l:List Int}{y:Int}(b:U.pd=none)(e:U.rt n=some r)(h:a0T r.t r.x p=⟨.list true (.int k),l⟩):
  U.stor (.int k) n (p++[.idx i]) (.val (.int k) y) some=some (U.setRt n (some ⟨r.bx,r.t,a1T r.t r.x p (.list true (.int k)) (l.set i y)⟩)):=by
 have h:a1j p r.t r.x=⟨.list true (.int k),l⟩:=h;have f:a1j (p++[.idx i]) r.t r.x=⟨.int k,l.getD i 0⟩:=by rw[b3O,h,d2B]
 have a:a2e (p++[.idx i]) r.t r.x (.int k) y=a2e p r.t r.x (.list true (.int k)) (l.set i y):=by
  have g:=b6o p [.idx i] r.t r.x (.int k) y;rw[h]at g;exact g.trans (congrArg (fun z:List Int=>a2e p r.t r.x (.list true (.int k)) z) (e2i l i y))
 have c:a0T r.t r.x (p++[.idx i])=⟨.int k,l.getD i 0⟩:=f;have d:a1T r.t r.x (p++[.idx i]) (.int k) y=a1T r.t r.x p (.list true (.int k)) (l.set i y):=a;simp_all[AE.stor,Ty.sh,Ty.shn,AE.asV,AE.look,castTo]
theorem e0d{n:Nat}{p:a0C}{k:IntKind}{t0:TypeId}{i:Nat}{av:AV}{tm:Nat->Value}{b o off m L:Nat}(hp:b6f p=true)(hty:a0u P (.int k) (.inl t0)=true)
  (f:∀{U:AE}{M:Gh}{w:World}{r:Root}{l:List Int},Rel B U N tm w M->U.sl i=.one av->U.rt n=some r->a0T r.t r.x p=⟨.list true (.int k),l⟩->l.length=L->∀j,j<m->
   a0l (a0a w M.ov) M.g U.rt (Shr B w M) (.ptr n (p++[.idx (off+j)])) (.pointer (some ⟨b,o+j,none⟩)))(c:off+m<=L):
  ∀(ys:List Int)(s:Nat){U:AE}{M:Gh}{w:World}{r:Root}{l:List Int},s+ys.length<=m->Rel B U N tm w M->U.pd=none->U.sl i=.one av->U.rt n=some r->a0T r.t r.x p=⟨.list true (.int k),l⟩->l.length=L->
   ∃M',Rel B (U.setRt n (some ⟨r.bx,r.t,a1T r.t r.x p (.list true (.int k)) (l.take (off+s)++(ys++l.drop (off+s+ys.length)))⟩)) N tm (w.setCells b (o+s) (ys.map (Value.int k))) M'
 | [],s,U,M,w,r,l,_,h,_,_,hr,a,_=>by
  refine⟨M,?_⟩;have a:a1j p r.t r.x=⟨.list true (.int k),l⟩:=a;have e:a1T r.t r.x p (.list true (.int k)) (l.take (off+s)++([]++l.drop (off+s+([]:List Int).length)))=r.x:=by
   have A:=b7r p r.t r.x hp;rw[a]at A;have u:l.take (off+s)++([]++l.drop (off+s+([]:List Int).length))=l:=by
    simp
   exact(congrArg (fun z:List Int=>a2e p r.t r.x (.list true (.int k)) z) u).trans A
  have F:Rel B (U.setRt n (some ⟨r.bx,r.t,r.x⟩)) N tm w M:=by
   rw[show(⟨r.bx,r.t,r.x⟩:Root)=r from rfl,c6B hr];omega
  exact(congrArg (fun z=>Rel B (U.setRt n (some ⟨r.bx,r.t,z⟩)) N tm w M) e).mpr F
 |y::ys,s,U,M,w,r,l,hs,h,hpd,hsl,hr,a,hl=>by
  simp at hs;have I:=f h hsl hr a hl s (by omega);have K:=e2j (i:=off+s) (y:=y) hpd hr a;obtain⟨w',Q,M',R,S,s1,v,-,O,C⟩:=Rel.storR rfl hty h I (a0l.mk_int (k:=k) y) K;simp at s1 C;obtain⟨rfl,rfl⟩:=s1;subst C;have v:w'=w.setCell ⟨b,o+s,none⟩ (.int k y):=v;subst v;have G:a1j p r.t r.x=⟨.list true (.int k),l⟩:=a;have q:=c1w p r.t r.x (.list true (.int k)) (l.set (off+s) y) hp (by grind);obtain⟨D,d⟩:=e0d hp hty f c ys (s+1) (r:=⟨r.bx,r.t,a1T r.t r.x p (.list true (.int k)) (l.set (off+s) y)⟩) (l:=l.set (off+s) y) (by omega) O hpd hsl (b0w _) q (by simp_all);refine⟨D,?_⟩;rw[d4R]at d;have E:a1T r.t (a1T r.t r.x p (.list true (.int k)) (l.set (off+s) y)) p (.list true (.int k)) ((l.set (off+s) y).take (off+(s+1))++(ys++(l.set (off+s) y).drop (off+(s+1)+ys.length))) =
    a1T r.t r.x p (.list true (.int k)) (l.take (off+s)++(y::ys++l.drop (off+s+(y::ys).length))):=by
   refine(c1x p r.t r.x (.list true (.int k)) _ _ hp (by grind)).trans (congrArg _ ?_);have H:off+s<l.length:=by omega
   rw[show off+(s+1)=off+s+1 from rfl,a37 (by simp_all)];rw[List.drop_set_of_lt (by omega)];simp only[List.getElem_set_self,a54 (a04 _),aA,lC,List.cons_append,a50]
   grind
  rw[E]at d;exact d
theorem e2k{t0:TypeId}{off Lc c:Nat}{l ys:List Int}(hty:a0u P (.int k) (.inl t0)=true)(h:Rel B U N (a0o a) w M)(h9:U.pd=none)(hp:b6f p=true)(F:U.sl i=.one av)(H:U.rt n=some r)(O:a0T r.t r.x p=⟨.list true (.int k),l⟩)(g1:off+Lc<=l.length)(D:∀{U:AE}{M:Gh}{w:World}{r:Root}{l':List Int},Rel B U N (a0o a) w M->U.sl i=.one av->U.rt n=some r->a0T r.t r.x p=⟨.list true (.int k),l'⟩->l'.length=l.length->∀j,j<Lc->
   ∃f,A=some f/\f.spot=none/\a0l (a0a w M.ov) M.g U.rt (Shr B w M) (.ptr n (p++[.idx (off+j)])) (.pointer (some ⟨f.block,f.off+j,none⟩)))(hE:b1D w (a0a w M.ov) (Shr B w M) (.int k) ys vy){ty:TypeId}(h0:ts[0]?=some t)(V:P.underlying t=some (.slice t'))(I:Info P (.int k) t'):
  ∃w' M',(Builtin.copy_ ts ty #[.slice A Lc c,vy]).run P w=.ok (goInt ((min Lc ys.length:Nat):Int)) w'/\
   Rel B (U.setRt n (some ⟨r.bx,r.t,a1T r.t r.x p (.list true (.int k)) (b5C l off Lc ys)⟩)) N (a0o a) w' M':=by
 obtain⟨Y,ny,cy,cs,rfl,hn,hlen,hone,⟨R,K,hR⟩,hc,hnone,hsp⟩:=hE;have h5:cs=ys.map (Value.int k):=by
  have:=b5I ys ny 0 (by simp_all[Ty.cells]) K
  simp_all
 obtain⟨m,T⟩:∃m,m=min Lc ys.length:=⟨_,rfl⟩;have h8:m<=ny:=by rw[hn,T];exact Nat.min_le_right _ _
 have d:=b2y (P:=P) (w:=w) (w2:=w) (e:=.int k) rfl (fun _=>rfl) hlen hc hnone m h8 (c:=cy);simp[Ty.cells]at d;have G:cs.take m=(ys.take m).map (Value.int k):=by simp_all
 have Q:b5C l off Lc ys=l.take (off+0)++(ys.take m++l.drop (off+0+(ys.take m).length)):=by
  simp_all[b5C]
 have C:Nat.min ny Lc=m:=by rw[T,hn];exact Nat.min_comm _ _
 have v:(sizeOf t').run P w=.ok 1 w:=by have:=I.sizeOf (w:=w);simp_all[Ty.cells]
 by_cases hm0:m=0
 refine⟨w,M,?_,?_⟩;rw[<-T];simp only[Builtin.copy_,h0];have h6:(Builtin.firstCells 1 0 (.slice Y ny cy)).run P w=.ok #[] w:=by
  simp_all
 simp[run_underlying V,Builtin.lenOf,C,hm0,v,h6];cases A<;>simp[storeCells];have e:b5C l off Lc ys=l:=by
  rw[Q,hm0];simp
 have h1:=b7r p r.t r.x hp;have s:a1j p r.t r.x=⟨.list true (.int k),l⟩:=O;rw[s]at h1;have h4:Rel B (U.setRt n (some ⟨r.bx,r.t,r.x⟩)) N (a0o a) w M:=by
  rw[show(⟨r.bx,r.t,r.x⟩:Root)=r from rfl,c6B H];omega
 exact(congrArg (fun z:List Int=>Rel B (U.setRt n (some ⟨r.bx,r.t,a1T r.t r.x p (.list true (.int k)) z⟩)) N (a0o a) w M) e).mpr ((congrArg (fun z=>Rel B (U.setRt n (some ⟨r.bx,r.t,z⟩)) N (a0o a) w M) h1).mpr h4);obtain⟨f,rfl,g2,-⟩:=D h F H O rfl 0 (by omega);obtain⟨M',h2⟩:=e0d (b:=f.block) (o:=f.off) (off:=off) (m:=m) (L:=l.length) hp hty (fun hR hs g0 s h7 j hj=>by
   obtain⟨A1,e1,-,g⟩:=D hR hs g0 s h7 j (by omega);simp_all) (by omega) (ys.take m) 0 (by simp_all) h h9 F H O rfl
 refine⟨_,M',?_,(congrArg (fun z=>Rel B (U.setRt n (some ⟨r.bx,r.t,a1T r.t r.x p (.list true (.int k)) z⟩)) N (a0o a) (w.setCells f.block (f.off+0) ((ys.take m).map (Value.int k))) M') Q).mpr h2⟩;have q:∀j,j<m->∃X,a0Q w f.block X/\f.off+j<X:=fun j hj=>by
  obtain⟨A1,e1,-,r1,t1,b1,o1,q1,Z,q3⟩:=D h F H O rfl j (by omega);simp at e1;subst e1;simp at q3;obtain⟨rfl,rfl⟩:=q3;have E:=h.room q1 Z;refine⟨_,E,?_⟩;have g3:t1=.int k:=by
   rw[H]at q1;simp at q1;subst q1;obtain⟨O1,R1,k1,-⟩:=h.sep H;obtain⟨y,O',R',_,_,_,_,-,g4,-⟩:=a1w _ r.t _ k1 Z;have g5:a1j (p++[.idx (off+j)]) r.t r.x=⟨t1,y⟩:=g4;have s:a1j p r.t r.x=⟨.list true (.int k),l⟩:=O;rw[b3O,s,d2B]at g5
   grind
  grind
 have S:=run_storeCells_cells (P:=P) f.block f.off (cs.take m) 0 w (fun j hj=>by
   obtain⟨X,q1,Z⟩:=q j (by simp_all);exact(q1.cell (o:=f.off+0+j) (by omega)).1) (fun j hj=>by
   obtain⟨X,q1,Z⟩:=q j (by simp_all);exact(q1.cell (o:=f.off+0+j) (by omega)).2) (fun u V=>a9r (hone u (List.mem_of_mem_take V)))
 have h3:f=⟨f.block,f.off,none⟩:=by cases f;grind
 rw[<-h3,h5]at S;rw[<-T];simp only[Builtin.copy_,h0];simp only[a22]at *;simp[run_underlying V,Builtin.lenOf,C,v,d,S,G]
theorem e0e{o:Oper}{c:Call}{d:Nat}{cx:Cx}{q:Bool}{K:AE->Rs Z}{z:Z}(h4:CxTy P cx)(ho:o.op=.call c)(hb:c.callee=.builtin .copy)(hd:o.dst=some d)
  (h:Rel B U N (a0o a) w M)(hN:a.tmps.size=N)(hf:fits N o=true)(F:aop cx q o U K=some z):a0w P B N o a w K z:=by
 obtain⟨cs,X⟩:=b6b (P:=P) (a:=a) (w:=w) ho hb;have hl:∃x y,c.args.toList=[x,y]:=by
  cases hl:c.args.toList with
  |nil=>simp_all[aop,AE.blt]
  |cons x l=>
   cases l with
   |nil=>simp_all[aop,AE.blt]
   |cons y l=>
    cases l with
    |nil=>simp
    |cons u l=>simp_all[aop,AE.blt]
 obtain⟨x,y,h0⟩:=hl;have O:c.args=#[x,y]:=by grind
 have E:=b7q ho hb hf;rw[h0]at E;have hx:=h.opd (E x (by simp));have hy:=h.opd (E y (by simp));simp only[aop,ho,hd,hb,h0,a07,a49,AE.blt]at F
 split at F
 grind
 ·split at F
  ·rename_i o' k hT;obtain⟨t,ht,hT⟩:=a34.1 hT;have h8:c.argTypes[0]?=some t:=by
    rw[<-a09];cases hl:c.argTypes.toList with
    |nil=>simp_all
    |cons y l=>simp_all
   obtain⟨g3,hty⟩:=h4.T t _ hT;obtain⟨t',hu,Y,g1⟩:=a1G hty;obtain⟨I⟩:=a0D (a0L Y);obtain⟨ys,F,hE⟩:=h.elems rfl hy F;have g2:∀(n:Nat)(p:a0C)(off:Nat)(G:Option Nat),(U.opd x=.sref n p/\off=0/\G=none\/∃s,U.opd x=.swin n p off s/\G=some s)->
     U.copTo n p off G k ys (fun m H=>K (H.set d (.val (.int .i64) (m:Int))))=some z->a0w P B N o a w K z:=by
    intro n p off G C F;unfold AE.copTo at F
    split at F
    ·rename_i r h5;obtain⟨h6,hr⟩:=a0K h5
     split at F
     ·rename_i k' l hg;obtain⟨hc,h2⟩:=(a0f F).elim id fun h=>by grind
      simp at hc;obtain⟨rfl,hp⟩:=hc;have g0:∃i,x=.tmp i/\U.sl i=.one (U.opd x):=by
       cases x with
       |tmp i=>
        refine⟨i,rfl,?_⟩
        grind[AE.opd,AE.get]
       |const v=>
        exfalso
        simp[AE.opd]at C;unfold b6a at C
        grind
       |global g=>rcases C with⟨S,-⟩|⟨_,S,-⟩<;>cases S
       |func f=>rcases C with⟨S,-⟩|⟨_,S,-⟩<;>cases S
      obtain⟨i,rfl,h7⟩:=g0;have hi:i<N:=by simp_all[a1m]
      have done:∀(A:Option Addr)(s L:Nat),a.eval (.tmp i)=.slice A s L->G.getD (a19 l)=s->off+s<=a19 l->
        (∀{H:AE}{M:Gh}{w:World}{r:Root}{l':List Int},Rel B H N (a0o a) w M->H.sl i=.one (U.opd (.tmp i))->H.rt n=some r->a0T r.t r.x p=⟨.list true (.int k'),l'⟩->l'.length=a19 l->∀j,j<s->
         ∃A0,A=some A0/\A0.spot=none/\a0l (a0a w M.ov) M.g H.rt (Shr B w M) (.ptr n (p++[.idx (off+j)])) (.pointer (some ⟨A0.block,A0.off+j,none⟩)))->a0w P B N o a w K z:=by
       intro A s L hv h3 D Q;obtain⟨w',M',k1,k2⟩:=e2k (ty:=o.type) Y h h6 hp h7 hr hg D Q hE h8 hu I (c:=L);rw[h3]at h2;refine a0w.set hd hN (w':=w') (M':=M') (X.trans ?_) k2 (a0l.mk_int _) h2;rw[O];have h9:a.eval (.tmp i)=.slice A s L:=hv;simp[builtin,h9,k1];rfl
      rcases C with⟨V,rfl,rfl⟩|⟨s,V,rfl⟩;rw[V]at hx;obtain⟨A,L,hv,-⟩:=c9T h hx hr hg;refine done A (a19 l) L hv rfl (by omega) fun {H M w r l'} hR hs hr' hg' hl' j hj=>?_
      have b:=hR.slots i hi;rw[hs,V]at b;obtain⟨A2,c2,R,Q⟩:=c9T hR b hr' hg';have e:=R.symm.trans hv;simp_all;rw[V]at hx;obtain⟨D,A,L,hv,-⟩:=c9U h hx hr hg;refine done A s L hv rfl D fun {H M w r l'} hR hs hr' hg' hl' j hj=>?_
      have b:=hR.slots i hi;rw[hs,V]at b;obtain⟨-,A2,c2,R,Q⟩:=c9U hR b hr' hg';have e:=R.symm.trans hv;simp_all
     simp_all
    simp_all
   unfold AE.copK at F
   grind
  simp_all
theorem d0Y{o:Oper}{f:Nat}{first caps:Array Operand}{d:Nat}{cx:Cx}{q:Bool}{K:AE->Rs Z}{z:Z}(l:o.op=.makeFunc (.func f) first caps)(j:o.dst=some d)
  (h:Rel B U N (a0o a) w M)(m:a.tmps.size=N)(n:fits N o=true)(i:aop cx q o U K=some z):a0w P B N o a w K z:=by
 have g:=a0R n;rw[l]at g;simp[aop,l,j]at i;obtain⟨b,i⟩:=(a0f i).elim id fun h=>by grind
 have b:first=#[]:=by simp_all
 subst b;have c:(execOp a.eval o).run P w=.ok (.value (.func (.func f) #[] (caps.map a.eval))) w:=by
  simp_all[execOp,Instr.makeFunc]
 refine⟨_,w,_,M,.inl c,?_,i⟩;rw[j];refine h.putd m (fun _=>⟨caps.map a.eval,⟨by simp,rfl⟩,fun k av e=>?_⟩);rw[a36]at e;cases hp:caps.toList[k]? with
 |none=>simp_all
 |some x=>
  rw[hp]at e;simp at e;subst e;refine⟨a.eval x,?_,h.opd (g x (by grind[Op.operands]))⟩;simp_all
end
section
variable {P:Program} {B:Base} {N:Nat} {Z:Type} {U:AE} {a:Act} {w:World} {M:Gh}
theorem d0Z{o:Oper}{t:TypeId}{n:Nat}{ps:Array (Nat×Operand)}{d:Nat}{cx:Cx}{q:Bool}{K:AE->Rs Z}{z:Z}{o':Bool}{e t0:Ty}(X:CxTy P cx)(ho:o.op=.buildSlice t n ps)(hd:o.dst=some d)
  (hT:cx.T t=some (.list o' e))(hO:(bif q || !e.isList then none else cx.O d)=some t0)
  (h:Rel B U N (a0o a) w M)(hN:a.tmps.size=N)(hf:fits N o=true)(H:aop cx q o U K=some z):a0w P B N o a w K z:=by
 have k:∀y∈(o.op.operands.toList),a1m N y=true:=a0R hf;rw[ho]at k;simp[aop,ho,hd,hT,hO]at H
 split at H
 ·rename_i f x hl
  split at H
  ·rename_i V;obtain⟨h1,rfl⟩:=V;have h0:e.isList=true:=by
    grind
   have h4:ps=#[(0,x)]:=by grind
   obtain⟨g1,hty⟩:=X.T t _ hT;obtain⟨G,hu,E,h9⟩:=a1G hty;obtain⟨I⟩:=a0D (a0L E);have he:e.sh=e:=by
    simp_all[Ty.sh]
   have s:e.cells=1:=b2K h0;have h8:f.cells=1:=by grind[Ty.cells_sh]
   have h7:a1m N x=true:=k x (by simp[Op.operands,h4]);obtain⟨z0,F⟩:∃z0,I.z.cells=#[z0]:=by
    have:=I.zsize
    rw[s]at this;obtain⟨z0,F⟩:=a51.1 (show I.z.cells.toList.length=1 by omega)
    grind
   have Y:a0j (fun i=>dec (a0a w M.ov) f fun j=>(#[z0]:Array Value)[i*f.cells+j]?) 1 0=some ([f.dflt],[],[]):=by
    have:=a6v (m:=a0a w M.ov) f (rd:=fun j=>I.z.cells[j]?) (by rw[<-d2p,h1];exact I.zok)
    simp_all[a0j]
   obtain⟨U1,Q,k1,L,k3,-,k5⟩:=h.newSlice (c:=1) H (fun c V=>a1I _ c V) (a2b _) (a1B (Obj.cells #[z0] G)) (.inl rfl) (by simp_all) (by simp) Y (by simp);have C:U1.rt d=some ⟨false,.list true f,[f.dflt]⟩:=by
    grind[AE.newRt,AE.setRt]
   have g0:=L.top1 C rfl k3;have u:a0l (a0a (w.alloc (.cells #[z0] G)) Q.ov) Q.g U1.rt (Shr B (w.alloc (.cells #[z0] G)) Q) (.ptr d [.idx 0]) (.pointer (some ⟨w.heap.size,0,none⟩)):=
    ⟨_,f,w.heap.size,0,C,by simp_all[a0U,Src.rd],rfl⟩
   have p:=L.opd h7
   split at k1
   ·rename_i m hy;rw[hy]at p;have h5:∃A n c,a.eval x=.slice A n c:=by
     obtain⟨r,e2,s2,q1,q2,q3⟩:=p;obtain⟨O',R,q4,-⟩:=(L.roots m r q1).rd;simp[a0U]at q2;obtain⟨bx,tr,xr⟩:=r;obtain⟨rfl,rfl⟩:tr=.list true e2/\_=s2:=q2;rcases a2a q4 with⟨q5,-⟩|⟨A,n,c,os,q5,-⟩
     all_goals grind
    obtain⟨A,nA,cA,hv⟩:=h5;have k6:=L.putd (sv:=.one (.sref d [])) (v:=.slice (some ⟨w.heap.size,0,none⟩) 1 1) (d:=d) hN (fun _=>k3);obtain⟨w',U',M',b,off,j1,j2,-,j4,j5⟩:=k6.storR he E u p k1;simp at j1;obtain⟨rfl,rfl⟩:=j1;have h6:w'=w.alloc (.cells #[a.eval x] G):=by
     simp_all[Value.cells,World.setCells,c0D]
    have D:(execOp a.eval o).run P w=.ok (.value (.slice (some ⟨w.heap.size,0,none⟩) 1 1)) (w.alloc (.cells #[a.eval x] G)):=by
     have l:Instr.fill (fun i=>some (i*1,1)) ((a42 (1*1)).map (I.z.cells[·%I.z.cells.size]!)) [(0,a.eval x)]=some #[a.eval x]:=by
      have hr:(a42 (1*1)).map (I.z.cells[·%I.z.cells.size]!)=#[z0]:=by rw[F];simp[Array.range_succ,show a42 0=#[]from rfl]
      rw[hr,hv];rfl
     have h2:¬ (1*1 > 2^24):=by simp
     have S:¬ (1*1=0):=by simp
     have h3:(ps.map fun(i,x)=>(i,a.eval x)).toList=[(0,a.eval x)]:=by simp_all
     simp only[execOp,ho,Instr.buildSlice,Sem.run_bind,run_underlying hu,Result.andThen_ok,I.sizeOf,s,if_neg h2,if_neg S,Sem.run_pure,I.zeroValue,h3,l,newRow]
     simp
    rw[h6]at j4;exact⟨_,_,U',M',.inl D,by simp_all,j5⟩
   simp_all
  simp_all
 simp_all
end
section
variable {P:Program} {B:Base} {N:Nat} {Z:Type} {U:AE} {a:Act} {w:World} {M:Gh}
theorem e0f{K:AE->Rs Z}{z:Z}(j:CxTy P cx)(D:GOk cx.G B)(C:∀c v,o.op=.call c->c.callee≠.value v)(h:Rel B U N (a0o a) w M)(l:a.tmps.size=N)(p:fits N o=true)(g:aop cx q o U K=some z):a0w P B N o a w K z:=by
 cases hd:o.dst with
 |none=>
  cases ho:o.op
  case store t x y=>
   cases hag:U.aggOf y with
   |none=>grind[c6A]
   |some vs=>grind[c0E]
  case call c=>
   cases hc:c.callee with
   |value v=>simp_all
   |builtin b=>simp_all[aop]
   |invoke r n=>simp_all[aop]
  all_goals (simp only[aop,ho,hd]at g;cases g)
 |some d=>
  cases ho:o.op
  case store t x y=>
   cases hag:U.aggOf y with
   |none=>grind[c6A]
   |some vs=>grind[c0E]
  case call c=>
   cases hc:c.callee with
   |value v=>simp_all
   |builtin b=>
    cases b
    case len=>grind[e2c]
    case cap=>grind[e2d]
    case max=>grind[e2e]
    case min=>grind[e2f]
    case append=>grind[d4N]
    case copy=>grind[e0e]
    all_goals (simp only[aop,ho,hd,hc]at g;unfold AE.blt at g;first|(cases g;done)|(split at g<;>first|(cases g;done)|(rename_i k;cases k;done)|(rename_i k _;cases k;done)))
   |invoke r n=>simp_all[aop]
  case move x=>grind[d9P]
  case assign x=>grind[d4O]
  case pick x y u=>grind[d9Q]
  case alloc t=>grind[d7l]
  case box t x=>
   cases hag:(bif q then none else U.aggOf x)with
   |none=>exact e2a ho hd hag h l p g
   |some vs=>grind[d4Q]
  case build t x=>
   cases hnl:cx.nlT d t with
   |some τ=>grind[c6y]
   |none=>
    cases hO:cx.O d with
    |none=>grind[c6y]
    |some τ=>grind[d0X]
  case makeFunc fn first caps=>
   cases fn with
   |func f=>grind[d0Y]
   |_=>simp_all[aop]
  case buildSlice t n x=>
   by_cases hO:∃A e t0,cx.T t=some (.list A e)/\(bif q || !e.isList then none else cx.O d)=some t0
   grind[d0Z]
   ·refine c6x j ho hd (fun A e E=>?_) h l p g;cases k:(bif q || !e.isList then none else cx.O d)with
    |none=>rfl
    |some t0=>simp_all
  case load t x=>grind[d9U]
  case nilCheck x=>grind[d0V]
  case binOp op t x y s=>grind[d7g]
  case unOp op t x=>grind[d9R]
  case convert s t x=>grind[d2z]
  case makeSlice t x y=>grind[c8B]
  case slice t x u v m=>grind[d7i]
  case fieldAddr s x f=>grind[c8A]
  case field s x f=>grind[d7j]
  case indexAddr t x i=>grind[c8z]
  case index t x i=>grind[d7k]
  case extract x i=>
   cases x with
   |tmp t=>grind[d2q]
   |_=>simp_all[aop]
  all_goals (simp only[aop,ho,hd]at g;cases g)
end
def cells(w:World):Mem:=fun b o=>w.cell? ⟨b,o,none⟩
structure Ent1 where
 r:Root
 s:Src
 O:a1k
def a9V(U:AE)(f:AV->AV)(E:Nat->Option Ent1):AE:=
 ⟨(U.mapv f).sl,fun n=>match E n with|some e=>some e.r|none=>U.rt n,none⟩
def a4x(M:Gh)(E:Nat->Option Ent1):Gh:=
 ⟨fun n=>match E n with|some e=>e.s|none=>M.g n,fun n=>match E n with|some e=>e.O|none=>M.ow n,none⟩
theorem b0x{U f E n}(h:E n=none):(a9V U f E).rt n=U.rt n:=by simp[a9V,h]
theorem a5H{U f E n e}(h:E n=some e):(a9V U f E).rt n=some e.r:=by simp[a9V,h]
theorem b3P{M E n}(h:E n=none):(a4x M E).g n=M.g n:=by simp[a4x,h]
theorem a5I{M E n e}(h:E n=some e):(a4x M E).g n=e.s:=by simp[a4x,h]
theorem a3n{M E n}(h:E n=none):(a4x M E).ow n=M.ow n:=by simp[a4x,h]
theorem a3O{M E n e}(h:E n=some e):(a4x M E).ow n=e.O:=by simp[a4x,h]
structure Work (w w':World) (M:Gh) (F':Nat->Prop) (E:Nat->Option Ent1):Prop where
 own:∀c,F' c->∃n e,E n=some e/\c∈(M.ow n).map (·.1)
 size:w.heap.size<=w'.heap.size
 same:∀b,b<w.heap.size->¬ F' b->w'.heap[b]?=w.heap[b]?
 mine:∀n e c,E n=some e->c∈e.O.map (·.1)->(F' c\/c∈(M.ow n).map (·.1))\/w.heap.size<=c
 nodup:∀n e,E n=some e->(e.O.map (·.1)).Nodup
 disj:∀n e n' e',E n=some e->E n'=some e'->n≠n'->∀c,c∈e.O.map (·.1)->c∉e'.O.map (·.1)
 live:∀n e p,E n=some e->p∈e.O->a0Q w' p.1 p.2
 still:a2n w'=a2n w
theorem Rel.merge{B U N tm w M}(h:Rel B U N tm w M)(h5:M.ov=none){F':Nat->Prop}{E:Nat->Option Ent1}(W:Work w w' M F' E)(S:∀n e,E n=some e->RootOk (cells w') (fun c=>c<w'.heap.size/\(Shr B w M c\/F' c\/w.heap.size<=c)/\∀n e,E n=some e->c∉e.O.map (·.1)) e.r e.s e.O)(h7:∀i b e,B.pin i=some b->E (pinned+i)=some e->e.s=b){f:AV->AV}(hf:∀a v,a0l (a0a w M.ov) M.g U.rt (Shr B w M) a v->f a=.dead\/(f a=a/\∀k q,(a=.ptr k q\/a=.sref k q\/∃o l,a=.swin k q o l)->E k=none\/(a=.ptr k []/\∃e b,E k=some e/\e.s=.at b 0/\M.g k=.at b 0)\/
   (a=.sref k []/\∃e v ε,E k=some e/\e.s=.one v/\M.g k=.one v/\e.r.t=.list true ε))):
  Rel B (a9V U f E) N tm w' (a4x M E)/\
   (∀c,c<w'.heap.size/\(Shr B w M c\/F' c\/w.heap.size<=c)/\(∀n e,E n=some e->c∉e.O.map (·.1))->Shr B w' (a4x M E) c):=by
 have D:∀c,F' c->a0P M c:=fun c m=>by obtain⟨n,e,-,z⟩:=W.own c m;exact⟨n,z⟩
 have h6:∀c,F' c->c<w.heap.size:=fun c m=>h.lt (D c m)

 have L:∀n c,E n=none->c∈(M.ow n).map (·.1)->¬ F' c:=fun n c z m Q=>by
  obtain⟨G,H,X,x⟩:=W.own c Q;have A:n≠G:=by grind
  exact h.disj n G A c m x
 have Y:∀c,a0P (a4x M E) c->(∃n,E n=none/\c∈(M.ow n).map (·.1))\/∃n e,E n=some e/\c∈e.O.map (·.1):=by
  rintro c ⟨n,z⟩
  cases d:E n with
  |none=>grind[a3n]
  |some e=>grind[a3O]
 have T:∀c,c<w'.heap.size/\(Shr B w M c\/F' c\/w.heap.size<=c)/\(∀n e,E n=some e->c∉e.O.map (·.1))->Shr B w' (a4x M E) c:=by
  rintro c ⟨X,x,V⟩
  refine⟨X,?_,fun ho=>?_⟩;rcases x with x|x|x;exact x.2.1;exact .inr (h.mine c (D c x));exact .inr (.inr (a30 h.size x));rcases Y c ho with⟨n,d,z⟩|⟨n,e,d,z⟩;rcases x with x|x|x;exact x.2.2 ⟨n,z⟩
  grind
  have:=h.lt ⟨n,z⟩;omega
  grind
 have P:∀c,Shr B w M c->Shr B w' (a4x M E) c:=fun c m=>T c ⟨a18 m.1 W.size,.inl m,fun n e d z=>by
  rcases W.mine n e c d z with(g|g)|g;exact m.2.2 (D c g);exact m.2.2 ⟨n,g⟩
  have:=m.1;omega⟩
 have K:∀c j,c<w.heap.size->¬ F' c->a0a w' none c j=a0a w M.ov c j:=fun c j m Q=>by
  rw[h5];exact a1y none (W.same c m Q) j
 have y:∀n c j,E n=none->c∈(M.ow n).map (·.1)->a0a w' none c j=a0a w M.ov c j:=fun n c j z m=>K c j (h.lt ⟨n,m⟩) (L n c z m);have R:∀c j,Shr B w M c->a0a w' none c j=a0a w M.ov c j:=fun c j m=>K c j m.1 fun Q=>m.2.2 (D c Q);have I:∀n q r t s,E n=none->U.rt n=some r->loc (a0a w M.ov) r.t (M.g n) q=some (t,s)->loc (a0a w' none) r.t (M.g n) q=some (t,s)/\s.rd (a0a w' none) 0=s.rd (a0a w M.ov) 0:=by
  intro n q r t s d hr hl;obtain⟨O1,R1,l1,l2,l3,l4,l5,l6⟩:=h.sep hr;refine⟨a2G q r.t _ l1 hl (fun j _=>?_) (fun c j m=>y n c j d (l4 c m)),?_⟩
  ·cases es:M.g n with
   |one v=>rfl
   |_=>rename_i b o;exact y n b _ d (l5 _ _ es)
  ·cases s with
   |one v=>rfl
   |_=>rename_i b o;exact y n b _ d (h.place hr hl)
 refine⟨⟨fun n r hr=>?_,fun n z=>?_,fun n=>?_,fun n G A c m F=>?_,fun n p hp=>?_,fun i hi=>?_,trivial,a30 h.size W.size,fun b hb Q=>?_,fun c m=>?_,fun i b hb A=>?_,W.still.trans h.still⟩,T⟩
 ·cases d:E n with
  |none=>
   rw[b0x d]at hr;rw[b3P d,a3n d];obtain⟨O1,R1,l1,l2,l3,l4,l5,l6⟩:=h.sep hr;refine⟨O1,R1,?_,fun c m=>P c (l2 c m),l6⟩;show dec (a0a w' none) r.t ((M.g n).rd (a0a w' none))=_;refine a0y r.t l1 (fun j _=>?_) (fun c j m=>?_)
   ·cases es:M.g n with
    |one v=>rfl
    |_=>rename_i b o;exact y n b _ d (l5 _ _ es)
   grind
  |some e=>
   rw[a5H d]at hr;rw[a5I d,a3O d];simp at hr;subst hr;exact(S n e d).mono T
 ·cases d:E n with
  |none=>rw[b0x d]at z;rw[a3n d];exact h.norm n z
  |some e=>grind[a5H]
 ·cases d:E n with
  |none=>rw[a3n d];exact h.nodup n
  |some e=>rw[a3O d];exact W.nodup n e d
 ·have h0:∀n G,E n=none->∀H,E G=some H->c∈(M.ow n).map (·.1)->c∈H.O.map (·.1)->False:=fun n G d H C m F=>by
   rcases W.mine G H c C F with(g|g)|g
   grind
   exact h.disj n G (by grind) c m g
   have:=h.lt ⟨n,m⟩;omega
  cases d:E n with
  |none=>
   rw[a3n d]at m;cases C:E G with
   |none=>rw[a3n C]at F;exact h.disj n G A c m F
   |some H=>grind[a3O]
  |some e=>
   rw[a3O d]at m;cases C:E G with
   |none=>grind[a3n]
   |some H=>rw[a3O C]at F;exact W.disj n e G H d C A c m F
 ·cases d:E n with
  |none=>
   rw[a3n d]at hp;obtain⟨c,e,lo,hi,X,x,V⟩:=h.live n p hp;have m:=a00 (f:=(·.1)) hp;exact⟨c,e,lo,hi,by rw[W.same p.1 (h.lt ⟨n,m⟩) (L n p.1 d m)];omega,x,V⟩
  |some e=>rw[a3O d]at hp;exact W.live n e p d hp
 refine(h.slots i hi).mapv fun a v Z=>?_
 rcases hf a v Z with g|⟨g,hk⟩;rw[g];trivial;rw[g]
 by_cases hz:∃k e b,a=.ptr k []/\E k=some e/\e.s=.at b 0/\M.g k=.at b 0
 obtain⟨k,e,b,rfl,d,hs,hg⟩:=hz;obtain⟨r,t,b',o,X,x,V⟩:=Z;simp[a0U,hg]at x;obtain⟨rfl,rfl,rfl⟩:=x;refine⟨e.r,e.r.t,b,0,a5H d,?_,V⟩;rw[a5I d,hs];rfl
 by_cases hy:∃k e u ε,a=.sref k []/\E k=some e/\e.s=.one u/\M.g k=.one u/\e.r.t=.list true ε
 obtain⟨k,e,u,ε,rfl,d,hs,hg,ht⟩:=hy;obtain⟨r,H,s,X,x,V⟩:=Z;simp[a0U,hg]at x;obtain⟨-,rfl⟩:=x;refine⟨e.r,ε,.one u,a5H d,?_,V⟩;rw[a5I d,hs,ht];rfl;refine Z.frame R P fun k q r t s h4 hr hl=>?_
 have d:E k=none:=by
  grind
 have hp:=I k q r t s d hr hl;refine⟨r,by grind[b0x],by rw[b3P d];exact hp.1,fun u _ hu=>by rw[<-hu];exact hp.2⟩
 ·rw[W.same b (a18 hb h.size) ?_];exact h.frame b hb Q
  ·intro g;rcases h.mine b (D b g)with g|g
   all_goals grind
 rcases Y c m with⟨n,d,z⟩|⟨n,e,d,z⟩;exact h.mine c ⟨n,z⟩;rcases W.mine n e c d z with(g|g)|g;exact h.mine c (D c g);exact h.mine c ⟨n,g⟩;exact .inr (a30 h.size g)
 ·cases d:E (pinned+i)with
  |none=>rw[b0x d]at A;rw[b3P d];exact h.pins i b hb A
  |some e=>grind[a5I]
def c1y:Src->Value->Prop
 |.at b o,v=>o=0/\v=.pointer (some ⟨b,0,none⟩)
 |.one u,v=>v=u
theorem c1y.uniq:∀{s:Src}{u v:Value},c1y s u->c1y s v->u=v
 |.at _ _,_,_,h,h'=>h.2.trans h'.2.symm
 |.one _,_,_,h,h'=>h.trans (show _=_ from h').symm
def lg(w:World)(M:Gh)(n:Nat)(bx:Bool):Src:=match bx,M.g n with
 |false,.at b _=>.one ((w.cell? ⟨b,0,none⟩).getD undef)
 |_,s=>s
def lo(M:Gh)(n:Nat)(bx:Bool):a1k:=match bx,M.g n with
 |false,.at _ _=>(M.ow n).tail
 |_,_=>M.ow n
theorem e6L{bx:Bool}{p}(h:p∈lo M n bx):p∈M.ow n:=by
 unfold lo at h
 grind[List.mem_of_mem_tail]
def c1z(w:World)(U:AE)(M:Gh)(n:Nat)(r:Root)(v:Value):Prop:=
 (U.rt n=some r/\c1y (M.g n) v)\/∃b,(r.bx=false/\∃e,r.t=.list true e)/\U.rt n=some ⟨true,r.t,r.x⟩/\M.g n=.at b 0/\w.cell? ⟨b,0,none⟩=some v
theorem c1z.keep{U':AE}{M':Gh}(h:c1z w U M n r v)(c:∀r,U.rt n=some r->U'.rt n=some r/\M'.g n=M.g n):c1z w U' M' n r v:=by
 rcases h with⟨f,a⟩|⟨b,f,a,e,i⟩;obtain⟨k,d⟩:=c _ f;exact .inl ⟨k,by simp_all⟩;obtain⟨k,d⟩:=c _ a;exact .inr ⟨b,f,k,d.trans e,i⟩
structure ArgsOk (fz:Bool) (B:Base) (w:World) (U':AE) (M':Gh) (ps:List PA) (x:(a2f (ps.map PA.ty)).den) (vs:List Value) (used us:List Nat) (i0:Nat):Prop where
 vals:∀(i:Nat)(t:Ty)(y:t.den)(v:Value),(a0X ps x)[i]?=some ⟨.v t,y⟩->vs[i]?=some v->
  VOk (a0a w M'.ov) (fun c=>Shr B w M' c\/(fz=false/\∃n,n∉used/\n∉us/\c∈(M'.ow n).map (·.1))) t y v
 refs:∀(k n:Nat),us[k]?=some n->∃(i:Nat)(c:Bool)(a:RA)(y:a.ty.den)(v:Value)(r:Root),(a0F ps i0)[k]?=some (i0+i)/\(a0X ps x)[i]?=some ⟨.r c a,y⟩/\vs[i]?=some v/\
  a0O ⟨a,y⟩=some r/\c1z w U' M' n r v/\(c=true->U'.rt n=some r/\r.bx=false/\n<pinned)
 len:us.length=(a0F ps i0).length
 nodup:us.Nodup
 apart:∀n∈us,n∉used
section
variable {B:Base} {N:Nat} {tm:Nat->Value} {w:World} {U:AE} {M:Gh}
theorem Rel.src_of(h:Rel B U N tm w M)(f:U.rt n=some r):(r.bx=true/\∃b,M.g n=.at b 0)\/(r.bx=false/\∃v e,M.g n=.one v/\r.t=.list true e):=by
 obtain⟨k,R,-,-,a⟩:=(h.roots n r f).rd
 grind
theorem Rel.lent(h:Rel B U N tm w M)(s:M.ov=none)(q:c1z w U M n r v):
  RootOk (a0a w M.ov) (Shr B w M) r (lg w M n r.bx) (lo M n r.bx)/\c1y (lg w M n r.bx) v/\(∀p∈lo M n r.bx,p∈M.ow n)/\((lo M n r.bx).map (·.1)).Nodup/\
   ((r.bx=true/\∃b,lg w M n r.bx=.at b 0)\/(r.bx=false/\∃u e,lg w M n r.bx=.one u/\r.t=.list true e)):=by
 rcases q with⟨f,i⟩|⟨b,f,i,C,D⟩
 ·have k:lg w M n r.bx=M.g n/\lo M n r.bx=M.ow n:=by
   rcases h.src_of f with⟨d,b,c⟩|⟨d,u,e,c,-⟩
   all_goals simp_all[lg,lo]
  rw[k.1,k.2];exact⟨h.roots n r f,i,fun _ g=>g,h.nodup n,h.src_of f⟩
 obtain⟨f,l⟩:=f;obtain⟨o,R,x,y,z⟩:=(h.roots n _ i).rd;have k:lg w M n r.bx=.one v/\lo M n r.bx=(M.ow n).tail:=by simp_all[lg,lo]
 rcases z with⟨-,A,d,c⟩|⟨d,-⟩;rw[k.1,k.2,c];have a:=h.nodup n;rw[c,a07]at a;obtain⟨e,m⟩:=l;refine⟨⟨o,R,?_,y,.inr ⟨f,⟨v,rfl⟩,⟨e,m⟩,rfl⟩⟩,rfl,fun p hp=>a01 _ hp,(a05.1 a).2,.inr ⟨f,v,e,rfl,m⟩⟩;refine a0y r.t x (fun j E=>?_) (fun _ _ _=>rfl);simp_all[Ty.cells,Src.rd,a0a];simp_all
end
section
variable {Z:Type} {B:Base} {N:Nat} {tm:Nat->Value} {w:World}
theorem Rel.arg(h:Rel B U N tm w M){fz:Bool}{used seen:List Nat}{p:PA}{a:AV}{K:p.ty.den->AE->List Nat->List Nat->Rs Z}{z:Z}(m:a0l (a0a w M.ov) M.g U.rt (Shr B w M) a v\/b2J U a)(f:U.arg fz q used seen p a K=some z):
  ∃x d M' used' seen',K x d used' seen'=some z/\Rel B d N tm w M'/\Ev B w U M d M'/\a3J (·∉used) U M d M'/\(fz=false\/q=true->d=U/\M'=M)/\(∀n∈seen,n∈seen')/\
   match p,x with
   |.v t,x=>used'=used/\VOk (a0a w M'.ov) (fun c=>Shr B w M' c\/(fz=false/\∃n,n∉used/\n∈seen'/\c∈(M'.ow n).map (·.1))) t x v
   |.r c b,x=>∃n r,used'=n::used/\n∉used/\n∉seen/\seen'=seen/\a0O ⟨b,x⟩=some r/\c1z w d M' n r v/\(c=true->d.rt n=some r/\r.bx=false/\n<pinned):=by
 cases p with
 |v t=>
  simp only[AE.arg]at f;obtain⟨hv,f⟩:(a.viewed.any fun n=>used.contains n)=false/\_:=by
   rcases a0f f with⟨-,g⟩|⟨s,l⟩;cases g;exact⟨s,l⟩
  have A:∀n∈a.viewed,n∉used:=fun n G hu=>by
   simp_all
  cases fz with
  |true=>
   simp at f;obtain⟨x,d,M',D,E,L,O,P,Q⟩:=h.asVB m f;exact⟨x,d,M',used,seen,D,E,O,Q.mono A,fun g=>P (g.resolve_left (by simp)),fun _ g=>g,rfl,L.frame (fun _ _ _=>rfl) (fun c i=>.inl i)⟩
  |false=>
   simp at f;obtain⟨x,D,E⟩:=h.viewR m f;exact⟨x,U,M,used,a.viewed++seen,D,h,Ev.refl,a3J.refl,fun _=>⟨rfl,rfl⟩,fun _ g=>a38 _ g,rfl,
    E.frame (fun _ _ _=>rfl) (fun c i=>i.imp id fun⟨n,G,i⟩=>⟨rfl,n,A n G,a31 _ G,i⟩)⟩
 |r c b=>
  cases b with
  |v t=>cases a<;>simp only[AE.arg]at f<;>cases f
  |b t=>
   cases a with
   |ptr n p=>
    cases p with
    |cons=>simp only[AE.arg]at f;cases f
    |nil=>
     simp only[AE.arg]at f
     split at f
     grind
     rename_i hq;simp at hq
     split at f
     rename_i t' x F;obtain⟨u,j⟩:=a0K F
     split at f
     rename_i H;subst H;rcases m with⟨X,t1,b,o,s,l,C⟩|⟨k,V,i,T⟩;rw[j]at s;simp at s;subst s;obtain⟨Y,R,-,-,i⟩:=(h.roots n _ j).rd;rcases i with⟨-,b',y,-⟩|⟨hb,-⟩;simp[a0U,y]at l;obtain⟨-,rfl,rfl⟩:=l;exact⟨x,U,M,n::used,seen,f,h,Ev.refl,a3J.refl,fun _=>⟨rfl,rfl⟩,fun _ g=>g,n,_,rfl,hq.1.2,hq.2,rfl,rfl,.inl ⟨j,by rw[y];exact⟨rfl,C⟩⟩,fun g=>by simp_all⟩;simp_all;simp_all;simp_all;simp_all
   |_=>simp only[AE.arg]at f;cases f
  |o e=>
   cases a with
   |sref n p=>
    cases p with
    |cons=>simp only[AE.arg]at f;cases f
    |nil=>
     simp only[AE.arg]at f
     split at f
     grind
     ·rename_i hq;simp only[Bool.or_eq_true,bA9,List.contains_iff_mem,not_or,a62,dT,not_and]at hq
      split at f
      ·rename_i I e' x F;obtain⟨u,j⟩:=a0K F
       split at f
       ·rename_i H;subst H;rcases m with m|⟨k,V,i,T⟩
        ·obtain⟨S,f⟩:=(a0f f).elim (fun h=>by grind) id;refine⟨x,U,M,n::used,seen,f,h,Ev.refl,a3J.refl,fun _=>⟨rfl,rfl⟩,fun _ g=>g,n,_,rfl,hq.1.2,hq.2,rfl,rfl,?_,fun g=>⟨?_,rfl,by simp_all⟩⟩
         ·cases I with
          |false=>exact .inl ⟨j,by rw[h.top1 j rfl m];rfl⟩
          |true=>
           rcases h.src_of j with⟨-,b,y⟩|⟨g,-⟩;refine .inr ⟨b,⟨rfl,_,rfl⟩,j,y,?_⟩;obtain⟨X,e2,s2,s,l,C⟩:=m;simp[a0U]at l;rw[<-l.2,y,h.ov_none u]at C;exact C;simp_all
         simp_all
        simp_all
       simp_all
      simp_all
   |_=>simp only[AE.arg]at f;cases f
theorem Rel.args:∀(ps:List PA) (as:List AV)(vs:List Value){U:AE}{M:Gh}(_:Rel B U N tm w M){fz q:Bool}{used seen:List Nat}{i0:Nat}{K:(a2f (ps.map PA.ty)).den->AE->List Nat->Rs Z} {z:Z}
  (_:∀(i:Nat)(a:AV)(v:Value),as[i]?=some a->vs[i]?=some v->a0l (a0a w M.ov) M.g U.rt (Shr B w M) a v\/b2J U a) (_:vs.length=as.length) (_:U.args fz q used seen ps as K=some z),
  ps.length=as.length/\∃x f M' us,K x f (us.reverse++used)=some z/\Rel B f N tm w M'/\Ev B w U M f M'/\a3J (·∉used) U M f M'/\(fz=false\/q=true->f=U/\M'=M)/\(∀n∈seen,n∉us)/\
   ArgsOk fz B w f M' ps x vs used us i0
 | [],as,vs,U,M,h,fz,q,used,seen,i0,K,z,has,hlen,hK=>by
  cases as with
  |nil=>exact⟨rfl,(),U,M,[],hK,h,Ev.refl,a3J.refl,fun _=>⟨rfl,rfl⟩,by simp,⟨fun i t y v hi=>by simp_all,by simp,rfl,by simp,by simp⟩⟩
  |cons=>simp_all[AE.args]
 | [p],as,vs,U,M,h,fz,q,used,seen,i0,K,z,has,hlen,hK=>by
  match as,vs,hlen with
  | [a],[v],_=>
   simp[AE.args]at hK;obtain⟨x,f,M',g0,h8,P,Q,C,F,G,h6,j⟩:=h.arg (has 0 a v rfl rfl) hK;cases p with
   |v t=>
    obtain⟨rfl,j⟩:=j;refine⟨rfl,x,f,M',[],P,Q,C,F,G,by simp,⟨fun i I y v' hi hv=>?_,by simp,rfl,by simp,by simp⟩⟩;cases i with
    |zero=>
     simp[a0X]at hi hv;cases hi;cases hv;exact j.frame (fun _ _ _=>rfl) (fun c o=>o.imp id fun⟨e,n,l,E,A⟩=>⟨e,n,l,by simp,A⟩)
    |succ i=>simp_all
   |r c b=>
    obtain⟨n,r,rfl,l,E,A,T,V,L⟩:=j;refine⟨rfl,x,f,M',[n],P,Q,C,F,G,fun m u=>by grind,⟨fun i I y v' hi hv=>?_,fun k m s=>?_,rfl,by simp,by simp_all⟩⟩
    grind[a0X]
    ·cases k with
     |zero=>
      simp at s;subst s;exact⟨0,c,b,x,v,r,rfl,rfl,rfl,T,V,L⟩
     |succ k=>simp_all
  | [],_,_=>simp_all[AE.args]
  |_::_::_,_,_=>simp_all[AE.args]
 |p::p'::ps,as,vs,U,M,h,fz,q,used,seen,i0,K,z,has,hlen,hK=>by
  match as,vs,hlen with
  | [],_,_=>simp_all[AE.args]
  |a::as,v::vs,hlen=>
   simp[AE.args]at hK;obtain⟨x,U1,M1,g6,h9,P,Q,C,F,G,h6,j⟩:=h.arg (has 0 a v rfl rfl) hK;have ⟨hl,y,f,M',us,k1,k2,k3,k4,k5,k6,k7⟩:=Rel.args (p'::ps) as vs (i0:=i0+1) Q (fun i D v' hi hv=>C.live (has (i+1) D v' (by simp_all) (by simp_all))) (by simp_all) P;refine⟨by simp_all,?_⟩;have d:fz=false\/q=true->f=U/\M'=M:=fun g=>⟨(k5 g).1.trans (G g).1,(k5 g).2.trans (G g).2⟩;cases p with
   |v t=>
    obtain⟨rfl,j⟩:=j;refine⟨(x,y),f,M',us,k1,k2,C.trans k3,F.trans k4,d,fun n H=>k6 n (h6 n H),⟨fun i I y' v' hi hv=>?_,fun k n s=>?_,k7.len,k7.nodup,k7.apart⟩⟩
    ·cases i with
     |zero=>
      simp[a0X]at hi hv;cases hi;cases hv;cases fz with
      |false=>
       obtain⟨rfl,rfl⟩:=k5 (.inl rfl);exact j.frame (fun _ _ _=>rfl) (fun c o=>o.imp id fun⟨e,n,l,E,A⟩=>⟨e,n,l,k6 n E,A⟩)
      |true=>
       have X:VOk (a0a w M1.ov) (Shr B w M1) t x v:=j.frame (fun _ _ _=>rfl) (fun c o=>o.resolve_right (by simp));have g9:=k3.vok X;simp_all
     |succ i=>exact k7.vals i I y' v' (by simpa[a0X]using hi) (by simp_all)
    obtain⟨i,S,D,y',v',Y,j1,j2,j3,j4⟩:=k7.refs k n s;exact⟨i+1,S,D,y',v',Y,by grind[a0F],by simpa[a0X]using j2,by simp_all,j4⟩
   |r c b=>
    obtain⟨n,r,rfl,l,E,rfl,T,V,L⟩:=j;have H:=fun R O=>k4.1 n R (.inr (by simp)) O;refine⟨(x,y),f,M',n::us,by simp_all,k2,C.trans k3,F.trans (k4.mono fun m u g=>u (a01 _ g)),d,fun m u=>?_,⟨fun i I y' v' hi hv=>?_,fun k m s=>?_,by simp[a0F,k7.len],?_,?_⟩⟩
    grind
    ·cases i with
     |zero=>grind[a0X]
     |succ i=>
      exact(k7.vals i I y' v' (by simpa[a0X]using hi) (by simp_all)).frame (fun _ _ _=>rfl) (fun c o=>o.imp id fun⟨e,m,l,E,A⟩=>
       ⟨e,m,fun g=>l (a01 _ g),by simp_all,A⟩)
    ·cases k with
     |zero=>
      simp at s;subst s;exact⟨0,c,b,x,v,r,rfl,rfl,rfl,T,V.keep fun R O=>⟨(H R O).1,(H R O).2.1⟩,fun g=>⟨(H r (L g).1).1,(L g).2⟩⟩
     |succ k=>
      obtain⟨i,S,D,y',v',Y,j1,j2,j3,j4⟩:=k7.refs k m (by simp_all);exact⟨i+1,S,D,y',v',Y,by grind[a0F],by simpa[a0X]using j2,by simp_all,j4⟩
    simp
    exact⟨fun g=>k7.apart n g (by simp),k7.nodup⟩;intro m u;rcases mC.1 u with rfl|u;omega;exact fun g=>k7.apart m u (a01 _ g)
end
def c6C(m:Mem)(Sh:Nat->Prop):((r:RA)×r.ty.den)->Value->Src×a1k->Prop
 |⟨.v t,x⟩,v,L=>VOk m Sh t x v/\L.2=[]
 |⟨.o e,x⟩,v,L=>L.1=.one v/\RootOk m Sh ⟨false,.list true e,x⟩ L.1 L.2
 |⟨.b t,x⟩,v,L=>RootOk m Sh ⟨true,t,x⟩ L.1 L.2/\∃b,L.1=.at b 0/\v=.pointer (some ⟨b,0,none⟩)
structure Back (B:Base) (w':World) (its:List ((r:RA)×r.ty.den)) (vs:List Value) (Ls:List (Src×a1k)):Prop where
 lv:vs.length=its.length
 ll:Ls.length=its.length
 ok:∀(k:Nat)(it:(r:RA)×r.ty.den) (v:Value) (L:Src×a1k),its[k]?=some it->vs[k]?=some v->Ls[k]?=some L->
  c6C (cells w') (fun c=>c<w'.heap.size/\(B.S c\/B.F c\/B.size<=c)/\∀L∈Ls,c∉L.2.map (·.1)) it v L
 nodup:∀L∈Ls,(L.2.map (·.1)).Nodup
 disj:∀(k k':Nat)(L L':Src×a1k),Ls[k]?=some L->Ls[k']?=some L'->k≠k'->∀c,c∈L.2.map (·.1)->c∉L'.2.map (·.1)
 live:∀L∈Ls,∀p∈L.2,a0Q w' p.1 p.2
 mine:∀L∈Ls,∀c∈L.2.map (·.1),B.F c\/B.size<=c
 size:B.size<=w'.heap.size
 frame:∀b,b<B.size->¬ B.F b->w'.heap[b]?=B.hp b
 still:a2n w'=B.io
def b7s:List Value->Value
 | [v]=>v
 |vs=>.tuple vs.toArray
def a4f(ps:List PA)(args:Array Value)(i:Nat):Value:=match b5h ps i with
 |some true=>.slice none 0 0
 |_=>args.getD i undef
def d1X(B:Base)(ps:List PA)(args:Array Value):Prop:=∀i∈a0F ps 0,b5h ps i=some false->∃s,B.pin i=some s/\c1y s (args.getD i undef)
def e2l(C:Array Value->World->(Ending->World->Prop)->Prop)(G:b0Z)(s:FSem):Prop:=
 ∀(w:World)(B:Base)(M:Gh)(args:Array Value) x y,GOk G B->s.F x=some y->B.size=w.heap.size->(∀b,B.hp b=w.heap[b]?)->M.ov=none->args.size=s.ps.length->
  Rel B (ini s.ps x) s.ps.length (fun i=>args.getD i undef) w M->d1X B s.ps args->
  C args w fun e w'=>∃vr Ls,e=.returned (b7s vr)/\vr.length=s.rs.length/\Back B w' (a2r (RA.all s.ps s.rs) y) (vr++(a0F s.ps 0).map (a4f s.ps args)) Ls
def a5m(P:Program)(G:b0Z)(f:FuncId)(s:FSem):Prop:=e2l (Calls P f) G s
def d2C(P:Program)(G:b0Z)(f:FuncId)(s:FSem):Prop:=e2l (fun args w R=>∃v w',(callFunc f args).run P w=.ok (.value v) w'/\R (.returned v) w') G s
def b6p (P : Program) (f : FuncId) : Prop := ∃ fn c, P.funcs[f]? = some fn /\ fn.body = some c /\ (fn.name == "runtime.NumGoroutine") = false
def FOk(P:Program)(G:b0Z)(f:FuncId)(s:FSem):Prop:=(a5m P G f s/\b6p P f)\/d2C P G f s
theorem a9W:∀(rs:List RA)(x:(a2f (rs.map RA.ty)).den),(a2r rs x).length=rs.length
 | [],_=>rfl
 | [_],_=>rfl
 |_::r'::rs,x=>by simp only[a2r,lC];rw[a9W (r'::rs) x.2];rfl
theorem b4R:∀(rs:List RA)(x:(a2f (rs.map RA.ty)).den) (k:Nat) it,(a2r rs x)[k]?=some it->rs[k]?=some it.1
 | [],_,k,it,h=>by simp[a2r]at h
 | [r],x,0,it,h=>by grind[a2r]
 | [r],x,k+1,it,h=>by simp[a2r]at h
 |r::r'::rs,x,0,it,h=>by grind[a2r]
 |r::r'::rs,x,k+1,it,h=>by simpa using b4R (r'::rs) x.2 k it (by simpa[a2r]using h)
theorem a6p:∀(ps:List PA)(x:(a2f (ps.map PA.ty)).den),(a0X ps x).length=ps.length
 | [],_=>rfl
 | [_],_=>rfl
 |_::p'::ps,x=>by simp only[a0X,lC];rw[a6p (p'::ps) x.2];rfl
theorem a6z:∀(ps:List PA)(x:(a2f (ps.map PA.ty)).den) (k:Nat) it,(a0X ps x)[k]?=some it->ps[k]?=some it.1
 | [],_,k,it,h=>by simp[a0X]at h
 | [r],x,0,it,h=>by grind[a0X]
 | [r],x,k+1,it,h=>by simp[a0X]at h
 |r::r'::ps,x,0,it,h=>by grind[a0X]
 |r::r'::ps,x,k+1,it,h=>by simpa using a6z (r'::ps) x.2 k it (by simpa[a0X]using h)
theorem c1A:∀(ps:List PA)(i0 i:Nat){c a},ps[i]?=some (.r c a)->∃k:Nat,(a0F ps i0)[k]?=some (i0+i)/\(a5l ps)[k]?=some a
 | [],_,i,c,a,h=>by grind
 |p::ps,i0,0,c,a,h=>by
  simp at h;subst h;exact⟨0,rfl,rfl⟩
 |p::ps,i0,i+1,c,a,h=>by
  obtain⟨k,g,f⟩:=c1A ps (i0+1) i (by simpa using h);have g:(a0F ps (i0+1))[k]?=some (i0+(i+1)):=by rw[g];congr 1;omega
  cases p with
  |v t'=>exact⟨k,g,f⟩
  |r c t'=>exact⟨k+1,by simpa[a0F]using g,by simpa[a5l]using f⟩
theorem b4S:∀(ps:List PA)(i0:Nat),(a0F ps i0).Pairwise (·<·)/\∀i∈a0F ps i0,i0<=i
 | [],_=>⟨List.Pairwise.nil,by simp[a0F]⟩
 |.v _::ps,i0=>by
  obtain⟨h,g⟩:=b4S ps (i0+1);exact⟨h,fun i hi=>by have:=g i hi;omega⟩
 |.r _ _::ps,i0=>by
  obtain⟨h,g⟩:=b4S ps (i0+1);refine⟨List.Pairwise.cons (fun i hi=>by grind) h,fun i hi=>?_⟩;rcases mC.1 hi with rfl|hi
  all_goals grind
theorem c6D(g:List PA){i0 k k':Nat}(h:(a0F g i0)[k]?=some i)(f:(a0F g i0)[k']?=some i):k=k':=by
 have hp:=(b4S g i0).1;obtain⟨a,rfl⟩:=lS.1 h
 grind[a25]
theorem b1E(h:List PA):∀i0,(a0F h i0).length=(a5l h).length:=by
 induction h with
 |nil=>intro i0;rfl
 |cons p h ih=>intro i0;cases p<;>simp[a0F,a5l,ih]
def a6Z:List Nat->List Nat->Nat->Option Nat
 |i::is,n::ns,j=>if j=i then some n else a6Z is ns j
 |_,_,_=>none
theorem b2z:∀(is ns:List Nat)(j n:Nat),a6Z is ns j=some n->∃k:Nat,is[k]?=some j/\ns[k]?=some n
 | [],ns,j,n,h=>by simp[a6Z]at h
 |i::is,[],j,n,h=>by simp[a6Z]at h
 |i::is,m::ns,j,n,h=>by
  simp only[a6Z]at h
  split at h
  rename_i e;simp only[sj]at h;exact⟨0,by simp[e],by simp[h]⟩;obtain⟨k,g,f⟩:=b2z is ns j n h;exact⟨k+1,by simpa using g,by simpa using f⟩
theorem c8D:∀(is ns:List Nat)(k j n:Nat),is[k]?=some j->ns[k]?=some n->(∀k',is[k']?=some j->k'=k)->a6Z is ns j=some n
 | [],ns,k,j,n,h,_,_=>by grind
 |i::is,[],k,j,n,_,h,_=>by grind
 |i::is,m::ns,0,j,n,h,h',_=>by
  simp_all[a6Z]
 |i::is,m::ns,k+1,j,n,h,h',hu=>by
  have g:j≠i:=fun e=>by have:=hu 0 (by grind);omega
  simp[a6Z,if_neg g];exact c8D is ns k j n (by simp_all) (by simp_all) (fun k' f=>by have:=hu (k'+1) (by simp_all);omega)
section
variable {B:Base} {N:Nat} {tm:Nat->Value} {w:World} {U:AE} {M:Gh}
def a9X(ps:List PA)(i:Nat):Bool:=match ps[i]? with
 |some (.r _ (.b _))=>true
 |_=>false
def a1n(fz:Bool)(B:Base)(w:World)(M:Gh)(ps:List PA)(us:List Nat):Base where
 size:=w.heap.size
 hp:=fun b=>w.heap[b]?
 F:=fun c=>∃i n,a6Z (a0F ps 0) us i=some n/\c∈(lo M n (a9X ps i)).map (·.1)
 S:=fun c=>Shr B w M c\/(fz=false/\a0P M c)
 io:=a2n w
 pin:=fun i=>match b5h ps i with
  |some false=>(a6Z (a0F ps 0) us i).map fun n=>lg w M n (a9X ps i)
  |_=>none
def a4y(w:World)(M:Gh)(ps:List PA)(us:List Nat):Gh where
 g:=fun m=>match b3L ps m with
  |some i=>(match a6Z (a0F ps 0) us i with
   |some n=>lg w M n (a9X ps i)
   |none=>.one undef)
  |none=>.one undef
 ow:=fun m=>match b3L ps m with
  |some i=>(match a6Z (a0F ps 0) us i with
   |some n=>lo M n (a9X ps i)
   |none=>[])
  |none=>[]
 ov:=none
theorem c9V{ps:List PA}{m i:Nat}(h:b3L ps m=some i):∃c,b5h ps i=some c/\m=rnm c i/\(c=true->i<pinned):=by
 unfold b3L at h;rcases a0f h with⟨a,h⟩|⟨a,h⟩
 split at h
 rename_i f;cases h;exact⟨true,f,rfl,fun _=>by simp_all⟩;simp_all;obtain⟨k,rfl⟩:=Nat.exists_eq_add_of_le (show pinned<=m by simp_all);rw[a27]at h
 split at h
 rename_i f;obtain rfl:=Option.some.inj h;exact⟨false,f,rfl,fun g=>by grind⟩;simp_all
theorem d6v{c:Bool}(h:b5h ps i=some c)(hi:c=true->i<pinned):b3L ps (rnm c i)=some i:=by
 unfold b3L;cases c with
 |true=>
  have:decide (rnm true i<pinned)=true:=decide_eq_true (show rnm true i<pinned from hi rfl)
  simp_all[rnm]
 |false=>
  have:decide (rnm false i<pinned)=false:=decide_eq_false (by show ¬ pinned+i<pinned;omega)
  simp_all[rnm]
theorem b2A{ps:List PA}{i:Nat}{c a}(h:ps[i]?=some (.r c a)):b5h ps i=some c:=by simp[b5h,h]
theorem e0g{x:(a2f (ps.map PA.ty)).den}{m:Nat}(h:(ini ps x).rt m=some r):∃i c a y,b3L ps m=some i/\(a0X ps x)[i]?=some ⟨.r c a,y⟩/\a0O ⟨a,y⟩=some r:=by
 simp[ini]at h;rcases a0f h with⟨g,h⟩|⟨g,h⟩
 grind[b2A,a6z,b3L]
 split at h
 rename_i a y hi;have f:=b2A (a6z _ _ _ _ hi);exact⟨m-pinned,false,a,y,by simp[b3L,g,f],hi,h⟩;simp_all
theorem e0h{ps:List PA}{x:(a2f (ps.map PA.ty)).den}{i:Nat}{c a y}(h:(a0X ps x)[i]?=some ⟨.r c a,y⟩)(hi:c=true->i<pinned):(ini ps x).rt (rnm c i)=a0O ⟨a,y⟩:=by
 cases c with
 |true=>
  have:decide (rnm true i<pinned)=true:=decide_eq_true (show rnm true i<pinned from hi rfl)
  simp[ini,this];show(match (a0X ps x)[i]? with|some ⟨.r true a,y⟩=>a0O ⟨a,y⟩|_=>none)=_;rw[h]
 |false=>
  have:decide (rnm false i<pinned)=false:=decide_eq_false (by show ¬ pinned+i<pinned;omega)
  have e:rnm false i-pinned=i:=by simp[rnm]
  simp only[ini,this,cF,e,h]
theorem b7t{ps:List PA}{x:(a2f (ps.map PA.ty)).den}{i:Nat}{c a y r}(h:(a0X ps x)[i]?=some ⟨.r c a,y⟩)(g:a0O ⟨a,y⟩=some r):a9X ps i=r.bx:=by
 have h:=a6z _ _ _ _ h;cases a with
 |v t=>simp[a0O]at g
 |o e=>grind[a0O,a9X]
 |b t=>grind[a0O,a9X]
theorem Rel.enter(h:Rel B U N tm w M)(z:M.ov=none){fz:Bool}{x:(a2f (ps.map PA.ty)).den}{vs:List Value}{us:List Nat}(S:ArgsOk fz B w U M ps x vs [] us 0)(hl:vs.length=ps.length):
  Rel (a1n fz B w M ps us) (ini ps x) ps.length (fun i=>vs.toArray.getD i undef) w (a4y w M ps us)/\d1X (a1n fz B w M ps us) ps vs.toArray:=by
 have g3:∀k i,(a0F ps 0)[k]?=some i->∀k',(a0F ps 0)[k']?=some i->k'=k:=fun k i f k' d=>c6D ps d f;have P:∀(i:Nat) v,vs[i]?=some v->vs.toArray.getD i undef=v:=fun i v hv=>by simp_all

 have R:∀(i:Nat) c a y,(a0X ps x)[i]?=some ⟨.r c a,y⟩->∃n v r,a6Z (a0F ps 0) us i=some n/\n∈us/\vs[i]?=some v/\a0O ⟨a,y⟩=some r/\c1z w U M n r v/\a9X ps i=r.bx:=by
  intro i c a y hi;obtain⟨k,Q,-⟩:=c1A ps 0 i (a6z _ _ _ _ hi);rw[a16]at Q;have D:k<us.length:=by rw[S.len];grind
  have G:us[k]?=some us[k]:=lG D;obtain⟨V,c',a',y',v,r,j1,j2,j3,j4,j5,-⟩:=S.refs k _ G;rw[Q]at j1;simp at j1
  grind[c8D,b7t]
 have L:∀i n,a6Z (a0F ps 0) us i=some n->n∈us/\∃c a y v r,(a0X ps x)[i]?=some ⟨.r c a,y⟩/\vs[i]?=some v/\a0O ⟨a,y⟩=some r/\c1z w U M n r v/\a9X ps i=r.bx:=by
  intro i n hi;obtain⟨k,f,d⟩:=b2z _ _ _ _ hi;obtain⟨V,c,a,y,v,r,j1,j2,j3,j4,j5,-⟩:=S.refs k n d
  grind
 have g5:∀i V n,a6Z (a0F ps 0) us i=some n->a6Z (a0F ps 0) us V=some n->i=V:=by
  intro i V n f d;obtain⟨k,f,K⟩:=b2z _ _ _ _ f;obtain⟨k',d,A⟩:=b2z _ _ _ _ d;obtain⟨a1,b1⟩:=lS.1 K;obtain⟨a2,b2⟩:=lS.1 A
  have:k=k':=by
   have hp:=a25.1 S.nodup
   grind
  grind
 have H:∀m p,p∈(a4y w M ps us).ow m->∃i n,b3L ps m=some i/\a6Z (a0F ps 0) us i=some n/\p∈lo M n (a9X ps i)/\p∈M.ow n:=by
  intro m p hp;cases hi:b3L ps m with
  |none=>grind[a4y]
  |some i=>
   cases G:a6Z (a0F ps 0) us i with
   |none=>grind[a4y]
   |some n=>
    have e:(a4y w M ps us).ow m=lo M n (a9X ps i):=by simp[a4y,hi,G]
    rw[e]at hp;obtain⟨-,c,a,y,v,r,-,-,-,hL,hb⟩:=L _ _ G;exact⟨i,n,rfl,G,hp,(h.lent z hL).2.2.1 p (hb▸hp)⟩
 have I:∀c,a0P (a4y w M ps us) c->(a1n fz B w M ps us).F c/\∃n∈us,c∈(M.ow n).map (·.1):=by
  rintro c ⟨m,hm⟩
  obtain⟨p,hp,rfl⟩:=a08.1 hm;obtain⟨i,n,-,f,d,K⟩:=H m p hp;exact⟨⟨i,n,f,a00 d⟩,n,(L _ _ f).1,a00 K⟩
 have g2:∀c,Shr B w M c->Shr (a1n fz B w M ps us) w (a4y w M ps us) c:=fun c s=>⟨s.1,.inl (.inl s),fun g=>by
  obtain⟨-,n,-,d⟩:=I c g;exact s.2.2 ⟨n,d⟩⟩
 have E:a0a w M.ov=a0a w (a4y w M ps us).ov:=by rw[z];rfl
 have C:∀m i n,b3L ps m=some i->a6Z (a0F ps 0) us i=some n->(a4y w M ps us).g m=lg w M n (a9X ps i)/\(a4y w M ps us).ow m=lo M n (a9X ps i):=fun m i n f d=>by
  simp[a4y,f,d]
 have Y:∀i b,(a1n fz B w M ps us).pin i=some b->b5h ps i=some false/\∃n,a6Z (a0F ps 0) us i=some n/\b=lg w M n (a9X ps i):=fun i b hb=>by
  simp[a1n]at hb
  split at hb
  rename_i Q;obtain⟨n,G,rfl⟩:=a28.1 hb
  grind
  grind
 refine⟨⟨fun m r hr=>?_,fun m hm=>?_,fun m=>?_,fun m m' k0 c s h9=>?_,fun m p hp=>?_,fun i hi=>?_,trivial,a04 _,fun b _ _=>rfl,fun c s=>.inl (I c s).1,fun i b hb _=>?_,rfl⟩,fun i hi Q=>?_⟩;obtain⟨i,c,a,y,f,d,K⟩:=e0g hr;obtain⟨n,v,r',k1,k2,k3,k4,k5,k6⟩:=R i c a y d;rw[K]at k4;cases k4;rw[<-E,(C m i n f k1).1,(C m i n f k1).2,k6];exact(h.lent z k5).1.mono g2
 ·cases ho:(a4y w M ps us).ow m with
  |nil=>rfl
  |cons p l=>
   obtain⟨i,n,f,d,-⟩:=H m p (by grind);obtain⟨-,c,a,y,v,r,h5,-,O,-⟩:=L _ _ d;obtain⟨c',Z,rfl,h8⟩:=c9V f
   have:=b2A (a6z _ _ _ _ h5)
   grind[e0h]
 ·cases hi:b3L ps m with
  |none=>grind
  |some i=>
   cases G:a6Z (a0F ps 0) us i with
   |none=>grind
   |some n=>
    obtain⟨-,c,a,y,v,r,-,-,-,hL,hb⟩:=L _ _ G;rw[(C m i n hi G).2,hb];exact(h.lent z hL).2.2.2.1
 obtain⟨p,hp,rfl⟩:=a08.1 s;obtain⟨p',g1,e'⟩:=a08.1 h9;obtain⟨i,n,f,d,-,A⟩:=H m p hp;obtain⟨V,n',g6,g7,-,g9⟩:=H m' p' g1
 by_cases e:n=n'
 grind[c9V]
 exact h.disj n n' e p.1 (a00 A) (by grind);obtain⟨i,n,f,d,K,A⟩:=H m p hp;exact h.live n p A
 ·have D:i<(a0X ps x).length:=by grind[a6p]
  have g4:i<vs.length:=by omega
  have hv:vs[i]?=some vs[i]:=lG g4;have q:(a0X ps x)[i]?=some (a0X ps x)[i]:=lG D;show b2e _ _ _ _ ((ini ps x).sl i) (vs.toArray.getD i undef);rw[P i _ hv]
  revert q
  generalize (a0X ps x)[i]=it;intro q;obtain⟨p,y⟩:=it;cases p with
  |v t=>
   have e:(ini ps x).sl i=.one (valAV t y):=by simp only[ini,q]
   rw[e]
   have:=S.vals i t y _ q hv
   refine VOk.valAV (this.frame (fun c j _=>by rw[E]) (fun c s=>?_));rcases s with s|⟨hf,n,-,G,s⟩
   grind
   refine⟨h.lt ⟨n,s⟩,.inl (.inr ⟨hf,n,s⟩),fun g=>?_⟩;obtain⟨-,n',f,d⟩:=I c g;exact h.disj n n' (fun e=>G (e▸f)) c s d
  |r c b=>
   have e:(ini ps x).sl i=bif c&&decide (pinned<=i)then .one .dead else .one (c8w (rnm c i) ⟨b,y⟩):=by simp only[ini,q]
   rw[e];cases hcp:c&&decide (pinned<=i)with
   |true=>trivial
   |false=>
    have X:c=true->i<pinned:=fun g=>by
     grind
    obtain⟨n,v,r,f,d,K,A,h5,h0⟩:=R i c b y q;rw[hv]at K;simp at K;rw[K];have Q:=b2A (a6z _ _ _ _ q);have T:=e0h q X;rw[A]at T;obtain⟨hg,-⟩:=C _ i n (d6v Q X) f;obtain⟨-,O,-,-,Z⟩:=h.lent z h5;rw[<-h0]at O Z;show a0l _ _ _ _ (c8w (rnm c i) ⟨b,y⟩) v;cases b with
    |v t=>simp[a0O]at A
    |o e0=>
     simp[a0O]at A;subst A;rcases Z with⟨g,-⟩|⟨-,u,e2,g,-⟩
     grind
     rw[g]at O;have O:v=u:=O;refine⟨_,e0,.one u,T,?_,by rw[O];rfl⟩;rw[hg,g];rfl
    |b t=>
     simp[a0O]at A;subst A;rcases Z with⟨-,bb,g⟩|⟨g,-⟩;rw[g]at O;refine⟨_,t,bb,0,T,?_,O.2⟩;rw[hg,g];rfl
     grind
 obtain⟨Q,n,f,rfl⟩:=Y i b hb;exact(C _ i n (d6v (c:=false) Q (fun g=>by grind)) f).1;obtain⟨k,g0⟩:=a39.1 hi;have D:k<us.length:=by rw[S.len];grind
 obtain⟨V,c',a',y',v,r,j1,j2,j3,j4,j5,-⟩:=S.refs k _ (lG D);rw[g0]at j1;simp at j1;subst j1;refine⟨lg w M us[k] (a9X ps i),?_,by rw[P _ _ j3,b7t j2 j4];exact(h.lent z j5).2.1⟩
 grind[a1n,c8D]
end
theorem b8k{α:Type}{f:Nat->Option (α×a1k×List Nat)}:∀(n i:Nat){xs os rs},a0j f n i=some (xs,os,rs)->(∀j x o r,f j=some (x,o,r)->o=[]/\r=[])->os=[]/\rs=[]
 |0,i,xs,os,rs,h,_=>by simp_all[a0j]
 |n+1,i,xs,os,rs,h,hf=>by
  simp[a0j]at h
  split at h
  grind
  rename_i x o r g
  split at h
  grind
  rename_i c a b k;simp at h;obtain⟨rfl,rfl,rfl⟩:=h;obtain⟨rfl,rfl⟩:=hf _ _ _ _ g;obtain⟨rfl,rfl⟩:=b8k n (i+1) k hf
  simp
theorem b0y{m:Mem}:∀(t:Ty){rd:Nat->Option Value}{x O R},t.hasList=false->dec m t rd=some (x,O,R)->O=[]/\R=[]
 |.int k,rd,x,O,R,_,h=>by
  simp[dec]at h
  grind
 |.bool,rd,x,O,R,_,h=>by
  simp[dec]at h
  grind
 |.str,rd,x,O,R,_,h=>by
  simp[dec]at h
  grind
 |.unit,rd,x,O,R,_,h=>by
  simp only[dec]at h;grind
 |.pair a b,rd,x,O,R,ht,h=>by
  simp[Ty.hasList]at ht;obtain⟨e,o1,d,i,o2,r2,g,f,-,rfl,rfl⟩:=a2u h;obtain⟨rfl,rfl⟩:=b0y a ht.1 g;obtain⟨rfl,rfl⟩:=b0y b ht.2 f
  simp
 |.arr n t,rd,x,O,R,ht,h=>b8k n 0 h fun j x o r c=>b0y t ht c
 |.list o t,rd,x,O,R,ht,h=>by simp[Ty.hasList]at ht
 |.nl t,rd,x,O,R,ht,h=>by
  grind[c1o]
theorem c4g{rd:Nat->Option Value}{x O R}(f:e.hasList=false)(h:dec m (.list true e) rd=some (x,O,R)):R=[]:=by
 rcases a2a h with⟨-,-,-,b⟩|⟨A,n,c,os,d,g,k,i,a⟩
 all_goals grind[b8k,b0y]
theorem RootOk.anySh{s O}(h:RootOk m Sh r s O)(g:(r.bx=true/\r.t.hasList=false)\/∃e,r.t=.list true e/\e.hasList=false):RootOk m Sh' r s O:=by
 obtain⟨k,R,f,i,a⟩:=h.rd;have b:R=[]:=by
  rcases g with⟨-,g⟩|⟨e,c,g⟩
  grind[b0y]
  obtain⟨d,t,x⟩:=r;obtain rfl:t=.list true e:=c;exact c4g g f
 subst b;exact⟨k,[],f,by simp,a⟩
theorem VOk.anySh{t:Ty}{x:t.den}(h:VOk m Sh t x v)(a:t.hasList=false):VOk m Sh' t x v:=by
 obtain⟨f,k,R,g,b⟩:=h;obtain⟨-,rfl⟩:=b0y t a g;exact⟨f,k,[],g,by simp⟩
theorem c1B:∀(rs:List RA)(n k m:Nat),(a1q rs n)[k]?=some m->m=n+1000*k/\k<rs.length
 | [],_,k,m,h=>by simp[a1q]at h
 |_::rs,n,0,m,h=>by simp_all[a1q]
 |_::rs,n,k+1,m,h=>by
  obtain⟨g,f⟩:=c1B rs (n+1000) k m (by simpa[a1q]using h)
  grind
theorem b2M:∀(rs:List RA)(n:Nat),(a1q rs n).length=rs.length
 | [],_=>rfl
 |_::rs,n=>by simp[a1q,b2M rs]
theorem c1C:∀(rs:List RA)(n k m:Nat)(r:RA),(a1q rs n)[k]?=some m->rs[k]?=some r->(∀t,r≠.v t)->m∈a2S rs n
 | [],_,k,m,r,h,_,_=>by simp_all
 |r'::rs,n,0,m,r,h,hr,hv=>by
  simp[a1q]at h hr;subst h;subst hr;cases r' with
  |v t=>simp_all
  |o e=>simp[a2S]
  |b t=>simp[a2S]
 |r'::rs,n,k+1,m,r,h,hr,hv=>by
  have:=c1C rs (n+1000) k m r (by simpa[a1q]using h) (by simpa using hr) hv
  cases r'<;>simp[a2S,this]
section
variable {Z:Type} {B:Base} {N:Nat} {tm:Nat->Value} {w:World}
theorem Rel.dropAll:∀(ns:List Nat) {U:AE}{M:Gh}(_:Rel B U N tm w M)(_:U.pd=none){q:Bool}{us:List Nat}{K:AE->Rs Z}{z:Z}(_:U.dropAll q us ns K=some z),
  (∀n∈ns,n<pinned/\n∉us)/\∃U' M',K U'=some z/\Rel B U' N tm w M'/\U'.pd=none/\M'.ov=M.ov/\(∀c,Shr B w M c->Shr B w M' c)/\(∀n∈ns,U'.rt n=none)/\
   ((∀n,n∉ns->U'.rt n=U.rt n/\M'.ow n=M.ow n)/\M'.g=M.g)/\(∀n,U.rt n=none->U'.rt n=none)
 | [],U,M,h,hpd,q,us,K,z,f=>⟨by simp,U,M,f,h,hpd,rfl,fun _ g=>g,by simp,⟨fun _ _=>⟨rfl,rfl⟩,rfl⟩,fun _ g=>g⟩
 |n::ns,U,M,h,hpd,q,us,K,z,f=>by
  simp only[AE.dropAll]at f;obtain⟨o,f⟩:=(a0f f).elim id fun h=>by grind
  simp at o
  split at f
  rename_i p;have ⟨k1,U',M',h1,h2,h3,h4,h5,h6,⟨h7,h8⟩,h9⟩:=Rel.dropAll ns h hpd f
  grind
  rename_i r p;rcases a0f f with⟨-,g⟩|⟨-,f⟩
  grind
  have j:=h.drop (n:=n) (by simp_all);have ⟨k1,U',M',h1,h2,h3,h4,h5,h6,⟨h7,h8⟩,h9⟩:=Rel.dropAll ns j (by simp_all[AE.setRt,AE.mapv]) f;have b:((U.mapv (AV.drop n)).setRt n none).rt n=none:=by simp[AE.setRt]
  refine⟨fun m k=>?_,U',M',h1,h2,h3,h4,fun c i=>h5 c (Rel.shr_gone c i),fun m k=>?_,⟨fun m k=>?_,h8⟩,fun m k=>h9 m ?_⟩
  grind
  grind
  have l:m≠n:=fun e=>k (by grind);have a:m∉ns:=fun g=>k (a01 _ g);obtain⟨a1,d⟩:=h7 m a;have e:(m==n)=false:=by simp_all
  exact⟨a1.trans (by simp[AE.setRt,AE.mapv,e]),d.trans (by simp_all)⟩;simp_all[AE.setRt,AE.mapv]
end
def b2k:List Nat->List ((r:RA)×r.ty.den)->List (Src×a1k)->Nat->Option Ent1
 |k::ns,it::its,L::Ls,n=>match a0O it with
  |some r=>bif n==k then some ⟨r,L.1,L.2⟩else b2k ns its Ls n
  |none=>b2k ns its Ls n
 |_,_,_,_=>none
theorem c9W:∀(ns:List Nat) its (Ls:List (Src×a1k)) (n:Nat) (e:Ent1),b2k ns its Ls n=some e->
  ∃(k:Nat)(it:(r:RA)×r.ty.den) (L:Src×a1k),ns[k]?=some n/\its[k]?=some it/\Ls[k]?=some L/\a0O it=some e.r/\e.s=L.1/\e.O=L.2
 | [],its,Ls,n,e,h=>by simp[b2k]at h
 |k::ns,[],Ls,n,e,h=>by simp[b2k]at h
 |k::ns,it::its,[],n,e,h=>by simp[b2k]at h
 |k::ns,it::its,L::Ls,n,e,h=>by
  have rest:b2k ns its Ls n=some e->∃(j:Nat)(g:(r:RA)×r.ty.den) (f:Src×a1k),(k::ns)[j]?=some n/\(it::its)[j]?=some g/\(L::Ls)[j]?=some f/\a0O g=some e.r/\e.s=f.1/\e.O=f.2:=fun h=>by
   obtain⟨j,g,f,a,b,c,d⟩:=c9W ns its Ls n e h;exact⟨j+1,g,f,by simpa using a,by simpa using b,by simpa using c,d⟩
  simp[b2k]at h
  split at h
  rename_i r i;rcases a0f h with⟨l,h⟩|⟨-,h⟩;simp at h;subst h;exact⟨0,it,L,by simp_all,rfl,rfl,i,rfl,rfl⟩;simp_all;simp_all
theorem c8E:∀(ns:List Nat) its (Ls:List (Src×a1k)) (k n:Nat) it L r,ns[k]?=some n->its[k]?=some it->Ls[k]?=some L->a0O it=some r->
  (∀(k':Nat) it',ns[k']?=some n->its[k']?=some it'->a0O it'≠none->k'=k)->b2k ns its Ls n=some ⟨r,L.1,L.2⟩
 | [],its,Ls,k,n,it,L,r,h,_,_,_,_=>by grind
 |m::ns,[],Ls,k,n,it,L,r,_,h,_,_,_=>by grind
 |m::ns,it'::its,[],k,n,it,L,r,_,_,h,_,_=>by grind
 |m::ns,it'::its,L'::Ls,0,n,it,L,r,h1,h2,h3,h4,_=>by
  simp_all[b2k]
 |m::ns,it'::its,L'::Ls,k+1,n,it,L,r,h1,h2,h3,h4,hu=>by
  simp at h1 h2 h3;have d:=c8E ns its Ls k n it L r h1 h2 h3 h4 fun k' g b c f=>by
   have:=hu (k'+1) g (by simp_all) (by grind) f
   omega
  simp[b2k];cases hr:a0O it' with
  |none=>omega
  |some r'=>
   have a:n≠m:=fun e=>by
    have:=hu 0 it' (by grind) rfl (by simp_all)
    omega
   grind
theorem c0F:∀(ns:List Nat) its (Ls:List (Src×a1k)) (n:Nat),Ls.length=its.length->a2t ns its n=(b2k ns its Ls n).map (·.r)
 | [],its,Ls,n,h=>by rfl
 |k::ns,[],Ls,n,h=>by rfl
 |k::ns,it::its,[],n,h=>by grind
 |k::ns,it::its,L::Ls,n,h=>by
  have g:=c0F ns its Ls n (by simpa using h);simp only[a2t,b2k];cases a0O it with
  |none=>exact g
  |some r=>cases hk:(n==k)<;>simp[g]
theorem c9X:∀(ns:List Nat) its (k:Nat) av,(a4F ns its)[k]?=some av->∃(n:Nat)(it:(r:RA)×r.ty.den),ns[k]?=some n/\its[k]?=some it/\av=c8w n it
 | [],its,k,av,h=>by simp[a4F]at h
 |_::_,[],k,av,h=>by simp[a4F]at h
 |n::ns,it::its,0,av,h=>by simp[a4F]at h;simp_all
 |n::ns,it::its,k+1,av,h=>by
  obtain⟨m,g,f,a,b⟩:=c9X ns its k av (by simpa[a4F]using h);exact⟨m,g,by simpa using f,by simpa using a,b⟩
theorem c1D:∀(ns:List Nat)(its:List ((r:RA)×r.ty.den)),ns.length<=its.length->(a4F ns its).length=ns.length
 | [],its,h=>by rfl
 |_::_,[],h=>by grind
 |_::ns,_::its,h=>by simp only[a4F,lC];rw[c1D ns its (by simpa using h)]
theorem d4S:∀{it:(r:RA)×r.ty.den} {r:Root},a0O it=some r->it.1.hasList=false->(r.bx=true/\r.t.hasList=false)\/∃e,r.t=.list true e/\e.hasList=false
 |⟨.v t,x⟩,r,h,_=>by simp[a0O]at h
 |⟨.o e,x⟩,r,h,hl=>by simp[a0O]at h;subst h;exact .inr ⟨e,rfl,hl⟩
 |⟨.b t,x⟩,r,h,hl=>by simp[a0O]at h;subst h;exact .inl ⟨rfl,hl⟩
theorem c6C.root{m Sh}:∀{it:(r:RA)×r.ty.den} {v L r},c6C m Sh it v L->a0O it=some r->RootOk m Sh r L.1 L.2
 |⟨.v t,x⟩,v,L,r,h,hr=>by simp[a0O]at hr
 |⟨.o e,x⟩,v,L,r,h,hr=>by simp[a0O]at hr;subst hr;exact h.2
 |⟨.b t,x⟩,v,L,r,h,hr=>by simp[a0O]at hr;subst hr;exact h.1
@[reducible] def Fr(ro:Option Nat):Fence:={ fn:=fun _=>True,depth:=none,alive:=false,round:=ro }
theorem d2D{ro:Option Nat}{args:Array Value}{R:Ending->World->Prop}(h:Calls P f args w R):CallsIn (Fr ro) n P f args w R:=
 (callsIn_wide (n:=n)).2 h
theorem c6E{ro:Option Nat}{a:Act}(g:∀c,o.op≠.defer c)(h:o.uponIn (Fr ro) 0 P a next Q ((execOp a.eval o).run P w)):
  o.wpIn (Fr ro) 0 P a w next Q:=
 ⟨fun _ _=>trivial,by rw[Oper.semAt_eq _ _ _ g];exact h⟩
theorem d2E(hb:b6p P f)(ho:o.op=.call c)(hc:c.callee=.value (.func f))(a:Act)(w:World):
  (execOp a.eval o).run P w=.ok (.enter f (c.args.map a.eval)) w:=by
 obtain ⟨fn,c',h1,h2,h3⟩:=hb;have h4 : ¬ fn.name = "runtime.NumGoroutine" := by simpa using h3
 simp [execOp,ho,resolve,hc,Act.eval,Deferred.ofValue,invoke,callFunc,program,Sem.run,h1,h2,h4,Result.andThen]
theorem d4T(hb:b6p P f){t:Nat}(ho:o.op=.call c)(hc:c.callee=.value (.tmp t))(a:Act)(w:World){us:Array Value}(hv:a.eval (.tmp t)=.func (.func f) #[] us):
  (execOp a.eval o).run P w=.ok (.enter f (c.args.map a.eval++us)) w:=by
 obtain ⟨fn,c',h1,h2,h3⟩:=hb;have h4 : ¬ fn.name = "runtime.NumGoroutine" := by simpa using h3
 simp [execOp,ho,resolve,hc,hv,Deferred.ofValue,invoke,callFunc,program,Sem.run,h1,h2,h4,Result.andThen]
section
variable {P:Program} {B:Base} {N:Nat} {Z:Type} {U:AE} {a:Act} {w:World} {M:Gh} {ro:Option Nat}
theorem GOk.callee(j:GOk G B)(h:Rel B U N tm w M)(fz:Bool)(r:List PA)(us:List Nat):GOk G (a1n fz B w M r us):=by
 intro g t x l;obtain⟨a,c,b,s,d,e⟩:=j g t x l;have f:¬ a0P M g:=fun o=>by
  rcases h.mine _ o with q|q;exact b q;omega
 have k:=h.size;exact⟨a18 a k,.inl ⟨a18 a k,.inl c,f⟩,fun⟨i,n,_,m⟩=>by obtain⟨p,hp,rfl⟩:=a08.1 m;exact f ⟨n,a00 (e6L hp)⟩,s,d.trans (h.frame g a b).symm,e⟩
theorem c3p:∀(ps:List PA)(us:List Nat)(i0 n:Nat),n∈brw ps us->∃(k i:Nat)(e:Ty),us[k]?=some n/\(a0F ps i0)[k]?=some (i0+i)/\ps[i]?=some (.r false (.o e))
 | [],us,i0,n,h=>by simp[brw]at h
 |.v _::ps,us,i0,n,h=>by
  obtain⟨k,i,e,g,f,b⟩:=c3p ps us (i0+1) n (by simpa[brw]using h);exact⟨k,i+1,e,g,by simp only[a0F];rw[f];congr 1;omega,by simpa using b⟩
 |.r c a::ps,[],i0,n,h=>by cases c<;>cases a<;>simp[brw]at h
 |.r c a::ps,u::us,i0,n,h=>by
  have rest:n∈brw ps us->∃(k i:Nat)(e:Ty),(u::us)[k]?=some n/\(a0F (.r c a::ps) i0)[k]?=some (i0+i)/\(PA.r c a::ps)[i]?=some (.r false (.o e)):=fun h=>by
   obtain⟨k,i,e,g,f,b⟩:=c3p ps us (i0+1) n h;exact⟨k+1,i+1,e,by simpa using g,by simp only[a0F,List.getElem?_cons_succ];rw[f];congr 1;omega,by simpa using b⟩
  cases c with
  |true=>exact rest (by cases a<;>simpa[brw]using h)
  |false=>
   cases a with
   |o e=>
    rcases mC.1 (show n∈u::brw ps us from h)with rfl|h;exact⟨0,0,e,rfl,rfl,rfl⟩;exact rest h
   |_=>exact rest (by simpa[brw]using h)
def b6q(o:Option Root)(s:Src)(e:Ent1):Ent1:=match o,s with
 |some ⟨true,_,_⟩,.at b _=>if e.r.bx=true then e else⟨⟨true,e.r.t,e.r.x⟩,s,(b,1)::e.O⟩
 |_,_=>e
theorem b7u{C:Array Value->World->(Ending->World->Prop)->Prop}{avs:List AV}{vals:List Value}{s:FSem}{K:AE->Rs Z}{z:Z}(m8:∀R,C vals.toArray w R->(∀e w',R e w'->∃v,e=.returned v/\next (a.put o.dst v) w')->o.wpIn (Fr ro) 0 P a w next Q)(k0:avs.length=vals.length)(i9:∀(i:Nat) av v,avs[i]?=some av->vals[i]?=some v->a0l (a0a w M.ov) M.g U.rt (Shr B w M) av v)(hG:GOk G B)(hF:e2l C G s)(h:Rel B U N (a0o a) w M)(hN:a.tmps.size=N)(hz:U.call q o.dst s avs K=some z)(g4:∀v w' U' M',Rel B U' N (a0o (a.put o.dst v)) w' M'->K U'=some z->next (a.put o.dst v) w'):o.wpIn (Fr ro) 0 P a w next Q:=by
 unfold AE.call at hz
 split at hz
 cases hz;rename_i l8;have n3:=h.ov_none l8;obtain⟨hl,x,U',M',us,m4,h',ev,bx,k7,-,ha⟩:=Rel.args s.ps avs vals (i0:=0) h (fun i av v h1 h2=>.inl (i9 i av v h1 h2)) (by omega) hz;clear hz;obtain⟨fz,l2⟩:∃fz,(s.rs.any RA.hasList || (a5l s.ps).any RA.hasList)=fz:=⟨_,rfl⟩;rw[l2]at ha k7;have l9:U'.pd=none:=ev.pd.trans l8;have b0:M'.ov=none:=ev.ov.trans n3;obtain⟨hnames,U1,M1,hz2,h1,hpd1,hov1,hshr,hnone,⟨c9,d8⟩,hnone'⟩:=Rel.dropAll _ h' l9 m4;clear m4;obtain⟨y,hy,m5⟩:=a34.1 hz2;clear hz2;obtain⟨f5,e4⟩:=h'.enter b0 ha (by omega);obtain⟨ns,d1⟩:∃ns,a1q s.rs (o.dst.getD 0+1000)=ns:=⟨_,rfl⟩;have n5:(us.reverse++[]).reverse=us:=by simp
 obtain⟨rn,m1⟩:∃rn,a2S s.rs (o.dst.getD 0+1000)=rn:=⟨_,rfl⟩;rw[m1]at hnames hnone c9;refine m8 _ (hF w _ _ _ x y (hG.callee h' _ _ _) hy rfl (fun _=>rfl) rfl (by rw[a59];omega) f5 e4) ?_
 rintro e w' ⟨vr,Ls,rfl,f7,bk⟩
 refine⟨_,rfl,?_⟩;obtain⟨T,g9⟩:∃T,a2r (RA.all s.ps s.rs) y=T:=⟨_,rfl⟩;obtain⟨vs,f8⟩:∃vs,vr++(a0F s.ps 0).map (a4f s.ps vals.toArray)=vs:=⟨_,rfl⟩;rw[g9,f8]at bk;have n7:T.length=s.rs.length+us.length:=by
  rw[<-g9,a9W,RA.all,lN,ha.len,b1E]
 have a9:ns.length=s.rs.length:=by rw[<-d1,b2M]
 have h8:∀n∈rn,n<pinned/\n∉us:=fun n hn=>by
  have:=hnames n hn
  simpa using this

 have X:∀(k n:Nat) it,(ns++us)[k]?=some n->T[k]?=some it->a0O it≠none->(k<ns.length/\n∈rn/\n=o.dst.getD 0+1000+1000*k)\/(ns.length<=k/\us[k-ns.length]?=some n):=by
  intro k n it h1 h2 h3
  by_cases hk:k<ns.length
  rw[a03 hk]at h1;have hf:=b4R (RA.all s.ps s.rs) y k it (by rw[g9];exact h2);rw[RA.all,a03 (by omega)]at hf;refine .inl ⟨hk,?_,?_⟩;rw[<-m1];exact c1C s.rs _ k n it.1 (by rw[d1];exact h1) hf fun t ht=>h3 (by
   obtain⟨r,xx⟩:=it;obtain rfl:r=.v t:=ht;rfl)
  exact(c1B s.rs _ k n (by rw[d1];exact h1)).1;rw[a15 (by omega)]at h1;exact .inr ⟨by omega,h1⟩
 have d3:∀(k k' n:Nat) it g5,(ns++us)[k]?=some n->T[k]?=some it->a0O it≠none->(ns++us)[k']?=some n->T[k']?=some g5->a0O g5≠none->k'=k:=by
  intro k k' n it g5 h1 h2 h3 h4 h5 h6;rcases X k n it h1 h2 h3 with⟨a1,a2,a3⟩|⟨a1,a2⟩;rcases X k' n g5 h4 h5 h6 with⟨b1,b2,b3⟩|⟨b1,b2⟩;omega;exact absurd (a06 b2) (h8 n a2).2;rcases X k' n g5 h4 h5 h6 with⟨b1,b2,b3⟩|⟨b1,b2⟩;exact absurd (a06 a2) (h8 n b2).2;obtain⟨c1,c2⟩:=lS.1 a2;obtain⟨c3,c4⟩:=lS.1 b2;have hp:=a25.1 ha.nodup;rcases a60 (k-ns.length) (k'-ns.length)with g|g|g;exact absurd (c2.trans c4.symm) (hp _ _ c1 c3 g);omega;exact absurd (c4.trans c2.symm) (hp _ _ c3 c1 g)
 let E0:Nat->Option Ent1:=b2k (ns++us) T Ls
 have k4:∀n∈us,U1.rt n=U'.rt n/\M1.ow n=M'.ow n:=fun n hn=>c9 n fun g=>(h8 n g).2 hn;have f1:∀c,(a1n fz B w M' s.ps us).F c->∃n∈us,c∈(M'.ow n).map (·.1):=by
  rintro c ⟨i,n,h1,h2⟩
  obtain⟨k,q1,q2⟩:=b2z _ _ _ _ h1;obtain⟨i',c',ra,y',v,r,j1,j2,j3,j4,j5,-⟩:=ha.refs k n q2;rw[q1]at j1;simp only[a16,sj]at j1;subst j1;obtain⟨p,hp,rfl⟩:=a08.1 h2;rw[b7t j2 j4]at hp;exact⟨n,a06 q2,a00 ((h'.lent b0 j5).2.2.1 p hp)⟩
 have e7:∀n∈us,∃A r0,E0 n=some A/\U'.rt n=some r0/\
   ((A.r.bx=r0.bx/\(A.s=M'.g n\/(r0.bx=false/\n<pinned/\n∉brw s.ps us))/\(r0.bx=false->∃ε,A.r.t=.list true ε))\/
    ∃b v ε,r0.bx=true/\A.r.bx=false/\A.r.t=.list true ε/\M'.g n=.at b 0/\w.cell? ⟨b,0,none⟩=some v/\A.s=.one v/\b∈(M'.ow n).map (·.1)/\a0Q w b 1/\¬ (a1n fz B w M' s.ps us).F b):=by
  intro n hn;obtain⟨k,hk⟩:=a39.1 hn;obtain⟨i,c,ra,y',v,r,j1,j2,j3,j4,j5,j7⟩:=ha.refs k n hk;rw[a16]at j1;have b8:=a6z _ _ _ _ j2;have n8:k<us.length:=(lS.1 hk).1;have l3:(ns.length+k)<T.length:=by omega
  have g7:=lG l3;have f3:ns.length+k<Ls.length:=by rw[bk.ll];exact l3
  have c0:=lG f3;have k8:=b4R (RA.all s.ps s.rs) y (ns.length+k) _ (by rw[g9];exact g7);have b7:(ns++us)[ns.length+k]?=some n:=by rw[a15 (by omega)];simpa using hk
  have i8:(RA.all s.ps s.rs)[ns.length+k]?=some ra:=by
   rw[RA.all,a15 (by omega),a9,a27];obtain⟨k2,q1,q2⟩:=c1A s.ps 0 i b8;rw[a16]at q1;rw[c6D s.ps j1 q1];exact q2
  rw[i8]at k8;simp only[sj]at k8;have e5:vs[ns.length+k]?=some (a4f s.ps vals.toArray i):=by
   rw[<-f8,a15 (by omega),f7,a9,a27,a36,j1];rfl
  have d4:vals.toArray.getD i undef=v:=by simp only[Array.getD_eq_getD_getElem?,a22,j3,Option.getD_some]
  have k7:∀k3,us[k3]?=some n->k=k3:=fun k3 q1=>by
   obtain⟨c1,c2⟩:=lS.1 hk;obtain⟨c3,c4⟩:=lS.1 q1;have hp:=a25.1 ha.nodup;rcases a60 k k3 with g|g|g;exact absurd (c2.trans c4.symm) (hp _ _ c1 c3 g);exact g;exact absurd (c4.trans c2.symm) (hp _ _ c3 c1 g)
  have h9:=bk.ok _ _ _ _ g7 e5 c0
  revert k8 h9 g7
  generalize T[ns.length+k]=it;obtain⟨r0,xx⟩:=it;intro g7 k8 h9;obtain rfl:ra=r0:=k8;have f0:∀r',a0O ⟨ra,xx⟩=some r'->E0 n=some ⟨r',Ls[ns.length+k].1,Ls[ns.length+k].2⟩:=fun r' m0=>
   c8E (ns++us) T Ls (ns.length+k) n _ _ _ b7 g7 c0 m0 (fun k' g5 g1 V g3=>d3 _ k' n _ g5 b7 g7 (by rw[m0];simp) g1 V g3)
  cases ra with
  |v t=>simp[a0O]at j4
  |b t=>
   simp only[a0O,sj]at j4;subst j4;cases c with
   |true=>have:=(j7 rfl).2.1;cases this
   |false=>
    have c5:a4f s.ps vals.toArray i=v:=by simp only[a4f,b2A b8,d4]
    rw[c5]at h9;obtain⟨hr,b',hs,hv⟩:=h9;rcases j5 with⟨j5,j6⟩|⟨_,⟨g,-⟩,-⟩;refine⟨_,_,f0 _ rfl,j5,.inl ⟨rfl,.inl ?_,fun g=>by cases g⟩⟩;rcases h'.src_of j5 with⟨-,b,g⟩|⟨g,-⟩;rw[g]at j6|-
    have:=j6.2.symm.trans hv
    simp only[Value.pointer.injEq,sj,Addr.mk.injEq,and_true]at this;rw[this];exact hs;cases g;cases g
  |o A=>
   simp only[a0O,sj]at j4;subst j4;obtain⟨hs,hr⟩:=h9;have g6:a9X s.ps i=false:=by simp[a9X,b8]
   rcases j5 with⟨j5,j6⟩|⟨b,-,j5,hg,f2⟩
   ·refine⟨_,_,f0 _ rfl,j5,.inl ⟨rfl,?_,fun _=>⟨A,rfl⟩⟩⟩;cases c with
    |true=>
     refine .inr ⟨rfl,(j7 rfl).2.2,fun hb=>?_⟩;obtain⟨k3,i3,e3,q1,q2,q3⟩:=c3p s.ps us 0 n hb;obtain rfl:=k7 k3 q1;rw[j1]at q2;simp only[a16,sj]at q2;subst q2;rw[b8]at q3;cases q3
    |false=>
     have c5:a4f s.ps vals.toArray i=v:=by simp only[a4f,b2A b8,d4]
     rw[c5]at hs;left;rcases h'.src_of j5 with⟨g,-⟩|⟨-,u,e2,g,-⟩;cases g;rw[g]at j6|-;have j6:v=u:=j6;rw[<-j6];exact hs
   ·have m7:c=false:=by
     cases c with
     |false=>rfl
     |true=>have:=(j7 rfl).1;rw[j5]at this;cases this
    subst m7;have c5:a4f s.ps vals.toArray i=v:=by simp only[a4f,b2A b8,d4]
    rw[c5]at hs;have f4:M'.ow n=(b,1)::(M'.ow n).tail/\b∉((M'.ow n).tail).map (·.1):=by
     obtain⟨O',R,-,-,q3⟩:=(h'.roots n _ j5).rd;rcases q3 with⟨-,b',q4,q5⟩|⟨q4,-⟩;rw[hg]at q4;simp only[Src.at.injEq,and_true]at q4;subst q4;have l6:=h'.nodup n;rw[q5,a07]at l6;rw[q5];exact⟨rfl,(a05.1 l6).1⟩;cases q4
    have l0:b∈(M'.ow n).map (·.1):=by rw[f4.1];simp
    refine⟨_,_,f0 _ rfl,j5,.inr ⟨b,v,A,rfl,rfl,rfl,hg,f2,hs,l0,h'.live n (b,1) (by rw[f4.1];simp),?_⟩⟩
    rintro⟨i',n',q1,q2⟩
    obtain⟨k',q3,q4⟩:=b2z _ _ _ _ q1
    by_cases hnn:n'=n
    subst hnn;obtain rfl:=k7 k' q4;rw[j1]at q3;simp only[sj]at q3;subst q3;rw[g6]at q2;simp only[lo,hg]at q2;exact f4.2 q2;obtain⟨i2,c2,a2,y2,v2,r2,z1,z2,z3,z4,z5,-⟩:=ha.refs k' n' q4;rw[q3]at z1;simp only[a16,sj]at z1;subst z1;obtain⟨p,hp,n4⟩:=a08.1 q2;rw[b7t z2 z4]at hp;exact h'.disj n n' (Ne.symm hnn) b l0 (by rw[<-n4];exact a00 ((h'.lent b0 z5).2.2.1 p hp))
 let E:Nat->Option Ent1:=fun n=>(E0 n).map fun e=>bif us.contains n then b6q (U1.rt n) (M1.g n) e else e
 have k5:∀n e,E n=some e->∃A,E0 n=some A/\(e=A\/(n∈us/\∃b v ε,A.r.bx=false/\A.r.t=.list true ε/\M'.g n=.at b 0/\w.cell? ⟨b,0,none⟩=some v/\A.s=.one v/\b∈(M'.ow n).map (·.1)/\a0Q w b 1/\
   ¬ (a1n fz B w M' s.ps us).F b/\e=⟨⟨true,A.r.t,A.r.x⟩,.at b 0,(b,1)::A.O⟩)):=by
  intro n e D;obtain⟨A,I,rfl⟩:=a28.1 D;refine⟨A,I,?_⟩;cases Y:us.contains n with
  |false=>exact .inl rfl
  |true=>
   have hn:n∈us:=by simpa using Y
   obtain⟨e1,r0,q1,q2,q3⟩:=e7 n hn;rw[I]at q1;cases q1;simp only[cT];rw[(k4 n hn).1,q2,d8];obtain⟨bx,t0,x0⟩:=r0;rcases q3 with⟨q3,-⟩|⟨b,v,ε,q3,q4,q5,q6,q7⟩
   ·left;cases bx with
    |false=>rfl
    |true=>
     rcases M'.g n with⟨b,o⟩|u;simp only[b6q];rw[if_pos q3];rfl
   right;have q3:bx=true:=q3;subst q3;refine⟨hn,b,v,ε,q4,q5,q6,q7.1,q7.2.1,q7.2.2.1,q7.2.2.2.1,q7.2.2.2.2,?_⟩;rw[q6];simp only[b6q];rw[if_neg (by rw[q4];simp)]
 have d5:∀n∈us,∃e r,E n=some e/\U'.rt n=some r/\(e.s=M'.g n\/(r.bx=false/\n<pinned/\n∉brw s.ps us))/\(r.bx=false->∃ε,e.r.t=.list true ε):=by
  intro n hn;obtain⟨A,r0,q1,q2,q3⟩:=e7 n hn;have hE:∃e,E n=some e:=⟨_,by simp only[E,q1,a33];rfl⟩;obtain⟨e,D⟩:=hE;obtain⟨e1,z1,z2⟩:=k5 n e D;rw[q1]at z1;cases z1;refine⟨e,r0,D,q2,?_⟩;rcases q3 with⟨q3,q4,q5⟩|⟨b,v,ε,q3,q4,q5,q6,q7⟩;rcases z2 with rfl|⟨-,b,v,ε,z3,z4,z5,z6,z7,z8,z9,g0,rfl⟩;exact⟨q4,q5⟩;rw[z3]at q3;rcases h'.src_of q2 with⟨g,-⟩|⟨-,u,_,g,-⟩;rw[g]at q3;cases q3;rw[g]at z5;cases z5;refine⟨.inl ?_,fun g=>by rw[q3]at g;cases g⟩;rcases z2 with rfl|⟨-,b',v',ε',z3,z4,z5,z6,z7,z8,z9,g0,rfl⟩
  exfalso
  obtain⟨e2,l1,b6⟩:=a28.1 D;rw[q1]at l1;cases l1;have Y:us.contains n=true:=by simpa using hn
  rw[Y]at b6;simp only[cT]at b6;rw[(k4 n hn).1,q2,d8,q6]at b6;obtain⟨bx,t0,x0⟩:=r0;have q3:bx=true:=q3;subst q3;simp only[b6q]at b6;rw[if_neg (by rw[q4];simp)]at b6
  have:=congrArg (fun e=>e.r.bx) b6
  rw[q4]at this;cases this;exact z5.symm
 have H:∀n e,E0 n=some e->∃(k:Nat)(it:(r:RA)×r.ty.den) (v:Value) (L:Src×a1k),(ns++us)[k]?=some n/\T[k]?=some it/\vs[k]?=some v/\Ls[k]?=some L/\a0O it=some e.r/\e.s=L.1/\e.O=L.2/\
   c6C (cells w') (fun c=>c<w'.heap.size/\((a1n fz B w M' s.ps us).S c\/(a1n fz B w M' s.ps us).F c\/(a1n fz B w M' s.ps us).size<=c)/\∀L∈Ls,c∉L.2.map (·.1)) it v L:=by
  intro n e D;obtain⟨k,it,L,j1,j2,j3,j4⟩:=c9W _ _ _ _ _ D;have n1:k<vs.length:=by rw[bk.lv];exact(lS.1 j2).1
  have hv:=lG n1;exact⟨k,it,vs[k],L,j1,j2,hv,j3,j4.1,j4.2.1,j4.2.2,bk.ok _ _ _ _ j2 hv j3⟩
 have a5:∀n A c,E0 n=some A->c∈A.O.map (·.1)->(a1n fz B w M' s.ps us).F c\/w.heap.size<=c:=fun n A c D Y=>by
  obtain⟨k,it,v,L,j1,j2,jv,j3,j4,j5,j6,j7⟩:=H n A D;rw[j6]at Y;exact bk.mine L (a06 j3) c Y
 have d0:∀n e,E n=some e->n∈rn\/n∈us:=fun n e D=>by
  obtain⟨A,I,-⟩:=k5 n e D;obtain⟨k,it,v,L,j1,j2,-,-,j4,-⟩:=H n A I;rcases X k n it j1 j2 (by rw[j4];simp)with⟨-,g,-⟩|⟨-,g⟩;exact .inl g;exact .inr (a06 g)
 have a4:∀n b,b∈(M'.ow n).map (·.1)->¬ (a1n fz B w M' s.ps us).F b->∀n' A,E0 n'=some A->b∉A.O.map (·.1):=fun n b hb hF n' A D Y=>by
  rcases a5 n' A b D Y with g|g;exact hF g
  have:=h'.lt ⟨n,hb⟩;omega
 have hW:Work w w' M1 (a1n fz B w M' s.ps us).F E:={
  own:=fun c hF=>by
   obtain⟨n,hn,Y⟩:=f1 c hF;obtain⟨e,r,D,-⟩:=d5 n hn;exact⟨n,e,D,by rw[(k4 n hn).2];exact Y⟩
  size:=bk.size
  still:=bk.still
  same:=fun b hb m6=>bk.frame b hb m6
  mine:=fun n e c D Y=>by
   obtain⟨A,I,z⟩:=k5 n e D;rcases z with rfl|⟨hn,b,v,ε,z3,z4,z5,z6,z7,z8,z9,g0,rfl⟩;exact(a5 n e c I Y).imp .inl id;rcases mC.1 (show c∈b::A.O.map (·.1)from Y)with rfl|Y;exact .inl (.inr (by rw[(k4 n hn).2];exact z8));exact(a5 n A c I Y).imp .inl id
  nodup:=fun n e D=>by
   obtain⟨A,I,z⟩:=k5 n e D;have h0:(A.O.map (·.1)).Nodup:=by
    obtain⟨k,it,v,L,j1,j2,jv,j3,j4,j5,j6,j7⟩:=H n A I;rw[j6];exact bk.nodup L (a06 j3)
   rcases z with rfl|⟨hn,b,v,ε,z3,z4,z5,z6,z7,z8,z9,g0,rfl⟩;exact h0;exact a05.2 ⟨a4 n b z8 g0 n A I,h0⟩
  disj:=fun n e n' e' D c6 d9 c Y h7=>by
   obtain⟨A,I,z⟩:=k5 n e D;obtain⟨b4,c7,z'⟩:=k5 n' e' c6;have a7:c∈A.O.map (·.1)->c∈b4.O.map (·.1)->False:=fun Y h7=>by
    obtain⟨k,it,v,L,j1,j2,jv,j3,j4,j5,j6,j7⟩:=H n A I;obtain⟨k',g5,v',L',i1,i2,iv,i3,i4,i5,i6,i7⟩:=H n' b4 c7;rw[j6]at Y;rw[i6]at h7;exact bk.disj k k' L L' j3 i3 (fun g=>by subst g;rw[j1]at i1;exact d9 (Option.some.inj i1)) c Y h7
   rcases z with rfl|⟨hn,b,v,ε,z3,z4,z5,z6,z7,z8,z9,g0,rfl⟩;rcases z' with rfl|⟨l5,b',v',ε',y3,y4,y5,y6,y7,y8,y9,e6,rfl⟩;exact a7 Y h7;rcases mC.1 (show c∈b'::b4.O.map (·.1)from h7)with rfl|h7;exact a4 n' c y8 e6 n e I Y;exact a7 Y h7;rcases mC.1 (show c∈b::A.O.map (·.1)from Y)with rfl|Y;rcases z' with rfl|⟨l5,b',v',ε',y3,y4,y5,y6,y7,y8,y9,e6,rfl⟩;exact a4 n c z8 g0 n' e' c7 h7;rcases mC.1 (show c∈b'::b4.O.map (·.1)from h7)with rfl|h7;exact h'.disj n n' d9 c z8 y8;exact a4 n c z8 g0 n' b4 c7 h7;rcases z' with rfl|⟨l5,b',v',ε',y3,y4,y5,y6,y7,y8,y9,e6,rfl⟩;exact a7 Y h7;rcases mC.1 (show c∈b'::b4.O.map (·.1)from h7)with rfl|h7;exact a4 n' c y8 e6 n A I Y;exact a7 Y h7
  live:=fun n e p D hp=>by
   obtain⟨A,I,z⟩:=k5 n e D;have h0:p∈A.O->a0Q w' p.1 p.2:=fun hp=>by
    obtain⟨k,it,v,L,j1,j2,jv,j3,j4,j5,j6,j7⟩:=H n A I;rw[j6]at hp;exact bk.live L (a06 j3) p hp
   rcases z with rfl|⟨hn,b,v,ε,z3,z4,z5,z6,z7,z8,z9,g0,rfl⟩;exact h0 hp;rcases mC.1 hp with rfl|hp;obtain⟨c,e,lo,hi,q1,q2⟩:=z9;exact⟨c,e,lo,hi,by rw[bk.frame b (h'.lt ⟨n,z8⟩) g0];exact q1,q2⟩;exact h0 hp }

 have a8:∀c,(c<w'.heap.size/\((a1n fz B w M' s.ps us).S c\/(a1n fz B w M' s.ps us).F c\/(a1n fz B w M' s.ps us).size<=c)/\∀L∈Ls,c∉L.2.map (·.1))->fz=true->
   (c<w'.heap.size/\(Shr B w M1 c\/(a1n fz B w M' s.ps us).F c\/w.heap.size<=c)/\∀n e,E n=some e->c∉e.O.map (·.1)):=by
  rintro c ⟨g1,V,g3⟩ hfzt
  refine⟨g1,?_,fun n e D d6=>?_⟩;rcases V with(V|⟨V,-⟩)|V|V;exact .inl (hshr c V);rw[hfzt]at V;cases V;exact .inr (.inl V);exact .inr (.inr V);obtain⟨A,I,z⟩:=k5 n e D;have h0:c∉A.O.map (·.1):=by
   obtain⟨k,it,v,L,j1,j2,jv,j3,j4,j5,j6,j7⟩:=H n A I;rw[j6];exact g3 L (a06 j3)
  rcases z with rfl|⟨hn,b,v,ε,z3,z4,z5,z6,z7,z8,z9,g0,rfl⟩;exact h0 d6;rcases mC.1 (show c∈b::A.O.map (·.1)from d6)with rfl|d6;rcases V with(V|⟨V,-⟩)|V|V;exact V.2.2 ⟨n,z8⟩;rw[hfzt]at V;cases V;exact g0 V
  have:=h'.lt ⟨n,z8⟩
  have V:w.heap.size<=c:=V;omega;exact h0 d6
 have k9:fz=false->∀(k:Nat) it,T[k]?=some it->it.1.hasList=false:=by
  intro d7 k it hk;have h1:=b4R (RA.all s.ps s.rs) y k it (by rw[g9];exact hk);rw[<-l2]at d7;simp only[Bool.or_eq_false_iff,List.any_eq_false,a62]at d7;have hm:=a06 h1;simp only[RA.all,mA]at hm;rcases hm with hm|hm;exact d7.1 _ hm;exact d7.2 _ hm
 have f6:∀n e,E n=some e->RootOk (cells w') (fun c=>c<w'.heap.size/\(Shr B w M1 c\/(a1n fz B w M' s.ps us).F c\/w.heap.size<=c)/\∀n e,E n=some e->c∉e.O.map (·.1)) e.r e.s e.O:=by
  intro n e D;obtain⟨A,I,z⟩:=k5 n e D;have h0:RootOk (cells w') (fun c=>c<w'.heap.size/\(Shr B w M1 c\/(a1n fz B w M' s.ps us).F c\/w.heap.size<=c)/\∀n e,E n=some e->c∉e.O.map (·.1)) A.r A.s A.O:=by
   obtain⟨k,it,v,L,j1,j2,jv,j3,j4,j5,j6,j7⟩:=H n A I;have hr:=j7.root j4;rw[j5,j6];cases hfz':fz with
   |true=>
    rw[hfz']at hr a8;exact hr.mono fun c Y=>a8 c Y rfl
   |false=>exact hr.anySh (d4S j4 (k9 hfz' k it j2))
  rcases z with rfl|⟨hn,b,v,ε,z3,z4,z5,z6,z7,z8,z9,g0,rfl⟩;exact h0;obtain⟨O',R,k1,k2,k3⟩:=h0.rd;rcases k3 with⟨k3,-⟩|⟨-,-,-,k3⟩;rw[z3]at k3;cases k3;refine⟨O',R,a0y _ k1 (fun j hj=>?_) (fun _ _ _=>rfl),k2,.inl ⟨rfl,b,rfl,?_⟩⟩;have hj:j<A.r.t.cells:=hj;rw[z4]at hj;have m9:j=0:=by simp only[Ty.cells]at hj;omega
  subst m9;rw[z7];show cells w' b (0+0)=some v
  have:=a1y (w':=w') (w:=w) (c:=b) none (bk.frame b (h'.lt ⟨n,z8⟩) g0) 0
  exact this.trans z6;show(b,1)::A.O=(b,A.r.t.cells)::O';rw[z4,k3];rfl
 obtain⟨hM,e9⟩:=h1.merge (hov1.trans b0) hW f6 (fun i b e hb D=>by
   rcases d0 _ e D with g|g;exact absurd (h8 _ g).1 (by omega);obtain⟨e',r',c6,a6,hs,-⟩:=d5 _ g;rw[D]at c6;simp only[sj]at c6;subst c6;rcases hs with hs|⟨-,hs,-⟩;rw[hs];exact h'.pins i b hb (by rw[a6];simp);omega) (f:=AV.deeps us (U1.unbx (brw s.ps us))) (fun av v k6=>by
   have f9:∀k q,(av=.ptr k q\/av=.sref k q\/∃o l,av=.swin k q o l)->k∉us->E k=none:=fun k q hk n0=>by
    cases D:E k with
    |none=>rfl
    |some e=>
     rcases d0 k e D with g|g;have hn:=hnone k g;rcases hk with rfl|rfl|⟨o,l,rfl⟩;obtain⟨r,t,b,o,g1,-⟩:=k6;rw[hn]at g1;cases g1;obtain⟨r,e,s,g1,-⟩:=k6;rw[hn]at g1;cases g1;obtain⟨r,e,s,_,_,_,g1,-⟩:=k6;rw[hn]at g1;cases g1;exact absurd g n0
   cases av with
   |sref m p=>
    simp only[AV.deeps];split
    ·rename_i hm;cases p with
     |cons=>exact .inl rfl
     |nil=>
      simp only[];split;rename_i hb;refine .inr ⟨rfl,fun k p' hk=>.inr (.inr ?_)⟩;rcases hk with g|g|⟨o,l,g⟩<;>cases g;obtain⟨e,r,D,a6,hs,ht⟩:=d5 m (by simpa using hm);have b9:=(k4 m (by simpa using hm)).1.trans a6;have hb:m∈U1.unbx (brw s.ps us):=by simpa using hb
      simp only[AE.unbx,List.mem_filter,a46]at hb;obtain⟨hb,g6⟩:=hb;rcases hs with hs|⟨-,-,hs⟩;obtain⟨r2,e2,s2,g1,V,g3⟩:=k6;rw[b9]at g1;cases g1;simp only[loc,a0U,sj,pJ]at V;rcases h1.src_of b9 with⟨b5,b,hg⟩|⟨b5,u,e3,hg,-⟩;rw[b9]at g6;simp only[c1l]at g6;rw[b5]at g6;cases g6;obtain⟨ε,ht⟩:=ht b5;exact⟨rfl,e,u,ε,D,by rw[hs,<-d8];exact hg,hg,ht⟩;exact absurd hb hs;exact .inl rfl
    rename_i hm;refine .inr ⟨rfl,fun k p' hk=>.inl (f9 k p' hk ?_)⟩;rcases hk with g|g|⟨o,l,g⟩<;>cases g;simpa using hm
   |swin m p o l=>
    simp only[AV.deeps];split;exact .inl rfl;rename_i hm;refine .inr ⟨rfl,fun k p' hk=>.inl (f9 k p' hk ?_)⟩;rcases hk with g|g|⟨o,l,g⟩<;>cases g;simpa using hm
   |ptr m p=>
    simp only[AV.deeps];split
    ·rename_i hm;cases p with
     |cons=>exact .inl rfl
     |nil=>
      refine .inr ⟨rfl,fun k p' hk=>.inr (.inl ?_)⟩;rcases hk with g|g|⟨o,l,g⟩<;>cases g;obtain⟨e,r,D,a6,hs,ht⟩:=d5 m (by simpa using hm);have b9:=(k4 m (by simpa using hm)).1.trans a6;obtain⟨r2,t2,b2,o2,g1,V,-⟩:=k6;rw[b9]at g1;cases g1;simp only[loc,a0U,sj,pJ]at V;rcases h1.src_of b9 with⟨b5,b,hg⟩|⟨b5,u,e3,hg,-⟩;rcases hs with hs|⟨hs,-⟩;exact⟨rfl,e,b,D,by rw[hs,<-d8];exact hg,hg⟩;rw[b5]at hs;cases hs;rw[hg]at V;cases V.2
    rename_i hm;refine .inr ⟨rfl,fun k p' hk=>.inl (f9 k p' hk ?_)⟩;rcases hk with g|g|⟨o,l,g⟩<;>cases g;simpa using hm
   |_=>exact .inr ⟨rfl,fun k p' hk=>by rcases hk with g|g|⟨o,l,g⟩<;>cases g⟩)

 have d2:∀(k:Nat) av,(a4F ns T)[k]?=some av->∃u,vr[k]?=some u/\a0l (a0a w' none) (a4x M1 E).g (a9V U1 (AV.deeps us (U1.unbx (brw s.ps us))) E).rt (Shr B w' (a4x M1 E)) av u:=by
  intro k av hk;obtain⟨n,it,g1,V,rfl⟩:=c9X _ _ _ _ hk;have l4:k<vr.length:=by rw[f7,<-a9];exact(lS.1 g1).1
  have e5:=lG l4;have m3:vs[k]?=some vr[k]:=by rw[<-f8,a03 l4];exact e5
  have f3:k<Ls.length:=by rw[bk.ll];exact(lS.1 V).1
  have c0:=lG f3;have h9:=bk.ok _ _ _ _ V m3 c0;have b7:(ns++us)[k]?=some n:=by rw[a03 (by omega)];exact g1
  refine⟨vr[k],e5,?_⟩;have c8:∀r,a0O it=some r->E n=some ⟨r,Ls[k].1,Ls[k].2⟩:=fun r hr=>by
   have h0:E0 n=some ⟨r,Ls[k].1,Ls[k].2⟩:=c8E (ns++us) T Ls k n it _ r b7 V c0 hr (fun k' g5 a1 a2 a3=>d3 _ k' n _ g5 b7 V (by rw[hr];simp) a1 a2 a3);have n2:us.contains n=false:=by
    rcases X k n it b7 V (by rw[hr];simp)with⟨-,g,-⟩|⟨g,-⟩;simpa using(h8 n g).2
    have:=(lS.1 g1).1
    omega
   simp only[E,h0,a33,n2,cF]
  obtain⟨r,xx⟩:=it;cases r with
  |v t=>
   obtain⟨hv,-⟩:=h9;cases hfz':fz with
   |true=>
    rw[hfz']at hv a8 e9;exact hv.frame (fun _ _ _=>rfl) fun c Y=>e9 c (a8 c Y rfl)
   |false=>exact hv.anySh (k9 hfz' k _ V)
  |o e=>
   obtain⟨hs,-⟩:=h9;have D:=c8 _ rfl;refine⟨_,e,.one vr[k],a5H D,?_,rfl⟩;rw[a5I D];show some (_,Ls[k].1)=_;rw[hs]
  |b t=>
   obtain⟨-,b,hs,hv⟩:=h9;have D:=c8 _ rfl;refine⟨_,t,b,0,a5H D,?_,hv⟩;rw[a5I D];show some (_,Ls[k].1)=_;rw[hs]
 have n6:(⟨fun i=>(U1.sl i).mapv (AV.deeps (us.reverse++[]) (U1.unbx (brw s.ps us))),fun n=>match a2t (ns++us) T n with
    |some r=>some (bif (us.reverse++[]).contains n then b2H (U1.rt n) r else r)
    |none=>U1.rt n,none⟩:AE)=a9V U1 (AV.deeps us (U1.unbx (brw s.ps us))) E:=by
  have e1:AV.deeps (us.reverse++[]) (U1.unbx (brw s.ps us))=AV.deeps us (U1.unbx (brw s.ps us)):=by
   funext av;cases av<;>simp[AV.deeps]
  have e2:∀n,(us.reverse++[]).contains n=us.contains n:=fun n=>by simp
  rw[e1];simp only[a9V,AE.mapv,E,E0,e2];congr 1;funext n;rw[c0F _ _ Ls n bk.ll];cases b2k (ns++us) T Ls n with
  |none=>rfl
  |some e=>
   simp only[a33];cases us.contains n with
   |false=>rfl
   |true=>
    simp only[cT,sj];cases a6:U1.rt n with
    |none=>simp[b2H,b6q]
    |some r0=>
     rcases h1.src_of a6 with⟨hb,b,hg⟩|⟨hb,u,A,hg,-⟩;obtain⟨bx,t0,x0⟩:=r0;have hb:bx=true:=hb;subst hb;rw[hg];simp only[b2H,b6q];split;rename_i D;obtain⟨⟨bx,t1,x1⟩,s1,O1⟩:=e;have D:bx=true:=D;subst D;rfl;rfl;obtain⟨bx,t0,x0⟩:=r0;have hb:bx=false:=hb;subst hb;simp[b2H,b6q]
 have hz:(match o.dst with
   |none=>K (a9V U1 (AV.deeps us (U1.unbx (brw s.ps us))) E)
   |some d=>match a4F (a1q s.rs (d+1000)) T with
    | [v]=>K ((a9V U1 (AV.deeps us (U1.unbx (brw s.ps us))) E).set d v)
    |vs=>K ((a9V U1 (AV.deeps us (U1.unbx (brw s.ps us))) E).put d (.cmp .tup vs)))=some z:=by
  rw[n5,d1,g9]at m5;rw[<-n6];exact m5
 cases hd:o.dst with
 |none=>
  rw[hd]at hz g4;simp only[]at hz;exact g4 _ w' _ _ hM hz
 |some d=>
  have l7:a1q s.rs (d+1000)=ns:=by rw[<-d1,hd];rfl
  rw[hd]at hz g4;simp only[l7]at hz;have k0:(a4F ns T).length=vr.length:=by rw[c1D _ _ (by omega),a9,f7]
  split at hz
  ·rename_i av k6;rw[k6]at k0 d2;obtain⟨u,hu,h9⟩:=d2 0 av rfl;have m2:vr=[u]:=by
    match vr,k0,hu with
    | [u'],_,hu=>simp only[List.getElem?_cons_zero,sj]at hu;rw[hu]
   refine g4 _ w' _ _ (hM.putd (sv:=.one av) (v:=b7s vr) (d:=d) hN (fun _=>?_)) hz;rw[m2];exact h9
  ·rename_i d9;refine g4 _ w' _ _ (hM.putd (sv:=.cmp .tup (a4F ns T)) (v:=b7s vr) (d:=d) hN (fun _=>?_)) hz;refine⟨vr.toArray,?_,fun k av hk=>?_⟩
   ·match vr,k0 with
    | [],_=>rfl
    | [u],k0=>
     obtain⟨av,k6⟩:=a51.1 (k0.trans rfl);exact absurd k6 (d9 av)
    |_::_::_,_=>rfl
   obtain⟨u,hu,h9⟩:=d2 k av hk;exact⟨u,by simpa using hu,h9⟩
theorem e5t(g:o.op=.call c)(h:c.callee=.value (.func f)):(execOp a.eval o).run P w=(callFunc f (c.args.map a.eval)).run P w:=by
 simp[execOp,g,resolve,h,Act.eval,Deferred.ofValue,invoke]
theorem d7p{t:Nat}(g:o.op=.call c)(h:c.callee=.value (.tmp t)){us:Array Value}(hv:a.eval (.tmp t)=.func (.func f) #[] us):(execOp a.eval o).run P w=(callFunc f (c.args.map a.eval++us)).run P w:=by
 simp[execOp,g,resolve,h,hv,Deferred.ofValue,invoke]
theorem d6w{vs:Array Value}(k:∀c,o.op≠.defer c)(g:(execOp a.eval o).run P w=.ok (.enter f vs) w)(R:Ending->World->Prop)(d:Calls P f vs w R)(b:∀e w',R e w'->∃v,e=.returned v/\next (a.put o.dst v) w'):o.wpIn (Fr ro) 0 P a w next Q:=by
 refine c6E k ?_
 rw[g,Oper.uponIn_enter];refine⟨fun h=>(by cases h),d2D (d.mono fun e w' h=>?_)⟩;obtain⟨v,rfl,i⟩:=b e w' h;exact i
theorem e0i{vs:Array Value}(g:∀c,o.op≠.defer c)(h:(execOp a.eval o).run P w=(callFunc f vs).run P w)(R:Ending->World->Prop)(i:∃v w',(callFunc f vs).run P w=.ok (.value v) w'/\R (.returned v) w')(d:∀e w',R e w'->∃v,e=.returned v/\next (a.put o.dst v) w'):o.wpIn (Fr ro) 0 P a w next Q:=by
 refine c6E g ?_
 obtain⟨v,w',k,b⟩:=i;rw[h,k,Oper.uponIn_value];obtain⟨v',e,j⟩:=d _ w' b;cases e;exact j
theorem d7q{s:FSem}{K:AE->Rs Z}{z:Z}(m:o.op=.call c)(n:c.callee=.value (.func f))(y:GOk G B)(d:FOk P G f s)(h:Rel B U N (a0o a) w M)(A:a.tmps.size=N)(F:fits N o=true)(D:U.call q o.dst s (c.args.toList.map U.opd) K=some z)(k:∀v w' U' M',Rel B U' N (a0o (a.put o.dst v)) w' M'->K U'=some z->next (a.put o.dst v) w'):o.wpIn (Fr ro) 0 P a w next Q:=by
 have j:∀x∈c.args.toList,a1m N x=true:=fun x H=>a0R F x (by simp only[m,Op.operands,Call.operands,n];simp;exact .inr (by simpa using H));have e:∀p,o.op≠.defer p:=fun p t=>by rw[m]at t;cases t
 have r:(c.args.toList.map a.eval).toArray=c.args.map a.eval:=by rw[<-Array.toList_map]
 have u:∀(i:Nat) av v,(c.args.toList.map U.opd)[i]?=some av->(c.args.toList.map a.eval)[i]?=some v->a0l (a0a w M.ov) M.g U.rt (Shr B w M) av v:=by
  intro i av v b l;rw[a36]at b l;cases hi:c.args.toList[i]? with
  |none=>rw[hi]at b;cases b
  |some o'=>
   rw[hi]at b l;simp only[a33,sj]at b l;subst b;subst l;exact h.opd (j o' (a06 hi))
 rcases d with⟨d,E⟩|d;exact b7u (C:=Calls P f) (vals:=c.args.toList.map a.eval) (d6w e (by rw[d2E E m n,r])) (by simp) u y d h A D k;exact b7u (vals:=c.args.toList.map a.eval) (e0i e (by rw[e5t m n,r])) (by simp) u y d h A D k
theorem e0j{t:Nat}{vs:List AV}{s:FSem}{K:AE->Rs Z}{z:Z}(l:o.op=.call c)(r:c.callee=.value (.tmp t))(T:U.sl t=.cmp (.clo f) vs)(F:GOk G B)(e:FOk P G f s)(h:Rel B U N (a0o a) w M)(H:a.tmps.size=N)(I:fits N o=true)(L:U.call q o.dst s (c.args.toList.map U.opd++vs) K=some z)(k:∀v w' U' M',Rel B U' N (a0o (a.put o.dst v)) w' M'->K U'=some z->next (a.put o.dst v) w'):o.wpIn (Fr ro) 0 P a w next Q:=by
 have m:∀x∈c.args.toList,a1m N x=true:=fun x X=>a0R I x (by simp only[l,Op.operands,Call.operands,r];simp;exact .inr (by simpa using X));have V:t<N:=by
  have:=a0R I (.tmp t) (by simp only[l,Op.operands,Call.operands,r];simp)
  simpa[a1m]using this
 have n:=h.slots t V;rw[T]at n;obtain⟨us,⟨D,p⟩,h3⟩:=n;have p:a.eval (.tmp t)=.func (.func f) #[] us:=p;have j:∀y,o.op≠.defer y:=fun y A=>by rw[l]at A;cases A
 have E:∀(i:Nat) av v,(c.args.toList.map U.opd++vs)[i]?=some av->(c.args.toList.map a.eval++us.toList)[i]?=some v->a0l (a0a w M.ov) M.g U.rt (Shr B w M) av v:=by
  intro i av v b d
  by_cases hi:i<c.args.toList.length
  ·rw[a03 (by simpa using hi),a36]at b d;cases hi':c.args.toList[i]? with
   |none=>rw[hi']at b;cases b
   |some o'=>
    rw[hi']at b d;simp only[a33,sj]at b d;subst b;subst d;exact h.opd (m o' (a06 hi'))
  rw[a15 (by simpa using hi),a65]at b d;obtain⟨u,O,R⟩:=h3 _ av b;rw[a09,O]at d;simp only[sj]at d;subst d;exact R
 rcases e with⟨e,S⟩|e;exact b7u (C:=Calls P f) (vals:=c.args.toList.map a.eval++us.toList) (d6w j (by rw[d4T S l r a w p];simp)) (by simp[D]) E F e h H L k;exact b7u (vals:=c.args.toList.map a.eval++us.toList) (e0i j (by rw[d7p l r p,show(c.args.toList.map a.eval++us.toList).toArray=c.args.map a.eval++us from by simp])) (by simp[D]) E F e h H L k
end
theorem c4h:∀(l:List Nat),d1V l=true->l.Nodup
 | [],_=>List.nodup_nil
 |a::l,h=>by
  simp only[d1V,bA9,a46,List.contains_eq_mem,decide_eq_false_iff_not]at h;exact a05.2 ⟨h.1,c4h l h.2⟩
section
variable {Z:Type}
inductive SlOk (nm:List Nat) (U:AE) (es:a0h) (i:Nat):SV->Prop
 |dead:SlOk nm U es i (.one .dead)
 |same (av:AV):U.get i=av->av≠.dead->(∀k q,(av=.ptr k q\/av=.sref k q\/∃o l,av=.swin k q o l)->k∈nm)->SlOk nm U es i (.one av)
 |made (n:Nat) (e:Ty):Ent.own i n e∈es->U.rt n=none->n∈nm->(U.get i=.nils\/U.get i=.empt)->SlOk nm U es i (.one (.sref n []))
 |clo (f:Nat) (ns:List Nat):U.sl i=.cmp (.clo f) (b1i ns)->(∀k∈ns,k∈nm)->SlOk nm U es i (.cmp (.clo f) (b1i ns))
theorem c9Y:∀(vs:List AV)(ns:List Nat),b4N vs ns=true->vs=b1i ns
 | [],[],_=>rfl
 |v::vs,[],h=>by simp_all[b4N]
 | [],_::_,h=>by simp[b4N]at h
 |v::vs,m::ns,h=>by
  cases v with
  |ptr n p=>
   cases p with
   |nil=>
    simp[b4N]at h;rw[h.1,c9Y vs ns h.2];rfl
   |cons=>simp[b4N]at h
  |_=>simp[b4N]at h
theorem c6F:∀(ns:List Nat)(k:Nat)(av:AV),(b1i ns)[k]?=some av->∃n∈ns,av=.ptr n []
 | [],k,av,h=>by simp[b1i]at h
 |n::ns,0,av,h=>by
  simp_all[b1i]
 |n::ns,k+1,av,h=>by
  obtain⟨m,g,e⟩:=c6F ns k av (by simpa[b1i]using h);exact⟨m,by simp[g],e⟩
theorem SlOk.cons{nm U es i v}(h:SlOk nm U es i v)(e:Ent):SlOk nm U (e::es) i v:=by
 cases h with
 |dead=>exact .dead
 |same av g1 g2 g3=>exact .same av g1 g2 g3
 |made n e' g1 g2 g3 g4=>exact .made n e' (a01 _ g1) g2 g3 g4
 |clo f ns g1 g2=>exact .clo f ns g1 g2
def b4T(r' r:Root):Prop:=r'=r\/(r'.bx=true/\r.bx=true/\r'.t.shn=r'.t/\castTo r'.t r.t r'.x=some r.x)
theorem d2F{m:Mem}:∀(q:a0C)(a b:Ty)(s:Src){t1 s1},a.le b=true->loc m a s q=some (t1,s1)->∃t2,loc m b s q=some (t2,s1)
 | [],a,b,s,t1,s1,h,g=>by
  simp[a0U]at g;obtain⟨-,rfl⟩:=g;exact⟨b,rfl⟩
 |.fst::p,a,b,s,t1,s1,h,g=>by
  obtain⟨a1,f,bl,o,rfl,rfl,g⟩:=a7A g;cases b with
  |pair b1 b2=>
   simp[Ty.le]at h;exact d2F p a1 b1 _ h.1 g
  |_=>simp[Ty.le]at h
 |.snd::p,a,b,s,t1,s1,h,g=>by
  obtain⟨a1,f,bl,o,rfl,rfl,g⟩:=a7B g;cases b with
  |pair b1 b2=>
   simp[Ty.le]at h;obtain⟨t2,k⟩:=d2F p f b2 _ h.2 g;rw[Ty.le_cells _ _ h.1]at k;exact⟨t2,k⟩
  |_=>simp[Ty.le]at h
 |.idx i::p,a,b,s,t1,s1,h,g=>by
  have d:a=b:=by
   rcases a6n g with⟨n,t,bl,o,rfl,rfl,hi,g⟩|⟨t,e,n,c,rfl,hv,hi,g⟩<;>simpa[Ty.le]using h
  simp_all
theorem b4T.loc{m:Mem}{r' r:Root}(h:b4T r' r){p:a0C}{s:Src}{t1 s1}(g:loc m r'.t s p=some (t1,s1)):∃t2,Ab.loc m r.t s p=some (t2,s1):=by
 rcases h with rfl|⟨-,-,-,h⟩
 all_goals grind[castTo,d2F]
theorem b4T.locL{r':Root}(h:b4T r' r){s:Src}{e s1}(g:Ab.loc m r'.t s p=some (.list true e,s1)):Ab.loc m r.t s p=some (.list true e,s1):=by
 rcases h with rfl|⟨-,-,h,-⟩;omega
 have:=a9T p _ _ h g
 simp[Ty.shn]at this
theorem a0l.recast{g g':Nat->Src}{rt rt':Nat->Option Root}{a:AV}(h:a0l m g rt Sh a v)(z:∀c,Sh c->Sh' c)(w:∀n p r,(a=.ptr n p\/a=.sref n p\/∃o l,a=.swin n p o l)->rt n=some r->g' n=g n/\∃f,rt' n=some f/\b4T r f):a0l m g' rt' Sh' a v:=by
 cases a with
 |ptr n p=>
  obtain⟨r,t,b,o,k,d,i⟩:=h;obtain⟨u,f,j,q⟩:=w n p r (.inl rfl) k;obtain⟨t2,x⟩:=q.loc d;exact⟨f,t2,b,o,j,by simp_all,i⟩
 |sref n p=>
  obtain⟨r,e,s,k,d,i⟩:=h;obtain⟨u,f,j,q⟩:=w n p r (.inr (.inl rfl)) k;exact⟨f,e,s,j,by rw[u];exact q.locL d,i⟩
 |swin n p o l=>
  obtain⟨r,e,s,a,l',c,k,d,i,j,q⟩:=h;obtain⟨u,f,x,y⟩:=w n p r (.inr (.inr ⟨_,_,rfl⟩)) k;exact⟨f,e,s,a,l',c,x,by rw[u];exact y.locL d,i,j,q⟩
 |_=>exact h.frame (fun _ _ _=>rfl) z (by rintro n p r t s (g|g|⟨_,_,g⟩)<;>cases g)
inductive RtOk (U:AE) (es:a0h) (n:Nat):Option Root->Prop
 |none:n∉es.names->RtOk U es n none
 |same (r r':Root):n∈es.names->U.rt n=some r'->b4T r' r->RtOk U es n (some r)
 |made (i:Nat) (e:Ty):n∈es.names->n<pinned->Ent.own i n e∈es->U.rt n=Option.none->(U.get i=.nils\/U.get i=.empt)->RtOk U es n (some ⟨false,.list true e,[]⟩)
theorem a2K(U:AE)(i j:Nat)(v:AV):(U.set i v).sl j=if j=i then .one v else U.sl j:=by
 simp_all[AE.set,AE.put]
theorem b3Q(U:AE)(n m:Nat)(r:Option Root):(U.setRt n r).rt m=if m=n then r else U.rt m:=by
 simp_all[AE.setRt]
theorem a1O(b:List Nat)(U:AE):∀(es:a0h){K:es.ty.den->Rs Z}{z:Z},(∀n∈es.names,n∈b)->es.names.Nodup->a0h.rest b U es K=some z->
  ∃x,K x=some z/\(es.enc x).pd=none/\(∀i,SlOk b U es i ((es.enc x).sl i))/\∀n,RtOk U es n ((es.enc x).rt n)
 | [],K,z,_,_,h=>⟨(),h,rfl,fun i=>.dead,fun n=>.none (by simp[a0h.names])⟩
 |.sv i t::r,K,z,hnm,hnd,h=>by
  simp only[a0h.rest]at h
  split at h
  rename_i T x V
  split at h
  rename_i R;subst R;obtain⟨y,F,B,C,v⟩:=a1O b U r hnm hnd h;refine⟨(x,y),F,B,fun j=>?_,fun n=>?_⟩;show SlOk b U _ j (((a0h.enc r y).set i (.val T x)).sl j);rw[a2K];split;rename_i e;subst e;exact .same _ V (by simp) (by rintro k q (g|g|⟨o,l,g⟩)<;>cases g);exact(C j).cons _;show RtOk U _ n ((a0h.enc r y).rt n);cases hrt:(a0h.enc r y).rt n<;>have:=v n<;>rw[hrt]at this<;>cases this;exact .none (by assumption);exact .same _ _ (by assumption) (by assumption) (by assumption);rename_i D u d a s w A;exact .made D u d a (a01 _ s) w A;cases h;cases h
 |.own i n e::r,K,z,hnm,hnd,h=>by
  simp[a0h.names]at hnd;have I:∀m∈a0h.names r,m∈b:=fun m O=>hnm m (by simp[a0h.names,O]);have L:n∈b:=hnm n (by simp[a0h.names]);have G:∀(l:List e.den)(M:(a0h.ty r).den->Rs Z),a0h.rest b U r M=some z->(∀y,M y=K (l,y))->
    SlOk b U (.own i n e::r) i (.one (.sref n []))->RtOk U (.own i n e::r) n (some ⟨false,.list true e,l⟩)->
    ∃x,K x=some z/\(a0h.enc (.own i n e::r) x).pd=none/\(∀j,SlOk b U (.own i n e::r) j ((a0h.enc (.own i n e::r) x).sl j))/\∀m,RtOk U (.own i n e::r) m ((a0h.enc (.own i n e::r) x).rt m):=by
   intro l M h hK hs H;obtain⟨y,F,B,C,v⟩:=a1O b U r I hnd.2 h;refine⟨(l,y),by simp_all,B,fun j=>?_,fun m=>?_⟩;show SlOk b U _ j ((((a0h.enc r y).setRt n (some ⟨false,.list true e,l⟩)).set i (.sref n [])).sl j);rw[a2K];split;simp_all;exact(C j).cons _
   ·show RtOk U _ m (((a0h.enc r y).setRt n (some ⟨false,.list true e,l⟩)).rt m);rw[b3Q];split;simp_all
    ·rename_i P;cases hrt:(a0h.enc r y).rt m with
     |none=>
      have:=v m
      rw[hrt]at this;cases this with
      |none g=>exact .none (by simp_all[a0h.names])
     |some rr=>
      have:=v m
      rw[hrt]at this;cases this with
      |same _ N d s g5=>exact .same rr N (by simp[a0h.names,d]) s g5
      |made D u d a s w A=>exact .made D u (by simp[a0h.names,d]) a (a01 _ s) w A
  simp[a0h.rest]at h
  split at h
  rename_i m O;rcases a0f h with⟨P,h⟩|⟨-,g⟩;obtain rfl:m=n:=by simp_all
  split at h
  rename_i u l H
  split at h
  rename_i he;subst he;exact G l _ h (fun _=>rfl) (.same _ O (by simp) (by simp_all)) (.same _ _ (by simp[a0h.names]) H (.inl rfl));simp_all;simp_all;simp_all;rename_i hi
  split at h
  rename_i H;obtain⟨hp,h⟩:=(a0f h).elim id fun h=>by grind
  exact G [] _ h (fun _=>rfl) (.made n e (by simp) H L (.inl hi)) (.made i e (by simp[a0h.names]) (by simp_all) (by simp) H (.inl hi));simp_all;rename_i hi
  split at h
  rename_i H;obtain⟨hp,h⟩:=(a0f h).elim id fun h=>by grind
  exact G [] _ h (fun _=>rfl) (.made n e (by simp) H L (.inr hi)) (.made i e (by simp[a0h.names]) (by simp_all) (by simp) H (.inr hi));simp_all;simp_all
 |.box n t::r,K,z,hnm,hnd,h=>by
  simp[a0h.names]at hnd;have I:∀m∈a0h.names r,m∈b:=fun m O=>hnm m (by simp[a0h.names,O]);simp[a0h.rest]at h;have G:∀(S:t.den)(M:(a0h.ty r).den->Rs Z),a0h.rest b U r M=some z->(∀y,M y=K (S,y))->(∃N,U.rt n=some N/\b4T N ⟨true,t,S⟩)->
    ∃x,K x=some z/\(a0h.enc (.box n t::r) x).pd=none/\(∀j,SlOk b U (.box n t::r) j ((a0h.enc (.box n t::r) x).sl j))/\∀m,RtOk U (.box n t::r) m ((a0h.enc (.box n t::r) x).rt m):=by
   intro S M h hK ⟨N,H,E⟩;obtain⟨y,F,B,C,v⟩:=a1O b U r I hnd.2 h;refine⟨(S,y),by simp_all,B,fun j=>(C j).cons _,fun m=>?_⟩;show RtOk U _ m (((a0h.enc r y).setRt n (some ⟨true,t,S⟩)).rt m);rw[b3Q];split;rename_i e;subst e;exact .same _ _ (by simp[a0h.names]) H E
   ·rename_i P;cases hrt:(a0h.enc r y).rt m with
    |none=>
     have:=v m
     rw[hrt]at this;cases this with
     |none g=>exact .none (by simp_all[a0h.names])
    |some rr=>
     have:=v m
     rw[hrt]at this;cases this with
     |same _ N d s g5=>exact .same rr N (by simp[a0h.names,d]) s g5
     |made D u d a s w A=>exact .made D u (by simp[a0h.names,d]) a (a01 _ s) w A
  split at h
  rename_i T x H
  split at h
  rename_i R;subst R;exact G x _ h (fun _=>rfl) ⟨_,H,.inl rfl⟩
  split at h
  rename_i Q
  split at h
  rename_i z' X;exact G z' _ h (fun _=>rfl) ⟨_,H,.inr ⟨rfl,rfl,Q,X⟩⟩;simp_all;simp_all;simp_all
 |.ptr i n p::r,K,z,hnm,hnd,h=>by
  simp only[a0h.rest]at h
  split at h
  rename_i m q hi;obtain⟨E,h⟩:=(a0f h).elim id fun h=>by grind
  simp at E;obtain⟨L,rfl,hp⟩:=E;obtain rfl:=a5C _ _ hp;obtain⟨y,F,B,C,v⟩:=a1O b U r hnm hnd h;refine⟨y,F,B,fun j=>?_,fun c=>?_⟩;show SlOk b U _ j (((a0h.enc r y).set i (.ptr m q)).sl j);rw[a2K];split;rename_i e;subst e;exact .same _ hi (by simp) (by simp_all);exact(C j).cons _;show RtOk U _ c ((a0h.enc r y).rt c);cases hrt:(a0h.enc r y).rt c<;>have:=v c<;>rw[hrt]at this<;>cases this;exact .none (by assumption);exact .same _ _ (by assumption) (by omega) (by omega);rename_i D u d a s w A;exact .made D u d a (a01 _ s) w A;simp_all
 |.vp i t::r,K,z,hnm,hnd,h=>by
  simp only[a0h.rest]at h
  split at h
  rename_i T x V
  split at h
  rename_i R;subst R;obtain⟨y,F,B,C,v⟩:=a1O b U r hnm hnd h;refine⟨(x,y),F,B,fun j=>?_,fun n=>?_⟩;show SlOk b U _ j (((a0h.enc r y).set i (.vptr T x)).sl j);rw[a2K];split;rename_i e;subst e;exact .same _ V (by simp) (by rintro k q (g|g|⟨o,l,g⟩)<;>cases g);exact(C j).cons _;show RtOk U _ n ((a0h.enc r y).rt n);cases hrt:(a0h.enc r y).rt n<;>have:=v n<;>rw[hrt]at this<;>cases this;exact .none (by assumption);exact .same _ _ (by assumption) (by assumption) (by assumption);rename_i D u d a s w A;exact .made D u d a (a01 _ s) w A;cases h;cases h
 |.ref i n p::r,K,z,hnm,hnd,h=>by
  simp only[a0h.rest]at h
  split at h
  rename_i m q hi;obtain⟨E,h⟩:=(a0f h).elim id fun h=>by grind
  simp at E;obtain⟨L,rfl,hp⟩:=E;obtain rfl:=a5C _ _ hp;obtain⟨y,F,B,C,v⟩:=a1O b U r hnm hnd h;refine⟨y,F,B,fun j=>?_,fun c=>?_⟩;show SlOk b U _ j (((a0h.enc r y).set i (.sref m q)).sl j);rw[a2K];split;rename_i e;subst e;exact .same _ hi (by simp) (by simp_all);exact(C j).cons _;show RtOk U _ c ((a0h.enc r y).rt c);cases hrt:(a0h.enc r y).rt c<;>have:=v c<;>rw[hrt]at this<;>cases this;exact .none (by assumption);exact .same _ _ (by assumption) (by omega) (by omega);rename_i D u d a s w A;exact .made D u d a (a01 _ s) w A;simp_all
 |.rfi i n::r,K,z,hnm,hnd,h=>by
  simp only[a0h.rest]at h
  split at h
  rename_i m k hi;obtain⟨E,h⟩:=(a0f h).elim id fun h=>by grind
  simp at E;obtain⟨L,rfl⟩:=E;obtain⟨y,F,B,C,v⟩:=a1O b U r hnm hnd h;refine⟨((k:Int),y),F,B,fun j=>?_,fun c=>?_⟩;show SlOk b U _ j (((a0h.enc r y).set i (.sref m [.idx (k:Int).toNat])).sl j);rw[a2K];split;rename_i e;subst e;exact .same _ (by simp_all) (by simp) (by simp_all);exact(C j).cons _;show RtOk U _ c ((a0h.enc r y).rt c);cases hrt:(a0h.enc r y).rt c<;>have:=v c<;>rw[hrt]at this<;>cases this;exact .none (by assumption);exact .same _ _ (by assumption) (by omega) (by omega);rename_i D u d a s w A;exact .made D u d a (a01 _ s) w A;simp_all
 |.win i n p::r,K,z,hnm,hnd,h=>by
  simp only[a0h.rest]at h
  split at h
  rename_i m q o k hi;obtain⟨E,h⟩:=(a0f h).elim id fun h=>by grind
  simp at E;obtain⟨L,rfl,hp⟩:=E;obtain rfl:=a5C _ _ hp;obtain⟨y,F,B,C,v⟩:=a1O b U r hnm hnd h;refine⟨((o:Int),(k:Int),y),F,B,fun j=>?_,fun c=>?_⟩;show SlOk b U _ j (((a0h.enc r y).set i (.swin m q (o:Int).toNat (k:Int).toNat)).sl j);rw[a2K];split;rename_i e;subst e;exact .same _ (by simp_all) (by simp) (by simp_all);exact(C j).cons _;show RtOk U _ c ((a0h.enc r y).rt c);cases hrt:(a0h.enc r y).rt c<;>have:=v c<;>rw[hrt]at this<;>cases this;exact .none (by assumption);exact .same _ _ (by assumption) (by omega) (by omega);rename_i D u d a s w A;exact .made D u d a (a01 _ s) w A;simp_all
 |.clo i f ns::r,K,z,hnm,hnd,h=>by
  simp[a0h.rest]at h
  split at h
  rename_i f' vs hi;obtain⟨E,Y⟩:=(a0f h).elim id fun h=>by grind
  simp at E;obtain⟨rfl,L,hp⟩:=E;obtain rfl:=c9Y _ _ hp;obtain⟨y,F,B,C,v⟩:=a1O b U r hnm hnd Y;refine⟨y,F,B,fun j=>?_,fun c=>?_⟩;show SlOk b U _ j (bif j==i then(SV.cmp (.clo f') (b1i ns))else(a0h.enc r y).sl j)
  by_cases e:j=i
  subst e
  simp
  exact .clo f' ns hi L;have u:(j==i)=false:=by simp_all
  simp[u];exact(C j).cons _;show RtOk U _ c ((a0h.enc r y).rt c);cases hrt:(a0h.enc r y).rt c<;>have:=v c<;>rw[hrt]at this<;>cases this;exact .none (by assumption);exact .same _ _ (by assumption) (by omega) (by omega);rename_i D u d a s w A;exact .made D u d a (a01 _ s) w A;simp_all
end
def Ent.fits(N:Nat):Ent->Bool
 |.sv i _|.own i _ _|.ptr i _ _|.ref i _ _|.rfi i _|.win i _ _|.vp i _|.clo i _ _=>decide (i<N)
 |.box _ _=>true
def a0h.fits(N:Nat)(es:a0h):Bool:=es.all (Ent.fits N)
section
variable {Z:Type} {B:Base} {N:Nat} {tm:Nat->Value} {w:World}
theorem a3P(h:Rel B U N tm w M)(hi:i<N):a0l (a0a w M.ov) M.g U.rt (Shr B w M) (U.get i) (tm i):=by
 have:=h.slots i hi
 simp[AE.get]
 revert this
 cases U.sl i with
 |one v=>exact fun h=>h
 |cmp c vs=>exact fun _=>trivial
theorem Rel.vals{nm:List Nat}:∀(u:a0h) {U:AE} {M:Gh}(_:Rel B U N tm w M)(_:U.pd=none){K:u.ty.den->Rs Z}{z:Z}(_:u.fits N=true)(_:∀n∈u.names,n∈nm)(_:u.names.Nodup)(_:a0h.vals nm u U K=some z),
  ∃x C G,K x=some z/\Rel B C N tm w G/\C.pd=none/\(∀(j:Nat) t y,U.get j=.val t y->C.get j=.val t y)/\(u.enc x).pd=none/\(∀i,SlOk nm C u i ((u.enc x).sl i))/\∀n,RtOk C u n ((u.enc x).rt n):=by
 intro u
 induction u with
 |nil=>
  intro U M h b K z L a k o;obtain⟨x,c,d,l,m⟩:=a1O nm U [] a k o
  grind
 |cons e r ih=>
  intro U M h b K z L a k o;cases e with
  |sv i t=>
   simp only[a0h.fits,List.all_cons,bA9,Ent.fits,dT]at L;simp[a0h.vals]at o;obtain⟨D,o⟩:=(a0f o).resolve_right (fun g=>by grind);have P:∃x s A,a0h.vals nm r (s.set i (.val t x)) (fun y=>K (x,y))=some z/\Rel B s N tm w A/\s.pd=none/\VOk (a0a w A.ov) (Shr B w A) t x (tm i)/\
     ∀(j:Nat) q y,U.get j=.val q y->(s.set i (.val t x)).get j=.val q y:=by
    have I:=a3P h L.1;have other:(∀q y,U.get i≠.val q y)->∃x s A,a0h.vals nm r (s.set i (.val t x)) (fun y=>K (x,y))=some z/\Rel B s N tm w A/\s.pd=none/\VOk (a0a w A.ov) (Shr B w A) t x (tm i)/\
     ∀(j:Nat) q y,U.get j=.val q y->(s.set i (.val t x)).get j=.val q y:=fun O=>by
     obtain⟨x,s,A,c,d,l,m,-,X⟩:=h.asVB (.inl I) o;refine⟨x,s,A,c,d,m.pd.trans b,l,fun j q y E=>?_⟩;have Y:j≠i:=fun e=>O q y (e▸E)
     have:=X.2 j q y E
     simp_all[AE.get,a2K]
    cases hg:U.get i with
    |val q x=>
     rw[hg]at o I;simp[AE.asV]at o
     split at o
     rename_i x2 F;rw[hg]at D;simp[AV.exact]at D;subst D;rw[c4b]at F;cases F;refine⟨x,U,M,o,h,b,I,fun j t2 y E=>?_⟩
     by_cases e:j=i
     subst e;rw[hg]at E;simp[AE.get];rw[a2K,if_pos rfl];omega;simp_all[AE.get,a2K];simp_all
    |_=>exact other (by rw[hg];intro q y e;cases e)
   obtain⟨x,s,A,k1,k2,k3,k4,k5⟩:=P;have k6:Rel B (s.set i (.val t x)) N tm w A:=k2.put (v:=tm i) (fun _=>k4) (fun j _=>by simp_all);obtain⟨y,C,G,j1,j2,j3,j4,j5,j6,j7⟩:=ih k6 k3 (by simp_all[a0h.fits]) a k k1;have hx:C.get i=.val t x:=j4 i t x (by simp[AE.get];rw[a2K,if_pos rfl]);refine⟨(x,y),C,G,j1,j2,j3,fun j q y' E=>j4 j q y' (k5 j q y' E),j5,fun j=>?_,fun n=>?_⟩;show SlOk nm C _ j (((a0h.enc r y).set i (.val t x)).sl j);rw[a2K];split;rename_i e;subst e;exact .same _ hx (by simp) (by simp);exact(j6 j).cons _;show RtOk C _ n ((a0h.enc r y).rt n);cases hrt:(a0h.enc r y).rt n<;>have:=j7 n<;>rw[hrt]at this<;>cases this;exact .none (by assumption);exact .same _ _ (by assumption) (by omega) (by omega);rename_i i' Q R H S T V;exact .made i' Q R H (a01 _ S) T V
  |own i n e=>exact(fun⟨x,c,d,l,m⟩=>⟨x,U,M,c,h,b,fun _ _ _ g=>g,d,l,m⟩) (a1O nm U _ a k o)
  |box n t=>exact(fun⟨x,c,d,l,m⟩=>⟨x,U,M,c,h,b,fun _ _ _ g=>g,d,l,m⟩) (a1O nm U _ a k o)
  |ptr i n p=>exact(fun⟨x,c,d,l,m⟩=>⟨x,U,M,c,h,b,fun _ _ _ g=>g,d,l,m⟩) (a1O nm U _ a k o)
  |vp i n=>exact(fun⟨x,c,d,l,m⟩=>⟨x,U,M,c,h,b,fun _ _ _ g=>g,d,l,m⟩) (a1O nm U _ a k o)
  |ref i n p=>exact(fun⟨x,c,d,l,m⟩=>⟨x,U,M,c,h,b,fun _ _ _ g=>g,d,l,m⟩) (a1O nm U _ a k o)
  |rfi i n=>exact(fun⟨x,c,d,l,m⟩=>⟨x,U,M,c,h,b,fun _ _ _ g=>g,d,l,m⟩) (a1O nm U _ a k o)
  |clo i f ns=>exact(fun⟨x,c,d,l,m⟩=>⟨x,U,M,c,h,b,fun _ _ _ g=>g,d,l,m⟩) (a1O nm U _ a k o)
  |win i n p=>exact(fun⟨x,c,d,l,m⟩=>⟨x,U,M,c,h,b,fun _ _ _ g=>g,d,l,m⟩) (a1O nm U _ a k o)
theorem c9Z:∀(r:a0h){i n e},Ent.own i n e∈r->n∈r.names
 |a::r,i,n,e,h=>by
  rcases mC.1 h with h|h;subst h;simp[a0h.names]
  have:=c9Z r h
  cases a<;>simp[a0h.names,this]
def b6c:a0h->Nat->Nat
 | [],_=>0
 |.own i m _::r,n=>if m=n then i else b6c r n
 |_::r,n=>b6c r n
theorem a3Q:∀(es:a0h){i n e},es.names.Nodup->Ent.own i n e∈es->b6c es n=i
 |.own j m e'::r,i,n,e,hnd,h=>by
  simp only[a0h.names,a05]at hnd;simp only[b6c];rcases mC.1 h with h|h;cases h;simp
  have:=c9Z r h
  rw[if_neg (fun g=>hnd.1 (by rw[g];exact this))];exact a3Q r hnd.2 h
 |.sv j t::r,i,n,e,hnd,h=>by
  rcases mC.1 h with h|h;cases h;exact a3Q r hnd h
 |.box m t::r,i,n,e,hnd,h=>by
  simp only[a0h.names,a05]at hnd;rcases mC.1 h with h|h;cases h;exact a3Q r hnd.2 h
 |.ptr j m p::r,i,n,e,hnd,h=>by
  rcases mC.1 h with h|h;cases h;exact a3Q r hnd h
 |.vp j m::r,i,n,e,hnd,h=>by
  rcases mC.1 h with h|h;cases h;exact a3Q r hnd h
 |.ref j m p::r,i,n,e,hnd,h=>by
  rcases mC.1 h with h|h;cases h;exact a3Q r hnd h
 |.rfi j m::r,i,n,e,hnd,h=>by
  rcases mC.1 h with h|h;cases h;exact a3Q r hnd h
 |.clo j m p::r,i,n,e,hnd,h=>by
  rcases mC.1 h with h|h;cases h;exact a3Q r hnd h
 |.win j m p::r,i,n,e,hnd,h=>by
  rcases mC.1 h with h|h;cases h;exact a3Q r hnd h
theorem Rel.cut(h:Rel B U N tm w M)(S:U.pd=none){es:a0h}(hf:es.fits N=true)(D:es.names.Nodup){X:AE}(hX:X.pd=none)(hs:∀i,SlOk es.names U es i (X.sl i))(E:∀n,RtOk U es n (X.rt n)):
  ∃M',Rel B X N tm w M':=by
 have h0:=h.ov_none S
 let M':Gh:=⟨fun n=>match U.rt n with|some _=>M.g n|none=>.one (tm (b6c es n)),fun n=>match X.rt n with|some _=>M.ow n|none=>[],none⟩
 have K:∀n r,U.rt n=some r->M'.g n=M.g n:=fun n r e=>by grind
 have C:∀n,U.rt n=none->M'.g n=.one (tm (b6c es n)):=fun n e=>by grind
 have Z:∀n r,X.rt n=some r->M'.ow n=M.ow n:=fun n r e=>by grind
 have Q:∀n,X.rt n=none->M'.ow n=[]:=fun n e=>by grind
 have G:∀n p,p∈M'.ow n->p∈M.ow n:=fun n p hp=>by
  grind
 have a:∀n c,c∈(M'.ow n).map (·.1)->c∈(M.ow n).map (·.1):=fun n c l=>by
  grind
 have q:∀c,Shr B w M c->Shr B w M' c:=fun c l=>⟨l.1,l.2.1,fun⟨n,d⟩=>l.2.2 ⟨n,a n c d⟩⟩;have o:a0a w M'.ov=a0a w M.ov:=by grind
 have P:∀n,n∈es.names->∃r,X.rt n=some r:=fun n d=>by
  cases hrt:X.rt n<;>have:=E n<;>rw[hrt]at this<;>cases this
  all_goals simp_all
 have v:∀n r,n∈es.names->U.rt n=some r->∃r2,X.rt n=some r2/\b4T r r2:=fun n r d K=>by
  cases hrt:X.rt n<;>have:=E n<;>rw[hrt]at this<;>cases this
  all_goals simp_all
 have y:∀i e n,Ent.own i n e∈es->i<N:=fun i e n Y=>by
  have:=lA.1 hf _ Y
  simp_all[Ent.fits]
 refine⟨M',fun n r d=>?_,fun n d=>Q n d,fun n=>?_,fun n m s c l O=>h.disj n m s c (a n c l) (a m c O),fun n p hp=>h.live n p (G n p hp),fun i hi=>?_,?_,h.size,h.frame,fun c ⟨n,d⟩=>h.mine c ⟨n,a n c d⟩,fun i b hb s=>?_,h.still⟩
 ·have:=E n
  rw[d]at this;rw[o,Z n r d];cases this with
  |same _ r5 g1 g2 g5=>
   rw[K n r5 g2];rcases g5 with rfl|⟨e1,e2,e3,T⟩;exact(h.roots n _ g2).mono q;obtain⟨O',R,z,H,L⟩:=(h.roots n r5 g2).rd;have hO:=b2g e3 z;subst hO;refine⟨[],R,b9L T z,fun c l=>q c (H c l),?_⟩;rcases L with⟨-,b,I,k5⟩|⟨I,-⟩;exact .inl ⟨e2,b,I,by rw[k5,(c9Q T).2]⟩;simp_all
  |made i e g1 g1' g2 g3 g4=>
   rw[C n g3,a3Q es D g2,h.norm n g3];have hi:=y i e n g2;have j:=a3P h hi;refine⟨[],[],?_,by simp,.inr ⟨rfl,⟨_,rfl⟩,⟨e,rfl⟩,rfl⟩⟩;show a0Y _ true e.cells (dec _ e) (some (tm i))=some (([]:List e.den),[],[]);rcases g4 with g4|g4;rw[g4]at j;have j:tm i=.slice none 0 0:=j;rw[j];rfl
   ·rw[g4]at j;obtain⟨A,j⟩:=j;rw[j];cases A with
    |none=>rfl
    |some A=>rfl
 ·cases e:X.rt n with
  |none=>simp_all
  |some r=>rw[Z n r e];exact h.nodup n
 ·have x:=hs i
  revert x
  generalize X.sl i=sv;intro x;have j:=a3P h hi;cases x with
  |dead=>trivial
  |clo f ns g1 g2=>
   have hb:=h.slots i hi;rw[g1]at hb;obtain⟨us,z,H⟩:=hb;refine⟨us,z,fun k av V=>?_⟩;obtain⟨u,L,I⟩:=H k av V;obtain⟨m,Y,rfl⟩:=c6F ns k av V;refine⟨u,L,?_⟩;rw[o];refine I.recast q fun n p r l t=>?_
   simp_all
  |same av g1 g2 g3=>
   rw[g1]at j;show a0l _ _ _ _ av _;rw[o];exact j.recast q fun n p r l t=>⟨K n r t,v n r (g3 n p l) t⟩
  |made n e g1 g2 g3 g4=>
   obtain⟨r,F⟩:=P n g3
   have:=E n
   rw[F]at this;cases this with
   |same _ _ z H=>simp_all
   |made i' e' z k1' H L I=>
    refine⟨_,e',.one (tm i),F,?_,rfl⟩;rw[C n g2,a3Q es D g1];rfl
 show b1j _ _ _ X.pd none;rw[hX];trivial
 ·obtain⟨r,d⟩:=Option.ne_none_iff_exists'.1 s
  have:=E (pinned+i)
  rw[d]at this;cases this with
  |same _ _ g1 g2=>rw[K _ _ g2];exact h.pins i b hb (by simp_all)
  |made i' e g1 g1'=>omega
theorem Rel.dcd(h:Rel B U N tm w M){es:a0h}(b:es.fits N=true){K:es.ty.den->Rs Z}{z:Z}(k:es.dcd U K=some z):∃x M',K x=some z/\Rel B (es.enc x) N tm w M':=by
 unfold a0h.dcd at k
 split at k
 rename_i a;obtain⟨f,k⟩:=(a0f k).elim id fun h=>by grind
 have f:=c4h _ f;obtain⟨x,m,l,n,c,d,-,e,i,j⟩:=Rel.vals es h a b (fun _ g=>g) f k;obtain⟨M',o⟩:=c.cut d b f e i j
 grind
 simp_all
end
structure CxOk (P:Program) (cx:Cx):Prop extends CxTy P cx where
 C:∀f s,cx.C f=some s->FOk P cx.G f s
section
variable {P:Program} {B:Base} {N:Nat} {Z:Type} {U:AE} {a:Act} {w:World} {M:Gh} {cx:Cx} {ro:Option Nat}
theorem a0w.wp{K:AE->Rs Z}{z:Z}(k:∀c,o.op≠.defer c)(h:a0w P B N o a w K z)(b:∀v w' f M',Rel B f N (a0o (a.put o.dst v)) w' M'->K f=some z->next (a.put o.dst v) w'):o.wpIn (Fr ro) 0 P a w next Q:=by
 obtain⟨v,w',f,M',g,d,e⟩:=h;refine c6E k ?_
 rcases g with h|⟨h,rfl⟩
 all_goals grind[Oper.uponIn_value,Oper.uponIn_skip]
theorem a5n(b:CxOk P cx)(j:GOk cx.G B){o:Oper}{q:Bool}{K:AE->Rs Z}{z:Z}{next:Act->World->Prop}{Q:Exit->Act->World->Prop}
  (h:Rel B U N (a0o a) w M)(l:a.tmps.size=N)(m:fits N o=true)(p:aop cx q o U K=some z)
  (k:∀v w' U' M',Rel B U' N (a0o (a.put o.dst v)) w' M'->K U'=some z->next (a.put o.dst v) w'):o.wpIn (Fr ro) 0 P a w next Q:=by
 by_cases d:∃c v,o.op=.call c/\c.callee=.value v
 ·obtain⟨c,v,i,d⟩:=d;have g:(match v with|.func f=>(match cx.C f with|some s=>U.call q o.dst s (c.args.toList.map U.opd) K|none=>none)|.tmp t=>(if q then none else match U.sl t with|.cmp (.clo f) r=>(match cx.C f with|some s=>U.call q o.dst s (c.args.toList.map U.opd++r) K|none=>none)|_=>none)|_=>none)=some z:=by
   cases hd:o.dst<;>simp only[aop,i,hd,d]at p<;>rw[<-p]<;>cases v<;>rfl
  cases v with
  |func f=>
   simp at g
   split at g
   rename_i s n;exact d7q i d j (b.C f s n) h l m g k;simp_all
  |tmp t=>
   simp only[]at g
   split at g
   grind
   split at g
   rename_i f r n
   split at g
   rename_i s u;exact e0j i d n j (b.C f s u) h l m g k;simp_all;simp_all
  |_=>simp_all
 refine(e0f b.toCxTy j (fun c v i e=>d ⟨c,v,i,e⟩) h l m p).wp (fun x e=>?_) k;simp_all[aop]
theorem c6G{U:AE}{x:Operand}(h:c6o U x=some n):∃t,x=.tmp t/\U.sl t=.one (.ptr n [])/\pinned<=n:=by
 unfold c6o at h
 grind
theorem b9O{U:AE}(h:b4l o U=some n):∃t,(o.op=.move (.tmp t)\/o.op=.nilCheck (.tmp t))/\U.sl t=.one (.ptr n [])/\pinned<=n:=by
 unfold b4l at h
 split at h
 rename_i x k;obtain⟨t,rfl,g,f⟩:=c6G h;simp_all;rename_i x k;obtain⟨t,rfl,g,f⟩:=c6G h;simp_all;simp_all
theorem d0a{Z:Type}{cx:Cx}{o:Oper}{U:AE}{n d:Nat}(h:b4l o U=some n)(f:o.dst=some d){q:Bool}(K:AE->Rs Z):aop cx q o U K=K (U.put d (.one (.ptr n []))):=by
 obtain⟨t,g|g,k,-⟩:=b9O h;simp_all[aop];simp[aop,g,f,AE.opd,AE.get,k];rfl
theorem c3q{m:Mem}:∀(p:a0C)(t:Ty)(s:Src){t' τ s'},loc m t s p=some (t',s')->tyF t p=some τ->t'=τ
 | [],t,s,t',τ,s',h,h2=>by
  simp_all[a0U,tyF]
 |.fst::p,t,s,t',τ,s',h,h2=>by
  obtain⟨a,b,bl,o,rfl,rfl,h⟩:=a7A h;exact c3q p a _ h h2
 |.snd::p,t,s,t',τ,s',h,h2=>by
  obtain⟨a,b,bl,o,rfl,rfl,h⟩:=a7B h;exact c3q p b _ h h2
 |.idx i::p,t,s,t',τ,s',h,h2=>by cases t<;>cases h2
theorem b8Q:∀(p:a0C)(t:Ty)(x:t.den){τ},tyF t p=some τ->(a0T t x p).1=τ
 | [],t,x,τ,h=>by simp[tyF]at h;subst h;rfl
 |.fst::p,.pair a b,x,τ,h=>b8Q p a x.1 h
 |.snd::p,.pair a b,x,τ,h=>b8Q p b x.2 h
 |.idx i::p,t,x,τ,h=>by cases t<;>cases h
 |.fst::p,.unit,_,_,h|.fst::p,.int _,_,_,h|.fst::p,.bool,_,_,h|.fst::p,.str,_,_,h|.fst::p,.list _ _,_,_,h|.fst::p,.arr _ _,_,_,h|.fst::p,.nl _,_,_,h=>by cases h
 |.snd::p,.unit,_,_,h|.snd::p,.int _,_,_,h|.snd::p,.bool,_,_,h|.snd::p,.str,_,_,h|.snd::p,.list _ _,_,_,h|.snd::p,.arr _ _,_,_,h|.snd::p,.nl _,_,_,h=>by cases h
theorem Rel.cell_of{tm}(h:Rel B U N tm w M){n r p b o e}(d:U.rt n=some r)(i:loc (a0a w M.ov) r.t (M.g n) p=some (.list true e,.at b o))(hp:p.all Step.isField=true)(v:U.pdElem=true):
  w.cell? ⟨b,o,none⟩=a0a w M.ov b o:=by
 cases hov:M.ov with
 |none=>rfl
 |some ov=>
  obtain⟨m,C,u⟩:=ov;have f:=h.pend;rw[hov]at f;cases hpd':U.pd with
  |none=>rw[hpd']at f;exact f.elim
  |some x=>
   obtain⟨n2,k,E⟩:=x;rw[hpd']at f;obtain⟨r2,F,q1,a⟩:=f;rw[<-hov]at a;have s:k.all Step.isField=false:=by simp_all[AE.pdElem]
   have hq:∀rest,p≠k++rest:=fun rest e=>by simp_all
   have q:¬ (b=m/\o=C):=by
    rintro⟨rfl,rfl⟩
    by_cases hn:n=n2
    ·subst hn;rw[d]at q1;cases q1;obtain⟨D,R,l,G,A,H,I,K⟩:=h.sep d;obtain⟨y,O2,R2,_,_,_,_,z,-,-,-⟩:=a1w k r.t _ l a
     have:=(b3N (m':=fun c j=>if c=b/\j=o then none else a0a w M.ov c j) k p r.t (M.g n) l a z A (fun c j=>by
      by_cases hc:c=b/\j=o
      all_goals simp_all[Ty.cells]) (fun rest e=>absurd e (hq rest)) i).2 _ _ rfl hq
     simp_all[a0a,Src.rd]
    exact h.disj n n2 hn b (h.place d i) (h.place q1 a)
   simp_all[a0a]
theorem a3R{x:Operand}{n p τ}(h:U.ptrTy x=some (n,p,τ)):∃t r,x=.tmp t/\U.sl t=.one (.ptr n p)/\U.rt n=some r/\tyF r.t p=some τ:=by
 unfold AE.ptrTy at h
 split at h
 rename_i t
 split at h
 rename_i b p' a
 split at h
 rename_i r k;obtain⟨τ',g,f⟩:=a28.1 h;simp_all;simp_all;simp_all;simp_all
theorem e5u(c:CxOk P cx)(Y:GOk cx.G B){v:AV}{K:AE->Rs Z}{z:Z}(k:U.stay cx o=some v)(hd:o.dst=some d)(hv:v.still=true)(O:U.pdElem=true)(h:Rel B U N (a0o a) w M)(H:a.tmps.size=N)(I:fits N o=true)(hz:K (U.put d (.one v))=some z)(g:∀v w' U' M',Rel B U' N (a0o (a.put o.dst v)) w' M'->K U'=some z->next (a.put o.dst v) w'):o.wpIn (Fr ro) 0 P a w next Q:=by
 unfold AE.stay at k
 split at k
 rename_i t l
 split at k
 rename_i u V;obtain⟨-,k⟩:=(a0f k).elim id fun h=>by grind
 cases k;refine a5n (q:=true) c Y h H I (z:=z) (K:=K) ?_ g;simp_all[aop];simp_all;rename_i s x f l
 split at k
 rename_i n p τ hp;obtain⟨t,r,rfl,E,i,F⟩:=a3R hp
 split at k
 rename_i hc;cases k;refine a5n (q:=true) c Y h H I (z:=z) (K:=K) ?_ g;have hg:(a1j p r.t r.x).1=τ:=b8Q p r.t r.x F;simp only[aop,l,hd,AE.opd,AE.get,E,i];show(if a1Z (a1j p r.t r.x).1 f=true/\cx.T s=some (a1j p r.t r.x).1.sh then _ else _)=_
 rw[hg,if_pos hc];exact hz;simp_all;simp_all;rename_i s x l
 split at k
 rename_i n p e hp;obtain⟨t,r,rfl,E,i,F⟩:=a3R hp
 split at k
 rename_i τ hT;obtain⟨L,k⟩:=(a0f k).elim id fun h=>by grind
 cases k;obtain⟨h4,hty⟩:=c.T s _ hT;have m:∀y∈(o.op.operands.toList),a1m N y=true:=a0R I;rw[l]at m;have ht:t<N:=by simp_all[a1m,Op.operands]
 have A:=h.slots t ht;rw[E]at A;obtain⟨r',t1,b,off,X,C,D⟩:=A;rw[i]at X;cases X;have S:=c3q p r.t _ C F;subst S;obtain⟨O',R,k1,-,-,-,-,-⟩:=h.sep i;obtain⟨y,O2,R2,_,_,_,_,hy,-,-,-⟩:=a1w p r.t _ k1 C;obtain⟨u,V,-⟩:=a6x _ hy 0 (by simp[Ty.cells]);have hw:w.cell? ⟨b,off,none⟩=some u:=by rw[h.cell_of i C hv O];exact V
 have j:τ.isAgg=false:=by cases τ<;>first|rfl|cases L
 refine a0w.wp (fun c' h0=>by simp_all) (a0w.set hd H (v:=u) (av:=.sref n p) ?_ h ⟨r,e,.at b off,i,C,V⟩ hz) g;have D:a.eval (.tmp t)=.pointer (some ⟨b,off,none⟩):=D;simp[execOp,l,D,Instr.loadAt,Instr.sureAddr,loadVar,a6w hty,j,hw];simp_all;simp_all;simp_all
theorem d2G{y:(t:Ty)×t.den}(h:d6p y=true):∃e l,y=⟨.list true e,l⟩:=by
 obtain⟨t,x⟩:=y;cases t with
 |list o e=>
  cases o with
  |true=>simp
  |false=>cases h
 |_=>cases h
theorem e0k{Z:Type}{cx:Cx}{o:Oper}{U:AE}(h:U.pends cx o=true)(m:o.dst=none)(K:AE->Rs Z):aop cx false o U K=K { U with pd:=none }:=by
 unfold AE.pends at h
 split at h
 ·rename_i t a x s
  split at h
  ·rename_i n p d n1 u n2 v g f k;simp at h;obtain⟨⟨rfl,rfl,b,j⟩,h5,h6⟩:=h;have c:=a5C _ _ b;have i:=a5C _ _ j;subst c;subst i;cases hr:U.rt n2 with
   |none=>simp_all
   |some r=>
    rw[hr]at h5;obtain⟨e,l,q⟩:=d2G h5;cases hT:cx.T t with
    |none=>simp_all
    |some τ=>
     rw[hT]at h6;simp only at h6;simp[aop,s,m,AE.aggOf,k,AE.opd,AE.get,f,hT,AE.stor,hr,q,h6,b,g];rfl
  simp_all
 simp_all
theorem d0b{v:AV}(h:r.scal p=some v):∃k n,v=.val (.int k) n/\a0T r.t r.x p=⟨.int k,n⟩:=by
 unfold Root.scal at h
 grind
theorem Rel.int_of{tm}(h:Rel B U N tm w M){n r p b o k v}(m:U.rt n=some r)(l:loc (a0a w M.ov) r.t (M.g n) p=some (.int k,.at b o))(j:a0T r.t r.x p=⟨.int k,v⟩):w.cell? ⟨b,o,none⟩=some (.int k v):=by
 obtain⟨C,R,s,-,-,-,-,-⟩:=h.sep m;obtain⟨y,O2,R2,_,_,_,_,q,a,-,-⟩:=a1w p r.t _ s l;rw[j]at a;cases a;have d:a0a w M.ov b o=some (.int k v):=by
  simp[dec,Src.rd]at q
  grind
 cases hov:M.ov with
 |none=>rw[hov]at d;exact d
 |some ov=>
  obtain⟨i,z,u⟩:=ov
  by_cases hc:b=i/\o=z
  ·obtain⟨rfl,rfl⟩:=hc;have f:=h.pend;rw[hov]at f;cases hpd:U.pd with
   |none=>rw[hpd]at f;exact f.elim
   |some x=>
    obtain⟨n2,A,F⟩:=x;rw[hpd]at f;obtain⟨r2,G,q1,e⟩:=f;rw[<-hov]at e;obtain⟨D,E,j1,-,-,-,-,-⟩:=h.sep q1;obtain⟨H,_,_,_,_,_,_,c,-,-,-⟩:=a1w A r2.t _ j1 e;simp[dec,Src.rd,d]at c;cases c
  simp_all[a0a]
theorem e5v(i:CxOk P cx)(V:GOk cx.G B){v:AV}{K:AE->Rs Z}{z:Z}(c:U.peek cx o=some v)(O:o.dst=some d)(h:Rel B U N (a0o a) w M)(L:a.tmps.size=N)(R:fits N o=true)(S:K (U.put d (.one v))=some z)(g:∀v w' U' M',Rel B U' N (a0o (a.put o.dst v)) w' M'->K U'=some z->next (a.put o.dst v) w'):o.wpIn (Fr ro) 0 P a w next Q:=by
 unfold AE.peek at c
 split at c
 rename_i s x f u
 split at c
 rename_i n p τ hp;obtain⟨t,r,rfl,C,e,D⟩:=a3R hp
 split at c
 rename_i Y;cases c;refine a5n (q:=true) i V h L R (z:=z) (K:=K) ?_ g;have E:(a1j p r.t r.x).1=τ:=b8Q p r.t r.x D;simp only[aop,u,O,AE.opd,AE.get,C,e];show(if a1Z (a1j p r.t r.x).1 f=true/\cx.T s=some (a1j p r.t r.x).1.sh then _ else _)=_
 rw[E,if_pos Y];exact S;simp_all;simp_all;rename_i s x u
 split at c
 rename_i n p k hp;obtain⟨t,r,rfl,C,e,D⟩:=a3R hp
 split at c
 rename_i X;rw[e]at c;obtain⟨k',m,rfl,E⟩:=d0b c;have hk:k'=k:=by
  grind[b8Q]
 subst hk;obtain⟨h4,hty⟩:=i.T s _ X;have j:∀y∈(o.op.operands.toList),a1m N y=true:=a0R R;rw[u]at j;have ht:t<N:=by simp_all[a1m,Op.operands]
 have l:=h.slots t ht;rw[C]at l;obtain⟨r',t1,b,off,H,I,A⟩:=l;rw[e]at H;cases H;have F:=c3q p r.t _ I D;subst F;have hw:=h.int_of e I E;refine a0w.wp (fun c' h0=>by simp_all) (a0w.set O L (v:=.int k' m) (av:=.val (.int k') m) ?_ h (a0l.mk_int m) S) g;have A:a.eval (.tmp t)=.pointer (some ⟨b,off,none⟩):=A;simp[execOp,u,A,Instr.loadAt,Instr.sureAddr,loadVar,a6w hty,Ty.isAgg,hw];simp_all;simp_all;simp_all
theorem c8F(k:CxOk P cx)(j:GOk cx.G B){o:Oper}{md:Md}{K:AE->Rs Z}{z:Z}{next:Act->World->Prop}{Q:Exit->Act->World->Prop}
  (h:Rel B U N (a0o a) w M)(l:a.tmps.size=N)(m:fits N o=true)(g:a1Y cx md o U K=some z)
  (f:∀v w' i M',Rel B i N (a0o (a.put o.dst v)) w' M'->K i=some z->next (a.put o.dst v) w'):o.wpIn (Fr ro) 0 P a w next Q:=by
 cases md with
 |x=>exact a5n k j h l m g f
 |w ws=>
  simp[a1Y]at g
  split at g
  obtain⟨-,g⟩:=(a0f g).elim id fun h=>by grind
  grind[a5n]
  simp_all
 |r ns=>
  simp only[a1Y]at g;obtain⟨-,g⟩:=(a0f g).elim id fun h=>by grind
  split at g
  refine a5n k j h l m g fun v w' i M' y C=>f v w' i M' y ?_
  grind
  simp_all
 |p=>
  simp[a1Y]at g
  split at g
  rename_i n d hp A;refine a5n (q:=true) k j h l m (z:=z) (K:=K) ?_ f;simp_all[d0a];simp_all
 |a ws=>
  simp[a1Y]at g
  split at g
  obtain⟨-,g⟩:=(a0f g).elim id fun h=>by grind
  grind[a5n]
  simp_all
 |b ws=>
  simp only[a1Y]at g
  split at g
  obtain⟨-,g⟩:=(a0f g).elim id fun h=>by grind
  refine a5n k j h l m g fun v w' i M' y C=>f v w' i M' y ?_
  grind
  simp_all
 |c ws=>
  simp[a1Y]at g
  split at g
  obtain⟨-,g⟩:=(a0f g).elim id fun h=>by grind
  refine a5n k j h l m g fun v w' i M' y C=>f v w' i M' y ?_
  grind
  simp_all
 |e=>
  simp[a1Y]at g;obtain⟨D,g⟩:=(a0f g).elim id fun h=>by grind
  obtain⟨hp,A⟩:=a53.1 D;refine a5n (q:=false) k j h l m (z:=z) (K:=K) ?_ f;simp_all[e0k]
 |t=>
  simp[a1Y]at g
  split at g
  rename_i v d F A;exact e5v k j F A h l m g f;simp_all
 |u=>
  simp only[a1Y]at g;obtain⟨-,g⟩:=(a0f g).elim id fun h=>by grind
  split at g
  refine a5n k j h l m g fun v w' i M' y C=>f v w' i M' y ?_
  grind
  simp_all
 |s=>
  simp[a1Y]at g
  split at g
  rename_i v d F A;obtain⟨D,g⟩:=(a0f g).elim id fun h=>by grind
  obtain⟨hv,E⟩:=a53.1 D;exact e5u k j F A hv E h l m g f;simp_all
 |q=>
  simp only[a1Y]at g;obtain⟨-,g⟩:=(a0f g).elim id fun h=>by grind
  grind[a5n]
 |v=>
  simp only[a1Y]at g
  split at g
  rename_i n hp
  split at g
  rename_i d A;refine a5n (q:=true) k j h l m (z:=z) (K:=K) ?_ f;simp_all[d0a];simp_all;obtain⟨-,g⟩:=(a0f g).elim id fun h=>by grind
  split at g
  refine a5n k j h l m g fun v w' i M' y C=>f v w' i M' y ?_
  grind
  simp_all
def a9Y(N:Nat)(ops:List Oper)(o:Oper):Bool:=fits N o&&(match o.guard with
 |some (j,_)=>(match b1A ops j with
  |some g=>decide (g<N)
  |none=>true)
 |none=>true)
theorem b8l{ops:List Oper}(h:a9Y N ops o=true):fits N o=true:=by
 simp_all[a9Y]
theorem Rel.skip(h:Rel B U N (a0o a) w M)(g:a.tmps.size=N)(d:Option Nat):Rel B (U.setD d .skp) N (a0o (a.put d undef)) w M:=by
 cases d with
 |none=>exact h
 |some d=>exact h.putd g fun _=>rfl
theorem Rel.same(h:Rel B U N (a0o a) w M){g:Nat}(k:U.get g=av):Rel B (U.set g av) N (a0o a) w M:=by
 refine h.put (v:=a0o a g) (fun f=>?_) (fun i _=>by simp_all)
 have:=a3P h f
 rw[k]at this;exact this
theorem d7r{ops:Array Oper}{j g:Nat}(h:b1A ops.toList j=some g)(f:g<a.tmps.size):yielded ops a.tmps j=match a0o a g with|.bool b=>some b|_=>none:=by
 have h:(ops[j]?).bind (·.dst)=some g:=by simpa[b1A]using h
 simp[yielded,h,a0o,Array.getElem?_eq_getElem f]
 grind
theorem d6x(l:CxOk P cx)(s:GOk cx.G B){ops:Array Oper}{md:Md}{K:AE->Rs Z}{z:Z}(h:Rel B U N (a0o a) w M)(i:a.tmps.size=N)(u:a9Y N ops.toList o=true)(e:a0A cx md ops.toList o U K=some z)(k:∀v w' U' M',Rel B U' N (a0o (a.put o.dst v)) w' M'->K U'=some z->next (a.put o.dst v) w'):
  if Region.wanted o (yielded ops a.tmps)then o.wpIn (Fr ro) 0 P a w next Q else((∀f,o.about P w a.eval=some f->(Fr ro).fn f)/\next (a.put o.dst undef) w):=by
 have m:=b8l u;unfold a0A at e
 split at e
 rename_i t;rw[if_pos (by simp[Region.wanted,t])]
 grind[c8F]
 rename_i j n t
 split at e
 grind
 rename_i g q;have r:g<N:=by
  simp_all[a9Y]
 have p:=d7r (a:=a) q (by omega);have d:=a3P h r
 split at e
 rename_i b c;rw[c]at d;have hb:=a0l.bool d;rw[hb]at p;simp at p;cases b<;>cases n<;>simp only[cT,cF]at e;rw[if_pos (by simp_all[Region.wanted])];exact c8F l s (h.same c) i m e k;rw[if_neg (by simp_all[Region.wanted])];exact⟨fun _ _=>trivial,k _ w _ _ ((h.same c).skip i o.dst) e⟩;rw[if_neg (by simp_all[Region.wanted])];exact⟨fun _ _=>trivial,k _ w _ _ ((h.same c).skip i o.dst) e⟩;rw[if_pos (by simp_all[Region.wanted])];exact c8F l s (h.same c) i m e k;rename_i c;rw[c]at d;have d:a0o a g=undef:=d;rw[d]at p;simp[undef]at p;rw[if_neg (by simp_all[Region.wanted])];exact⟨fun _ _=>trivial,k _ w _ _ (h.skip i o.dst) e⟩;simp_all
theorem d6y(g:CxOk P cx)(k:GOk cx.G B){ops:Array Oper}{Q:Exit->Act->World->Prop}{D:List Deferred}{z:Z}:∀(l:List (Md×Oper)) {U:AE} {a:Act} {w:World} {M:Gh} {K:AE->Rs Z} (_:Rel B U N (a0o a) w M) (_:a.tmps.size=N) (_:a.defers=D)
  (_:∀p∈l,a9Y N ops.toList p.2=true) (_:a6Y cx ops.toList l U K=some z) (_:∀a' w' f M',Rel B f N (a0o a') w' M'->a'.tmps.size=N->a'.defers=D->K f=some z->Q .normal a' w'),
  wpListIn (Fr ro) 0 P ops Q (l.map (·.2)) a w
 | [],U,a,w,M,K,h,hN,hD,_,hz,hQ=>hQ a w U M h hN hD hz
 |(md,o)::l,U,a,w,M,K,h,hN,hD,hf,hz,hQ=>by
  simp[a6Y]at hz
  have:=d6x (ro:=ro) (next:=wpListIn (Fr ro) 0 P ops Q (l.map (·.2))) (Q:=Q) g k h hN (hf (md,o) (by simp)) hz fun v w' f M' c b=>
   d6y g k l c (by rw[b6k];omega) (by simp_all[b5H]) (fun p hp=>hf p (by grind)) b hQ
  simp only[a07,wpListIn];omega
end
theorem b0z{B:Base}{N:Nat}{tm:Nat->Value}{w:World}{Z:Type}:∀(os:b0Y){U:AE}{M:Gh}(_:Rel B U N tm w M){e:Ex}{K:os.den->Rs Z}{z:Z}(_:os.all (fun p=>p.2.fits N)=true) (_:os.pack e U K=some z),
  ∃y X M',K y=some z/\Rel B X N tm w M'/\∀{Z':Type}(g:Ex->AE->Rs Z'),os.open y g=g e X
 | [],U,M,h,e,K,z,hf,hz=>by simp_all[b0Y.pack]
 | [(e',s)],U,M,h,e,K,z,hf,hz=>by
  simp only[b0Y.pack]at hz
  split at hz
  rename_i a;subst a;obtain⟨x,M',f,k⟩:=h.dcd (by simp_all) hz;exact⟨x,_,M',f,k,fun g=>rfl⟩;simp_all
 |(e',s)::x::r,U,M,h,e,K,z,hf,hz=>by
  simp[b0Y.pack]at hz
  split at hz
  rename_i a;subst a;obtain⟨y,M',f,k⟩:=h.dcd (by simp_all) hz;exact⟨.inl y,_,M',f,k,fun g=>rfl⟩;obtain⟨y,X,M',f,k,b⟩:=b0z (x::r) h (by
   grind) hz
  exact⟨.inr y,X,M',f,k,fun g=>b g⟩
theorem d7s{M β:Type}{f:M->Option (M ⊕ β)}{s:M}{b:β}(h:b9G f s=some b):∃n,a3I f n s=some b:=by
 unfold b9G at h
 split at h
 all_goals grind
theorem e0l{M β:Type}{f:M->Option (M ⊕ β)}{s:M}{b:β}(h:a0d f s=some b):∃n,a3I f n s=some b:=by
 grind[a0d,d7s]
end Go.Ab
