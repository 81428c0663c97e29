/- Part of the proof: LibR. Conditions: as each statement tells. -/
import Derived.Laws.AppendOwn
import Derived.CallsIn
import Derived.Tactics
import Derived.Deep.LoopGhost
import Derived.TacticsIn
import Derived.Test.YtjoohiokfkdfpaaGreatDoorMA
noncomputable section
set_option linter.unusedSimpArgs false
set_option linter.unusedVariables false
open Array renaming getElem?_toList→a09,length_toList→a34,range→a35,getElem?_eq_some_iff→a36,mapM_eq_mapM_toList→a37,foldl_toList→a48
open Bool renaming not_eq_true'→a39,not_eq_true→a54
open List renaming mem_map_of_mem→a00,mem_cons_of_mem→a01,length_eq_zero_iff→a02,getElem?_append_left→a03,nodup_cons→a05,mem_of_getElem?→a06,map_cons→a07,mem_map→a08,getElem?_append_right→a10,length→a13,nodup_append→a14,getElem?_toArray→a15,append→a16,pairwise_iff_getElem→a18,getD→a22,mem_append_left→a24,drop_eq_getElem_cons→a25,replicate→a28,getElem?_map→a29,take_succ_eq_append_getElem→a30,mem_append_right→a31,mem_iff_getElem?→a32,length_nil→a33,take→a38,map_nil→a42,nil_append→a43,length_eq_one_iff→a44,take_set_of_le→a46,set→a47,size_toArray→a51,take_length→a53,append_nil→a56,length_map→a57,drop_zero→a58,drop→a59
open Nat renaming le_refl→a04,zero_add→a11,lt_of_lt_of_le→a12,add_mul→a17,mul_le_mul_right→a19,add_sub_cancel_left→a20,le_trans→a23,le_of_eq→a41,mul_le_mul→a45,add_zero→a49,le_of_lt→a50,lt_trichotomy→a52,mul_eq_zero→a55
open Option renaming map_eq_some_iff→a21,map_some→a26,bind_eq_some_iff→a27,isSome_iff_exists→a40
namespace Go.Ab
variable {A:Option Addr}{G:h0c}{P:Program}{Q:Exit→Act→World→Prop}{Sh Sh':Nat→Prop}{av:AV}{b d i n:Nat}{c:Call}{cx:Cx}{e τ:Ty}{f:FuncId}{k:IntKind}{m:Mem}{next:Act→World→Prop}{o:Oper}{p:a0n}{ps:List PA}{q:Bool}{r:Root}{s u v vy x:Value}{t t':TypeId}{tm:Nat→Value}{ts:Array TypeId}{w w' w2:World}{Γ:AE}{σ:Gh}{l ys:List e.den}
def o0s(t:Ty)(place:Nat→Option (Nat×Nat)):Prop:=∀i,AE.pathOk t i=true→∃τ' k,place i=some (k,τ'.cells)∧k+τ'.cells≤t.cells∧∀(m:Mem) b o,loc m t (.at b o) (AE.pathOf t i)=some (τ',.at b (o+k))
theorem p0o(n:Nat)(e:Ty):o0s (.arr n e) fun i=>some (i*e.cells,e.cells):=by
 intro i hi;simp[AE.pathOk]at hi;refine⟨e,i*e.cells,rfl,?_,fun m b o=>?_⟩
 have:(i+1)*e.cells≤n*e.cells:=a19 _ (by omega)
 rw[Nat.succ_mul]at this;exact this;show(if i<n then a0t m [] e (.at b (o+i*e.cells))else none)=_
 rw[if_pos hi];rfl
theorem x0q{sz:Nat}(M:∀c,Sh c→c<sz){t τ':Ty}{cs:Array Value}{x:t.den}{R i k}(hd:dec m t (fun j=>cs[j]?)=some (x,[],R))(E:∀c∈R,Sh c)(O:∀(m:Mem) b o,loc m t (.at b o) (AE.pathOf t i)=some (τ',.at b (o+k)))(W:k+τ'.cells≤cs.size){y:τ'.den}(hv:VOk m Sh τ' y v):
  ∃R',dec m t (fun j=>(v.cells.zipIdx.foldl (fun cs (c,j)=>cs.setIfInBounds (k+j) c) cs)[j]?)=some (b0q t x (AE.pathOf t i) τ' y,[],R')∧∀c∈R',Sh c:=by
 obtain⟨S,-⟩:=hv.cells;obtain⟨-,-,R2,w,z⟩:=hv;have f:v.cells.zipIdx.foldl (fun cs (c,j)=>cs.setIfInBounds (k+j) c) cs=(v.cells.toList.zipIdx 0).foldl (fun cs (c:Value×Nat)=>cs.setIfInBounds (k+c.2) c.1) cs:=by
  rw[←a48];simp
 obtain⟨-,h⟩:=p0f k v.cells.toList 0 cs;rw[f];generalize (v.cells.toList.zipIdx 0).foldl (fun cs (c:Value×Nat)=>cs.setIfInBounds (k+c.2) c.1) cs=cs' at h
 let m0:Mem:=fun c j=>if c=sz then cs[j]? else m c j
 let a:Mem:=fun c j=>if c=sz then cs'[j]? else m c j
 have u:∀c,Sh c→c≠sz:=fun c g e=>by grind
 have P:∀c j,Sh c→m0 c j=m c j:=fun c j g=>by grind
 have Q:∀c j,Sh c→a c j=m c j:=fun c j g=>by grind
 have C:dec m0 t ((Src.at sz 0).rd m0)=some (x,[],R):=a0j t hd (fun j _=>by simp[Src.rd,m0]) (fun b j F=>by
  simp_all)
 have n:=O m0 sz 0;obtain⟨X,I,R1,T,U,G,H,s,-,V,-⟩:=b0h _ t _ C n;have q:I=[]:=by
  simp_all
 subst q;have K:dec a τ' ((Src.at sz (0+k)).rd a)=some (y,[],R2):=a0j τ' w (fun j N=>by
   simp only[Src.rd,a,if_true,a11,h,a49];rw[if_pos ⟨by omega,by grind,by omega⟩,a20];simp) (fun b j F=>by
  grind)
 have p:Sep (Src.at sz 0) [] R:=⟨by simp,by simp,fun c g=>⟨by simp,fun e=>u c (E c g) e⟩⟩;have l:Chg m0 a (Src.at sz 0) [] R sz (0+k) τ'.cells []:=fun c j=>by
  by_cases g:c=sz
  by_cases N:k≤j∧j<k+τ'.cells
  omega;refine .inl ?_
  simp only[m0,a,if_pos g,h];rw[if_neg (by grind)]
  grind
 obtain⟨A,B',B,J,D,L⟩:=o0j _ t _ C n s K p l;have d:A=[]∧B'=[]:=by
  have:=congrArg a13 J
  simp at this;exact⟨a02.1 (by omega),a02.1 (by omega)⟩
 rw[d.1,d.2]at D;have r:∀c∈B,Sh c:=fun c g=>(L c g).elim (E c) (z c);exact⟨B,a0j t D (fun j _=>by simp[Src.rd,a]) (fun b j F=>by
  grind),r⟩
section
variable {P:Program} {B:Base} {N:Nat} {ρ:Type} {Γ:AE} {a:Act} {w:World} {σ:Gh}
theorem l0i{q:Bool}{t:Ty}{place:Nat→Option (Nat×Nat)}(hp:o0s t place):∀(l:List (Nat×Operand)) {Γ:AE} {σ:Gh} {x:t.den} {cs:Array Value} {R} {K:t.den→AE→Rs ρ} {z:ρ},Rel B Γ N (a0f a) w σ→
  (∀y∈l,b0e N y.2=true)→cs.size=t.cells→dec (a0a w σ.ov) t (fun j=>cs[j]?)=some (x,[],R)→(∀c∈R,Shr B w σ c)→Γ.fills q t l x K=some z→
  ∃y g Γ' σ' n,K y Γ'=some z∧Rel B Γ' N (a0f a) w σ'∧Instr.fill place cs (l.map fun(i,x)=>(i,a.eval x))=some g∧g.size=t.cells∧dec (a0a w σ'.ov) t (fun j=>g[j]?)=some (y,[],n)∧(∀c∈n,Shr B w σ' c)
 | [],Γ,σ,x,cs,R,K,z,h,_,hs,hd,hR,f=>⟨x,cs,Γ,σ,R,f,h,rfl,hs,hd,hR⟩
 |(i,o)::l,Γ,σ,x,cs,R,K,z,h,hl,hs,hd,hR,f=>by
  unfold AE.fills at f;rcases a0b f with⟨hi,f⟩|⟨-,f⟩;obtain⟨τ',k,X,Y,A⟩:=hp i hi;have m:(b0c t x (AE.pathOf t i)).1=τ':=by
   have J:dec (fun c j=>if c=w.heap.size then cs[j]? else a0a w σ.ov c j) t ((Src.at w.heap.size 0).rd fun c j=>if c=w.heap.size then cs[j]? else a0a w σ.ov c j)=some (x,[],R):=
    a0j t hd (fun j _=>by simp[Src.rd]) (fun b j e=>by
     rcases e with e|e;simp_all
     have:=(hR b e).1
     grind)
   obtain⟨Z,V,R1,T,U,C,D,P,m,-⟩:=b0h _ t _ J (A _ _ _)
   grind
  generalize hgg:b0c t x (AE.pathOf t i)=gg at f m;obtain⟨t2,y2⟩:=gg;simp only at m;subst m;simp only at f;obtain⟨y,Γ1,σ1,f,L,hv,d,-⟩:=h.asV (.inl (h.opd (hl _ (List.mem_cons_self ..)))) f;have s:dec (a0a w σ1.ov) t (fun j=>cs[j]?)=some (x,[],R):=by rw[d.ov];omega
  obtain⟨n,M,O⟩:=x0q (sz:=w.heap.size) (fun c r=>r.1) s (fun c r=>d.shr c (hR c r)) A (by omega) hv;obtain⟨y',g,Γ',σ',p,E,F,W,G,H,I⟩:=l0i hp l L (fun u Q=>hl u (a01 _ Q)) (cs:=(a.eval o).cells.zipIdx.foldl (fun cs (c,j)=>cs.setIfInBounds (k+j) c) cs) (by
   have v:(a.eval o).cells.zipIdx.foldl (fun cs (c,j)=>cs.setIfInBounds (k+j) c) cs=((a.eval o).cells.toList.zipIdx 0).foldl (fun cs (c:Value×Nat)=>cs.setIfInBounds (k+c.2) c.1) cs:=by
    rw[←a48];simp
   simp_all[p0f]) M O f
  refine⟨y',g,Γ',σ',p,E,F,?_,G,H,I⟩;have S:=hv.cells.1;simp_all[Instr.fill];simp_all
theorem r0a{q:Bool}{e:Ty}{n:Nat}:∀(l:List (Nat×Operand)) (Γ:AE) (x:List e.den) (K:List e.den→AE→Rs ρ),Γ.lit q e n l x K=Γ.fills q (.arr n e) l x K
 | [],_,_,_=>rfl
 |(i,o)::l,Γ,x,K=>by
  show(bif decide (i<n)then Γ.asV q e (Γ.opd o) (fun y Γ'=>Γ'.lit q e n l (x.set i y) K)else none) =
   (bif decide (i<n)then Γ.asV q e (Γ.opd o) (fun y Γ'=>Γ'.fills q (.arr n e) l (b0q (.arr n e) x [.idx i] e y) K)else none)
  congr 2;funext y Γ';rw[r0a l];congr 1;show x.set i y=a47 x i (if h:e=e then h▸y else _)
  simp
theorem p0a{ps:Array (Nat×Operand)}{K:AE→Rs ρ}{z:ρ}(Q:CxTy P cx)(M:o.op=.buildSlice t n ps)(hd:o.dst=some d)(hO:∀W e,cx.T t=some (.list W e)→(bif q || !e.isList then none else cx.O d)=none)(h:Rel B Γ N (a0f a) w σ)(hN:a.tmps.size=N)(hf:fits N o=true)(s:aop cx q o Γ K=some z):a0i P B N o a w K z:=by
 have r:∀y∈(o.op.operands.toList),b0e N y=true:=a0s hf;rw[M]at r;simp[aop,M,hd]at s
 split at s
 rename_i W e Z;rw[hO W e Z]at s;rcases a0b s with⟨v,s⟩|⟨-,s⟩;simp[lim]at v;rw[r0a]at s;obtain⟨h7,hty⟩:=Q.T t _ Z;obtain⟨k,hu,U,h4⟩:=b0l hty;obtain⟨I⟩:=a0k (a0p U);obtain⟨y,f,Γ',σ',J,A,u,X,g4,C,Y⟩:=l0i (p0o n e) ps.toList h (fun y hy=>r y.2 (by
   simp only[Op.operands]
   grind)) (cs:=madeCells I.z.cells (n*e.cells)) (size_madeCells _ _) (o0h (m:=a0a w σ.ov) I.zok I.zsize n) (by simp) s
 have C:a0d (fun i=>dec (a0a w σ'.ov) e fun j=>f[i*e.cells+j]?) n 0=some (y,[],J):=C;have E:=a0v n 0 C;have h6:n*e.cells=0→n=0:=fun e0=>by
  grind[a55]
 have G:(execOp a.eval o).run P w=.ok (.value (.slice (some ⟨w.heap.size,0,none⟩) n n)) (w.alloc (.cells f k)):=by
  have D:¬ (n*e.cells > 2^24):=by omega
  have F:(ps.map fun(i,x)=>(i,a.eval x)).toList=ps.toList.map fun(i,x)=>(i,a.eval x):=by simp
  by_cases h0:n*e.cells=0
  have:(a35 (n*e.cells)).map (fun i=>(#[]:Array Value)[i%(#[]:Array Value).size]!)=madeCells I.z.cells (n*e.cells):=by
   simp_all[madeCells]
  have l:=X;rw[←this]at l;simp only[execOp,M,Instr.buildSlice,Sem.run_bind,run_underlying hu,Result.andThen_ok,I.sizeOf,if_neg D,if_pos h0,Sem.run_pure,F,l,newRow]
  simp
  have l:Instr.fill (fun i=>some (i*e.cells,e.cells)) ((a35 (n*e.cells)).map (I.z.cells[·%I.z.cells.size]!)) (ps.toList.map fun(i,x)=>(i,a.eval x))=some f:=X;simp only[execOp,M,Instr.buildSlice,Sem.run_bind,run_underlying hu,Result.andThen_ok,I.sizeOf,if_neg D,if_neg h0,Sem.run_pure,I.zeroValue,F,l,newRow]
  simp
 have H:a13 (show List e.den from y)=n:=E;rcases a0b A with⟨-,A⟩|⟨-,A⟩;have p:∀c,c<w.heap.size→(w.alloc (.cells f k)).heap[c]?=w.heap[c]?:=fun c v=>b0m _ c v;have h2:=u.ext p (b0s _);have h5:∀c,Shr B w σ' c→Shr B (w.alloc (.cells f k)) σ' c:=fun c ⟨a1,a2,a3⟩=>⟨a12 a1 (b0s _),a2,a3⟩;have h3:Shr B (w.alloc (.cells f k)) σ' w.heap.size:=⟨(a36.1 (b0i (w:=w) (Obj.cells f k))).1,.inr (.inr u.size),fun g=>Nat.lt_irrefl _ (u.lt g)⟩;have V:a0d (fun i=>dec (a0a (w.alloc (.cells f k)) σ'.ov) e fun j=>a0a (w.alloc (.cells f k)) σ'.ov w.heap.size (0+(i*e.cells+j))) n 0=some (y,[],J):=by
  have h1:dec (a0a w σ'.ov) (.arr n e) (fun j=>f[j]?)=some (y,[],J):=C;refine a0j (.arr n e) h1 (rd':=fun j=>a0a (w.alloc (.cells f k)) σ'.ov w.heap.size (0+j)) (fun j _=>?_) (fun b j L=>?_);show a0a _ σ'.ov w.heap.size (0+j)=_;rw[a11];exact u.memo_new (b0i (Obj.cells f k)) j;rcases L with L|L;simp_all;exact u.memo_old p (Y b L).1
 have S:∃R,dec (a0a (w.alloc (.cells f k)) σ'.ov) (.list false e) ((Src.one (.slice (some ⟨w.heap.size,0,none⟩) n n)).rd (a0a (w.alloc (.cells f k)) σ'.ov))=some (y,[],R)∧∀c∈R,Shr B (w.alloc (.cells f k)) σ' c:=by
  show ∃R,a0x (a0a (w.alloc (.cells f k)) σ'.ov) false e.cells (dec (a0a (w.alloc (.cells f k)) σ'.ov) e) (some (.slice (some ⟨w.heap.size,0,none⟩) n n))=some (y,[],R)∧_;simp only[a0x];rw[if_pos ⟨.inr trivial,a04 _⟩,V];simp only[Bool.false_eq_true,if_false];split;exact⟨[],rfl,by simp⟩;refine⟨w.heap.size::J,by rfl,fun c v=>?_⟩
  grind
 obtain⟨R2,k1,k2⟩:=S;exact a0i.set hd hN G h2 (av:=.val (.list false e) y) (VOk.one (t:=.list false e) rfl rfl k1 k2 rfl) A;obtain⟨Γ2,σ2,k1,k2,k3,-,-⟩:=u.newSlice (c:=n) A (fun c v=>b0m _ c v) (b0s _) (b0i (Obj.cells f k)) (.inl rfl) (a41 g4.symm) (a41 H) (by rw[H];exact C) Y
 grind[a0i.set]
 simp_all;simp_all
theorem k0f{P:Program}{w:World}:∀(fs:List Field),(∀f∈fs,∃i,P.info? f.type=some i)→
  ∃l:List (Nat×Nat),(fs.mapM fun f=>do pure (f.offset,←sizeOf f.type):Sem (List (Nat×Nat))).run P w=.ok l w∧l.length=fs.length∧∀(k:Nat) f,fs[k]?=some f→∃i,P.info? f.type=some i∧l[k]?=some (f.offset,i.size)
 | [],_=>⟨[],rfl,rfl,by simp⟩
 |f::fs,h=>by
  obtain⟨i,hi⟩:=h f (by simp);obtain⟨l,b,c,d⟩:=k0f (w:=w) fs (fun g a=>h g (by grind));refine⟨(f.offset,i.size)::l,?_,by grind,fun k g a=>?_⟩;simp_all[sizeOf,typeInfo]
  grind
theorem g0t{P:Program}:∀(τ:Ty)(fs:List Field)(off:Nat),a0g P τ (.inr (fs,off))=true→∀f∈fs,∃i,P.info? f.type=some i
 |.pair a b,f::r,off,h=>by
  simp only[a0g,bA]at h;obtain⟨I⟩:=a0k (a0p h.1.1.2);intro g k;rcases mC.1 k with rfl|k;exact⟨_,I.info⟩;exact g0t b r _ h.2 g k
 |.unit,[],_,_=>by simp
 |.unit,_::_,_,h=>by simp[a0g]at h
 |.pair _ _,[],_,h=>by simp
 |.int _,_,_,h=>by simp[a0g]at h
 |.bool,_,_,h=>by simp[a0g]at h
 |.str,_,_,h=>by simp[a0g]at h
 |.list _ _,_,_,h=>by simp[a0g]at h
 |.arr _ _,_,_,h=>by simp[a0g]at h
theorem q0r{ps:Array (Nat×Operand)}{K:AE→Rs ρ}{z:ρ}(hty:a0g P τ (.inl t)=true)(M:o.op=.build t ps)(hd:o.dst=some d)(h:Rel B Γ N (a0f a) w σ)(hN:a.tmps.size=N)(hf:fits N o=true)(Q:(bif τ.isAgg then Γ.fills q τ ps.toList τ.dflt fun y Γ=>K (Γ.set d (.val τ y))else none)=some z):a0i P B N o a w K z:=by
 have m:∀y∈(o.op.operands.toList),b0e N y=true:=a0s hf;rw[M]at m
 ·obtain⟨I⟩:=a0k (a0p hty);obtain⟨g,Q⟩:τ.isAgg=true∧_:=(a0b Q).elim id fun h=>by grind
  have s:∀y∈ps.toList,b0e N y.2=true:=fun y hy=>m y.2 (by
     simp only[Op.operands]
     grind)
  have D:(ps.map fun(i,x)=>(i,a.eval x)).toList=ps.toList.map fun(i,x)=>(i,a.eval x):=by simp
  have p:∀place,o0s τ place→(∀b,Instr.fill place I.z.cells (ps.toList.map fun(i,x)=>(i,a.eval x))=some b→(execOp a.eval o).run P w=.ok (.value (.agg b)) w)→τ.isAgg=true→a0i P B N o a w K z:=by
   intro place hp E g;obtain⟨y,b,Γ',σ',V,Y,Z,g3,g4,g5,g6⟩:=l0i hp ps.toList h s I.zsize (e0f τ I.zok) (by simp) Q;exact a0i.set hd hN (E b g3) Z (av:=.val τ y) ⟨fun _=>⟨b,rfl,g4⟩,fun e=>(by simp_all),V,g5,g6⟩ Y
  have str:∀fs:Array Field,P.underlying t=some (.struct fs)→a0g P τ (.inr (fs.toList,0))=true→(∀i,AE.pathOk τ i=b0y τ i∧AE.pathOf τ i=b0f i)→τ.isAgg=true→a0i P B N o a w K z:=by
   intro fs j O c g;obtain⟨l,h1,h2,h3⟩:=k0f (P:=P) (w:=w) fs.toList (g0t τ _ _ O);refine p (fun i=>l.toArray[i]?) (fun i hi=>?_) (fun b J=>?_) g;rw[(c i).1]at hi;rw[(c i).2];obtain⟨H,τ',k,T,k2,k3,k4,k5⟩:=i0s i τ _ 0 O hi;obtain⟨X,τ2,k',R,j2,j3,j4,-⟩:=k0o i τ _ 0 O hi;rw[T]at R;simp at R;subst R;obtain⟨i',L,S⟩:=h3 i H T;obtain⟨C⟩:=a0k (a0p k3);obtain⟨G⟩:=a0k (a0p j3);have W:i'=C.i:=by have:=L.symm.trans C.info;simp_all
   have e2:C.i=G.i:=by have:=C.info.symm.trans G.info;simp_all
   refine⟨τ',k,?_,?_,k5⟩;have hk:H.offset=k:=by omega
   simp
   rw[S,W,C.size,hk];have s1:=C.size;have s2:=G.size;simp_all;have hm:(fs.mapM fun f=>do pure (f.offset,←sizeOf f.type):Sem (Array (Nat×Nat))).run P w=.ok l.toArray w:=by
    simp_all[a37]
   simp only[execOp,M,Instr.build,Sem.run_bind,I.zeroValue,Result.andThen_ok,run_underlying j,hm,D,J]
   simp
  have arr:∀n F e,P.underlying t=some (.array n F)→a0g P e (.inl F)=true→o0s τ (fun i=>some (i*e.cells,e.cells))→τ.isAgg=true→a0i P B N o a w K z:=by
   intro n F e j A hp g;obtain⟨U⟩:=a0k (a0p A);refine p _ hp (fun b J=>?_) g;simp only[execOp,M,Instr.build,Sem.run_bind,I.zeroValue,Result.andThen_ok,run_underlying j,U.sizeOf,D,J]
   simp
  clear p;cases τ with
  |pair u v=>
   simp[a0g]at hty;obtain⟨-,hty⟩:=hty
   split at hty
   rename_i fs j
   split at hty
   rename_i H r S;refine str fs j ?_ (fun i=>⟨rfl,rfl⟩) rfl;simp_all[a0g];simp_all;simp_all
  |unit=>
   simp[a0g]at hty;obtain⟨-,hty⟩:=hty
   split at hty
   rename_i fs j;refine str fs j ?_ (fun i=>⟨rfl,rfl⟩) rfl
   have:fs.toList=[]:=by simp_all
   rw[this];rfl;simp_all
  |arr n e=>
   obtain⟨F,j,A,-⟩:=g0s hty;exact arr n F e j A (p0o n e) rfl
  |_=>cases g
theorem o0z{o:Oper}{t:TypeId}{ps:Array (Nat×Operand)}{d:Nat}{cx:Cx}{q:Bool}{K:AE→Rs ρ}{z:ρ}(f:CxTy P cx)(k:o.op=.build t ps)(hd:o.dst=some d)(c:cx.nlT d t=none→cx.O d=none)
  (h:Rel B Γ N (a0f a) w σ)(b:a.tmps.size=N)(hf:fits N o=true)(g:aop cx q o Γ K=some z):a0i P B N o a w K z:=by
 simp[aop,k,hd]at g;cases hn:cx.nlT d t with
 |some τ=>
  rw[hn]at g;refine q0r ?_ k hd h b hf g;simp[Cx.nlT]at hn
  split at hn
  split at hn
  rename_i i _ e;cases hn;rw[←c0p];exact(f.T t _ e.2).2;simp_all;simp_all
 |none=>
 rw[hn]at g;simp[c hn]at g
 split at g
 rename_i τ hT;exact q0r (f.T t _ hT).2 k hd h b hf g;simp_all
theorem m0x(h:b0j u=true):u.cells=#[u]:=by
 cases u<;>first|rfl|(simp[b0j]at h)
theorem s0i(h:Rel B Γ N (a0f a) w σ){v:AV}(hv:a0e (a0a w σ.ov) σ.g Γ.rt (Shr B w σ) v u)(hf:v.fits1 τ=true):b0j u=true:=by
 unfold AV.fits1 at hf
 split at hf
 rename_i t x;simp at hf;exact hv.2.1 hf.1;rename_i n e;obtain⟨r,b,s,f,k,j⟩:=hv;obtain⟨l,R,d,o,-⟩:=h.sep f;obtain⟨y,m,R1,_,_,_,_,p,i,-⟩:=b0h _ r.t _ d k;obtain⟨s',A,c,-,-,hv,-,q,-⟩:=h.sref_head ⟨r,b,s,f,k,j⟩ f i;rw[hv];rfl;have hv:u=.slice none 0 0:=hv;rw[hv];rfl;simp_all
theorem x0c{place:Nat→Option (Nat×Nat)}{k:Nat}{u:Value}{l:List (Nat×Value)}{pre zs:List Value}{c:Value}(hp:place k=some (k,1))(h:b0j u=true)(g:pre.length=k):
  Instr.fill place (pre++c::zs).toArray ((k,u)::l)=Instr.fill place (pre++[u]++zs).toArray l:=by
 have h:=m0x h;simp only[Instr.fill,hp];simp_all
theorem y0b{g:Nat→Src}{rt:Nat→Option Root}{v:AV}{rd:Nat→Option Value}(h:f0r τ=some v)(f:c0c τ rd=true)(c:rd 0=some u):τ.cells=1∧b0j u=true∧a0e m g rt Sh v u:=by
 have val:τ.isAgg=false→b0j u=true→τ.cells=1→c0c τ (fun j=>u.cells[j]?)=true→VOk m Sh τ τ.dflt u:=fun l d p i=>
  ⟨fun g=>(by simp_all),fun _=>d,[],e0f τ i,by simp⟩
 cases τ with
 |int k=>
  simp[f0r]at h;simp[c0c,c]at f;cases u with
  |int k' n=>
   subst h;exact⟨rfl,rfl,val rfl rfl rfl (by simp_all[c0c,Value.cells])⟩
  |_=>cases f
 |bool=>
  simp[f0r]at h;simp[c0c,c]at f;cases u with
  |bool b=>
   subst h;exact⟨rfl,rfl,val rfl rfl rfl (by simp_all[c0c,Value.cells])⟩
  |_=>cases f
 |str=>
  simp[f0r]at h;simp[c0c,c]at f;cases u with
  |string b=>
   subst h;exact⟨rfl,rfl,val rfl rfl rfl (by simp_all[c0c,Value.cells])⟩
  |_=>cases f
 |list o e=>
  simp[f0r]at h;simp[c0c,c]at f;subst h
  split at f
  rename_i a;simp at a;subst a;exact⟨rfl,rfl,rfl⟩;simp_all
 |_=>cases h
theorem m0b{place:Nat→Option (Nat×Nat)}(h:Rel B Γ N (a0f a) w σ):∀(τ:Ty)(k:Nat)(ps:List (Nat×Operand)) (vs:List AV),Γ.aggV k τ ps=some vs→(∀p∈ps,b0e N p.2=true)→
  (∀j,j<τ.cells→place (k+j)=some (k+j,1))→∀(pre zs:List Value),pre.length=k→zs.length=τ.cells→c0c τ (fun j=>zs[j]?)=true→
  ∃us:List Value,us.length=τ.cells∧vs.length=τ.cells∧Instr.fill place (pre++zs).toArray (ps.map fun p=>(p.1,a.eval p.2))=some (pre++us).toArray∧
   ∀(j:Nat) v,vs[j]?=some v→∃u,us[j]?=some u∧b0j u=true∧a0e (a0a w σ.ov) σ.g Γ.rt (Shr B w σ) v u
 |.unit,k,[],vs,hv,_,_,pre,zs,hp,hz,_=>by
  simp only[AE.aggV,sj]at hv;subst hv
  have:zs=[]:=List.eq_nil_of_length_eq_zero hz
  subst this;exact⟨[],rfl,rfl,rfl,fun j v c=>by simp_all⟩
 |.pair u v,k,ps,vs,hv,hops,hpl,pre,zs,hp,hz,hzr=>by
  have zero:((f0r u).bind fun x=>(Γ.aggV (k+1) v ps).map (x::·))=some vs→∃us:List Value,us.length=(Ty.pair u v).cells∧vs.length=(Ty.pair u v).cells∧Instr.fill place (pre++zs).toArray (ps.map fun p=>(p.1,a.eval p.2))=some (pre++us).toArray∧
    ∀(j:Nat) v,vs[j]?=some v→∃u,us[j]?=some u∧b0j u=true∧a0e (a0a w σ.ov) σ.g Γ.rt (Shr B w σ) v u:=fun e=>by
   cases hx:f0r u with
   |none=>simp_all
   |some x=>
    rw[hx]at e;cases hr:Γ.aggV (k+1) v ps with
    |none=>simp_all
    |some vs'=>
     rw[hr]at e;cases e;simp[c0c]at hzr;have n:0<u.cells:=by
      cases u<;>first|(cases hx;done)|exact Nat.one_pos
     cases zs with
     |nil=>grind[Ty.cells]
     |cons z0 zs=>
      obtain⟨E,F,G⟩:=y0b (m:=a0a w σ.ov) (g:=σ.g) (rt:=Γ.rt) (Sh:=Shr B w σ) hx hzr.1 (by simp:(z0::zs)[0]?=some z0);have b:zs.length=v.cells:=by grind[Ty.cells]
      obtain⟨us,z,A,C,D⟩:=m0b h v (k+1) ps vs' hr hops (fun j c=>by
       have:=hpl (j+1) (by grind)
       rwa [show k+(j+1)=k+1+j from by omega]at this) (pre++[z0]) zs (by grind) b (by
       grind)
      refine⟨z0::us,by simp_all,by simp_all,?_,fun j y c=>?_⟩
      all_goals grind
  cases ps with
  |nil=>exact zero hv
  |cons p r=>
   obtain⟨i,o⟩:=p;simp[AE.aggV]at hv;rcases a0b hv with⟨hi,f⟩|⟨-,f⟩
   ·have hi:i=k:=by simp_all
    subst hi;obtain⟨l,f⟩:=(a0b f).elim id fun h=>by grind
    simp at l;obtain⟨H,q⟩:=l;cases hr:Γ.aggV (i+1) v r with
    |none=>simp_all
    |some vs'=>
     rw[hr]at f;cases f;have d:=h.opd (hops (i,o) (by simp));have t:=s0i h d q;cases zs with
     |nil=>grind[Ty.cells]
     |cons z0 zs=>
      have b:zs.length=v.cells:=by grind[Ty.cells]
      simp[c0c]at hzr;obtain⟨us,z,A,C,D⟩:=m0b h v (i+1) r vs' hr (fun p hp=>hops p (by grind)) (fun j c=>by
       have:=hpl (j+1) (by grind)
       rwa [show i+(j+1)=i+1+j from by omega]at this) (pre++[a.eval o]) zs (by grind) b (by
       grind)
      refine⟨a.eval o::us,by simp_all,by simp_all,?_,fun j y c=>?_⟩;rw[a07];have s:=hpl 0 (by grind);simp_all[x0c]
      grind
   simp_all
 |.unit,_,_::_,_,hv,_,_,_,_,_,_,_=>by simp[AE.aggV]at hv
 |.int _,_,_,_,hv,_,_,_,_,_,_,_=>by simp[AE.aggV]at hv
 |.bool,_,_,_,hv,_,_,_,_,_,_,_=>by simp[AE.aggV]at hv
 |.str,_,_,_,hv,_,_,_,_,_,_,_=>by simp[AE.aggV]at hv
 |.list _ _,_,_,_,hv,_,_,_,_,_,_,_=>by simp[AE.aggV]at hv
 |.arr _ _,_,_,_,hv,_,_,_,_,_,_,_=>by simp[AE.aggV]at hv
theorem r0z:∀(τ:Ty)(k:Nat)(ps:List (Nat×Operand)) (vs:List AV),Γ.aggV k τ ps=some vs→vs.length=τ.cells∧
  ∀{P:Program} fs,a0g P τ (.inr (fs,k))=true→fs.length=vs.length∧∀(j:Nat) f,fs[j]?=some f→f.offset=k+j∧∃τ',a0g P τ' (.inl f.type)=true∧τ'.cells=1
 |.unit,k,[],vs,hv=>by
  simp only[AE.aggV,sj]at hv;subst hv;exact⟨rfl,fun fs h=>by
   cases fs with
   |nil=>simp
   |cons f r=>simp[a0g]at h⟩
 |.pair u v,k,ps,vs,hv=>by
  have d:∀x b g,u.cells=1→Γ.aggV (k+1) v b=some g→vs=x::g→vs.length=(Ty.pair u v).cells∧
    ∀{P:Program} fs,a0g P (.pair u v) (.inr (fs,k))=true→fs.length=vs.length∧∀(j:Nat) f,fs[j]?=some f→f.offset=k+j∧∃τ',a0g P τ' (.inl f.type)=true∧τ'.cells=1:=fun x b g s c e=>by
   subst e;obtain⟨n,q⟩:=r0z v (k+1) b g c;refine⟨by grind[Ty.cells],fun fs h=>?_⟩;cases fs with
   |nil=>simp[a0g]at h
   |cons f fs=>
    simp[a0g]at h
    grind
  have zero:((f0r u).bind fun x=>(Γ.aggV (k+1) v ps).map (x::·))=some vs→vs.length=(Ty.pair u v).cells∧
    ∀{P:Program} fs,a0g P (.pair u v) (.inr (fs,k))=true→fs.length=vs.length∧∀(j:Nat) f,fs[j]?=some f→f.offset=k+j∧∃τ',a0g P τ' (.inl f.type)=true∧τ'.cells=1:=fun l=>by
   cases hx:f0r u with
   |none=>simp_all
   |some x=>
    rw[hx]at l;cases c:Γ.aggV (k+1) v ps with
    |none=>simp_all
    |some g=>
     rw[c]at l;cases l;exact d x ps g (by cases u<;>first|(cases hx;done)|rfl) c rfl
  cases ps with
  |nil=>exact zero hv
  |cons p r=>
   obtain⟨i,o⟩:=p;simp[AE.aggV]at hv;rcases a0b hv with⟨-,a⟩|⟨-,a⟩
   ·obtain⟨m,a⟩:=(a0b a).elim id fun h=>by grind
    simp at m;cases c:Γ.aggV (k+1) v r with
    |none=>simp_all
    |some g=>
     grind
   grind
 |.unit,_,_::_,_,hv=>by simp[AE.aggV]at hv
 |.int _,_,_,_,hv=>by simp[AE.aggV]at hv
 |.bool,_,_,_,hv=>by simp[AE.aggV]at hv
 |.str,_,_,_,hv=>by simp[AE.aggV]at hv
 |.list _ _,_,_,_,hv=>by simp[AE.aggV]at hv
 |.arr _ _,_,_,_,hv=>by simp[AE.aggV]at hv
theorem r0j{o:Oper}{t:TypeId}{ps:Array (Nat×Operand)}{d:Nat}{cx:Cx}{q:Bool}{K:AE→Rs ρ}{z:ρ}{τ:Ty}(E:CxTy P cx)(J:o.op=.build t ps)(hd:o.dst=some d)(hO:cx.O d=some τ)(H:cx.nlT d t=none)
  (h:Rel B Γ N (a0f a) w σ)(hN:a.tmps.size=N)(hf:fits N o=true)(C:aop cx q o Γ K=some z):a0i P B N o a w K z:=by
 have c:∀y∈(o.op.operands.toList),b0e N y=true:=a0s hf;rw[J]at c;have r:∀y∈ps.toList,b0e N y.2=true:=fun y hy=>c y.2 (by
  simp only[Op.operands]
  grind)
 simp only[aop,J,hd,hO,H]at C
 ·split at C
  ·rename_i hT
   split at C
   ·rename_i R g;obtain⟨m,Q⟩:=(a0b C).elim id fun h=>by grind
    have m:0<τ.cells:=by simp_all
    have hty:a0g P τ (.inl t)=true:=by rw[←c0p];exact(E.T t _ hT).2
    obtain⟨h0,Y⟩:=r0z τ 0 ps.toList R g;cases τ with
    |pair u v=>
     obtain⟨I⟩:=a0k (a0p hty);obtain⟨fs,hu,S⟩:=i0a (f:=0) hty rfl;obtain⟨g5,Z⟩:=Y _ S;obtain⟨l,h1,h2,h3⟩:=k0f (P:=P) (w:=w) fs.toList (g0t _ _ _ S);have hm:(fs.mapM fun f=>do pure (f.offset,←sizeOf f.type):Sem (Array (Nat×Nat))).run P w=.ok l.toArray w:=by
      simp_all[a37]
     have L:∀j,j<(Ty.pair u v).cells→(fun i=>l.toArray[i]?) (0+j)=some (0+j,1):=fun j hj=>by
      have F:j<fs.toList.length:=by omega
      have s:=lG F;obtain⟨i,hi,hl⟩:=h3 j _ s;obtain⟨U,τ',V,W⟩:=Z j _ s;obtain⟨D⟩:=a0k (a0p V);have X:i=D.i:=by have:=hi.symm.trans D.info;simp_all
      simp
      rw[hl,U,X,D.size,W,a11]
     obtain⟨us,k1,-,b,k4⟩:=m0b h (Ty.pair u v) 0 ps.toList R g r L [] I.z.cells.toList rfl (by simpa using I.zsize) (by simpa using I.zok);simp at b;have M:(ps.map fun(i,x)=>(i,a.eval x)).toList=ps.toList.map fun p=>(p.1,a.eval p.2):=by simp
     have A:(execOp a.eval o).run P w=.ok (.value (.agg us.toArray)) w:=by
      simp only[execOp,J,Instr.build,Sem.run_bind,I.zeroValue,Result.andThen_ok,run_underlying hu,hm,M,b]
      simp
     refine⟨_,w,_,σ,.inl A,?_,Q⟩;rw[hd];refine h.putd hN (fun _=>⟨_,⟨by simp_all,rfl,fun k x hx=>?_⟩,fun k av hk=>?_⟩);rw[a15]at hx;have G:k<R.length:=by
      grind
     obtain⟨u',q1,q2,-⟩:=k4 k _ (lG G);simp_all
     grind
    |unit=>simp[Ty.cells]at m
    |int k=>simp[AE.aggV]at g
    |bool=>simp[AE.aggV]at g
    |str=>simp[AE.aggV]at g
    |list o' e=>simp[AE.aggV]at g
    |arr n e=>simp[AE.aggV]at g
    |nl e=>simp[AE.aggV]at g
   simp_all
  simp_all
end
theorem i0i{o:Nat}{os R}(h:a0d (fun i=>dec m e fun j=>m b (o+(i*e.cells+j))) n 0=some (l,os,R)):
  ∃cs:List Value,cs.length=n*e.cells∧(∀j u,cs[j]?=some u→m b (o+j)=some u)∧(∀u∈cs,b0j u=true)∧a0d (fun i=>dec m e fun j=>cs[i*e.cells+j]?) n 0=some (l,os,R):=by
 have k:dec m (.arr n e) (fun j=>m b (o+j))=some (l,os,R):=h;have d:∀j,j<n*e.cells→∃u,m b (o+j)=some u∧b0j u=true:=e0c (.arr n e) k
 let cs:List Value:=(List.range (n*e.cells)).map fun j=>(m b (o+j)).getD undef
 have f:∀j,j<n*e.cells→cs[j]?=m b (o+j):=fun j a=>by
  grind
 have g:cs.length=n*e.cells:=by grind
 refine⟨cs,g,fun j u c=>?_,fun u c=>?_,?_⟩
 grind
 grind
 exact a0j (.arr n e) k (rd':=fun j=>cs[j]?) (fun j a=>f j a) (fun _ _ _=>rfl)
theorem q0a{o:Bool}(t:e.sh=e){O R}(h:dec m (.list o e) ((Src.one v).rd m)=some (l,O,R)):
  (v=.slice none 0 0∧l=[])∨∃a n c g,v=.slice (some a) n c∧(c=0∨a.spot=none)∧n≤c∧n=l.length∧a0d (fun i=>dec m e fun j=>m a.block (a.off+(i*e.cells+j))) n 0=some (l,[],g)∧
   (∀x∈g,x∈R)∧(o=false→0<n→a.block∈R):=by
 have h:a0x m o e.cells (dec m e) (some v)=some (l,O,R):=h;unfold a0x at h
 split at h
 simp_all;rename_i a n c hv;simp at hv
 split at h
 rename_i s
 split at h
 grind
 rename_i xs os g b;have f:os=[]:=by
  have d:dec m (.arr n e) (fun j=>m a.block (a.off+j))=some (xs,os,g):=b;exact g0n (by simp_all[Ty.shn]) d
 subst f;have k:xs=l∧(∀x∈g,x∈R)∧(o=false→0<n→a.block∈R):=by
  split at h
  grind
  split at h
  rename_i p;subst p;simp[a0d]at b;simp_all
  grind
 obtain⟨rfl,q,r⟩:=k
 grind[a0v]
 simp_all;simp_all
def g0d(w:World)(m:Mem)(Sh:Nat→Prop)(e:Ty)(l:List e.den)(v:Value):Prop:=
 ∃A n c,∃cs:List Value,v=.slice A n c∧n=l.length∧cs.length=n*e.cells∧(∀u∈cs,b0j u=true)∧(∃R,a0d (fun i=>dec m e fun j=>cs[i*e.cells+j]?) n 0=some (l,[],R)∧∀c∈R,Sh c)∧
  (∀b,A=some b→∀j u,cs[j]?=some u→w.cell? (b.add j)=some u)∧(A=none→n=0)∧(∀b,A=some b→n=0∨b.spot=none)
theorem g0d.nil{w m Sh e}{A:Option Addr}{c:Nat}:g0d w m Sh e [] (.slice A 0 c):=
 ⟨A,0,c,[],rfl,rfl,by simp,by simp,⟨[],rfl,by simp⟩,by simp,fun _=>rfl,fun _ _=>.inl rfl⟩
section
variable {P:Program} {B:Base} {N:Nat} {ρ:Type} {Γ:AE} {a:Act} {w:World} {σ:Gh}
theorem Rel.ov_none{tm}(h:Rel B Γ N tm w σ)(hp:Γ.pd=none):σ.ov=none:=by
 have:=h.pend
 rw[hp]at this;cases hov:σ.ov with
 |none=>rfl
 |some x=>rw[hov]at this;exact this.elim
theorem Rel.memo_shr{tm}(h:Rel B Γ N tm w σ){c j:Nat}(a:Shr B w σ c):a0a w σ.ov c j=w.cell? ⟨c,j,none⟩:=by
 unfold a0a;split
 ·rename_i b o v g;have hp:=h.pend;rw[g]at hp;cases hpd:Γ.pd with
  |none=>rw[hpd]at hp;exact hp.elim
  |some x=>
   obtain⟨n,p,d⟩:=x;rw[hpd]at hp;obtain⟨r,e,i,f⟩:=hp;rw[←g]at f;have k:=h.place i f;rw[if_neg]
   rintro⟨rfl,-⟩
   exact a.2.2 ⟨n,k⟩
 rfl
theorem i0z{A:Addr}(h:A.spot=none)(j:Nat):w.cell? (A.add j)=w.cell? ⟨A.block,A.off+j,none⟩:=by rw[c0u h]
theorem Rel.elems{tm}{e:Ty}(he:e.sh=e)(h:Rel B Γ N tm w σ){av v}{K:List e.den→Rs ρ}{z:ρ}(m:a0e (a0a w σ.ov) σ.g Γ.rt (Shr B w σ) av v)(a:Γ.elems e av K=some z):
  ∃l,K l=some z∧g0d w (a0a w σ.ov) (Shr B w σ) e l v:=by
 unfold AE.elems at a
 split at a
 rename_i t' x
 split at a
 rename_i ht;subst ht;refine⟨_,a,?_⟩;obtain⟨R,h1,h2⟩:=VOk.rd (t:=.list false t') m rfl rfl;rcases q0a he h1 with⟨rfl,h3⟩|⟨A,n,c,V,rfl,Z,g2,P,G,Q,g6⟩;simp_all[g0d.nil];obtain⟨cs,F,U,J,L⟩:=i0i G;refine⟨some A,n,c,cs,rfl,P,F,J,⟨V,L,fun b f=>h2 b (Q b f)⟩,fun b f j u I=>?_,by simp,fun b f=>by grind⟩;simp at f;subst f;have H:0<n:=by
  grind
 rw[i0z (Z.resolve_left (by omega)),←h.memo_shr (h2 _ (g6 rfl H))];simp_all;simp_all;refine⟨[],a,?_⟩;have m:v=.slice none 0 0:=m;rw[m];exact g0d.nil;refine⟨[],a,?_⟩;obtain⟨A,hv⟩:=m;rw[hv];exact g0d.nil;rename_i n p
 split at a
 rename_i r E;obtain⟨D,E⟩:=a0o E
 split at a
 rename_i d l hg
 split at a
 rename_i y;subst y;obtain⟨s,O',R',Z,g2,P,G,Q,g6⟩:=h.slice m E hg;refine⟨l,a,?_⟩;have C:=h.ov_none D;rcases q0a he G with⟨rfl,h3⟩|⟨A,n,c,V,rfl,W,f2,X,O,Y,-⟩;rw[h3];exact g0d.nil;obtain⟨cs,F,U,J,L⟩:=i0i O;refine⟨some A,n,c,cs,rfl,X,F,J,⟨V,L,fun b f=>Q b (Y b f)⟩,fun b f j u I=>?_,by simp,fun b f=>by grind⟩;simp at f;subst f;have H:0<n:=by
  grind
 rw[i0z (W.resolve_left (by omega))]
 have:=U j u I
 rw[C]at this;exact this;simp_all;simp_all;simp_all
 ·rename_i n p o k
  split at a
  ·rename_i r E;obtain⟨D,E⟩:=a0o E
   split at a
   ·rename_i d l hg
    split at a
    ·rename_i y;subst y;obtain⟨s,O',R',A0,n0,c,Z,g2,P,G,Q,g6,a',rfl,g7,S⟩:=h.window m E hg;refine⟨_,a,?_⟩;show g0d _ _ _ _ (a38 k (a59 o l)) _;have C:=h.ov_none D;rcases q0a he P with⟨hv,h3⟩|⟨A,n,c',V,hv,W,f2,X,O,Y,-⟩;simp_all[g0d.nil]
     ·simp at hv;obtain⟨rfl,rfl,rfl⟩:=hv;rw[show n0=o+(k+(n0-o-k))from by omega]at O;obtain⟨h7,g0,h8,g9,j1,j2,e1,rfl⟩:=d0l o _ 0 O;obtain⟨h5,M,h9,k0,j3,j4,rfl,rfl⟩:=d0l k _ (0+o) j2;have h4:h5=[]:=by
       simp_all
      subst h4;have T:∀(q i:Nat),a0d (fun i=>dec (a0a w σ.ov) d fun j=>a0a w σ.ov A.block (A.off+o*d.cells+(i*d.cells+j))) q i=a0d (fun i=>dec (a0a w σ.ov) d fun j=>a0a w σ.ov A.block (A.off+(i*d.cells+j))) q (o+i):=by
       intro q
       induction q with
       |zero=>intro i;rfl
       |succ q ih=>
        intro i;have hf:(fun j=>a0a w σ.ov A.block (A.off+o*d.cells+(i*d.cells+j)))=fun j=>a0a w σ.ov A.block (A.off+((o+i)*d.cells+j)):=by
         funext j
         grind
        simp[a0d];rw[ih (i+1),hf,show o+(i+1)=o+i+1 from by rfl]
      have hc:a0d (fun i=>dec (a0a w σ.ov) d fun j=>a0a w σ.ov A.block (A.off+o*d.cells+(i*d.cells+j))) k 0=some (a38 k (a59 o l),[],M):=by
       grind
      obtain⟨cs,F,U,J,L⟩:=i0i hc;refine⟨a',k,c-o,cs,rfl,?_,F,J,⟨M,L,fun b f=>G b (Y b (by grind))⟩,fun b f j u I=>?_,fun hn=>?_,fun b f=>(g7 b f).imp (fun e=>by omega) id⟩;have e0:n0=l.length:=X;have e1:(a38 k (a59 o l)).length=min k (l.length-o):=List.length_take.trans (congrArg (min k) List.length_drop);omega;have h0:=(lS.1 I).1;rw[F]at h0;have h6:0<k:=Nat.pos_of_ne_zero fun e0=>by grind
      rcases S with S|S;omega;rw[S]at f;simp at f;rw[←f,c0u (W.resolve_left (by omega)),i0z rfl]
      have:=U j u I
      rw[C]at this;exact this
      grind
    simp_all
   simp_all
  simp_all
 simp_all
theorem h0a{w:World}{c:Nat}{cs:List Value}(hv:v=.slice A n c)(i:∀x,w2.cell? x=w.cell? x)(h:cs.length=n*e.cells)(g:∀b,A=some b→∀j u,cs[j]?=some u→w.cell? (b.add j)=some u)(a:A=none→n=0)(k:Nat)(f:k≤n):
  (Builtin.firstCells e.cells k v).run P w2=.ok (cs.take (k*e.cells)).toArray w2:=by
 subst hv;cases A with
 |none=>
  have:k=0:=by simp_all
  simp_all[Builtin.firstCells]
 |some b=>
  refine run_firstCells_some w2 e.cells k b n c _ ?_ fun j u d=>?_
  simp_all
  grind
end
theorem y0z(h:a0g P τ (.inl t)=true):∃d,P.underlying t=some d:=by
 cases hu:P.underlying t with
 |some d=>simp
 |none=>cases τ<;>simp[a0g,hu]at h
theorem g0u(h:a0g P (.int k) (.inl t)=true):P.underlying t=some (.int k):=by
 simp[a0g]at h
 grind
theorem j0q(h:a0g P .str (.inl t)=true):P.underlying t=some .string:=by
 simp[a0g]at h
 grind
theorem l0k{m:Mem}{k:IntKind}:∀(l:List Int)(n i:Nat){cs:List Value}{R},cs.length=i+n→a0d (fun i=>dec m (.int k) fun j=>cs[i*1+j]?) n i=some (l,[],R)→cs.drop i=l.map (Value.int k)
 |l,0,i,cs,R,hl,h=>by
  have p:[]=l:=congrArg (·.1) (Option.some.inj h);simp_all
 |l,n+1,i,cs,R,hl,h=>by
  simp only[a0d]at h
  split at h
  grind
  rename_i x o r g
  split at h
  grind
  rename_i xs os s c;have hi:i<cs.length:=by omega
  simp[dec,lG hi]at g
  split at g
  rename_i k' e hv
  split at g
  rename_i d;subst d;have b:e=x:=congrArg (·.1) (Option.some.inj g);have f:x::xs=l:=congrArg (·.1) (Option.some.inj h);have q:o=[]:=by
   simp_all
  have a:os=[]:=by
   grind
  subst a;rw[a25 hi,l0k xs n (i+1) (by omega) c,←f];simp at hv;rw[hv,b];rfl;simp_all;simp_all
section
variable {P:Program} {B:Base} {N:Nat} {ρ:Type} {Γ:AE} {a:Act} {w:World} {σ:Gh}
theorem v0z(ns:List Int):∀(s:ByteArray),((ns.foldl (fun r n=>r.push (UInt8.ofNat n.toNat)) s).data.toList.map fun b=>(b.toNat:Int))=(s.data.toList.map fun b=>(b.toNat:Int))++b2s ns:=by
 induction ns with
 |nil=>intro s;simp[b2s]
 |cons n ns ih=>
  simp_all[b2s]
theorem k0d(w:World)(a:Addr)(c:Nat):(w.freeze a 1).heap[c]?=if c=a.block then(w.heap[c]?).map (fun|.cells cs elem (lo,hi)=>.cells cs elem (if lo==hi then(a.off,a.off+1)else(min lo a.off,max hi (a.off+1)))|o=>o)else w.heap[c]?:=by
 unfold World.freeze
 grind
theorem t0j(w:World)(a p:Addr):(w.freeze a 1).cell? p=w.cell? p:=by
 unfold World.cell?;rw[k0d]
 grind
theorem k0g(w:World)(a:Addr)(ov):a0a (w.freeze a 1) ov=a0a w ov:=by
 funext b o;simp_all[t0j,a0a]
theorem Rel.frozen{Γ:AE}{w:World}{σ:Gh}(h:Rel B Γ N tm w σ)(i:a0r σ b){cs:Array Value}{el:TypeId}{lo hi:Nat}(r:w.heap[b]?=some (.cells cs el (lo,hi))):
  Rel B Γ N tm (w.freeze { block:=b,off:=cs.size } 1) σ:=by
 have f:(w.freeze { block:=b,off:=cs.size } 1).heap.size=w.heap.size:=by
  simp_all[World.freeze]
 refine h.mem (fun c j _=>by rw[k0g]) (fun n p hp=>?_) (a41 f.symm) (fun c a k=>?_);obtain⟨c,e,l,d,m,o,q⟩:=h.live n p hp;unfold a0w;rw[k0d]
 grind
 ·rw[k0d,if_neg (fun e=>?_)];exact h.frame c a k
  ·rcases h.mine b i with g|g
   all_goals grind
theorem s0d{o:Oper}{t t2:TypeId}{x:Operand}{d:Nat}{cx:Cx}{q:Bool}{K:AE→Rs ρ}{z:ρ}(f:CxTy P cx)(ho:o.op=.convert t t2 x)(hd:o.dst=some d)
  (h:Rel B Γ N (a0f a) w σ)(W:a.tmps.size=N)(hf:fits N o=true)(g:aop cx q o Γ K=some z):a0i P B N o a w K z:=by
 have I:=h.opd (a0s hf x (by simp[ho,Op.operands]));simp[aop,ho,hd]at g;have p:∀v w',(convert t t2 (a.eval x)).run P w=.ok v w'→(execOp a.eval o).run P w=.ok (.value v) w':=fun v w' hv=>by simp[execOp,ho,hv]
 unfold AE.conv AE.convK at g
 split at g
 rename_i τ k k' n J m H;rw[H]at I;have hv:=a0e.int I;obtain⟨u,O⟩:=y0z (f.T _ _ J).2;have C:=g0u (f.T _ _ m).2;refine a0i.set hd W (p (.int k (k.wrap n)) w ?_) h (a0e.mk_int _) g;rw[hv];simp[convert,run_underlying O,run_underlying C,Conv.intToInt]
 ·rename_i o' l J m H
  suffices main:∀l:List Int,Γ.opd x=.val .str l→(bif lim (a13 l)then Γ.fresh q d ⟨false,.list true (.int .u8),l⟩ fun Γ=>K (Γ.set d (.sref d []))else none)=some z→a0i P B N o a w K z from main l H g
  clear H g;intro l H g;rw[H]at I;obtain⟨s,hv,hl⟩:=a0e.str I;have O:=j0q (f.T _ _ J).2;obtain⟨Z,h6⟩:=f.T _ _ m;obtain⟨e,C,F,-⟩:=b0l h6;have G:=g0u F;rcases a0b g with⟨-,g⟩|⟨-,g⟩
  ·have hr:=run_bytes_of_string (P:=P) w t t2 e s O C G;rw[←hv]at hr;have hg:=grownCap_ge w s.size 0 e;have E:(bytesRow s (grownCap w s.size 0 e)).size=grownCap w s.size 0 e:=by
    have:s.data.size=s.size:=rfl
    simp_all[bytesRow]
   have g0:a13 l=s.size:=by simp_all
   have X:@List.length (Ty.int .u8).den l=s.size:=g0;have y:a0d (fun i=>dec (a0a w σ.ov) (.int .u8) fun j=>(bytesRow s (grownCap w s.size 0 e))[i*(Ty.int .u8).cells+j]?) (a13 l) 0=some (l,[],[]):=by
    have key:∀(n i:Nat)(l':List Int),l'=l.drop i→l'.length=n→i+n=s.size→a0d (fun i=>dec (a0a w σ.ov) (.int .u8) fun j=>(bytesRow s (grownCap w s.size 0 e))[i*(Ty.int .u8).cells+j]?) n i=some (l',[],[]):=by
     intro n
     induction n with
     |zero=>intro i l' _ h2 _;rw[a02.1 h2];rfl
     |succ n ih=>
      intro i l' h1 h2 h3;have hi:i<s.data.toList.length:=by
       grind
      have g8:i<(List.map (fun b:UInt8=>(b.toNat:Int)) s.data.toList).length:=by simp_all
      have Q:(bytesRow s (grownCap w s.size 0 e))[i]?=some (.int .u8 ((s.data.toList[i]).toNat:Int)):=by
       simp_all[bytesRow,Array.getElem?_append_left]
      have h9:l'=((s.data.toList[i]).toNat:Int)::l.drop (i+1):=by
       simp_all[a25]
      subst h9;have h4:=ih (i+1) (l.drop (i+1)) rfl (by grind) (by omega);simp only[a0d];rw[h4];simp only[dec,Ty.cells,Nat.mul_one,a49,Q,if_true];rfl
    grind
   obtain⟨Γ',σ',g1,g2,g3,-,-⟩:=h.newSlice (c:=grownCap w s.size 0 e) g (w':=w.drew.alloc (.cells (bytesRow s (grownCap w s.size 0 e)) e ((bytesRow s (grownCap w s.size 0 e)).size,(bytesRow s (grownCap w s.size 0 e)).size+1)))
    (fun c hc=>b0m (w:=w.drew) _ c hc) (b0s (w:=w.drew) _) (b0i (w:=w.drew) _) (.inr (by simp[E,Ty.cells])) (by simp[E,Ty.cells]) (a23 (a41 X) hg) y (by simp)
   grind[a0i.set]
  simp_all
 rename_i l J m H;rw[H]at I;obtain⟨s,hv,hl⟩:=a0e.str I;have O:=j0q (f.T _ _ J).2;have C:=j0q (f.T _ _ m).2;refine a0i.set hd W (p (.string s) w ?_) h (hl▸a0e.mk_str s) g;simp_all[convert,run_underlying];rename_i o1 o2 n J m H
 split at g
 rename_i g6;subst g6
 split at g
 rename_i l hl;obtain⟨M,g⟩:=(a0b g).elim id fun h=>by grind
 have M:0<a13 l:=by simp_all
 obtain⟨k4,hr⟩:=a0o hl;rw[H]at I;obtain⟨Z,hty⟩:=f.T _ _ J;obtain⟨e,O,F,-⟩:=b0l hty;have G:=g0u F;obtain⟨s,O',R',f1,f2,f3,f4,f5,f6⟩:=h.slice I hr (show b0c (.list true (.int .u8)) l []=⟨.list true (.int .u8),l⟩from rfl);obtain⟨b,n1,V,h7,hb,k0,g7,L⟩:∃(b:Addr)(n1 V:Nat),a.eval x=.slice (some b) n1 V∧b.spot=none∧n1≤V∧V≠0∧b.block∈(σ.ow n).map (·.1):=by
  rcases b0r f4 with⟨hs,g9,-,-⟩|⟨b,n1,V,os,hs,hA,hn,y,ho⟩;simp_all;simp[Src.rd]at hs
  grind[a0v]
 have Y:a0r σ b.block:=⟨n,L⟩;obtain⟨p0,g4,g5⟩:=a08.1 L;obtain⟨cs,el,lo,hi,D,-,-⟩:=h.live n p0 g4;rw[g5]at D;have U:(convert t t (a.eval x)).run P w=.ok (a.eval x) (w.freeze { block:=b.block,off:=cs.size } 1):=by
  have h5:w.shape? b.block=some (el,cs.size):=by simp_all[World.shape?]
  rw[h7];simp[convert,run_underlying O,run_underlying G,markStringish,h5]
 exact a0i.set hd W (p _ _ U) (h.frozen Y D) (av:=.sref n []) (by
  obtain⟨r,e',s',k1,k2,k3⟩:=I;exact⟨r,e',s',k1,by simp_all[k0g],by simp_all[k0g]⟩) g
 simp_all;simp_all
 ·rename_i o' J m;obtain⟨Z,hty⟩:=f.T _ _ J;obtain⟨e,O,F,-⟩:=b0l hty;have G:=g0u F;have C:=j0q (f.T _ _ m).2;obtain⟨l,g,A,n,c,cs,hv,hn,M,-,⟨R,y,-⟩,hc,hnil,-⟩:=h.elems rfl I g;have S:cs.length=n:=by simp_all[Ty.cells]
  have h8:cs=l.map (Value.int .u8):=by
   have:=l0k (k:=.u8) l n 0 (cs:=cs) (by omega) y
   grind
  cases A with
  |none=>
   have h0:l=[]:=by
    grind
   refine a0i.set hd W (p (.string .empty) w ?_) h (av:=.val .str (b2s l)) (by rw[h0];exact a0e.mk_str .empty) g;simp_all[run_convert_bytes_string,Conv.bytesToString]
  |some b=>
   refine a0i.set hd W (p (.string (l.foldl (fun r n=>r.push (UInt8.ofNat n.toNat)) ByteArray.empty)) w ?_) h (av:=.val .str (b2s l)) ?_ g;rw[hv,run_convert_bytes_string w t t2 e _ n c O G C];refine run_bytesToString w b n c l ?_
   rw[←h8,←S];exact run_loadCells_list w b cs (hc b rfl)
   have:=v0z l ByteArray.empty
   have e1:b2s l=((l.foldl (fun r n=>r.push (UInt8.ofNat n.toNat)) ByteArray.empty).data.toList.map fun b=>(b.toNat:Int)):=by
    exact(this.trans (a43 _)).symm
   simp_all[a0e.mk_str]
 simp_all
theorem i0w{b:Builtin}(g:o.op=.call c)(h:c.callee=.builtin b):
  ∃cs,(execOp a.eval o).run P w=(builtin b c.argTypes o.type cs (c.args.map a.eval)).run P w:=by
 exact⟨_,by simp[execOp,g,resolve,h,invoke];rfl⟩
theorem y0m{o:Oper}{c:Call}{d:Nat}{cx:Cx}{q:Bool}{K:AE→Rs ρ}{z:ρ}(e:CxTy P cx)(s:o.op=.call c)(r:c.callee=.builtin .len)(hd:o.dst=some d)
  (h:Rel B Γ N (a0f a) w σ)(u:a.tmps.size=N)(hf:fits N o=true)(g:aop cx q o Γ K=some z):a0i P B N o a w K z:=by
 obtain⟨cs,k⟩:=i0w (P:=P) (a:=a) (w:=w) s r;have f:=a0s hf;have i:∃x,c.args.toList=[x]:=by
  cases i:c.args.toList with
  |nil=>simp_all[aop,AE.blt]
  |cons x l=>
   cases l with
   |nil=>simp
   |cons y l=>simp_all[aop,AE.blt]
 obtain⟨x,v⟩:=i;have b:c.args=#[x]:=by grind
 have p:b0e N x=true:=f x (by simp_all[Op.operands,Call.operands]);simp[aop,s,hd,r,v,AE.blt]at g;cases ht:c.argTypes.toList.head? with
  |none=>
   simp_all[AE.lenK]
  |some t=>
   rw[ht]at g;simp at g;obtain⟨n,g,A⟩:=x0m e h p g o.type;have m:c.argTypes[0]?=some t:=by
    rw[←a09];cases i:c.argTypes.toList with
    |nil=>simp_all
    |cons y l=>simp_all
   refine a0i.set hd u (k.trans ?_) h (a0e.mk_int _) g;have j:Builtin.len_ c.argTypes o.type #[a.eval x]=Builtin.len_ #[t] o.type #[a.eval x]:=by
    simp[Builtin.len_,m]
   simp_all[builtin]
theorem y0l{o:Oper}{c:Call}{d:Nat}{cx:Cx}{q:Bool}{K:AE→Rs ρ}{z:ρ}(u:CxTy P cx)(n:o.op=.call c)(m:c.callee=.builtin .cap)(hd:o.dst=some d)
  (h:Rel B Γ N (a0f a) w σ)(C:a.tmps.size=N)(hf:fits N o=true)(k:aop cx q o Γ K=some z):a0i P B N o a w K z:=by
 obtain⟨cs,s⟩:=i0w (P:=P) (a:=a) (w:=w) n m;have r:=a0s hf;have i:∃x,c.args.toList=[x]∧Γ.opd x=.nils:=by
  cases i:c.args.toList with
  |nil=>simp only[aop,n,hd,m,i,a42,AE.blt]at k;cases k
  |cons x l=>
   cases l with
   |nil=>
    refine⟨x,rfl,?_⟩;cases p:Γ.opd x<;>first|rfl|(simp only[aop,n,hd,m,i,a07,a42,AE.blt,p]at k;cases k)
   |cons y l=>
    simp only[aop,n,hd,m,i,a07,AE.blt]at k;cases p:Γ.opd x<;>(rw[p]at k;cases k)
 obtain⟨x,p,j⟩:=i;have f:c.args=#[x]:=by rw[←Array.toList_inj];simpa using p
 have A:b0e N x=true:=r x (by simp[n,Op.operands,m,f,Call.operands]);simp only[aop,n,hd,m,p,a07,a42,AE.blt,j]at k;have hv:=h.opd A;rw[j]at hv;obtain hv:a.eval x=.slice none 0 0:=hv;rcases a0b k with⟨b,k⟩|⟨-,g⟩
 ·cases ht:c.argTypes.toList.head? with
  |none=>rw[ht]at b;cases b
  |some t=>
   rw[ht]at b;simp only[oB]at b;cases hc:cx.T t with
   |none=>rw[hc]at b;cases b
   |some τ=>
    rw[hc]at b;cases τ with
    |list o e=>
     obtain⟨D,hty⟩:=u.T t _ hc;obtain⟨G,F,E,-⟩:=b0l hty;have v:c.argTypes[0]?=some t:=by
      rw[←a09];cases i:c.argTypes.toList with
      |nil=>rw[i]at ht;cases ht
      |cons y l=>rw[i]at ht;simpa using ht
     exact a0i.set hd C (s.trans (by simp[builtin,f,hv,Builtin.cap_,v,run_underlying F,goInt])) h (a0e.mk_int _) k
    |_=>cases b
 cases g
theorem j0w{b:Builtin}(g:o.op=.call c)(h:c.callee=.builtin b)(hf:fits N o=true):∀y∈c.args.toList,b0e N y=true:=fun y f=>
 a0s hf y (by simp_all[Op.operands,Call.operands])
theorem y0n{o:Oper}{c:Call}{d:Nat}{cx:Cx}{q:Bool}{K:AE→Rs ρ}{z:ρ}(p:o.op=.call c)(m:c.callee=.builtin .max)(hd:o.dst=some d)
  (h:Rel B Γ N (a0f a) w σ)(v:a.tmps.size=N)(hf:fits N o=true)(e:aop cx q o Γ K=some z):a0i P B N o a w K z:=by
 obtain⟨cs,i⟩:=i0w (P:=P) (a:=a) (w:=w) p m;have b:=j0w p m hf;cases hl:c.args.toList with
 |nil=>simp_all[aop,AE.blt]
 |cons x l=>
  simp[aop,p,hd,m,hl,AE.blt]at e
  split at e
  all_goals first|(rename_i j;cases j;done)|(rename_i j _;cases j;done)|(cases e;done)|skip
  rename_i k n r j u;have s:=h.opd (b x (by simp_all));obtain⟨t,rfl⟩:=List.cons.inj u;rw[t]at s;obtain⟨r,e,C⟩:=m0o (P:=P) (f:=v0r) (g:=Builtin.max2) (k:=k) (fun x y w=>by simp[Builtin.max2,v0r]) l n h (fun y D=>b y (by simp_all)) e;refine a0i.set hd v (i.trans ?_) h (a0e.mk_int _) e;have A:(c.args.map a.eval).toList=a.eval x::l.map a.eval:=by simp_all
  simp only[builtin,Builtin.max_,A,a0e.int s,Sem.run_bind];simp_all
theorem y0o{o:Oper}{c:Call}{d:Nat}{cx:Cx}{q:Bool}{K:AE→Rs ρ}{z:ρ}(p:o.op=.call c)(m:c.callee=.builtin .min)(hd:o.dst=some d)
  (h:Rel B Γ N (a0f a) w σ)(v:a.tmps.size=N)(hf:fits N o=true)(e:aop cx q o Γ K=some z):a0i P B N o a w K z:=by
 obtain⟨cs,i⟩:=i0w (P:=P) (a:=a) (w:=w) p m;have b:=j0w p m hf;cases hl:c.args.toList with
 |nil=>simp_all[aop,AE.blt]
 |cons x l=>
  simp[aop,p,hd,m,hl,AE.blt]at e
  split at e
  all_goals first|(rename_i j;cases j;done)|(rename_i j _;cases j;done)|(cases e;done)|skip
  rename_i k n r j u;have s:=h.opd (b x (by simp_all));obtain⟨t,rfl⟩:=List.cons.inj u;rw[t]at s;obtain⟨r,e,C⟩:=m0o (P:=P) (f:=v0s) (g:=Builtin.min2) (k:=k) (fun x y w=>by simp[Builtin.min2,v0s]) l n h (fun y D=>b y (by simp_all)) e;refine a0i.set hd v (i.trans ?_) h (a0e.mk_int _) e;have A:(c.args.map a.eval).toList=a.eval x::l.map a.eval:=by simp_all
  simp only[builtin,Builtin.min_,A,a0e.int s,Sem.run_bind];simp_all
end
open IntKind(wrap)
theorem i0f{m:Mem}:∀(p:a0n)(t:Ty)(s:Src){x O R t' b o y O' R'},dec m t (s.rd m)=some (x,O,R)→loc m t s p=some (t',.at b o)→dec m t' ((Src.at b o).rd m)=some (y,O',R')→
  (O.map (·.1)).Nodup→(∀c∈O.map (·.1),s.avoids c)→b∉O'.map (·.1)
 | [],t,s,x,O,R,t',b,o,y,O',R',h,g,hy,hn,hs=>by
  simp[a0t]at g;obtain⟨rfl,rfl⟩:=g;rw[h]at hy;simp at hy;obtain⟨-,rfl,-⟩:=hy;exact fun w=>hs b w rfl
 |.fst::p,t,s,x,O,R,t',b,o,y,O',R',h,g,hy,hn,hs=>by
  obtain⟨a,q,bl,so,rfl,rfl,g⟩:=e0n g;obtain⟨G,o1,F,H,o2,r2,r,j,rfl,rfl,rfl⟩:=c0a h;simp only[pA]at hn hs;exact i0f p a (.at bl so) r g hy (a14.1 hn).1 (fun c f=>hs c (a24 _ f))
 |.snd::p,t,s,x,O,R,t',b,o,y,O',R',h,g,hy,hn,hs=>by
  obtain⟨a,q,bl,so,rfl,rfl,g⟩:=e0o g;obtain⟨G,o1,F,H,o2,r2,r,j,rfl,rfl,rfl⟩:=c0a h;rw[d0w]at j;simp only[pA]at hn hs;exact i0f p q (.at bl (so+a.cells)) j g hy (a14.1 hn).2.1 (fun c f=>hs c (a31 _ f))
 |.idx i::p,t,s,x,O,R,t',b,o,y,O',R',h,g,hy,hn,hs=>by
  rcases d0y g with⟨n,l,bl,so,rfl,rfl,hi,g⟩|⟨l,a,n,c,rfl,k,hi,g⟩;simp[dec,d0w]at h;obtain⟨I,D,E,u,v,d,e,hf,-,rfl,rfl⟩:=a0u n 0 i h hi;simp at hf;simp only[pA]at hn hs;exact i0f p l _ hf g hy (a14.1 (a14.1 hn).2.1).1 (fun c f=>hs c (a31 _ (a24 _ f)));rcases b0r h with⟨hv,-⟩|⟨J,C,K,os,hv,L,z,B,A⟩;simp_all;rw[hv]at k;simp at k;obtain⟨rfl,rfl,rfl⟩:=k;obtain⟨I,D,E,u,v,d,e,hf,-,rfl,rfl⟩:=a0u C 0 i B hi;simp at hf;rcases A with⟨f,-⟩|⟨-,rfl⟩;omega;simp only[pA,a07,a05]at hn hs;exact i0f p l _ hf g hy (a14.1 (a14.1 hn.2).2.1).1 (fun c f=>by
   rintro rfl
   simp_all)
section
variable {P:Program} {B:Base} {N:Nat} {ρ:Type} {Γ:AE} {a:Act} {w:World} {σ:Gh}
theorem Rel.own{tm}(h:Rel B Γ N tm w σ){n p v r}(K:a0e (a0a w σ.ov) σ.g Γ.rt (Shr B w σ) (.sref n p) v)(D:Γ.rt n=some r)(L:b0c r.t r.x p=⟨.list true e,l⟩):
  ∃s f k,loc (a0a w σ.ov) r.t (σ.g n) p=some (.list true e,s)∧s.rd (a0a w σ.ov) 0=some v∧dec (a0a w σ.ov) (.list true e) (s.rd (a0a w σ.ov))=some (l,f,k)∧
   dec (a0a w σ.ov) (.list true e) ((Src.one v).rd (a0a w σ.ov))=some (l,f,k)∧(∀c∈k,Shr B w σ c)∧(∀q∈f,q∈σ.ow n)∧(f.map (·.1)).Nodup∧(∀b o,s=.at b o→b∉f.map (·.1)):=by
 obtain⟨Y,I,s,i,m,C⟩:=K;rw[D]at i;simp at i;subst i;obtain⟨H,R1,F,P,z,V,W,X⟩:=h.sep D;obtain⟨y,f,k,A,B',Q,G,d,a,R,S⟩:=b0h p r.t _ F m;rw[L]at a;have J:e=I:=by grind
 subst J;have a:=eq_of_heq (Sigma.mk.inj a).2;subst a;have E:∀q∈f,q∈H:=fun q M=>by simp_all
 refine⟨s,f,k,m,C,d,a0j _ d (fun j U=>?_) (fun _ _ _=>rfl),fun c T=>P c (by simp_all),fun q M=>?_,?_,fun b o O=>?_⟩;have u:j=0:=by simp_all[Ty.cells]
 subst u;rw[C];rfl
 grind
 have:=z.nodup
 grind
 subst O;exact i0f p r.t _ F m d z.nodup z.src
theorem k0k{l1 l2:List e.den}{cs1 cs2 rest:List Value}{n1 n2:Nat}{o1 o2 R1 R2}(a:a0d (fun i=>dec m e fun j=>cs1[i*e.cells+j]?) n1 0=some (l1,o1,R1))(g:cs1.length=n1*e.cells)(b:a0d (fun i=>dec m e fun j=>cs2[i*e.cells+j]?) n2 0=some (l2,o2,R2))(f:cs2.length=n2*e.cells):
  a0d (fun i=>dec m e fun j=>(cs1++(cs2++rest))[i*e.cells+j]?) (n1+n2) 0=some (a16 l1 l2,o1++o2,R1++R2):=by
 have a1:a0d (fun i=>dec m e fun j=>(cs1++(cs2++rest))[i*e.cells+j]?) n1 0=some (l1,o1,R1):=by
  refine a0j (.arr n1 e) (show dec m (.arr n1 e) (fun j=>cs1[j]?)=_ from a) (rd':=fun j=>(cs1++(cs2++rest))[j]?) (fun j h=>?_) (fun _ _ _=>rfl);exact a03 (by rw[g];exact h)
 have d:a0d (fun i=>dec m e fun j=>(cs1++(cs2++rest))[i*e.cells+j]?) n2 n1=some (l2,o2,R2):=by
  have c:∀(k i:Nat),i+k≤n2→a0d (fun i=>dec m e fun j=>(cs1++(cs2++rest))[i*e.cells+j]?) k (n1+i)=a0d (fun i=>dec m e fun j=>(cs2++rest)[i*e.cells+j]?) k i:=by
   intro k
   induction k with
   |zero=>intro i _;rfl
   |succ k ih=>
    intro i hi;have hf:(fun j=>(cs1++(cs2++rest))[(n1+i)*e.cells+j]?)=fun j=>(cs2++rest)[i*e.cells+j]?:=by
     grind
    grind[a0d]
  have:=c n2 0 (by omega)
  rw[a49]at this;rw[this];refine a0j (.arr n2 e) (show dec m (.arr n2 e) (fun j=>cs2[j]?)=_ from b) (rd':=fun j=>(cs2++rest)[j]?) (fun j h=>?_) (fun _ _ _=>rfl);exact a03 (by rw[f];exact h)
 have:=k0u n1 n2 0 a1 (by rw[a11];omega)
 omega
theorem t0s(g:CxTy P cx)(h:m0p cx ts.toList=true):ts[1]?=none∨∃t2,ts[1]?=some t2∧(P.underlying t2=some .string∨∃e,P.underlying t2=some (.slice e)):=by
 rw[←a09];unfold m0p at h
 split at h
 simp_all;rename_i t2 _ k;rw[k];refine .inr ⟨t2,rfl,?_⟩
 split at h
 rename_i f;obtain⟨e,a,-⟩:=b0l (g.T _ _ f).2;simp_all;rename_i f;exact .inl (j0q (g.T _ _ f).2);simp_all;simp_all
theorem e0e{ty:TypeId}(I:Info P e t')(i:ts[0]?=some t)(j:P.underlying t=some (.slice t'))(a:ts[1]?=none∨∃t2,ts[1]?=some t2∧(P.underlying t2=some .string∨∃e,P.underlying t2=some (.slice e))){c k:Nat}{new:List Value}(g:(Builtin.lenOf x).run P w=.ok k w)(f:(Builtin.firstCells e.cells k x).run P w=.ok new.toArray w)(h:n+k≤c)(m:∀b,A=some b→(storeCells (b.add (n*e.cells)) new).run P w=.ok () w2)(l:A=none→w2=w):
  (Builtin.append_ ts ty #[.slice A n c,x]).run P w=.ok (.slice A (n+k) c) w2:=by
 have key:∀A,(A=none→w2=w)→(∀b,A=some b→(storeCells (b.add (n*e.cells)) new).run P w=.ok () w2)→(Builtin.append_ ts ty #[.slice A n c,x]).run P w=.ok (.slice A (n+k) c) w2:=by
  intro A l m;cases A with
  |none=>
   have:=l rfl
   subst this;rcases a with a|⟨t2,a,d|⟨p,d⟩⟩;simp[Builtin.append_,i,a,run_underlying j,I.sizeOf,g,h,f];simp[Builtin.append_,i,a,run_underlying j,run_underlying d,I.sizeOf,g,h,f];simp[Builtin.append_,i,a,run_underlying j,run_underlying d,I.sizeOf,g,h,f]
  |some b=>
   have o:=m b rfl;rcases a with a|⟨t2,a,d|⟨p,d⟩⟩;simp[Builtin.append_,i,a,run_underlying j,I.sizeOf,g,h,f,o];simp[Builtin.append_,i,a,run_underlying j,run_underlying d,I.sizeOf,g,h,f,o];simp[Builtin.append_,i,a,run_underlying j,run_underlying d,I.sizeOf,g,h,f,o]
 simp_all
theorem g0q{ty:TypeId}(I:Info P e t')(l:ts[0]?=some t)(q:P.underlying t=some (.slice t'))(d:ts[1]?=none∨∃t2,ts[1]?=some t2∧(P.underlying t2=some .string∨∃e,P.underlying t2=some (.slice e))){c k:Nat}{old new:List Value}(h:(Builtin.lenOf x).run P w=.ok k w)(g:(Builtin.firstCells e.cells k x).run P w.drew=.ok new.toArray w.drew)(f:(Builtin.firstCells e.cells n (.slice A n c)).run P w.drew=.ok old.toArray w.drew)(s:c<n+k)(j:n+k<2147483648):
  (Builtin.append_ ts ty #[.slice A n c,x]).run P w=.ok (.slice (some ⟨w.heap.size,0,none⟩) (n+k) (grownCap w (n+k) c t'))
   (w.drew.alloc (.cells (old++(new++(Builtin.zeroCells I.z.cells (grownCap w (n+k) c t'-(n+k))).toList)).toArray t')):=by
 have p:¬ (n+k≤c):=by omega
 have o:Builtin.nextslicecap (n+k) c*I.i.bytes≤281474976710656:=growslice_fits s (by
  have:=a45 (a50 j) I.bytes
  omega)
 have a:¬ (281474976710656<Builtin.nextslicecap (n+k) c*I.i.bytes):=by omega
 have b:¬ (9223372036854775807<((n:Int)+(k:Int))):=by omega
 have r:∀X Y:Array Value,X.toList=Y.toList→w.drew.alloc (Obj.cells X t')=w.drew.alloc (Obj.cells Y t'):=fun X Y e=>by simp_all
 rcases d with d|⟨t2,d,m|⟨u,m⟩⟩;simp[Builtin.append_,l,d,run_underlying q,I.sizeOf,I.typeInfo,I.zeroValue,h,p,g,f,a,b,Question.forced,newRow,grownCap]
 grind
 simp[Builtin.append_,l,d,run_underlying q,run_underlying m,I.sizeOf,I.typeInfo,I.zeroValue,h,p,g,f,a,b,Question.forced,newRow,grownCap]
 grind
 simp[Builtin.append_,l,d,run_underlying q,run_underlying m,I.sizeOf,I.typeInfo,I.zeroValue,h,p,g,f,a,b,Question.forced,newRow,grownCap]
 grind
theorem o0k{t2 ty:TypeId}(I:Info P e t')(j:ts[0]?=some t)(p:P.underlying t=some (.slice t'))(l:ts[1]?=some t2)(m:P.underlying t2=some (.int .i64))(d:0<e.cells)(o:0<n)(h:n<2147483648):
  (Builtin.append_ ts ty #[.slice none 0 0,.int .i64 (n:Int)]).run P w=.ok (.slice (some ⟨w.heap.size,0,none⟩) n (grownCap w n 0 t'))
   (w.drew.alloc (.cells (([]:List Value)++((Builtin.zeroCells I.z.cells n).toList++(Builtin.zeroCells I.z.cells (grownCap w n 0 t'-n)).toList)).toArray t')):=by
 have b:Builtin.nextslicecap n 0*I.i.bytes≤281474976710656:=growslice_fits o (by
  have:=a45 (a50 h) I.bytes
  omega)
 have s:n*I.i.bytes≤281474976710656:=a23 (a45 (a50 h) I.bytes) (by simp);have f:¬ (281474976710656<Builtin.nextslicecap n 0*I.i.bytes):=by omega
 have k:¬ (9223372036854775807<(n:Int)):=by omega
 have q:IntKind.i64.wrap (n:Int)=n:=by
  grind[wrap,IntKind.bits]
 have g:¬ ((n:Int)<0):=by omega
 have a:¬ (281474976710656<(n:Int)*(I.i.bytes:Int)):=by omega
 have r:¬ (n*e.cells=0):=by grind[a55]
 have c:¬ (n=0):=by omega
 simp[Builtin.append_,j,l,run_underlying p,run_underlying m,I.sizeOf,I.typeInfo,I.zeroValue,asInt,asIntOf,q,g,a,r,c,f,k,Question.forced,newRow,grownCap,Builtin.firstCells];exact congrArg (fun X=>w.drew.alloc (Obj.cells X t')) (Array.ext' (by simp))
end
theorem z0q(y:e.sh=e){O R}(h:dec m (.list true e) ((Src.one v).rd m)=some (l,O,R)):
  (v=.slice none 0 0∧l=[]∧O=[]∧R=[])∨∃b n c,∃cs:List Value,v=.slice (some b) n c∧(c=0∨b.spot=none)∧n≤c∧n=l.length∧O=(if c=0 then[]else[(b.block,b.off+c*e.cells)])∧
   cs.length=n*e.cells∧(∀j u,cs[j]?=some u→m b.block (b.off+j)=some u)∧(∀u∈cs,b0j u=true)∧a0d (fun i=>dec m e fun j=>cs[i*e.cells+j]?) n 0=some (l,[],R):=by
 rcases b0r h with⟨hv,t,w,x⟩|⟨b,n,c,os,hv,a,d,o,z⟩;simp_all[Src.rd];simp[Src.rd]at hv;have g:a0d (fun i=>dec m e fun j=>m b.block (b.off+(i*e.cells+j))) n 0=some (l,os,R):=by simp_all[l0q]
 have f:os=[]:=by
  have k:dec m (.arr n e) (fun j=>m b.block (b.off+j))=some (l,os,R):=g;exact g0n (by simp_all[Ty.shn]) k
 subst f;obtain⟨cs,p,q,r,s⟩:=i0i g;refine .inr ⟨b,n,c,cs,hv,a,d,(a0v n 0 o).symm,?_,p,q,r,s⟩
 grind
theorem n0h{m0:Mem}{b:Addr}{c:Nat}{cs:List Value}{os R}(f:c=0∨b.spot=none)(g:n≤c)(a:n*e.cells≤cs.length)(q:∀j u,j<n*e.cells→cs[j]?=some u→m b.block (b.off+j)=some u)(d:a0d (fun i=>dec m0 e fun j=>cs[i*e.cells+j]?) n 0=some (l,os,R))(p:∀c∈R,∀j,m c j=m0 c j)(o:∀c∈os.map (·.1),∀j,m c j=m0 c j:=by simp):
  dec m (.list true e) ((Src.one (.slice (some b) n c)).rd m)=some (l,if c=0 then[]else(b.block,b.off+c*e.cells)::os,R):=by
 have h:dec m (.arr n e) (fun j=>m b.block (b.off+j))=some (l,os,R):=a0j (.arr n e) (show dec m0 (.arr n e) (fun j=>cs[j]?)=_ from d) (fun j k=>by
  have k:j<n*e.cells:=k
  grind) (fun c j f=>by
  grind)
 have h:a0d (fun i=>dec m e fun j=>m b.block (b.off+(i*e.cells+j))) n 0=some (l,os,R):=h;show a0x m true e.cells (dec m e) (some (.slice (some b) n c))=_;simp only[a0x];rw[if_pos ⟨f,g⟩,h]
 simp
 split
 all_goals simp_all[a0d]
theorem m0n{m:Mem}:∀(p:a0n)(t:Ty)(s:Src){t' s'},loc m t s p=some (t',s')→p≠[]→∃b o,s'=.at b o
 | [],_,_,_,_,_,hp=>absurd rfl hp
 |.fst::p,t,s,t',s',h,_=>by
  obtain⟨a,g,bl,so,rfl,rfl,h⟩:=e0n h;cases p with
  |nil=>simp[a0t]at h;grind
  |cons x p=>exact m0n (x::p) _ _ h (by simp)
 |.snd::p,t,s,t',s',h,_=>by
  obtain⟨a,g,bl,so,rfl,rfl,h⟩:=e0o h;cases p with
  |nil=>simp[a0t]at h;grind
  |cons x p=>exact m0n (x::p) _ _ h (by simp)
 |.idx i::p,t,s,t',s',h,_=>by
  rcases d0y h with⟨n,k,bl,so,rfl,rfl,hi,h⟩|⟨k,a,n,c,rfl,f,hi,h⟩
  ·cases p with
   |nil=>simp[a0t]at h;grind
   |cons x p=>exact m0n (x::p) _ _ h (by simp)
  ·cases p with
   |nil=>simp[a0t]at h;grind
   |cons x p=>exact m0n (x::p) _ _ h (by simp)
theorem f0w(r:Option Root):(Γ.setRt n r).rt n=r:=by simp[AE.setRt]
section
variable {P:Program} {B:Base} {N:Nat} {ρ:Type} {Γ:AE} {a:Act} {w:World} {σ:Gh}
structure News (P:Program) (w:World) (m:Mem) (Sh:Nat→Prop) (e:Ty) (ys:List e.den) (x:Value) where
 cs:List Value
 len:(Builtin.lenOf x).run P w=.ok ys.length w
 size:cs.length=ys.length*e.cells
 one:∀u∈cs,b0j u=true
 R:List Nat
 rd:a0d (fun i=>dec m e fun j=>cs[i*e.cells+j]?) ys.length 0=some (ys,[],R)
 shr:∀c∈R,Sh c
 run:(Builtin.firstCells e.cells ys.length x).run P w=.ok cs.toArray w
 drew:(Builtin.firstCells e.cells ys.length x).run P w.drew=.ok cs.toArray w.drew
theorem Rel.turn{K:AE→Rs ρ}{z:ρ}{l':List e.den}{v':Value}{s O' R' O2 R2}(h:Rel B Γ N (a0f a) w σ)(hN:a.tmps.size=N)(L:Γ.look n=some r)(Z:loc (a0a w σ.ov) r.t (σ.g n) p=some (.list true e,s))(hg:b0c r.t r.x p=⟨.list true e,l⟩)(hv:s.rd (a0a w σ.ov) 0=some v)(hd:dec (a0a w σ.ov) (.list true e) (s.rd (a0a w σ.ov))=some (l,O',R'))(V:∀q∈O',q∈σ.ow n)(g3:∀b o,s=.at b o→b∉O'.map (·.1))(X:dec (a0a w2 none) (.list true e) ((Src.one v').rd (a0a w2 none))=some (l',O2,R2))(h9:∀c j,a0a w2 none c j=a0a w none c j∨c∈O'.map (·.1)∨w.heap.size≤c)(G:∀c∈O2.map (·.1),c∈O'.map (·.1)∨w.heap.size≤c)(R:(O2.map (·.1)).Nodup)(y:∀p∈O2,a0w w2 p.1 p.2)(u:∀c k,a0w w c k→a0r σ c→a0w w2 c k)(I:w.heap.size≤w2.heap.size)(Q:∀b,b<B.size→¬ B.F b→w2.heap[b]?=B.hp b)(M:∀c∈R2,Shr B w σ c)(C:(let Γ':=((Γ.mapv (AV.kill n p)).setRt n (some ⟨r.bx,r.t,b0q r.t r.x p (.list true e) l'⟩)).set d (.sref n p)
   match p,r.bx with
   | [],false=>bif decide (n<pinned)then K Γ' else none
   |p,_=>match Γ.pd with
    |none=>K { Γ' with pd:=some (n,p,d) }
    |some _=>none)=some z)(hio:b0x w2=b0x w:=by first|rfl|assumption):
  ∃Γ' σ',Rel B Γ' N (a0f (a.put (some d) v')) w2 σ'∧K Γ'=some z:=by
 obtain⟨A,L⟩:=a0o L;have g4:=h.ov_none A;have D:∀c∈R2,c<w2.heap.size∧(B.S c∨B.F c∨B.size≤c)∧¬ a0r σ c∧c∉O2.map (·.1):=fun c H=>by
  have U:=M c H;refine⟨a12 U.1 I,U.2.1,U.2.2,fun g=>?_⟩;rcases G c g with g|g;obtain⟨q,hq,rfl⟩:=a08.1 g;exact U.2.2 ⟨n,a00 (V q hq)⟩
  have:=U.1;omega
 have top:p=[]→r.bx=false→∃Γ' σ',Rel B Γ' N (a0f (a.put (some d) v')) w2 σ'∧K Γ'=some z:=by
  intro hp P;subst hp;obtain⟨bx,t,x⟩:=r;simp only at P;subst P;simp[b0c,b0k]at hg;cases hg;have C:(bif decide (n<pinned)then K (((Γ.mapv (AV.kill n [])).setRt n (some ⟨false,.list true e,b0q (.list true e) l [] (.list true e) l'⟩)).set d (.sref n []))else none)=some z:=C;obtain⟨T,C⟩:=(a0b C).elim id fun h=>by grind
  have T:n<pinned:=by simp_all
  have g0:b0q (.list true e) l [] (.list true e) l'=l':=o0m _ _ _;replace C:K (((Γ.mapv (AV.kill n [])).setRt n (some ⟨false,.list true e,l'⟩)).set d (.sref n []))=some z:=by
   simp_all
  have i:=h.top L T A (w':=w2) (v':=v') (l':=l') (by grind) (fun c j H hn=>by
    grind) (fun c H=>(G c H).imp (fun g=>by
     grind) id) R y u I Q D (f:=AV.kill n []) (fun av=>by
    cases av with
    |ptr m q=>
     simp only[AV.kill]
     by_cases hm:m=n
     ·subst hm;cases q with
      |nil=>simp
      |cons=>left;simp[c0r]
     simp_all
    |sref m q=>
     grind[AV.kill,c0r]
    |swin m q o k=>
     grind[AV.kill,c0r]
    |_=>exact .inr ⟨rfl,fun k q E _=>by rcases E with E|E|⟨_,_,E⟩<;>cases E⟩)
  refine⟨_,_,i.putd (sv:=.one (.sref n [])) (v:=v') hN (fun _=>⟨⟨false,.list true e,l'⟩,e,.one v',f0w _,?_,rfl⟩),C⟩;show some (_,if n=n then Src.one v' else _)=_
  simp
 have h3:(∃b o,s=.at b o)→K { (((Γ.mapv (AV.kill n p)).setRt n (some ⟨r.bx,r.t,b0q r.t r.x p (.list true e) l'⟩)).set d (.sref n p))with pd:=some (n,p,d) }=some z→
   ∃Γ' σ',Rel B Γ' N (a0f (a.put (some d) v')) w2 σ'∧K Γ'=some z:=by
  rintro⟨b,o,rfl⟩ C
  have hb:=h.place L Z;have O:a0r σ b:=⟨n,hb⟩;have h8:=h.lt O;have h5:b∉O2.map (·.1):=fun g=>by
   grind
  have h7:b∉R2:=fun g=>(M b g).2.2 O;have h0:∀c j,c≠b→a0a w2 (some (b,o,v')) c j=a0a w2 none c j:=fun c j H=>by
   simp_all[a0a]
  have Y:dec (a0a w2 (some (b,o,v'))) (.list true e) ((Src.at b o).rd (a0a w2 (some (b,o,v'))))=some (l',O2,R2):=a0j _ X (fun j hj=>by
   simp_all[Ty.cells,Src.rd,a0a]) (fun c j H=>h0 c j fun e=>by
    simp_all)
  obtain⟨g6,g5,i⟩:=h.chg L Z hd (w':=w2) (ov':=some (b,o,v')) (pd':=some (n,p,d)) (.new d v' e A rfl) Y (fun c j=>by
    by_cases H:c=b∧j=o
    simp_all[Ty.cells];have e1:a0a w2 (some (b,o,v')) c j=a0a w2 none c j:=by
     simp_all[a0a]
    grind) G R y u I Q D (f:=AV.kill n p) (fun av=>l0l n p _ av)
  obtain⟨h4,W,E,h2⟩:=i.pend;exact⟨_,_,i.putd (sv:=.one (.sref n p)) (v:=v') hN (fun _=>⟨h4,W,.at b o,E,h2,by simp[Src.rd,a0a]⟩),C⟩
 cases p with
 |nil=>
  cases hb:r.bx with
  |false=>
   simp_all
  |true=>
   have J:(match Γ.pd with
    |none=>K { (((Γ.mapv (AV.kill n [])).setRt n (some ⟨r.bx,r.t,b0q r.t r.x [] (.list true e) l'⟩)).set d (.sref n []))with pd:=some (n,[],d) }
    |some _=>none)=some z:=by
    simp_all
   rw[A]at J;refine h3 ?_ J;simp[a0t]at Z;obtain⟨g1,g2,-,-,-,-,-,h6⟩:=h.sep L
   grind
 |cons x p=>
  have J:(match Γ.pd with
   |none=>K { (((Γ.mapv (AV.kill n (x::p))).setRt n (some ⟨r.bx,r.t,b0q r.t r.x (x::p) (.list true e) l'⟩)).set d (.sref n (x::p)))with pd:=some (n,x::p,d) }
   |some _=>none)=some z:=C
  grind[m0n]
end
section
variable {P:Program} {B:Base} {N:Nat} {ρ:Type} {Γ:AE} {a:Act} {w:World} {σ:Gh}
theorem f0a(b:Nat):∀(vs:List Value)(o:Nat)(w:World),b0x (w.setCells b o vs)=b0x w
 | [],_,_=>rfl
 |v::r,o,w=>(f0a b r (o+1) (w.setCell ⟨b,o,none⟩ v)).trans rfl
theorem i0t{z:Array Value}(n:Nat):Builtin.zeroCells z n=madeCells z (n*z.size):=rfl
theorem w0q(he:e.sh=e){ty:TypeId}(I:Info P e t')(h0:ts[0]?=some t)(H:P.underlying t=some (.slice t'))(h1:ts[1]?=none∨∃t2,ts[1]?=some t2∧(P.underlying t2=some .string∨∃e,P.underlying t2=some (.slice e))){K:AE→Rs ρ}{z:ρ}(h:Rel B Γ N (a0f a) w σ)(hN:a.tmps.size=N)(Z:a0e (a0a w σ.ov) σ.g Γ.rt (Shr B w σ) av s)(Y:News P w (a0a w σ.ov) (Shr B w σ) e ys x)(D:Γ.apnd q d e av ys K=some z):
  ∃v w' Γ' σ',(Builtin.append_ ts ty #[s,x]).run P w=.ok v w'∧Rel B Γ' N (a0f (a.put (some d) v)) w' σ'∧K Γ'=some z:=by

 have g8:∀(l:List e.den)(n:Nat)(cs:List Value)(R:List Nat)(rest:List Value),cs.length=n*e.cells→a0d (fun i=>dec (a0a w σ.ov) e fun j=>cs[i*e.cells+j]?) n 0=some (l,[],R)→
   a0d (fun i=>dec (a0a w σ.ov) e fun j=>(cs++(Y.cs++rest)).toArray[i*e.cells+j]?) (n+ys.length) 0=some (a16 l ys,[],R++Y.R):=by
  intro l n cs R rest hl E;simp only[a15];exact k0k E hl Y.rd Y.size
 have k6:∀k,(Builtin.zeroCells I.z.cells k).size=k*e.cells:=fun k=>by rw[i0t,size_madeCells,I.zsize]
 have a9:∀A:Option Addr,s=.slice A 0 0→(bif lim ys.length then Γ.fresh q d ⟨false,.list true e,ys⟩ fun Γ=>K (Γ.set d (.sref d []))else none)=some z→
   ∃v w' Γ' σ',(Builtin.append_ ts ty #[s,x]).run P w=.ok v w'∧Rel B Γ' N (a0f (a.put (some d) v)) w' σ'∧K Γ'=some z:=by
  intro A hs D;subst hs;obtain⟨U,D⟩:lim ys.length=true∧_:=(a0b D).elim id fun h=>by grind
  simp[lim]at U
  by_cases hk:ys.length=0
  ·have g9:Y.cs=[]:=a02.1 (by rw[Y.size,hk];omega);have hy:ys=[]:=a02.1 hk;have o:=e0e (P:=P) (w2:=w) (ty:=ty) I h0 H h1 (A:=A) (n:=0) (c:=0) Y.len Y.run (by omega) (fun b _=>by rw[g9];rfl) (fun _=>rfl);obtain⟨Γ',σ',g1,g2,g3,g4,g5,g6⟩:=h.fresh D (fun _ _=>rfl) (a04 _) (s:=.one (.slice A (0+ys.length) 0)) (O:=[]) (by simp) (by simp) (by simp) ⟨[],[],by
    show a0x (a0a w σ.ov) true e.cells (dec (a0a w σ.ov) e) (some (.slice A (0+ys.length) 0))=some (ys,[],[]);rw[hk,hy];cases A with
    |none=>rfl
    |some b=>rfl,by simp,.inr ⟨rfl,⟨_,rfl⟩,⟨e,rfl⟩,rfl⟩⟩
   exact⟨_,w,_,σ',o,g2.putd (sv:=.one (.sref d [])) hN (fun _=>⟨_,e,_,g3,by rw[g4];rfl,rfl⟩),g1⟩
  have W:(Builtin.firstCells e.cells 0 (.slice A 0 0)).run P w.drew=.ok ([]:List Value).toArray w.drew:=by
   have:=h0a (P:=P) (w:=w) (w2:=w.drew) (e:=e) (v:=.slice A 0 0) (cs:=[]) rfl (fun _=>rfl) (by simp) (by simp) (fun _=>rfl) 0 (by omega)
   simp_all
  have o:=g0q (P:=P) (w:=w) (ty:=ty) I h0 H h1 (A:=A) (n:=0) (c:=0) Y.len Y.drew W (by omega) (by omega);have hg:=grownCap_ge w (0+ys.length) 0 t';obtain⟨Γ',σ',g1,g2,g3,-,-⟩:=h.newSlice (c:=grownCap w (0+ys.length) 0 t') D (fun c E=>b0m (w:=w.drew) _ c E) (b0s (w:=w.drew) _)
   (b0i (w:=w.drew) (Obj.cells (([]:List Value)++(Y.cs++(Builtin.zeroCells I.z.cells (grownCap w (0+ys.length) 0 t'-(0+ys.length))).toList)).toArray t')) (.inl rfl) (by
    have:(([]:List Value)++(Y.cs++(Builtin.zeroCells I.z.cells (grownCap w (0+ys.length) 0 t'-(0+ys.length))).toList)).length=grownCap w (0+ys.length) 0 t'*e.cells:=by
     simp only[a43,lN,Y.size,a34,k6];rw[←a17];simp_all
    simp_all) (by omega) (by
    have:=g8 [] 0 [] [] (Builtin.zeroCells I.z.cells (grownCap w (0+ys.length) 0 t'-(0+ys.length))).toList (by simp) rfl
    simp_all) Y.shr
  refine⟨_,_,_,σ',o,g2.putd (sv:=.one (.sref d [])) hN (fun _=>?_),g1⟩;rw[a11]at g3⊢;exact g3
 unfold AE.apnd at D
 split at D
 have Z:s=.slice none 0 0:=Z;simp_all;obtain⟨A,hv⟩:=Z;simp_all
 ·rename_i n p;obtain⟨-,D⟩:q=false∧_:=by
   by_cases hq:q
   rw[hq]at D;simp at D;exact⟨by simp_all,(a0b D).elim (fun h=>absurd h.1 hq) (·.2)⟩
  split at D
  ·rename_i r hr;obtain⟨a6,a7⟩:=a0o hr;have h4:=h.ov_none a6
   split at D
   ·rename_i e' l hg
    split at D
    ·rename_i a3;subst a3;obtain⟨U,D⟩:lim (a13 l+ys.length)=true∧_:=(a0b D).elim id fun h=>by grind
     simp[lim]at U;obtain⟨s',O',R',f1,f2,f3,f4,f5,f6,f7,f8⟩:=h.own Z a7 hg;have h5:∀c∈R'++Y.R,Shr B w σ c:=fun c E=>(mA.1 E).elim (f5 c) (Y.shr c);have g0:∀c∈O'.map (·.1),a0r σ c:=fun c E=>by
      obtain⟨q,hq,rfl⟩:=a08.1 E;exact⟨n,a00 (f6 q hq)⟩

     have h6:∀(A:Option Addr)(f c:Nat)(cs:List Value),s=.slice A f c→f=a13 l→cs.length=f*e.cells→(∀b,A=some b→∀j u,cs[j]?=some u→w.cell? (b.add j)=some u)→(A=none→f=0)→
       a0d (fun i=>dec (a0a w σ.ov) e fun j=>cs[i*e.cells+j]?) f 0=some (l,[],R')→c<f+ys.length→
       ∃v w' Γ' σ',(Builtin.append_ ts ty #[s,x]).run P w=.ok v w'∧Rel B Γ' N (a0f (a.put (some d) v)) w' σ'∧K Γ'=some z:=by
      intro A f c cs hs k4 F C h9 L a4;subst hs;have W:(Builtin.firstCells e.cells f (.slice A f c)).run P w.drew=.ok cs.toArray w.drew:=by
       have:=h0a (P:=P) (w:=w) (w2:=w.drew) (e:=e) (v:=.slice A f c) (cs:=cs) rfl (fun _=>rfl) F C h9 f (a04 _)
       grind
      have o:=g0q (P:=P) (w:=w) (ty:=ty) I h0 H h1 (A:=A) (n:=f) (c:=c) Y.len Y.drew W a4 (by omega);have h8:=grownCap_ge w (f+ys.length) c t';generalize hw2:w.drew.alloc _=w2 at o;generalize hgc:grownCap w (f+ys.length) c t'=gc at o h8;have X:∀c,c<w.heap.size→w2.heap[c]?=w.heap[c]?:=fun c E=>by rw[←hw2];exact b0m (w:=w.drew) _ c E
      have G:=b0i (w:=w.drew) (.cells (cs++(Y.cs++(Builtin.zeroCells I.z.cells (gc-(f+ys.length))).toList)).toArray t');have G:w2.heap[w.heap.size]?=some (.cells (cs++(Y.cs++(Builtin.zeroCells I.z.cells (gc-(f+ys.length))).toList)).toArray t'):=by
       rw[←hw2,hgc];simp_all
      have k5:w.heap.size≤w2.heap.size:=by grind
      have k0:(cs++(Y.cs++(Builtin.zeroCells I.z.cells (gc-(f+ys.length))).toList)).length=gc*e.cells:=by
       simp[F,Y.size,k6];rw[←a17,←a17]
       grind
      have T:=n0h (m:=a0a w2 none) (m0:=a0a w σ.ov) (b:=⟨w.heap.size,0,none⟩) (n:=f+ys.length) (c:=gc) (cs:=cs++(Y.cs++(Builtin.zeroCells I.z.cells (gc-(f+ys.length))).toList)) (.inr rfl) h8 (by
        rw[k0];exact a19 _ h8) (fun j u _ H=>by
        simp only[a0a,a11,World.cell?,G]
        grind) (by
        have:=g8 l f cs R' (Builtin.zeroCells I.z.cells (gc-(f+ys.length))).toList F L
        simpa only[a15]using this) (fun c E j=>by
        rw[h4];exact b0g none (X c (h5 c E).1) j)
      have k3:gc≠0:=by omega
      rw[if_neg k3]at T;have h7:∀c k,a0w w c k→a0w w2 c k:=fun c k hf=>by
       obtain⟨cc,e1,lo,hi,g1,g2⟩:=hf;exact⟨cc,e1,lo,hi,by grind,g2⟩
      obtain⟨Γ',σ',k1,k2⟩:=h.turn (w2:=w2) hN hr f1 hg f2 f3 f6 f8 T (fun c j=>by
        grind[b0g]) (fun c E=>by
        grind) (by simp) (fun p hp=>by
        simp only[List.mem_singleton]at hp;subst hp;exact⟨_,t',0,0,G,by grind,.inl rfl⟩) (fun c k hf _=>h7 c k hf) k5 (fun b hb hF=>by
        have:=h.size
        rw[X b (by omega)];exact h.frame b hb hF) h5 D (hio:=by rw[←hw2];rfl)
      grind
     rcases z0q he f4 with⟨hs,a5,b0,k8⟩|⟨b,f,c,cs,hs,hb,b2,k4,hO,F,C,a8,L⟩
     by_cases hk:ys.length=0
     have g9:Y.cs=[]:=a02.1 (by rw[Y.size,hk];omega);have hy:ys=[]:=a02.1 hk;have o:=e0e (P:=P) (w2:=w) (ty:=ty) I h0 H h1 (A:=none) (n:=0) (c:=0) Y.len Y.run (by omega) (fun b hb=>by grind) (fun _=>rfl);subst hs;obtain⟨Γ',σ',k1,k2⟩:=h.turn (w2:=w) (v':=.slice none (0+ys.length) 0) (O2:=[]) (R2:=[]) (l':=a16 l ys) hN hr f1 hg f2 f3 f6 f8 (by
       grind[a16]) (fun c j=>.inl rfl) (by simp) (by simp) (by simp) (fun _ _ hf _=>hf) (a04 _) h.frame (by simp) D
     grind
     exact h6 none 0 0 [] hs (by grind) (by simp) (by simp) (fun _=>rfl) (by rw[a5,k8];rfl) (by omega)
     ·have h2:∀b',some b=some b'→∀j u,cs[j]?=some u→w.cell? (b'.add j)=some u:=fun b' Q j u H=>by
       simp at Q;subst Q;have a2:c≠0:=fun e0=>by
        grind
       rw[i0z (hb.resolve_left a2)]
       have:=C j u H
       rw[h4]at this;exact this
      by_cases hfit:f+ys.length≤c
      ·
       let w2:=w.setCells b.block (b.off+f*e.cells) Y.cs
       have V:c≠0→a0w w b.block (b.off+c*e.cells):=fun E=>h.live n (b.block,b.off+c*e.cells) (f6 _ (by grind));have g7:Y.cs≠[]→c≠0∧b.off+f*e.cells+Y.cs.length≤b.off+c*e.cells:=fun y=>by
        have:ys.length≠0:=fun e0=>y (a02.1 (by rw[Y.size,e0];omega))
        refine⟨by omega,?_⟩
        have:=a19 e.cells hfit
        rw[a17,←Y.size]at this;omega
       have k7:(storeCells (b.add (f*e.cells)) Y.cs).run P w=.ok () w2:=by
        by_cases y:Y.cs=[]
        simp[w2,y];rfl;obtain⟨E,b1⟩:=g7 y;rw[c0u (hb.resolve_left E)]
        have:=run_storeCells_cells (P:=P) b.block (b.off+f*e.cells) Y.cs 0 w (fun j hj=>((V E).cell (by omega)).1) (fun j hj=>((V E).cell (by omega)).2) (fun u H=>f0d (Y.one u H))
        omega
       have h3:∀J j,w2.cell? ⟨J,j,none⟩=if J=b.block∧b.off+f*e.cells≤j∧j<b.off+f*e.cells+Y.cs.length then Y.cs[j-(b.off+f*e.cells)]? else w.cell? ⟨J,j,none⟩:=fun J j=>by
        by_cases y:Y.cs=[]
        simp only[w2,y,World.setCells,a33]
        grind
        grind[e0z]
       have o:=e0e (P:=P) (w2:=w2) (ty:=ty) I h0 H h1 (A:=some b) (n:=f) (c:=c) Y.len Y.run hfit (fun b' Q=>by
        grind) (fun hn=>by grind)
       have M:∀J,J≠b.block→w2.heap[J]?=w.heap[J]?:=fun J S=>d0d _ _ _ _ _ S;have k9:Y.cs≠[]→b.block∈O'.map (·.1):=fun y=>by grind
       have T:=n0h (m:=a0a w2 none) (m0:=a0a w σ.ov) (b:=b) (n:=f+ys.length) (c:=c) (cs:=cs++(Y.cs++[])) (l:=a16 l ys) (R:=R'++Y.R) hb hfit (by
         simp only[lN,F,Y.size,a33]
         grind) (fun j u hj H=>by
         simp only[a0a,h3]
         by_cases hj2:j<f*e.cells
         rw[if_neg (by omega)];rw[a03 (by omega)]at H
         have:=C j u H
         rw[h4]at this;exact this;rw[a17,←Y.size]at hj;rw[if_pos ⟨trivial,by omega,by omega⟩];rw[a10 (by omega),a56,F]at H;rw[←H];congr 1;omega) (by
         have:=g8 l f cs R' [] F L
         simpa only[a15]using this) (fun J S j=>by
         rw[h4]
         by_cases y:Y.cs=[]
         grind[World.setCells]
         exact b0g none (M J fun e1=>(h5 J S).2.2 (by grind)) j)
       rw[←hO]at T;subst hs;obtain⟨Γ',σ',k1,k2⟩:=h.turn (w2:=w2) hN hr f1 hg f2 f3 f6 f8 T (fun J j=>by
         grind[World.setCells,b0g]) (fun J S=>.inl S) f7 (fun p hp=>(h.live n p (f6 p hp)).setCells _ _ _) (fun _ _ hf _=>hf.setCells _ _ _) (by rw[e0b];simp) (fun b' Q hF=>by
         by_cases y:Y.cs=[]
         simp[w2,y,World.setCells];exact h.frame b' Q hF
         ·rw[M b' ?_];exact h.frame b' Q hF
          ·rintro rfl
           rcases h.mine _ (g0 _ (k9 y))with g|g
           all_goals grind) h5 D (hio:=f0a _ _ _ _)
       grind
      exact h6 (some b) f c cs hs k4 F h2 (by simp) L (by omega)
    simp_all
   simp_all
  simp_all
 simp_all
end
theorem u0n{O R}(h:dec m (.list true e) ((Src.one v).rd m)=some (l,O,R)):
  ∃A n c,∃cs:List Value,∃os,v=.slice A n c∧n=l.length∧n≤c∧cs.length=n*e.cells∧(∀u∈cs,b0j u=true)∧a0d (fun i=>dec m e fun j=>cs[i*e.cells+j]?) n 0=some (l,os,R)∧
   (∀b,A=some b→(c=0∨b.spot=none)∧O=(if c=0 then[]else(b.block,b.off+c*e.cells)::os)∧∀j u,cs[j]?=some u→m b.block (b.off+j)=some u)∧(A=none→c=0)∧(c=0→O=[]∧os=[]∧R=[]):=by
 rcases b0r h with⟨hv,rfl,rfl,rfl⟩|⟨b,n,c,os,hv,x,o,p,y⟩;simp[Src.rd]at hv;exact⟨none,0,0,[],[],hv,rfl,a04 _,by simp,by simp,rfl,by simp,fun _=>rfl,fun _=>⟨rfl,rfl,rfl⟩⟩;simp[Src.rd]at hv;have k:a0d (fun i=>dec m e fun j=>m b.block (b.off+(i*e.cells+j))) n 0=some (l,os,R):=by simp_all[l0q]
 obtain⟨cs,q,z,r,s⟩:=i0i k;have a:c=0→os=[]∧R=[]:=fun f=>by
  simp_all[a0d]
 have w:O=if c=0 then[]else(b.block,b.off+c*e.cells)::os:=by
  grind
 exact⟨some b,n,c,cs,os,hv,(a0v n 0 p).symm,o,q,r,s,fun t d=>by
  simp_all,fun g=>(by grind),fun f=>⟨by simp_all,(a f).1,(a f).2⟩⟩
section
variable {P:Program} {B:Base} {N:Nat} {ρ:Type} {Γ:AE} {a:Act} {w:World} {σ:Gh}
theorem Rel.one{tm}(h:Rel B Γ N tm w σ){n}(b:Γ.rt n=some ⟨false,.list true e,l⟩):
  ∃v R,σ.g n=.one v∧dec (a0a w σ.ov) (.list true e) ((Src.one v).rd (a0a w σ.ov))=some (l,σ.ow n,R)∧∀c∈R,Shr B w σ c:=by
 obtain⟨d,R,f,k,-,-,-,a⟩:=h.sep b;rcases a with⟨g,-⟩|⟨-,⟨v,hv⟩,-,hO⟩
 grind
 rw[hv]at f;exact⟨v,R,hv,by rw[hO];exact f,k⟩
theorem p0g{m:Nat}{es:Ty}(d0:e.sh=es){ty:TypeId}(I:Info P es t')(h0:ts[0]?=some t)(hu:P.underlying t=some (.slice t'))(h1:ts[1]?=none∨∃t2,ts[1]?=some t2∧(P.underlying t2=some .string∨∃e,P.underlying t2=some (.slice e))){K:AE→Rs ρ}{z:ρ}(h:Rel B Γ N (a0f a) w σ)(hN:a.tmps.size=N)(d2:σ.g n=.one s)(d1:σ.g m=.one x)(hm:Γ.rt m=some ⟨false,.list true e,ys⟩)(hz:Γ.gathN d m e ys n K=some z):
  ∃v w' Γ' σ',(Builtin.append_ ts ty #[s,x]).run P w=.ok v w'∧Rel B Γ' N (a0f (a.put (some d) v)) w' σ'∧K Γ'=some z:=by
 have a2:es.cells=e.cells:=by rw[←d0,Ty.cells_sh]
 unfold AE.gathN at hz
 split at hz
 rotate_left;cases hz;rename_i e' l hl
 split at hz
 rotate_left;cases hz;rename_i c9;subst c9;obtain⟨b6,hr⟩:=a0o hl;obtain⟨C,hz⟩:=(a0b hz).elim id fun h=>by cases h.2
 simp only[bA,lim,dT,a39,beq_eq_false_iff_ne]at C;obtain⟨⟨d9,U⟩,hlim⟩:=C;have h4:=h.ov_none b6;obtain⟨s',Rn,g1,g2,g3⟩:=h.one hr;rw[d2]at g1;cases g1;obtain⟨x',Rm,f1,f2,f3⟩:=h.one hm;rw[d1]at f1;cases f1;obtain⟨An,L,cn,h5,Z,hs,d6,d8,g5,e8,e4,k7,h7,g6⟩:=u0n g2;obtain⟨Am,X,cm,r,Y,hx,d5,b5,S,e5,b7,g0,h3,a7⟩:=u0n f2;subst hs;subst hx;have cell:∀{A:Option Addr}{cs:List Value}{c:Nat}{O os:a0z},(∀b,A=some b→(c=0∨b.spot=none)∧O=(if c=0 then[]else(b.block,b.off+c*e.cells)::os)∧∀j u,cs[j]?=some u→a0a w σ.ov b.block (b.off+j)=some u)→(∃n,cs.length=n*e.cells∧n≤c)→
   ∀b,A=some b→∀j u,cs[j]?=some u→w.cell? (b.add j)=some u:=fun {A cs c O os} hA ⟨n,hl,g8⟩ b hb j u hu=>by
  obtain⟨q1,-,q2⟩:=hA b hb;have k9:c≠0:=fun e0=>by
   have:=(lS.1 hu).1
   rw[hl,show n=0 from by omega,Nat.zero_mul]at this;omega
  rw[i0z (q1.resolve_left k9)]
  have:=q2 j u hu
  rw[h4]at this;exact this
 have h9:∀(w2:World),(∀x,w2.cell? x=w.cell? x)→∀{A:Option Addr}{cs:List Value}{n c:Nat}{O os:a0z},(∀b,A=some b→(c=0∨b.spot=none)∧O=(if c=0 then[]else(b.block,b.off+c*e.cells)::os)∧∀j u,cs[j]?=some u→a0a w σ.ov b.block (b.off+j)=some u)→
   cs.length=n*e.cells→n≤c→(A=none→c=0)→(Builtin.firstCells es.cells n (.slice A n c)).run P w2=.ok cs.toArray w2:=fun w2 hw A cs n c O os hA hl g8 h0=>by
  have:=h0a (P:=P) (w:=w) (w2:=w2) (e:=e) (v:=.slice A n c) rfl hw hl (cell hA ⟨n,hl,g8⟩) (fun g=>by have:=h0 g;omega) n (a04 _)
  rw[←hl,a53]at this;rw[a2];exact this
 have g9:(Builtin.lenOf (.slice Am X cm)).run P w=.ok X w:=rfl;have k4:∀rest,a0d (fun i=>dec (a0a w σ.ov) e fun j=>(h5++(r++rest))[i*e.cells+j]?) (L+X) 0=some (a16 l ys,Z++Y,Rn++Rm):=fun rest=>k0k e4 g5 b7 S;have k6:∀p∈Z,p∈σ.ow n:=fun p hp=>by
  by_cases e0:cn=0
  rw[(g6 e0).2.1]at hp;cases hp
  ·cases hA:An with
   |none=>exact absurd (h7 hA) e0
   |some b=>rw[(k7 b hA).2.1,if_neg e0];exact a01 _ hp
 have W:∀p∈Y,p∈σ.ow m:=fun p hp=>by
  by_cases e0:cm=0
  rw[(a7 e0).2.1]at hp;cases hp
  ·cases hA:Am with
   |none=>exact absurd (h3 hA) e0
   |some b=>rw[(g0 b hA).2.1,if_neg e0];exact a01 _ hp
 have a5:∀p∈Z++Y,p∈σ.ow n∨p∈σ.ow m:=fun p hp=>(mA.1 hp).imp (k6 p) (W p);have a9:∀c∈(Z++Y).map (·.1),a0r σ c:=fun c C=>by
  obtain⟨p,hp,rfl⟩:=a08.1 C;rcases a5 p hp with g|g;exact⟨n,a00 g⟩;exact⟨m,a00 g⟩
 have c5:(Z.map (·.1)).Nodup:=by
  have:=h.nodup n
  by_cases e0:cn=0
  rw[(g6 e0).2.1];simp
  ·cases hA:An with
   |none=>exact absurd (h7 hA) e0
   |some b=>rw[(k7 b hA).2.1,if_neg e0]at this;exact(a05.1 this).2
 have c4:(Y.map (·.1)).Nodup:=by
  have:=h.nodup m
  by_cases e0:cm=0
  rw[(a7 e0).2.1];simp
  ·cases hA:Am with
   |none=>exact absurd (h3 hA) e0
   |some b=>rw[(g0 b hA).2.1,if_neg e0]at this;exact(a05.1 this).2
 have c3:((Z++Y).map (·.1)).Nodup:=by
  rw[pA];refine a14.2 ⟨c5,c4,fun c C H J e=>?_⟩;subst e;obtain⟨p,hp,rfl⟩:=a08.1 C;obtain⟨p',e3,e⟩:=a08.1 J;exact h.disj n m U p.1 (a00 (k6 p hp)) (by rw[←e];exact a00 (W p' e3))
 have k5:∀c∈Rn++Rm,Shr B w σ c:=fun c C=>(mA.1 C).elim (g3 c) (f3 c)

 have b1:∀{w2:World}{v':Value}{O2:a0z},dec (a0a w2 none) (.list true e) ((Src.one v').rd (a0a w2 none))=some (a16 l ys,O2,Rn++Rm)→
   (∀c j,c<w.heap.size→c∉(σ.ow n).map (·.1)→a0a w2 none c j=a0a w none c j)→(∀c∈O2.map (·.1),(c∈(σ.ow n).map (·.1)∨c∈(σ.ow m).map (·.1))∨w.heap.size≤c)→(O2.map (·.1)).Nodup→
   (∀p∈O2,a0w w2 p.1 p.2)→(∀c k,a0w w c k→a0r σ c→a0w w2 c k)→w.heap.size≤w2.heap.size→(∀b,b<B.size→¬ B.F b→w2.heap[b]?=B.hp b)→b0x w2=b0x w→
   ∃Γ' σ',Rel B Γ' N (a0f (a.put (some d) v')) w2 σ'∧K Γ'=some z:=by
  intro w2 v' O2 q1 q2 q3 q4 q5 q6 q7 q8 q9;have b0:=h.topG (w':=w2) (v':=v') (l':=a16 l ys) (O2:=O2) (R2:=Rn++Rm) (G:=fun j=>j==m) hr d9 b6 (by simpa using U) (by rw[h4];exact q1) (fun c j c1 c2 _=>by rw[h4];exact q2 c j c1 c2)
   (fun c C=>(q3 c C).imp (fun g=>g.imp id fun g=>⟨m,by simp,g⟩) id) q4 q5 q6 q7 q8 (fun c C=>by
    have hs:=k5 c C;refine⟨a12 hs.1 q7,hs.2.1,hs.2.2,fun g=>?_⟩;rcases q3 c g with(g|g)|g;exact hs.2.2 ⟨n,g⟩;exact hs.2.2 ⟨m,g⟩
    have:=hs.1;omega) (f:=fun av=>(av.kill n []).drop m) (fun av=>by
    have same:(∀k q,(av=.ptr k q∨av=.sref k q∨∃o l,av=.swin k q o l)→False)→(av.kill n []).drop m=av→(av.kill n []).drop m=.dead∨((av.kill n []).drop m=av∧∀k q,(av=.ptr k q∨av=.sref k q∨∃o l,av=.swin k q o l)→(k=n→av=.ptr n [])∧(k==m)=false):=
     fun h1 h2=>.inr ⟨h2,fun k q hk=>(h1 k q hk).elim⟩
    cases av with
    |sref k q=>
     by_cases D:k=n
     left;simp[AV.kill,AV.drop,D,c0r]
     by_cases e2:k=m
     left;simp[AV.kill,AV.drop,e2,Ne.symm U];right;simp[AV.kill,AV.drop,D,e2]
    |swin k q o l=>
     by_cases D:k=n
     left;simp[AV.kill,AV.drop,D,c0r]
     by_cases e2:k=m
     left;simp[AV.kill,AV.drop,e2,Ne.symm U];right;simp[AV.kill,AV.drop,D,e2]
    |ptr k q=>
     by_cases e2:k=m
     left
     by_cases D:k=n
     exact absurd (D.symm.trans e2) U;simp[AV.kill,AV.drop,e2,Ne.symm U]
     ·by_cases D:k=n
      ·cases q with
       |nil=>right;simp[AV.kill,AV.drop,D,U,c0r]
       |cons=>left;simp[AV.kill,AV.drop,D,c0r]
      right;simp[AV.kill,AV.drop,D,e2]
    |_=>exact same (by rintro k q (g|g|⟨_,_,g⟩)<;>cases g) rfl) q9
  have c7:(⟨(Γ.mapv fun av=>(av.kill n []).drop m).sl,fun j=>if j=n then some ⟨false,.list true e,a16 l ys⟩else bif j==m then none else Γ.rt j,none⟩:AE) =
    (((Γ.mapv (AV.kill n [])).mapv (AV.drop m)).setRt m none).setRt n (some ⟨false,.list true e,a16 l ys⟩):=by
   simp only[AE.setRt,AE.mapv,b6];congr 1;funext j;cases Γ.sl j<;>simp[SV.mapv];funext j
   by_cases D:j=n
   simp[D];have e2:(j==n)=false:=by simpa using D
   simp[D,e2]
  rw[c7]at b0;refine⟨_,_,b0.putd (sv:=.one (.sref n [])) (v:=v') hN (fun _=>⟨_,e,.one v',f0w _,?_,rfl⟩),hz⟩;show some (_,if n=n then Src.one v' else _)=_
  rw[if_pos rfl]
 by_cases hfit:L+X≤cn
 ·cases hA:An with
  |none=>
   have k9:=h7 hA;have b4:X=0:=by omega
   have c0:L=0:=by omega
   have d4:a16 l ys=[]:=by
    have D:l=[]:=a02.1 (by omega);have e2:ys=[]:=a02.1 (by omega);rw[D,e2];rfl
   have e7:r=[]:=a02.1 (by rw[S,b4];omega);have c8:Rm=[]:=by
    subst b4;simp only[a0d,sj,pJ]at b7;exact b7.2.2.symm
   have Q:=e0e (P:=P) (w:=w) (w2:=w) (ty:=ty) (A:=none) (n:=L) (c:=cn) (k:=X) (new:=r) I h0 hu h1 g9 (h9 w (fun _=>rfl) g0 S b5 h3) hfit (fun b hb=>by cases hb) (fun _=>rfl);obtain⟨Γ',σ',k1,k2⟩:=b1 (w2:=w) (v':=.slice none (L+X) cn) (O2:=[]) (by
    rw[d4,b4,c0,k9,(g6 k9).2.2,c8];rfl) (fun _ _ _ _=>rfl) (by simp) (by simp) (by simp) (fun _ _ hf _=>hf) (a04 _) h.frame rfl
   exact⟨_,w,Γ',σ',Q,k1,k2⟩
  |some b=>
   obtain⟨hb,hO,b2⟩:=k7 b hA;obtain⟨w2,E⟩:∃w2,w2=w.setCells b.block (b.off+L*e.cells) r:=⟨_,rfl⟩;have h6:cn≠0→a0w w b.block (b.off+cn*e.cells):=fun C=>h.live n (b.block,b.off+cn*e.cells) (by rw[hO,if_neg C];simp);have V:r≠[]→cn≠0∧b.off+L*e.cells+r.length≤b.off+cn*e.cells:=fun y=>by
    have:X≠0:=fun e0=>y (a02.1 (by rw[S,e0];omega))
    refine⟨by omega,?_⟩
    have:=a19 e.cells hfit
    rw[a17,←S]at this;omega
   have a6:(storeCells (b.add (L*es.cells)) r).run P w=.ok () w2:=by
    rw[a2,E]
    by_cases y:r=[]
    simp only[y];rfl;obtain⟨C,g8⟩:=V y;rw[c0u (hb.resolve_left C)]
    have:=run_storeCells_cells (P:=P) b.block (b.off+L*e.cells) r 0 w (fun j hj=>((h6 C).cell (by omega)).1) (fun j hj=>((h6 C).cell (by omega)).2) (fun u hu=>f0d (e5 u hu))
    simpa using this
   have a3:∀H j,w2.cell? ⟨H,j,none⟩=if H=b.block∧b.off+L*e.cells≤j∧j<b.off+L*e.cells+r.length then r[j-(b.off+L*e.cells)]? else w.cell? ⟨H,j,none⟩:=fun H j=>by
    rw[E]
    by_cases y:r=[]
    simp only[y,World.setCells,a33];rw[if_neg (by omega)];obtain⟨C,g8⟩:=V y;exact e0z _ _ _ w _ (h6 C) g8 H j
   have Q:=e0e (P:=P) (w:=w) (w2:=w2) (ty:=ty) (A:=some b) (n:=L) (c:=cn) (k:=X) (new:=r) I h0 hu h1 g9 (h9 w (fun _=>rfl) g0 S b5 h3) hfit (fun b' g4=>by
    simp only[sj]at g4;subst g4;exact a6) (fun hn=>by cases hn)
   have h8:∀H,H≠b.block→w2.heap[H]?=w.heap[H]?:=fun H J=>by rw[E];exact d0d _ _ _ _ _ J
   have k8:r≠[]→b.block∈(σ.ow n).map (·.1):=fun y=>by rw[hO,if_neg (V y).1];simp
   have k3:∀H,(r≠[]→H≠b.block)→∀j,a0a w2 none H j=a0a w σ.ov H j:=fun H J j=>by
    rw[h4]
    by_cases y:r=[]
    rw[E,y];rfl;exact b0g none (h8 H (J y)) j
   have a4:=n0h (m:=a0a w2 none) (m0:=a0a w σ.ov) (b:=b) (n:=L+X) (c:=cn) (cs:=h5++(r++[])) (l:=a16 l ys) (os:=Z++Y) (R:=Rn++Rm) hb hfit (by
     simp only[lN,g5,S,a33];rw[a17];omega) (fun j u hj hu=>by
     simp only[a0a,a3]
     by_cases hj2:j<L*e.cells
     rw[if_neg (by omega)];rw[a03 (by omega)]at hu
     have:=b2 j u hu
     rw[h4]at this;exact this;rw[a17,←S]at hj;rw[if_pos ⟨trivial,by omega,by omega⟩];rw[a10 (by omega),a56,g5]at hu;rw[←hu];congr 1;omega) (k4 []) (fun H J j=>k3 H (fun y D=>(k5 H J).2.2 ⟨n,by rw[D];exact k8 y⟩) j) (fun H J j=>k3 H (fun y D=>by
     obtain⟨p,hp,rfl⟩:=a08.1 J;rcases mA.1 hp with hp|hp
     have:=h.nodup n
     rw[hO,if_neg (V y).1,a07,a05]at this;exact this.1 (by show b.block∈_;rw[←D];exact a00 hp);exact h.disj n m U b.block (k8 y) (by rw[←D];exact a00 (W p hp))) j)
   have b8:∀p∈(if cn=0 then[]else(b.block,b.off+cn*e.cells)::(Z++Y)),p∈σ.ow n∨p∈σ.ow m:=fun p hp=>by
    split at hp
    cases hp;rename_i C;rcases mC.1 hp with rfl|hp;left;rw[hO,if_neg C];simp;exact a5 p hp
   obtain⟨Γ',σ',k1,k2⟩:=b1 (w2:=w2) a4 (fun H j J d7=>by
     have:=k3 H (fun y D=>d7 (by rw[D];exact k8 y)) j
     rw[h4]at this;exact this) (fun H J=>by
     obtain⟨p,hp,rfl⟩:=a08.1 J;exact .inl ((b8 p hp).imp a00 a00)) (by
     split
     simp
     rename_i C;rw[a07,a05];refine⟨fun g=>?_,c3⟩;obtain⟨p,hp,D⟩:=a08.1 g;have D:p.1=b.block:=D;rcases mA.1 hp with hp|hp
     have:=h.nodup n
     rw[hO,if_neg C,a07,a05]at this;exact this.1 (by show b.block∈_;rw[←D];exact a00 hp);exact h.disj n m U b.block (by rw[hO,if_neg C];simp) (by rw[←D];exact a00 (W p hp))) (fun p hp=>by
     have:a0w w p.1 p.2:=(b8 p hp).elim (h.live n p) (h.live m p)
     rw[E];exact this.setCells _ _ _) (fun _ _ hf _=>by rw[E];exact hf.setCells _ _ _) (by rw[E,e0b];exact a04 _) (fun b' g4 hF=>by
     by_cases y:r=[]
     rw[E,y];exact h.frame b' g4 hF;rw[h8 b' ?_];exact h.frame b' g4 hF
     rintro rfl
     rcases h.mine _ ⟨n,k8 y⟩with g|g;exact hF g;omega) (by rw[E];exact f0a _ _ _ _)
   exact⟨_,w2,Γ',σ',Q,k1,k2⟩
 have d3:cn<L+X:=by omega
 have Q:=g0q (P:=P) (w:=w) (ty:=ty) (A:=An) (n:=L) (c:=cn) (k:=X) (old:=h5) (new:=r) I h0 hu h1 g9 (h9 w.drew (fun _=>rfl) g0 S b5 h3) (h9 w.drew (fun _=>rfl) k7 g5 d8 h7) d3 (by rw[d6,d5];exact hlim);have b3:=grownCap_ge w (L+X) cn t';generalize E:w.drew.alloc _=w2 at Q;generalize hgc:grownCap w (L+X) cn t'=gc at Q b3;have M:∀c,c<w.heap.size→w2.heap[c]?=w.heap[c]?:=fun c C=>by rw[←E];exact b0m (w:=w.drew) _ c C
 have T:=b0i (w:=w.drew) (.cells (h5++(r++(Builtin.zeroCells I.z.cells (gc-(L+X))).toList)).toArray t');have T:w2.heap[w.heap.size]?=some (.cells (h5++(r++(Builtin.zeroCells I.z.cells (gc-(L+X))).toList)).toArray t'):=by
  rw[←E,hgc];exact T
 have c6:w.heap.size≤w2.heap.size:=by rw[←E];exact b0s (w:=w.drew) _
 have e6:∀k,(Builtin.zeroCells I.z.cells k).size=k*e.cells:=fun k=>by rw[i0t,size_madeCells,I.zsize,a2]
 have a8:(h5++(r++(Builtin.zeroCells I.z.cells (gc-(L+X))).toList)).length=gc*e.cells:=by
  simp only[lN,g5,S,a34,e6];rw[←a17,←a17];congr 1;omega
 have a4:=n0h (m:=a0a w2 none) (m0:=a0a w σ.ov) (b:=⟨w.heap.size,0,none⟩) (n:=L+X) (c:=gc) (cs:=h5++(r++(Builtin.zeroCells I.z.cells (gc-(L+X))).toList)) (os:=Z++Y) (.inr rfl) b3 (by
   rw[a8];exact a19 _ b3) (fun j u _ hu=>by
   simp only[a0a,a11,World.cell?,T];simpa using hu) (k4 _) (fun c C j=>by
   rw[h4];exact b0g none (M c (k5 c C).1) j) (fun c C j=>by
   rw[h4];exact b0g none (M c (h.lt (a9 c C))) j)
 have b9:gc≠0:=by omega
 rw[if_neg b9]at a4;have g7:∀c k,a0w w c k→a0w w2 c k:=fun c k hf=>by
  obtain⟨cc,D,lo,hi,g1,g2⟩:=hf;exact⟨cc,D,lo,hi,by rw[M c (a36.1 g1).1];exact g1,g2⟩
 obtain⟨Γ',σ',k1,k2⟩:=b1 (w2:=w2) a4 (fun c j C _=>b0g none (M c C) j) (fun c C=>by
   rw[a07,mC]at C;rcases C with C|C;exact .inr (by have C:c=w.heap.size:=C;omega);obtain⟨p,hp,rfl⟩:=a08.1 C;exact .inl ((a5 p hp).imp a00 a00)) (by
   rw[a07,a05];refine⟨fun g=>?_,c3⟩
   have:=h.lt (a9 _ g)
   exact absurd this (Nat.lt_irrefl _)) (fun p hp=>by
   rcases mC.1 hp with rfl|hp;exact⟨_,t',0,0,T,by show 0+gc*e.cells≤_;rw[a51,a8];omega,.inl rfl⟩;exact g7 _ _ ((a5 p hp).elim (h.live n p) (h.live m p))) (fun c k hf _=>g7 c k hf) c6 (fun b hb hF=>by
   have:=h.size
   rw[M b (by omega)];exact h.frame b hb hF) (by rw[←E];rfl)
 exact⟨_,w2,Γ',σ',by rw[←a2]at *;exact Q,k1,k2⟩
theorem x0o{m:Nat}{y:Operand}{q:a0n}(h:Γ.opd y=.sref m q)(hd:d≠m):(Γ.newRt d r).opd y=.sref m q:=by
 unfold AE.newRt;split;exact h
 ·cases y with
  |tmp t=>
   have e:(m==d)=false:=by grind
   simp[AE.opd,AE.get,AE.setRt,AE.mapv]at h⊢
   grind[SV.mapv,AV.drop]
  |_=>exact h
theorem Rel.top1{tm}(h:Rel B Γ N tm w σ){k:Nat}(a:Γ.rt k=some r)(l:r.bx=false)(hv:a0e (a0a w σ.ov) σ.g Γ.rt (Shr B w σ) (.sref k []) v):σ.g k=.one v:=by
 obtain⟨m,j,s',b,c,e⟩:=hv;rw[a]at b;cases b;simp[a0t]at c;obtain⟨i,R,-,-,d⟩:=(h.roots k r a).rd;rcases d with⟨g,-⟩|⟨-,⟨n,f⟩,-⟩;simp_all;rw[←c.2,f]at e;simp_all[Src.rd]
theorem x0d{m:Nat}{es:Ty}(c:e.sh=es){ty:TypeId}(I:Info P es t')(A:ts[0]?=some t)(E:P.underlying t=some (.slice t'))(C:ts[1]?=none∨∃t2,ts[1]?=some t2∧(P.underlying t2=some .string∨∃e,P.underlying t2=some (.slice e))){y:Operand}{K:AE→Rs ρ}{z:ρ}(h:Rel B Γ N (a0f a) w σ)(D:a.tmps.size=N)(k:a0e (a0a w σ.ov) σ.g Γ.rt (Shr B w σ) av s)(p:b0e N y=true)(G:Γ.opd y=.sref m [])(i:Γ.look m=some ⟨false,.list true e,ys⟩)(f:Γ.gath d m e ys av K=some z):
  ∃v w' Γ' σ',(Builtin.append_ ts ty #[s,a.eval y]).run P w=.ok v w'∧Rel B Γ' N (a0f (a.put (some d) v)) w' σ'∧K Γ'=some z:=by
 obtain⟨L,i⟩:=a0o i;unfold AE.gath at f
 split at f
 have k:s=.slice none 0 0:=k;subst k;rcases a0b f with⟨-,g⟩|⟨b,f⟩;cases g;have b:d≠m:=by simpa using b
 obtain⟨Γ1,σ1,M,u,S,Q,T,x⟩:=h.fresh f (fun _ _=>rfl) (a04 _) (s:=.one (.slice none 0 0)) (O:=[]) (by simp) (by simp) (by simp) ⟨[],[],rfl,by simp,.inr ⟨rfl,⟨_,rfl⟩,⟨e,rfl⟩,rfl⟩⟩;have j:Γ1.rt m=some ⟨false,.list true e,ys⟩:=by
  have H:(m==d)=false:=by simpa using Ne.symm b
  rw[x];unfold AE.newRt
  split<;>simp[AE.setRt,AE.mapv,H,i]
 have o:=u.opd p;rw[x,x0o G b,←x]at o;exact p0g c I A E C u D Q (u.top1 j rfl o) j M;rename_i n;have F:=h.opd p;rw[G]at F;have r:∃l,Γ.rt n=some ⟨false,.list true e,l⟩:=by
  unfold AE.gathN at f
  split at f
  rename_i R l J
  split at f
  rename_i q;subst q;exact⟨l,(a0o J).2⟩;cases f;cases f
 obtain⟨l,r⟩:=r;exact p0g c I A E C h D (h.top1 r rfl k) (h.top1 i rfl F) i f;simp_all
end
section
variable {P:Program} {B:Base} {N:Nat} {ρ:Type} {Γ:AE} {a:Act} {w:World} {σ:Gh}
theorem g0d.news{m Sh}(h:g0d w m Sh e l v):Nonempty (News P w m Sh e l v):=by
 obtain⟨A,n,c,cs,hv,hn,hlen,hone,⟨R,g,a⟩,hc,hnone,-⟩:=h;have f:=h0a (P:=P) (w:=w) (w2:=w) (e:=e) hv (fun _=>rfl) hlen hc hnone n (a04 _);have k:=h0a (P:=P) (w:=w) (w2:=w.drew) (e:=e) hv (fun _=>rfl) hlen hc hnone n (a04 _);rw[←hlen,a53]at f k;refine⟨⟨cs,?_,by simp_all,hone,R,by simp_all,a,by simp_all,by simp_all⟩⟩;rw[hv,←hn];rfl
theorem y0y{m Sh}(s:ByteArray){l:List (Ty.int .u8).den}(d:l=(s.data.toList.map fun b=>(b.toNat:Int):List Int)):Nonempty (News P w m Sh (.int .u8) l (.string s)):=by
 have k:(s.data.toList.map fun b=>(b.toNat:Int)).length=s.size:=by simp
 have g:l.length=s.size:=(congrArg a13 d).trans k;have a:∀w:World,(Builtin.firstCells (Ty.int .u8).cells s.size (.string s)).run P w=.ok (s.data.toList.map fun b=>Value.int .u8 (b.toNat:Int)).toArray w:=fun w=>by
  have n:s.extract 0 s.size=s:=by simp
  simp only[Builtin.firstCells,n,Sem.run_pure];congr 1
  grind
 refine⟨⟨s.data.toList.map fun b=>Value.int .u8 (b.toNat:Int),?_,?_,?_,[],?_,by simp,?_,?_⟩⟩;rw[g];rfl;rw[g,a57];show s.data.toList.length=s.size*1
 simp
 intro u e;obtain⟨b,-,rfl⟩:=a08.1 e;rfl
 ·have key:∀(l:List UInt8)(h:List Value)(i:Nat),h.length=i→a0d (fun i=>dec m (.int .u8) fun j=>(h++l.map fun b=>Value.int .u8 (b.toNat:Int))[i*(Ty.int .u8).cells+j]?) l.length i =
    some ((l.map fun b=>(b.toNat:Int):List Int),[],[]):=by
   intro l
   induction l with
   |nil=>intro h i _;rfl
   |cons b l ih=>
    intro h i hp;have c:=ih (h++[Value.int .u8 (b.toNat:Int)]) (i+1) (by grind);simp at c;have f:(h++(b::l).map fun b=>Value.int .u8 (b.toNat:Int))[i*(Ty.int .u8).cells+0]?=some (.int .u8 (b.toNat:Int)):=by
     show(h++_)[i*1+0]?=_;simp_all
    simp only[lC,a0d];rw[show dec m (.int .u8) (fun j=>(h++(b::l).map fun b=>Value.int .u8 (b.toNat:Int))[i*(Ty.int .u8).cells+j]?)=some ((b.toNat:Int),[],[])from by
     simp only[dec];rw[f];rfl]
    simp only[a07];rw[c];rfl
  have:=key s.data.toList [] 0 rfl
  rw[g];rw[show s.data.toList.length=s.size from rfl]at this;rw[d];exact this
 all_goals simp_all
theorem w0m{t2 ty:TypeId}{K:AE→Rs ρ}{z:ρ}(I:Info P e t')(x:ts[0]?=some t)(D:P.underlying t=some (.slice t'))(y:ts[1]?=some t2)(A:P.underlying t2=some (.int .i64))(b:0<e.cells)(h:Rel B Γ N (a0f a) w σ)(C:a.tmps.size=N)(l:Γ.apnd q d e .nils (a28 n e.dflt) K=some z):
  ∃v w' Γ' σ',(Builtin.append_ ts ty #[.slice none 0 0,.int .i64 (n:Int)]).run P w=.ok v w'∧Rel B Γ' N (a0f (a.put (some d) v)) w' σ'∧K Γ'=some z:=by
 simp only[AE.apnd]at l;obtain⟨f,l⟩:lim (a28 n e.dflt).length=true∧_:=(a0b l).elim id fun h=>by grind
 simp[lim]at f
 by_cases hk:n=0
 subst hk;have g:(Builtin.append_ ts ty #[.slice none 0 0,.int .i64 ((0:Nat):Int)]).run P w=.ok (.slice none 0 0) w:=by
  have H:IntKind.i64.wrap (0:Int)=0:=rfl;simp[Builtin.append_,x,y,run_underlying D,run_underlying A,I.sizeOf,I.typeInfo,asInt,asIntOf,H]
 obtain⟨Γ',σ',p,r,o,E,J,L⟩:=h.fresh l (fun _ _=>rfl) (a04 _) (s:=.one (.slice none 0 0)) (O:=[]) (by simp) (by simp) (by simp) ⟨[],[],by
   rfl,by simp,.inr ⟨rfl,⟨_,rfl⟩,⟨e,rfl⟩,rfl⟩⟩
 exact⟨_,w,_,σ',g,r.putd (sv:=.one (.sref d [])) C (fun _=>⟨_,e,_,o,by rw[E];rfl,rfl⟩),p⟩;have g:=o0k (P:=P) (w:=w) (ty:=ty) I x D y A b (n:=n) (by omega) f;have M:=grownCap_ge w n 0 t';have u:∀k,(Builtin.zeroCells I.z.cells k).size=k*e.cells:=fun k=>by rw[i0t,size_madeCells,I.zsize]
 have rd:a0d (fun i=>dec (a0a w σ.ov) e fun j=>(Builtin.zeroCells I.z.cells n).toList[i*e.cells+j]?) n 0=some (a28 n e.dflt,[],[]):=by
  have:=o0h (m:=a0a w σ.ov) I.zok I.zsize n
  rw[i0t,I.zsize];simp_all
 have G:(a28 n e.dflt).length=n:=List.length_replicate;obtain⟨Γ',σ',p,r,o,-,-⟩:=h.newSlice (c:=grownCap w n 0 t') l (fun c F=>b0m (w:=w.drew) _ c F) (b0s (w:=w.drew) _)
  (b0i (w:=w.drew) (Obj.cells (([]:List Value)++((Builtin.zeroCells I.z.cells n).toList++(Builtin.zeroCells I.z.cells (grownCap w n 0 t'-n)).toList)).toArray t')) (.inl rfl) (by
   have:(([]:List Value)++((Builtin.zeroCells I.z.cells n).toList++(Builtin.zeroCells I.z.cells (grownCap w n 0 t'-n)).toList)).length=grownCap w n 0 t'*e.cells:=by
    simp[u];rw[←a17];simp_all
   simp_all) (by omega) (R:=[]) (by
   have:=k0k (m:=a0a w σ.ov) (e:=e) (l1:=[]) (l2:=a28 n e.dflt) (cs1:=[]) (cs2:=(Builtin.zeroCells I.z.cells n).toList) (rest:=(Builtin.zeroCells I.z.cells (grownCap w n 0 t'-n)).toList) (n1:=0) (n2:=n) (o1:=[]) (o2:=[]) (R1:=[]) (R2:=[]) rfl (by simp) rd (by simp_all)
   simp_all) (by simp)
 rw[G]at o;exact⟨_,_,_,σ',g,r.putd (sv:=.one (.sref d [])) C (fun _=>o),p⟩
theorem t0m{o:Oper}{c:Call}{d:Nat}{cx:Cx}{q:Bool}{K:AE→Rs ρ}{z:ρ}(s:CxTy P cx)(ho:o.op=.call c)(Z:c.callee=.builtin .append)(hd:o.dst=some d)
  (h:Rel B Γ N (a0f a) w σ)(U:a.tmps.size=N)(hf:fits N o=true)(b:aop cx q o Γ K=some z):a0i P B N o a w K z:=by
 obtain⟨cs,r⟩:=i0w (P:=P) (a:=a) (w:=w) ho Z;have hl:∃x y,c.args.toList=[x,y]:=by
  cases hl:c.args.toList with
  |nil=>simp_all[aop,AE.blt]
  |cons x l=>
   cases l with
   |nil=>simp_all[aop,AE.blt]
   |cons y l=>
    cases l with
    |nil=>simp
    |cons u l=>simp_all[aop,AE.blt]
 obtain⟨x,y,H⟩:=hl;have W:c.args=#[x,y]:=by grind
 have i:=j0w ho Z hf;rw[H]at i;have G:=h.opd (i x (by simp));have O:=h.opd (i y (by simp));simp[aop,ho,hd,Z,H,AE.blt]at b;rcases a0b b with⟨h4,b⟩|⟨-,b⟩;rotate_left;rw[l0d]at b
 split at b
 rename_i e ys j;unfold t0f at j
 split at j
 rename_i t t2 rr n F X h3
 split at j
 rename_i o2 e2 D V;rcases a0b j with⟨hc,j⟩|⟨-,g⟩;cases j;simp at hc;obtain⟨h5,hty⟩:=s.T t _ D;obtain⟨t',M,C,A⟩:=b0l hty;obtain⟨I⟩:=a0k (a0p C);have h0:c.argTypes[0]?=some t:=by rw[←a09,F];rfl
 have L:c.argTypes[1]?=some t2:=by rw[←a09,F];rfl
 have h2:P.underlying t2=some (.int .i64):=by
  have hty:=(s.T t2 _ V).2;simp[a0g]at hty
  grind
 rw[X]at G;obtain G:a.eval x=.slice none 0 0:=G;rw[h3]at O;have O:=a0e.int O;obtain⟨v,w',Γ',σ',Q,k2,J⟩:=w0m (ty:=o.type) I h0 M L h2 A h U b;rw[Int.toNat_of_nonneg hc.1]at Q;refine⟨v,w',Γ',σ',.inl (r.trans ?_),by simp_all,J⟩;simp_all[builtin];simp_all;simp_all;simp_all;simp_all;have L:=t0s s h4
 split at b
 ·rename_i o' e D;obtain⟨t,ht,D⟩:=a27.1 D;have E:c.argTypes[0]?=some t:=by
   rw[←a09];cases hl:c.argTypes.toList with
   |nil=>simp_all
   |cons y l=>simp_all
  obtain⟨h5,hty⟩:=s.T t _ D;obtain⟨t',M,C,A⟩:=b0l hty;obtain⟨I⟩:=a0k (a0p C);have he:e.sh=e:=by
   simp_all[Ty.sh]
  have S:∀ys,Nonempty (News P w (a0a w σ.ov) (Shr B w σ) e ys (a.eval y))→Γ.apnd q d e (Γ.opd x) ys K=some z→a0i P B N o a w K z:=by
   rintro ys ⟨Y⟩ b
   obtain⟨v,w',Γ',σ',Q,k2,J⟩:=w0q (ty:=o.type) he I E M L h U G Y b;refine⟨v,w',Γ',σ',.inl (r.trans ?_),by simp_all,J⟩;simp_all[builtin]
  split at b
  grind[a0e.str,y0y]
  ·split at b
   ·rename_i m R ys f;have h6:=b;cases q with
    |true=>simp_all
    |false=>
     cases hel:e.isList with
     |false=>simp_all
     |true=>
      rw[hel]at f;have f:Γ.ownB e (Γ.opd y)=some (m,⟨R,ys⟩):=f;have key:Γ.opd y=.sref m []∧Γ.look m=some ⟨false,.list true R,ys⟩∧R.sh=e:=by
       revert f
       cases Γ.opd y with
       |sref k p=>
        cases p with
        |cons=>simp_all[AE.ownB]
        |nil=>
         intro f;simp[AE.ownB]at f
         grind
       |_=>intro f;simp[AE.ownB]at f
      obtain⟨Q,k2,J⟩:=key;obtain⟨v,w',Γ',σ',j1,j2,j3⟩:=x0d (ty:=o.type) J I E M L h U G (i y (by simp)) Q k2 h6;exact⟨v,w',Γ',σ',.inl (r.trans (by simp_all[builtin])),by simp_all,j3⟩
   obtain⟨l,b,hE⟩:=h.elems he O b;exact S l hE.news b
 simp_all
end
theorem y0t(n:Nat)(av:AV):AV.kill n [] av=.dead∨(AV.kill n [] av=av∧∀k q,(av=.ptr k q∨av=.sref k q∨∃o l,av=.swin k q o l)→k=n→av=.ptr n []):=by
 cases av with
 |ptr m q=>
  simp only[AV.kill]
  by_cases hm:m=n
  ·subst hm;cases q with
   |nil=>simp
   |cons=>left;simp[c0r]
  simp_all
 |sref m q=>
  grind[AV.kill,c0r]
 |swin m q o k=>
  grind[AV.kill,c0r]
 |_=>exact .inr ⟨rfl,fun k q h _=>by rcases h with h|h|⟨_,_,h⟩<;>cases h⟩
section
variable {P:Program} {B:Base} {N:Nat} {ρ:Type} {Γ:AE} {a:Act} {w:World} {σ:Gh}
theorem t0n{o:Oper}{x:Operand}{d:Nat}{cx:Cx}{q:Bool}{K:AE→Rs ρ}{z:ρ}(L:o.op=.assign x)(hd:o.dst=some d)
  (h:Rel B Γ N (a0f a) w σ)(R:a.tmps.size=N)(hf:fits N o=true)(m:aop cx q o Γ K=some z):a0i P B N o a w K z:=by
 have O:=h.opd (a0s hf x (by simp[L,Op.operands]));have y:(execOp a.eval o).run P w=.ok (.value (a.eval x)) w:=by simp[execOp,L]
 simp[aop,L,hd]at m;have same:∀av,Γ.opd x=av→K (Γ.set d av)=some z→a0i P B N o a w K z:=fun av u m=>a0i.set hd R y h (u▸O) m
 split at m
 case h_2=>
  rename_i c vs C;cases x with
  |tmp t=>
   have C:Γ.sl t=.cmp c vs:=C;have ht:t<N:=by have:=a0s hf (.tmp t) (by simp[L,Op.operands]);simpa[b0e]using this
   have U:=h.slots t ht;rw[C]at U;exact⟨_,w,_,σ,.inl y,by rw[hd];exact h.putd R (fun _=>U),m⟩
  |_=>cases C
 rename_i vx G;have G:vx=Γ.opd x:=by
  cases x with
  |tmp t=>
   have G:Γ.sl t=.one vx:=G;simp_all[AE.opd,AE.get]
  |_=>exact(SV.one.inj G).symm
 subst G;unfold AE.asg at m
 split at m
 rename_i r u
 split at m
 rename_i t X S;obtain⟨E,Q⟩:=a0o S;rcases a0b m with⟨-,m⟩|⟨M,m⟩;simp_all;rcases a0b m with⟨-,m⟩|⟨-,m⟩;simp_all;obtain⟨h6,m⟩:=(a0b m).elim id fun h=>by grind
 have h6:d<pinned:=by simp_all
 have g6:r≠d:=by
  simp_all
 have h1:=h.drop (n:=d) (by simp_all);have h8:((Γ.mapv (AV.drop d)).setRt d none).rt r=some ⟨false,t,X⟩:=by
  grind[AE.setRt,AE.mapv]
 have h2:=h1.rename h8 (d:=d) (f0w _) (fun i b e _=>by omega) (by simp_all[AE.setRt,AE.mapv]);have hΓ:((((Γ.mapv (AV.drop d)).setRt d none).mapv (AV.ren r d)).setRt r none).setRt d (some ⟨false,t,X⟩)=(((Γ.mapv (AV.drop d)).mapv (AV.ren r d)).setRt r none).setRt d (some ⟨false,t,X⟩):=by
  simp only[AE.setRt,AE.mapv]
  grind
 rw[hΓ]at h2;rw[u]at O;obtain⟨r',e',s',Z,g2,g3⟩:=O;rw[Q]at Z;simp at Z;subst Z;simp[a0t]at g2;have D:loc (a0a w σ.ov) t (if d=d then σ.g r else σ.g d) []=some (.list true e',s'):=by
  show some (t,if d=d then σ.g r else _)=_
  simp_all
 have h3:=h2.putd (sv:=.one (.sref d [])) (v:=a.eval x) (d:=d) R (fun _=>⟨⟨false,t,X⟩,e',s',f0w _,D,g3⟩);exact⟨_,w,_,_,.inl y,by rw[hd];exact h3,m⟩;simp_all
 ·rename_i r k u
  split at m
  ·rename_i e l S;obtain⟨E,Q⟩:=a0o S;rcases a0b m with⟨M,m⟩|⟨-,m⟩
   ·simp only[bA,beq_iff_eq]at M;obtain⟨rfl,-⟩:=M;obtain⟨J,m⟩:=(a0b m).elim id fun h=>by grind
    simp at J;replace J:=J.symm;rw[u]at O;obtain⟨s,O',R',a0,n0,c,f1,f2,f3,f4,f5,f6,H,hv,f7,f8⟩:=h.window O Q (show b0c (.list true e) l []=⟨.list true e,l⟩from rfl);rw[a11]at f6;rw[Nat.sub_zero]at hv;have g7:=h.ov_none E;simp[a0t]at f1;obtain⟨O1,R1,Y,k2,k3,k4,k5,k6⟩:=h.sep Q;rw[f1]at Y;have h5:dec (a0a w σ.ov) (.list true e) (s.rd (a0a w σ.ov))=some (l,O',R'):=a0j _ f3 (fun j hj=>by
     have h7:j=0:=by simp_all[Ty.cells]
     subst h7;rw[f2];rfl) (fun _ _ _=>rfl)
    rw[h5]at Y;simp at Y;obtain⟨rfl,rfl⟩:=Y;have key:∃O2 R2,dec (a0a w σ.ov) (.list true e) ((Src.one (.slice H k c)).rd (a0a w σ.ov))=some (a38 k l,O2,R2)∧(∀p∈O2,p∈O')∧(O2.map (·.1)).Nodup∧(∀c∈R2,c∈R'):=by
     rcases b0r f3 with⟨C,g4,-,-⟩|⟨A,n1,c1,os,C,hA,hn,W,L⟩
     ·simp[Src.rd]at C;obtain⟨rfl,rfl,rfl⟩:=C;have hk:k=0:=by omega
      subst hk;refine⟨[],[],?_,by simp,by simp,by simp⟩;show a0x (a0a w σ.ov) true e.cells (dec (a0a w σ.ov) e) (some (.slice H 0 0))=some (([]:List e.den),[],[]);cases H with
      |none=>rfl
      |some b=>rfl
     ·simp[Src.rd]at C;obtain⟨rfl,rfl,rfl⟩:=C;rw[show n0=k+(n0-k)from by omega]at W;obtain⟨h9,g0,g8,g9,j1,-,rfl,rfl⟩:=d0l k _ 0 W;have g5:=k3.nodup
      by_cases I:c=0
      ·subst I;have hk:k=0:=by omega
       subst hk;refine⟨[],[],?_,by simp,by simp,by simp⟩;show a0x (a0a w σ.ov) true e.cells (dec (a0a w σ.ov) e) (some (.slice H 0 0))=some (([]:List e.den),[],[]);cases H with
       |none=>rfl
       |some b=>rfl
      ·rcases L with⟨h0,-⟩|⟨-,L⟩;omega
       ·have h4:H=some ⟨A.block,A.off,none⟩:=by
         simp_all[c0u]
        subst h4;refine⟨(A.block,A.off+c*e.cells)::h9,g0,o0y (a:=⟨A.block,A.off,none⟩) rfl rfl (by omega) I j1,?_,?_,fun c I=>a24 _ I⟩
        all_goals grind
    obtain⟨O2,R2,j1,j2,j3,j4⟩:=key;have V:∀p∈O2,p∈σ.ow r:=fun p hp=>by
     simp_all
    have F:∀c∈O2.map (·.1),c∈(σ.ow r).map (·.1):=fun c I=>by
     grind
    have T:=h.top Q J.2 E (w':=w) (v':=.slice H k c) (l':=a38 k l) j1 (fun _ _ _ _=>rfl) (fun c I=>.inl (F c I)) j3 (fun p hp=>h.live r p (V p hp)) (fun _ _ hf _=>hf) (a04 _) h.frame
     (fun c I=>by
      have C:=f4 c (j4 c I);exact⟨C.1,C.2.1,C.2.2,fun g=>C.2.2 ⟨r,F c g⟩⟩) (f:=AV.kill r []) (y0t r)
    have D:loc (a0a w σ.ov) (.list true e) (if r=r then Src.one (.slice H k c)else σ.g r) []=some (.list true e,.one (.slice H k c)):=by
     show some (_,if r=r then Src.one _ else _)=_
     simp
    have h3:=T.putd (sv:=.one (.sref r [])) (v:=a.eval x) (d:=r) R (fun _=>⟨⟨false,.list true e,a38 k l⟩,e,.one (.slice H k c),f0w _,D,by rw[hv];rfl⟩);exact⟨_,w,_,_,.inl y,by rw[hd];exact h3,m⟩
   exact same _ u m
  exact same _ u m
 rename_i u
 split at m
 rename_i t X S;obtain⟨E,Q⟩:=a0o S;rcases a0b m with⟨-,m⟩|⟨-,m⟩;exact same _ u m;exact a0i.set hd R y (h.drop (n:=d) (by simp[E])) (av:=.nils) (by rw[u]at O;exact O) m;exact same _ u m;exact same _ rfl m
end
theorem Rel.move{B Γ N tm w σ}(h:Rel B Γ N tm w σ){n r p ε b o y O1 R1}(hr:Γ.rt n=some r)(hl:loc (a0a w σ.ov) r.t (σ.g n) p=some ((.list true ε),.at b o))(hy:dec (a0a w σ.ov) (.list true ε) ((Src.at b o).rd (a0a w σ.ov))=some (y,O1,R1)){m0:Nat}{y':List ε.den}(b3:Γ.rt m0=some ⟨false,(.list true ε),y'⟩)(b1:σ.g m0=.one v)(K:m0≠n)(a4:Γ.pd=none){f:AV→AV}(hf:∀a,f a=.dead∨(f a=a∧r0r n p (.list true ε) a∧∀k q,(a=.ptr k q∨a=.sref k q∨∃o l,a=.swin k q o l)→k≠m0)):
  ∃d,Rel B (((Γ.mapv f).setRt m0 none).setRt n (some ⟨r.bx,r.t,b0q r.t r.x p (.list true ε) y'⟩)) N tm (w.setCell ⟨b,o,none⟩ v) ⟨σ.g,d,none⟩:=by
 have b5:σ.ov=none:=h.ov_none a4;obtain⟨O2,R2,i1,i2,i3,i4,i5,i6⟩:=h.sep b3;have i6:σ.ow m0=O2:=by
  simp_all
 rw[b1]at i1;obtain⟨w',X⟩:∃w',w'=w.setCell ⟨b,o,none⟩ v:=⟨_,rfl⟩;rw[←X];have g8:b∈(σ.ow n).map (·.1):=h.place hr hl;have k8:=h.room hr hl;have a3:(Ty.list true ε).cells=1:=rfl;have k0:∀c j,a0a w' none c j=if c=b∧j=o then some v else a0a w σ.ov c j:=fun c j=>by
  rw[b5,X];simp[a0a]
  by_cases G:c=b∧j=o
  obtain⟨rfl,rfl⟩:=G
  have:=(k8.cell (o:=j) (by omega)).1
  grind[a40,World.cell?_setCell_same]
  rw[if_neg G,World.cell?_setCell_other]
  grind
 have b8:∀c j,a0a w' none c j=a0a w σ.ov c j∨(c=b∧o≤j∧j<o+(Ty.list true ε).cells)∨c∈O1.map (·.1)∨w.heap.size≤c:=fun c j=>by
  grind
 have b7:dec (a0a w' none) (.list true ε) ((Src.at b o).rd (a0a w' none))=some (y',O2,R2):=by
  refine a0j _ i1 (fun j hj=>?_) (fun c j z=>?_);simp_all[Src.rd];rw[k0,if_neg]
  rintro⟨rfl,-⟩
  rcases z with z|z;exact h.disj n m0 (Ne.symm K) c g8 (i4 c z);exact(i2 c z).2.2 ⟨n,g8⟩
 have T:∀c∈O2.map (·.1),c∈(σ.ow m0).map (·.1):=i4;have b4:(O2.map (·.1)).Nodup:=i3.nodup;have I:∀c k,a0w w c k→a0r σ c→a0w w' c k:=fun c k hf _=>by rw[X];exact hf.setCell _ _
 have b2:∀p∈O2,a0w w' p.1 p.2:=fun p hp=>by
  rw[←i6]at hp;exact I _ _ (h.live m0 p hp) ⟨m0,a00 hp⟩
 have a7:w.heap.size≤w'.heap.size:=by simp_all
 have a9:∀b,b<B.size→¬ B.F b→w'.heap[b]?=B.hp b:=fun c z hF=>by
  rw[X,f0k,if_neg];exact h.frame c z hF
  ·rintro rfl
   rcases h.mine c ⟨n,g8⟩with g|g
   all_goals grind
 obtain⟨O',R,h1,h2,h3,h4,h5,h6⟩:=h.sep hr;obtain⟨y1,c4,c5,A1,B1,c2,c3,hd,hg,G,e2⟩:=b0h p r.t _ h1 hl;rw[hy]at hd;simp at hd;obtain⟨rfl,rfl,rfl⟩:=hd;have c6:∀c,c∈O1.map (·.1)→c∈(σ.ow n).map (·.1):=fun c z=>h4 c (by grind);have hb:b∈(σ.ow n).map (·.1):=h.place hr hl;have a2:Chg (a0a w σ.ov) (a0a w' none) (σ.g n) O' R b o (Ty.list true ε).cells O1:=fun c j=>by
  grind
 obtain⟨A,B',R',e3,h7,h8⟩:=o0j p r.t (σ.g n) h1 hl hy b7 h3 a2

 have M:∀c j,c∉(σ.ow n).map (·.1)→c<w.heap.size→a0a w' none c j=a0a w σ.ov c j:=fun c j z c8=>by
  grind
 have L:∀m,m≠n→∀c j,c∈(σ.ow m).map (·.1)→a0a w' none c j=a0a w σ.ov c j:=fun m W c j z=>
  M c j (h.disj m n W c z) (h.lt ⟨m,z⟩)
 have a6:∀c j,Shr B w σ c→a0a w' none c j=a0a w σ.ov c j:=fun c j z=>M c j (fun g=>z.2.2 ⟨n,g⟩) z.1

 let on:a0z:=match r.bx with|true=>(match σ.g n with|.at b0 _=>[(b0,r.t.cells)]|_=>[])++(A++(O2++B'))|false=>A++(O2++B')
 let d:Nat→a0z:=fun m=>if m=n then on else if m=m0 then[]else σ.ow m
 have h0:d n=on:=by grind
 have E:∀m,m≠n→m≠m0→d m=σ.ow m:=fun m W c9=>by grind
 have c1:d m0=[]:=by grind
 have g0:∀c,c∈on.map (·.1)→c∈(σ.ow n).map (·.1)∨c∈O2.map (·.1):=by
  grind
 have J:∀c,(∃m,c∈(d m).map (·.1))→a0r σ c:=by
  rintro c ⟨m,W⟩
  by_cases e:m=n
  subst e;rw[h0]at W;rcases g0 c W with g|g;exact⟨m,g⟩;exact⟨m0,T c g⟩
  by_cases Q:m=m0
  grind
  rw[E m e Q]at W;exact⟨m,W⟩
 have k9:∀c,Shr B w σ c→Shr B w' ⟨σ.g,d,none⟩ c:=fun c ⟨g1,g2,g3⟩=>⟨a12 g1 a7,g2,fun g4=>g3 (J c g4)⟩;have b6:∀c∈R2,Shr B w' ⟨σ.g,d,none⟩ c:=fun c z=>k9 c (i2 c z)

 have h9:∀m q H tq s,Γ.rt m=some H→loc (a0a w σ.ov) H.t (σ.g m) q=some (tq,s)→(m=n→∀rest,q=p++rest→rest=[]∨(Ty.list true ε).shn=(Ty.list true ε))→
   loc (a0a w' none) H.t (σ.g m) q=some (tq,s)∧∀e,tq=.list true e→(m=n→∀rest,q=p++rest→(Ty.list true ε).shn=(Ty.list true ε))→s.rd (a0a w' none) 0=s.rd (a0a w σ.ov) 0:=by
  intro m q H tq s hrm D hq
  by_cases e:m=n
  subst e;rw[hr]at hrm;simp at hrm;subst hrm
  have:=h0q p q r.t (σ.g m) h1 hl hy h3 a2 (hq rfl) D
  refine⟨this.1,fun e ht Z=>this.2 e s (by grind) (fun rest Y=>?_)⟩;have hp:=Z rfl rest Y
  grind[Ty.shn]
  ·obtain⟨Om,Rm,g1,g2,g3,g4,g5,-⟩:=h.sep hrm;have V:∀j,j<H.t.cells→(σ.g m).rd (a0a w' none) j=(σ.g m).rd (a0a w σ.ov) j:=fun j _=>by
    cases es:σ.g m with
    |one v=>rfl
    |_=>rename_i b' o';exact L m e b' _ (g5 _ _ es)
   refine⟨c0e q H.t _ g1 D V (fun c j z=>L m e c j (g4 c z)),fun Q ht _=>?_⟩;rw[ht]at D;exact g0x g1 D V (fun c j z=>L m e c j (g4 c z))
 have g9:∀a v,a0e (a0a w σ.ov) σ.g Γ.rt (Shr B w σ) a v→a0e (a0a w' none) σ.g (fun j=>bif j==n then some ⟨r.bx,r.t,b0q r.t r.x p (Ty.list true ε) y'⟩else bif j==m0 then none else Γ.rt j) (Shr B w' ⟨σ.g,d,none⟩) (f a) v:=by
  intro a v ha;rcases hf a with g|⟨g,hk,c7⟩;rw[g];trivial
  ·rw[g];refine ha.frame a6 k9 fun m q H tq s U hrm D=>?_
   have hq:m=n→∀rest,q=p++rest→rest=[]∨(Ty.list true ε).shn=(Ty.list true ε):=by
    intro e rest Y;rcases U with rfl|rfl|⟨o',l',rfl⟩;exact hk e rest Y;exact .inr (hk e rest Y);exact .inr (hk e rest Y)
   have hp:=h9 m q H tq s hrm D hq;refine⟨if m=n then⟨r.bx,r.t,b0q r.t r.x p (Ty.list true ε) y'⟩else H,?_,?_,?_⟩
   grind
   ·by_cases e:m=n
    all_goals grind
   intro u Z hu;rcases U with rfl|rfl|⟨o',l',rfl⟩
   grind
   obtain⟨r0,e0,s0,k1,k2,k3⟩:=ha;rw[hrm]at k1;simp at k1;subst k1;rw[D]at k2;simp at k2;rw[hp.2 e0 k2.1 (fun e rest Y=>hk e rest Y)];omega;obtain⟨r0,e0,s0,a0,l0,c0,k1,k2,k3⟩:=ha;rw[hrm]at k1;simp at k1;subst k1;rw[D]at k2;simp at k2;rw[hp.2 e0 k2.1 (fun e rest Y=>hk e rest Y)];omega
 have k7:∀i b,B.pin i=some b→(bif pinned+i==n then some (Root.mk r.bx r.t (b0q r.t r.x p (Ty.list true ε) y'))else bif pinned+i==m0 then none else Γ.rt (pinned+i))≠none→σ.g (pinned+i)=b:=fun i b hb Z=>by
  refine h.pins i b hb fun e=>Z ?_
  by_cases Q:pinned+i=n
  grind
  have a8:(pinned+i==n)=false:=by grind
  rw[a8,e];simp
 refine⟨d,?_,?_,?_,?_,?_,?_,?_,a23 h.size a7,a9,?_,k7,by rw[X];exact h.still⟩
 ·intro m H hrm
  by_cases e:m=n
  subst e;simp[AE.setRt]at hrm;subst hrm;refine⟨_,R',h7,fun c z=>?_,?_⟩
  grind
  rcases h6 with⟨O,b0,hs,ho⟩|⟨O,hs,ht,ho⟩
  grind
  grind
  ·have G:m≠m0:=by
    rintro rfl
    have Q:(m==n)=false:=by grind
    simp[AE.setRt,Q,AE.mapv]at hrm
   have a5:Γ.rt m=some H:=by
    have Q:(m==n)=false:=by grind
    have g7:(m==m0)=false:=by grind
    simpa[AE.setRt,Q,g7,AE.mapv]using hrm
   obtain⟨Om,Rm,g1,g2,g3,g4,g5,g6⟩:=h.sep a5;refine⟨Om,Rm,a0j H.t g1 (fun j _=>?_) (fun c j z=>?_),fun c z=>k9 c (g2 c z),?_⟩
   ·cases es:σ.g m with
    |one v=>rfl
    |_=>rename_i b' o';exact L m e b' _ (g5 _ _ es)
   grind
   show(H.bx=true∧∃b,σ.g m=.at b 0∧d m=(b,H.t.cells)::Om)∨(H.bx=false∧(∃v,σ.g m=.one v)∧(∃e,H.t=.list true e)∧d m=Om);rw[E m e G];omega
 intro m W
 by_cases e:m=n
 grind[AE.setRt]
 by_cases G:m=m0
 grind
 have Q:(m==n)=false:=by grind
 have g7:(m==m0)=false:=by grind
 show d m=[];rw[E m e G];exact h.norm m (by simpa[AE.setRt,Q,g7,AE.mapv]using W);intro m;show((d m).map (·.1)).Nodup
 by_cases e:m=n
 subst e;rw[h0];have k6:=h.nodup m;have key:((A++(O2++B')).map (·.1)).Nodup:=by
  have S:=h3.nodup;rw[e3]at S;simp only[pA,a14,mA]at S⊢;obtain⟨k1,⟨k2,k3,k4⟩,k5⟩:=S;refine⟨k1,⟨b4,k3,fun a ha c z e=>?_⟩,fun a ha c z e=>?_⟩;subst e;exact h.disj m m0 (Ne.symm K) a (h4 a (by grind)) (T a ha);subst e;rcases z with z|z;exact h.disj m m0 (Ne.symm K) a (h4 a (by grind)) (T a z)
  grind
 rcases h6 with⟨O,b0,hs,ho⟩|⟨O,-,-,ho⟩;simp only[on,O,hs,List.singleton_append,a07,a05];refine⟨fun g=>?_,key⟩;rw[ho]at k6;simp only[a07,a05]at k6;simp only[pA,mA]at g;rcases g with g|g|g
 grind
 exact h.disj m m0 (Ne.symm K) b0 (by grind) (T b0 g);exact k6.1 (by rw[e3];simp only[pA,mA];grind)
 grind
 by_cases G:m=m0
 grind
 rw[E m e G];exact h.nodup m;have one:∀m m',m≠m'→m=n→∀c,c∈(d m).map (·.1)→c∉(d m').map (·.1):=by
  intro m m' P e c z C;subst e
  by_cases G:m'=m0
  grind
  rw[h0]at z;rw[E m' (Ne.symm P) G]at C;rcases g0 c z with g|g;exact h.disj m m' P c g C;exact h.disj m0 m' (Ne.symm G) c (T c g) C
 intro m m' P c z C
 by_cases e:m=n
 exact one m m' P e c z C
 by_cases Q:m'=n
 exact one m' m (Ne.symm P) Q c C z
 by_cases G:m=m0
 grind
 by_cases e2:m'=m0
 grind
 rw[show(Gh.mk σ.g d none).ow m=d m from rfl,E m e G]at z;rw[show(Gh.mk σ.g d none).ow m'=d m' from rfl,E m' Q e2]at C;exact h.disj m m' P c z C;intro m q hq;rw[show(Gh.mk σ.g d none).ow m=d m from rfl]at hq
 by_cases e:m=n
 subst e;rw[h0]at hq;have b9:q∈σ.ow m→a0w w' q.1 q.2:=fun g=>I _ _ (h.live m q g) ⟨m,a00 g⟩;have key:q∈A++(O2++B')→a0w w' q.1 q.2:=by
  grind
 rcases h6 with⟨O,b0,hs,ho⟩|⟨O,-,-,ho⟩
 grind
 grind
 by_cases G:m=m0
 grind
 rw[E m e G]at hq;exact I _ _ (h.live m q hq) ⟨m,a00 hq⟩;intro i hi;exact(h.slots i hi).mapv g9;show f0y _ _ _ Γ.pd none;rw[a4];trivial
 rintro c ⟨m,W⟩
 exact h.mine c (J c ⟨m,W⟩)
section
variable {P:Program} {B:Base} {N:Nat} {ρ:Type} {Γ:AE} {a:Act} {w:World} {σ:Gh}
theorem l0r{c o k:Nat}(d:a0g P τ (.inl t)=true)(e:τ.cells=1)(hf:a0w w b k)(i:o+1≤k):
  (Instr.storeAt t (.pointer (some ⟨b,o,none⟩)) (.slice A n c)).run P w=.ok () (w.setCell ⟨b,o,none⟩ (.slice A n c)):=by
 obtain⟨I⟩:=a0k (a0p d);have h:(Value.slice A n c).cells=#[Value.slice A n c]:=rfl
 have:=run_storeCells_cells (P:=P) b o [Value.slice A n c] 0 w (fun j a=>(hf.cell (o:=o+0+j) (by grind)).1) (fun j a=>(hf.cell (o:=o+0+j) (by grind)).2) (fun u f=>by
  simp at f;subst f;rfl)
 have g:(Value.slice A n c).cells.size=τ.cells:=by simp_all
 simp[Instr.storeAt,Instr.sureAddr,storeVar,I.sizeOf,g];rw[h];simp at this;exact this
theorem s0y{o k:Nat}(hf:a0w w b k)(h:o<k)(v:Value)(c j:Nat):a0a (w.setCell ⟨b,o,none⟩ v) none c j=if c=b∧j=o then some v else a0a w none c j:=by
 simp[a0a]
 by_cases e1:c=b∧j=o
 obtain⟨rfl,rfl⟩:=e1;obtain⟨u,g⟩:=a40.1 (hf.cell h).1;simp_all[World.cell?_setCell_same];rw[if_neg e1,World.cell?_setCell_other]
 grind
theorem z0p(Γ:AE):Γ.mapv id=Γ:=by
 have:∀s:SV,s.mapv id=s:=fun s=>by cases s<;>simp[SV.mapv]
 simp_all[AE.mapv]
theorem a0i.skip{K:AE→Rs ρ}{z:ρ}{Γ':AE}{σ':Gh}(k:a.tmps.size=N)(g:(execOp a.eval o).run P w=.ok .skip w')(h:Rel B Γ' N (a0f a) w' σ')(f:K (Γ'.setD o.dst .dead)=some z):a0i P B N o a w K z:=by
 cases hd:o.dst with
 |none=>exact⟨undef,w',Γ',σ',.inr ⟨g,rfl⟩,by rw[hd];exact h,by rw[hd]at f;exact f⟩
 |some d=>exact⟨undef,w',Γ'.set d .dead,σ',.inr ⟨g,rfl⟩,by rw[hd];exact h.putd k (fun _=>trivial),by rw[hd]at f;exact f⟩
theorem h0f{t:Ty}(h:t.isList=true):t.cells=1:=by cases t<;>first|rfl|cases h
theorem e0s:∀(p q:a0n),g0b p q=true→p=q
 | [],[],_=>rfl
 |.fst::p,.fst::q,h=>by rw[e0s p q h]
 |.snd::p,.snd::q,h=>by rw[e0s p q h]
 |.idx i::p,.idx j::q,h=>by
  simp[g0b]at h;rw[h.1,e0s p q h.2]
 | [],_::_,h=>by cases h
 |.fst::_,[],h=>by cases h
 |.fst::_,.snd::_,h=>by cases h
 |.fst::_,.idx _::_,h=>by cases h
 |.snd::_,[],h=>by cases h
 |.snd::_,.fst::_,h=>by cases h
 |.snd::_,.idx _::_,h=>by cases h
 |.idx _::_,[],h=>by cases h
 |.idx _::_,.fst::_,h=>by cases h
 |.idx _::_,.snd::_,h=>by cases h
theorem t0l(n:Nat)(Γ:AE)(r g:Option Root):(((Γ.mapv (AV.deeps [n] [])).setRt n r).mapv (AV.deeps [n] [])).setRt n g=(Γ.mapv (AV.deeps [n] [])).setRt n g:=by
 have h:∀a:AV,(a.deeps [n] []).deeps [n] []=a.deeps [n] []:=fun a=>by
  cases a with
  |sref m q=>
   by_cases hm:m=n
   subst hm;cases q<;>simp[AV.deeps];simp[AV.deeps,hm]
  |swin m q o l=>
   grind[AV.deeps]
  |ptr m q=>
   by_cases hm:m=n
   subst hm;cases q<;>simp[AV.deeps];simp[AV.deeps,hm]
  |_=>rfl
 simp only[AE.setRt,AE.mapv];congr 1
 ·funext i;cases Γ.sl i with
  |one v=>simp[SV.mapv,h]
  |cmp c vs=>simp[SV.mapv,h]
 grind
theorem Rel.setBox(h:Rel B Γ N tm w σ)(hr:Γ.rt n=some r)(hg:σ.g n=.at b 0)(ho:σ.ow n=[(b,r.t.cells)])(I:Γ.pd=none){t2:Ty}{z:t2.den}{R2}(y:t2.cells=r.t.cells)(hd:dec (a0a w' none) t2 ((Src.at b 0).rd (a0a w' none))=some (z,[],R2))(hR:∀c∈R2,Shr B w σ c)(x:∀c,c≠b→w'.heap[c]?=w.heap[c]?)(G:∀c k,a0w w c k→a0w w' c k)(O:w.heap.size≤w'.heap.size)(hio:b0x w'=b0x w):
  Rel B ((Γ.mapv (AV.deeps [n] [])).setRt n (some ⟨true,t2,z⟩)) N tm w' σ:=by
 have V:=h.ov_none I;have D:b∈(σ.ow n).map (·.1):=by simp_all
 have J:∀c,Shr B w σ c→Shr B w' σ c:=fun c y=>⟨a12 y.1 O,y.2⟩;have K:∀c j,c≠b→a0a w' σ.ov c j=a0a w σ.ov c j:=fun c j Q=>b0g _ (x c Q) j;have U:∀c j,Shr B w σ c→a0a w' σ.ov c j=a0a w σ.ov c j:=fun c j S=>K c j fun e=>S.2.2 ⟨n,e▸D⟩;have C:∀m c j,m≠n→c∈(σ.ow m).map (·.1)→a0a w' σ.ov c j=a0a w σ.ov c j:=fun m c j f R=>K c j fun e=>h.disj n m (Ne.symm f) c (e▸D) R;have M:∀k,k≠n→((Γ.mapv (AV.deeps [n] [])).setRt n (some ⟨true,t2,z⟩)).rt k=Γ.rt k:=fun k T=>n0j T _;have L:((Γ.mapv (AV.deeps [n] [])).setRt n (some ⟨true,t2,z⟩)).rt n=some ⟨true,t2,z⟩:=by simp[AE.setRt]
 have b0j:∀m:Nat,[n].contains m=(m==n):=fun m=>by grind
 refine⟨fun m r' d=>?_,fun m K=>?_,h.nodup,h.disj,fun m p hp=>G _ _ (h.live m p hp),fun i hi=>(h.slots i hi).mapv fun a v Y=>?_,?_,a23 h.size O,fun c P hF=>?_,h.mine,fun i A hb h0=>h.pins i A hb fun e=>?_,hio.trans h.still⟩
 ·by_cases f:m=n
  subst f;rw[L]at d;simp at d;subst d;refine⟨[],R2,?_,fun c y=>J c (hR c y),.inl ⟨rfl,b,hg,by simp_all⟩⟩;simp_all
  ·rw[M m f]at d;obtain⟨X,R1,l1,l2,l3,l4,W,l6⟩:=h.sep d;refine⟨X,R1,a0j _ l1 (fun j _=>?_) (fun c j y=>?_),fun c y=>J c (l2 c y),l6⟩
   ·cases es:σ.g m with
    |one v=>rfl
    |_=>rename_i A o;exact C m A _ f (W _ _ es)
   grind
 by_cases f:m=n
 simp_all;rw[M m f]at K;exact h.norm m K
 ·have other:(∀k q,(a=.ptr k q∨a=.sref k q∨∃o l,a=.swin k q o l)→k≠n)→a0e (a0a w' σ.ov) σ.g ((Γ.mapv (AV.deeps [n] [])).setRt n (some ⟨true,t2,z⟩)).rt (Shr B w' σ) a v:=fun T=>by
   refine Y.frame U J fun k q rk t s E hrk Z=>?_
   have H:=T k q E;obtain⟨X,R1,l1,l2,l3,l4,W,l6⟩:=h.sep hrk;have F:∀j,(σ.g k).rd (a0a w' σ.ov) j=(σ.g k).rd (a0a w σ.ov) j:=fun j=>by
    cases es:σ.g k with
    |one v=>rfl
    |_=>rename_i A o;exact C k A _ H (W _ _ es)
   refine⟨rk,by simp_all,c0e q rk.t _ l1 Z (fun j _=>F j) (fun c j y=>C k c j H (l4 c y)),fun u _ hu=>?_⟩;rw[←hu];cases s with
   |one v=>rfl
   |_=>rename_i A o;exact C k A _ H (h.place hrk Z)
  cases a with
  |ptr m q=>
   simp only[AV.deeps,b0j];split
   ·rename_i f;have f:m=n:=by simp_all
    subst f;cases q with
    |cons=>trivial
    |nil=>
     obtain⟨r',t',A,o',p1,p2,p3⟩:=Y;simp[a0t]at p2;exact⟨⟨true,t2,z⟩,t2,A,o',L,by show some (t2,σ.g m)=_;grind,p3⟩
   simp_all
  |sref m q=>
   simp only[AV.deeps,b0j];split;cases q<;>exact True.intro;simp_all
  |swin m q o l=>
   simp only[AV.deeps,b0j];split;trivial;simp_all
  |_=>exact other (by rintro k q' (g|g|⟨o,l,g⟩)<;>cases g)
 have:=h.pend
 rw[I]at this;show f0y _ _ _ Γ.pd σ.ov;rw[I,V];trivial
 ·rw[x c fun e=>?_];exact h.frame c P hF
  ·subst e;rcases h.mine c ⟨n,D⟩with g|g
   all_goals grind
 grind
theorem Rel.overR{ty:Ty}{yv:AV}{vx:Value}{K:AE→Rs ρ}{z:ρ}(hty:a0g P ty (.inl t)=true)(h:Rel B Γ N tm w σ)(M:Γ.rt n=some r)(hx:a0e (a0a w σ.ov) σ.g Γ.rt (Shr B w σ) (.ptr n []) vx)(A:a0e (a0a w σ.ov) σ.g Γ.rt (Shr B w σ) yv vy)(D:Γ.over ty n r yv K=some z):
  ∃w' Γ' σ' b o,vx=.pointer (some ⟨b,o,none⟩)∧w'=w.setCells b o vy.cells.toList∧(Instr.storeAt t vx vy).run P w=.ok () w'∧Rel B Γ' N tm w' σ'∧K Γ'=some z:=by
 unfold AE.over at D
 split at D
 rename_i e y rr hl;obtain⟨i,-⟩:=a0o hl;have L:=h.ov_none i
 split at D
 rename_i G;obtain⟨F,h2,h1,S⟩:=G;have A:VOk (a0a w σ.ov) (Shr B w σ) e y vy:=A;have H:e.cells=r.t.cells:=by grind[Ty.cells_sh]
 obtain⟨b,C,J⟩:=h.frzBox M F i;obtain⟨r',t1,b1,o1,q1,T,q3⟩:=hx;simp[a0t,C]at T;obtain⟨-,rfl,rfl⟩:=T;have d:a0w w b (0+r.t.cells):=by
  have:=h.room (p:=[]) (t:=r.t) (b:=b) (o:=0) M (by rw[C];rfl)
  omega
 have s:a0g P e (.inl t)=true:=by grind[c0p]
 have l:=n0v s A (b:=b) (o:=0) (by rw[H];omega) (a04 _);rw[←q3]at l;obtain⟨h3,-⟩:=A.cells;have Q:vy.cells.toList.length=r.t.cells:=by simp_all
 obtain⟨-,-,R,O,u⟩:=id A;obtain⟨w',v⟩:∃w',w'=w.setCells b 0 vy.cells.toList:=⟨_,rfl⟩;have hm:∀c j,a0a w' none c j=if c=b∧0≤j∧j<0+r.t.cells then vy.cells.toList[j-0]? else a0a w none c j:=fun c j=>by
  have:=e0z b vy.cells.toList 0 w _ d (by omega) c j
  rw[Q]at this;rw[v];exact this
 have k:a0r σ b:=⟨n,h.place (p:=[]) (t:=r.t) (b:=b) (o:=0) M (by rw[C];rfl)⟩;have I:dec (a0a w' none) e ((Src.at b 0).rd (a0a w' none))=some (y,[],R):=a0j e O (fun j hj=>by
  show a0a w' none b (0+j)=_;simp_all) (fun c j f=>by
  rcases f with f|f;simp_all;rw[hm,if_neg,L]
  rintro⟨rfl,-⟩
  exact(u c f).2.2 k)
 have U:∀(t2:Ty)(E:t2.den),castTo e t2 y=some E→t2.cells=r.t.cells→K ((Γ.mapv (AV.deeps [n] [])).setRt n (some ⟨true,t2,E⟩))=some z→
   ∃w' Γ' σ' b o,vx=.pointer (some ⟨b,o,none⟩)∧w'=w.setCells b o vy.cells.toList∧(Instr.storeAt t vx vy).run P w=.ok () w'∧Rel B Γ' N tm w' σ'∧K Γ'=some z:=fun t2 E a Y hK=>by
  have q:∀c,Shr B w σ c→Shr B w ⟨σ.g,fun m=>if m=n then[(b,r.t.cells)]else σ.ow m,σ.ov⟩ c:=fun c ⟨V,W,X⟩=>⟨V,W,fun⟨m,h0⟩=>X ⟨m,by
   grind⟩⟩
  have:=J.setBox (w':=w') (b:=b) (r:=⟨true,r.t.shn,Ty.shnx r.t r.x⟩) (by simp[AE.setRt]) C (by simp[Ty.cells_shn]) (by simp_all[AE.setRt,AE.mapv]) (t2:=t2) (z:=E) (R2:=R) (by simp_all[Ty.cells_shn]) (l0g a I) (fun c G=>q c (u c G))
   (fun c Z=>by simp_all[d0d]) (fun _ _ hf=>by rw[v];exact hf.setCells _ _ _) (by simp_all[e0b]) (by simp_all[f0a])
  grind[t0l]
 split at D
 grind
 grind[Ty.cells_shn,n0l]
 simp_all;simp_all
theorem Rel.storR{ty:Ty}{yv:AV}{vx:Value}{K:AE→Rs ρ}{z:ρ}(_hsh:ty.sh=ty)(hty:a0g P ty (.inl t)=true)(h:Rel B Γ N tm w σ)(hx:a0e (a0a w σ.ov) σ.g Γ.rt (Shr B w σ) (.ptr n p) vx)(J:a0e (a0a w σ.ov) σ.g Γ.rt (Shr B w σ) yv vy)(C:Γ.stor ty n p yv K=some z):
  ∃w' Γ' σ' b o,vx=.pointer (some ⟨b,o,none⟩)∧w'=w.setCells b o vy.cells.toList∧(Instr.storeAt t vx vy).run P w=.ok () w'∧Rel B Γ' N tm w' σ'∧K Γ'=some z:=by
 obtain⟨yw,h7⟩:∃f:AV→AV,f yv=yv:=⟨fun v=>v,rfl⟩;rw[←h7]at J C;clear h7;obtain⟨r,t0,b,off,T,Z,H⟩:=id hx;obtain⟨O1,R1,k1,k2,k3,k4,k5,k6⟩:=h.sep T;obtain⟨y0,O',R',A1,B1,a3,a5,hd,hg,e1,e2⟩:=b0h p r.t _ k1 Z;unfold AE.stor at C;rw[T]at C;simp only at C
 split at C
 ·rename_i e l g5
  split at C
  ·rename_i G;have g9:t0=.list true e:=by
    simp_all
   subst g9;have d:=h.room T Z;have x:a0r σ b:=⟨n,h.place T Z⟩
   split at C
   ·
    rename_i h4;rw[h4]at J;have J:vy=.slice none 0 0:=J
    split at C
    grind
    ·rename_i r2 h0;obtain⟨E,-⟩:=a0o h0;have i:=h.ov_none E;have a:=l0r (A:=none) (n:=0) (c:=0) hty (h0f G) d (o:=off) (a04 _);rw[←H,←J]at a;have hm:=s0y (v:=vy) d (o:=off) (Nat.lt_succ_self _);obtain⟨h8,-,u⟩:=h.chg T Z hd (w':=w.setCell ⟨b,off,none⟩ vy) (ov':=σ.ov) (pd':=Γ.pd) (y':=([]:List e.den)) (O2:=[]) (R2:=[]) (.same (by simp_all)) (by
       rw[i];show a0x _ true e.cells _ (a0a _ none b (off+0))=_;rw[hm,if_pos ⟨rfl,rfl⟩,J];rfl) (fun c j=>by
       rw[i,hm]
       by_cases e1:c=b∧j=off
       simp_all[Ty.cells];simp_all) (by simp) (by simp) (by simp) (fun c k hf _=>hf.setCell _ _) (by simp) (fun c D hF=>by
       rw[f0k,if_neg];exact h.frame c D hF
       ·rintro rfl
        rcases h.mine _ x with g|g
        all_goals grind) (by simp) (f:=AV.kill n p) (fun av=>l0l n p _ av)
     exact⟨_,_,_,b,off,H,by rw[J];rfl,a,u,C⟩
   ·
    rename_i m p' h4;rw[h4]at J;rcases a0b C with⟨D,F⟩|⟨-,F⟩<;>clear C
    ·simp at D;obtain⟨rfl,D⟩:=D;have h2:=e0s _ _ D;subst h2
     split at F
     ·rename_i m2 p2 d2 E;rcases a0b F with⟨S,I⟩|⟨-,I⟩<;>clear F
      ·simp at S;obtain⟨rfl,S⟩:=S;have h2:=e0s _ _ S;subst h2;have hp:=h.pend;rw[E]at hp;cases i:σ.ov with
       |none=>rw[i]at hp;exact hp.elim
       |some ov=>
        obtain⟨b2,o2,v2⟩:=ov;rw[i]at hp;obtain⟨r2,e2,q1,O⟩:=hp;rw[T]at q1;simp at q1;subst q1;rw[←i,Z]at O;simp only[sj,pJ,Src.at.injEq]at O;obtain⟨-,rfl,rfl⟩:=O;obtain⟨r3,e3,s3,Q,q4,q5⟩:=J;rw[T]at Q;simp at Q;subst Q;rw[Z]at q4;simp only[sj,pJ]at q4;obtain⟨-,rfl⟩:=q4;have hv:v2=vy:=by
         simp_all[Src.rd,a0a]
        have y:∃A V R,vy=.slice A V R:=by
         rcases b0r hd with⟨g,-⟩|⟨A,V,R,os,g,-⟩
         all_goals simp_all
        obtain⟨A,V,R,y⟩:=y;have a:=l0r (A:=A) (n:=V) (c:=R) hty (h0f G) d (o:=off) (a04 _);rw[←H,←y,←hv]at a
        have:=h.done E i
        refine⟨_,_,_,b,off,H,?_,?_,this,I⟩;rw[hv,y];rfl;simp_all
      simp_all
     simp_all
    ·split at F
     ·rename_i r2 e' l' b0 g6
      split at F
      ·rename_i g0;subst g0;rcases a0b F with⟨-,I⟩|⟨h6,I⟩<;>clear F
       grind
       ·have h6:m≠n:=by simp_all
        obtain⟨E,h3⟩:=a0o g6;obtain⟨r3,e3,s3,Q,q4,q5⟩:=J;rw[h3]at Q;simp at Q;subst Q;simp only[loc,a0t,sj,pJ]at q4;obtain⟨q4,rfl⟩:=q4;obtain⟨O3,R3,i1,-,-,-,-,i6⟩:=h.sep h3;have g4:σ.g m=.one vy:=by
         rcases i6 with⟨a7,-⟩|⟨-,⟨v,hs⟩,-⟩
         all_goals simp_all[Src.rd]
        have y:∃A V R,vy=.slice A V R:=by
         rcases b0r i1 with⟨g,-⟩|⟨A,V,R,os,g,-⟩
         all_goals simp_all
        obtain⟨A,V,R,y⟩:=y;have a:=l0r (A:=A) (n:=V) (c:=R) hty (h0f G) d (o:=off) (a04 _);rw[←H,←y]at a;obtain⟨h8,u⟩:=h.move T Z hd h3 g4 h6 E (f:=fun av=>AV.drop m (AV.kill n p av)) (fun av=>by
         rcases l0l n p (.list true e') av with g|⟨g,g2⟩;left;rw[g];rfl
         ·rw[g];cases av with
          |ptr m2 O=>
           grind[AV.drop]
          |sref m2 O=>
           grind[AV.drop]
          |swin m2 O o2 k2=>
           grind[AV.drop]
          |_=>exact .inr ⟨rfl,g2,fun k q hh=>by rcases hh with hh|hh|⟨_,_,hh⟩<;>cases hh⟩)
        have g7:(Γ.mapv (AV.kill n p)).mapv (AV.drop m)=Γ.mapv fun av=>AV.drop m (AV.kill n p av):=by
         have:∀s:SV,(s.mapv (AV.kill n p)).mapv (AV.drop m)=s.mapv fun av=>AV.drop m (AV.kill n p av):=fun s=>by
          cases s<;>simp[SV.mapv]
         simp_all[AE.mapv]
        rw[g7]at I;exact⟨_,_,_,b,off,H,by rw[y];rfl,a,u,I⟩
      simp_all
     simp_all
   simp_all
  simp_all
 ·rename_i t1 y1 b1 g5
  split at C
  ·rename_i g8;obtain⟨L,a2⟩:=g8;have hty:a0g P t1 (.inl t)=true:=by grind[c0p]
   obtain⟨yv,Γ1,σ1,C,Y,hv,g3,-⟩:=h.asV (.inl J) C
   split at C
   ·rename_i r1 h0;obtain⟨E,M⟩:=a0o h0;have i:=Y.ov_none E
    split at C
    ·rename_i a9;have k9:a0e (a0a w σ1.ov) σ1.g Γ1.rt (Shr B w σ1) (.ptr n p) vx:=by
      rcases g3.live (.inl hx)with g|⟨k,q,g1,g2⟩
      all_goals grind
     obtain⟨r3,t3,X,W,q1,O,Q⟩:=k9;rw[M]at q1;simp at q1;subst q1;obtain⟨O4,R4,j1,j2,j3,j4,j5,j6⟩:=Y.sep M;obtain⟨y4,O5,R5,A5,B5,a4,a6,h5,a8,-,-⟩:=b0h p r1.t _ j1 O;have k0:t3=t1:=by
      simp_all
     subst k0;have h9:=g0n L h5;subst h9;have d:=Y.room M O;have x:a0r σ1 X:=⟨n,Y.place M O⟩;have a:=n0v hty hv d (o:=W) (a04 _);rw[←Q]at a;obtain⟨b4,-⟩:=hv.cells;obtain⟨-,-,R6,k7,U⟩:=id hv;have k8:vy.cells.toList.length=t3.cells:=by omega
     have hm:∀c j,a0a (w.setCells X W vy.cells.toList) none c j=if c=X∧W≤j∧j<W+t3.cells then vy.cells.toList[j-W]? else a0a w none c j:=fun c j=>by
      have:=e0z X vy.cells.toList W w _ d (by omega) c j
      rw[k8]at this;exact this
     obtain⟨h8,-,u⟩:=Y.chg M O h5 (w':=w.setCells X W vy.cells.toList) (ov':=σ1.ov) (pd':=Γ1.pd) (y':=yv) (O2:=[]) (R2:=R6) (.same (by simp_all)) (by
       rw[i];refine a0j t3 k7 (fun j hj=>?_) (fun c j D=>?_);show a0a _ none X (W+j)=_;simp_all;rcases D with D|D;simp_all;rw[hm,if_neg,i]
       rintro⟨rfl,-⟩
       exact(U c D).2.2 x) (fun c j=>by
       grind) (by simp) (by simp) (by simp) (fun c k hf _=>hf.setCells _ _ _) (by simp_all[e0b]) (fun c D hF=>by
       rw[d0d];exact Y.frame c D hF
       ·rintro rfl
        rcases Y.mine _ x with g|g
        all_goals grind) (fun c D=>⟨by rw[e0b];exact(U c D).1,(U c D).2.1,(U c D).2.2,by simp⟩) (f:=id) (fun av=>.inr ⟨rfl,v0y n p L av⟩) (hio:=f0a _ _ _ _)
     rw[z0p]at u;exact⟨_,_,_,X,W,Q,rfl,a,u,C⟩
    simp_all
   simp_all
  ·cases p with
   |nil=>exact h.overR (hty:=hty) T hx J C
   |cons=>cases C
theorem p0b{o:Oper}{t:TypeId}{x y:Operand}{cx:Cx}{q:Bool}{K:AE→Rs ρ}{z:ρ}(e:CxTy P cx)(c:o.op=.store t x y)(d:Γ.aggOf y=none)
  (h:Rel B Γ N (a0f a) w σ)(r:a.tmps.size=N)(hf:fits N o=true)(g:aop cx q o Γ K=some z):a0i P B N o a w K z:=by
 have l:=h.opd (a0s hf x (by simp[c,Op.operands]));have u:=h.opd (a0s hf y (by simp[c,Op.operands]));have g:(if q then none else match Γ.opd x with
  |.ptr n p=>match cx.T t with
   |some t=>Γ.stor t n p (Γ.opd y) fun Γ=>K (Γ.setD o.dst .dead)
   |none=>none
  |_=>none)=some z:=by
  simp only[aop,c,d]at g;omega
 split at g
 grind
 split at g
 rename_i n p j;rw[j]at l
 split at g
 rename_i ty s;obtain⟨i,hty⟩:=e.T t _ s;obtain⟨w',Γ',σ',b,off,-,-,k,f,m⟩:=Rel.storR i hty h l u g;exact a0i.skip r (by simp[execOp,c,k]) f m;simp_all;simp_all
theorem l0w(w:World)(cs:Array Value)(t:TypeId)(k:Nat)(u:Value):
  (w.alloc (.cells cs t)).setCell ⟨w.heap.size,k,none⟩ u=w.alloc (.cells (cs.setIfInBounds k u) t):=by
 have:(w.heap.push (.cells cs t)).modify w.heap.size (fun
   |.cells c elem frozen=>.cells (if(none:Option Nat).isSome then c else c.setIfInBounds k u) elem frozen
   |o=>o)=w.heap.push (.cells (cs.setIfInBounds k u) t):=by
  grind
 simp only[World.setCell,World.alloc]
 grind
theorem sh_sh:∀τ:Ty,τ.sh.sh=τ.sh
 |.int _|.bool|.str|.unit=>rfl
 |.list _ e=>by simp only[Ty.sh,sh_sh e]
 |.nl e=>by simp only[Ty.sh,sh_sh e]
 |.arr _ e=>by simp only[Ty.sh,sh_sh e]
 |.pair a b=>by simp only[Ty.sh,sh_sh a,sh_sh b]
def h0k:Nat→Ty→Option Ty
 |0,τ=>some τ
 |k+1,.pair a b=>if a.cells=1 then h0k k b else none
 |_+1,_=>none
theorem n0w:∀(k:Nat)(τ:Ty){a b:Ty},h0k k τ=some (.pair a b)→b0y τ k=true∧(a.cells=1→h0k (k+1) τ=some b)∧∀(m:Mem) bl o,loc m τ (.at bl o) (b0f k)=some (a,.at bl (o+k))
 |0,τ,a,b,h=>by
  simp[h0k]at h;subst h;exact⟨rfl,fun h=>by simp[h0k,h],fun m bl o=>rfl⟩
 |k+1,τ,a,b,h=>by
  cases τ with
  |pair u v=>
   simp only[h0k]at h
   split at h
   rename_i c;obtain⟨g,d,f⟩:=n0w k v h;refine⟨g,fun e=>by simp_all[h0k],fun m bl o=>?_⟩
   have:=f m bl (o+u.cells)
   rw[c]at this;show loc m v (.at bl (o+u.cells)) (b0f k)=_
   grind
   simp_all
  |_=>simp[h0k]at h
theorem o0n{τ0:Ty}{t:TypeId}(hty:a0g P τ0 (.inl t)=true){i d b0:Nat}(hi:i<N)(p:d<N){us:Array Value}{tm:Nat→Value}(o:tm i=.agg us)(q:tm d=.pointer (some ⟨b0,0,none⟩)){z:ρ}{K:AE→Rs ρ}:
  ∀(τ:Ty)(k:Nat){Γ:AE}{σ:Gh}{w:World},Rel B Γ N tm w σ→h0k k τ0=some τ→
   AE.stors (.tmp i) d τ0 k τ Γ K=some z→us.size=k+τ.cells∧∃Γ' σ',Rel B Γ' N tm (w.setCells b0 k (us.toList.drop k)) σ'∧K Γ'=some z
 |.unit,k,Γ,σ,w,h,_,hz=>by
  simp[AE.stors]at hz
  split at hz
  rename_i x f;obtain⟨hk,H⟩:=(a0b hz).elim id fun h=>by grind
  have c:=h.slots i hi;simp[AE.aggOf]at f
  split at f
  rename_i L D;simp at f;subst f;rw[D]at c;obtain⟨us',⟨O,s,Q⟩,h4⟩:=c;rw[o]at s;cases s;have hk:L.length=k:=by simp_all
  refine⟨by simp_all[Ty.cells],Γ,σ,?_,H⟩;rw[List.drop_of_length_le (by simp_all)];exact h;simp_all;simp_all
 |.pair a b,k,Γ,σ,w,h,htl,hz=>by
  simp[AE.stors]at hz
  split at hz
  rename_i r n v R A hv
  split at hz
  rename_i hc;obtain⟨h0,rfl,Z⟩:=hc;obtain⟨O,s,Q⟩:=n0w k τ0 htl;have l:=h.slots n p;rw[q]at l;have C:a0e (a0a w σ.ov) σ.g Γ.rt (Shr B w σ) (.ptr n []) (.pointer (some ⟨b0,0,none⟩)):=by
   simp[AE.get]at A
   split at A
   rename_i v' j;subst A;rw[j]at l;exact l;simp_all
  obtain⟨r',t',b',o',I,J,S⟩:=C;rw[R]at I;simp at I;subst I;simp[a0t]at J;obtain⟨rfl,J⟩:=J;simp at S;obtain⟨rfl,rfl⟩:=S;have hx:a0e (a0a w σ.ov) σ.g Γ.rt (Shr B w σ) (.ptr n (b0f k)) (.pointer (some ⟨b0,k,none⟩)):=by
   refine⟨r,a,b0,0+k,R,?_,by simp⟩;simp_all
  have c:=h.slots i hi;have f:∃x,Γ.sl i=.cmp .agg x∧x[k]?=some v:=by
   grind[AE.aggOf]
  obtain⟨x,D,G⟩:=f;rw[D]at c;obtain⟨us',⟨g1,M,Y⟩,g4⟩:=c;rw[o]at M;cases M;obtain⟨u,F,hu⟩:=g4 k v G;obtain⟨fs,h5,j⟩:∃fs,P.underlying t=some (.struct fs)∧a0g P τ0 (.inr (fs.toList,0))=true:=by
   grind[i0a]
  obtain⟨X,τ',k',q1,q2,q3,q4,q5⟩:=i0s k τ0 _ 0 j O;have e:=(q5 (a0a w none) 0 0).symm.trans (Q (a0a w none) 0 0);simp only[sj,pJ]at e;obtain⟨rfl,-⟩:=e;have E:a0g P τ'.sh (.inl X.type)=true:=by rw[c0p];omega
  have m:τ'.sh.sh=τ'.sh:=sh_sh τ';obtain⟨w',Γ',σ',b2,o2,T,U,s3,s4,s5⟩:=Rel.storR m E h hx hu hz;simp at T;obtain⟨rfl,rfl⟩:=T;rw[m0x (Y k u F)]at U;subst U;obtain⟨c1,Γ2,σ2,V,W⟩:=o0n hty hi p o q b (k+1) s4 (s Z) s5;refine⟨by grind[Ty.cells],Γ2,σ2,?_,W⟩;have y:us.toList.drop k=u::us.toList.drop (k+1):=by
   grind[a25]
  rw[y];exact V;simp_all;simp_all
 |.int _,k,Γ,σ,w,_,_,hz=>by simp[AE.stors]at hz
 |.bool,k,Γ,σ,w,_,_,hz=>by simp[AE.stors]at hz
 |.str,k,Γ,σ,w,_,_,hz=>by simp[AE.stors]at hz
 |.list _ _,k,Γ,σ,w,_,_,hz=>by simp[AE.stors]at hz
 |.arr _ _,k,Γ,σ,w,_,_,hz=>by simp[AE.stors]at hz
theorem k0r(w:World)(t:TypeId):∀(l:List Value)(k:Nat)(cs:Array Value),k+l.length=cs.size→
  (w.alloc (.cells cs t)).setCells w.heap.size k l=w.alloc (.cells (cs.toList.take k++l).toArray t)
 | [],k,cs,h=>by
  simp_all[World.setCells,List.take_of_length_le]
 |u::l,k,cs,h=>by
  simp only[World.setCells,lC]at h⊢;rw[l0w,k0r w t l (k+1) _ (by simp;omega)];congr 2;have g:k<cs.toList.length:=by simp;omega
  simp only[Array.toList_setIfInBounds];rw[a30 (by simpa using g)];simp[a46]
theorem t0o{o:Oper}{t:TypeId}{x:Operand}{d:Nat}{cx:Cx}{q:Bool}{K:AE→Rs ρ}{z:ρ}{vs:List AV}(j:CxTy P cx)(r:o.op=.box t x)(hd:o.dst=some d)(e:(bif q then none else Γ.aggOf x)=some vs)
  (h:Rel B Γ N (a0f a) w σ)(D:a.tmps.size=N)(hf:fits N o=true)(b:aop cx q o Γ K=some z):a0i P B N o a w K z:=by
 have g:Γ.aggOf x=some vs:=by
  grind
 have m:=a0s hf x (by simp[r,Op.operands]);have l:d<N:=by
  simp_all[fits]
 simp[aop,r,hd,e]at b
 ·split at b
  ·rename_i τ hrd hO
   split at b
   ·rename_i E;have hty:a0g P τ (.inl t)=true:=by rw[←c0p];exact(j.T t _ E).2
    obtain⟨I⟩:=a0k (a0p hty);cases x with
    |tmp i=>
     have hi:i<N:=by simpa[b0e]using m
     have k:=h.slots i hi;have J:Γ.sl i=.cmp .agg vs:=by
      grind[AE.aggOf]
     rw[J]at k;obtain⟨us,⟨M,C,O⟩,h4⟩:=k;have G:a.eval (.tmp i)=.agg us:=C;have f:(execOp a.eval o).run P w=.ok (.value (.pointer (some ⟨w.heap.size,0,none⟩))) (w.alloc (.cells us t)):=by
      simp_all[execOp,Instr.box,newVar,newRow,Value.cells]
     obtain⟨Γ1,σ1,n,s,u⟩:=h.newBox b (fun c F=>b0m _ c F) (b0s _) (b0i (w:=w) (.cells I.z.cells t)) I.zsize (e0f _ I.zok) (by simp);have H:i≠d:=by
      rintro rfl
      cases τ<;>simp[AE.stors,AE.aggOf,AE.set,AE.put]at n
     have y:=s.putd (sv:=.one (.ptr d [])) (v:=.pointer (some ⟨w.heap.size,0,none⟩)) (d:=d) D (fun _=>u);obtain⟨L,Γ',σ',p,A⟩:=o0n hty hi l (us:=us) (tm:=a0f (a.put (some d) (.pointer (some ⟨w.heap.size,0,none⟩)))) (by simp_all[j0p]) (by rw[j0p d (by omega),if_pos rfl]) τ 0 y rfl n;rw[a58,k0r w t us.toList 0 I.z.cells (by rw[I.zsize,a34];omega)]at p;simp at p;exact⟨_,_,Γ',σ',.inl f,by simp_all,A⟩
    |_=>simp[AE.aggOf]at g
   simp_all
  simp_all
theorem l0u{o:Oper}{t:TypeId}{x y:Operand}{cx:Cx}{q:Bool}{K:AE→Rs ρ}{z:ρ}{vs:List AV}(G:CxTy P cx)(H:o.op=.store t y x)(n:Γ.aggOf x=some vs)
  (h:Rel B Γ N (a0f a) w σ)(X:a.tmps.size=N)(hf:fits N o=true)(f:aop cx q o Γ K=some z):a0i P B N o a w K z:=by
 have L:=a0s hf x (by simp[H,Op.operands]);have M:=a0s hf y (by simp[H,Op.operands]);have f:(if q then none else match y with
   |.tmp s=>match Γ.rt s with
    |some r=>if cx.T t=some r.t.sh∧0<r.t.cells then AE.stors x s r.t 0 r.t Γ fun Γ=>K (Γ.setD o.dst .dead)else none
    |none=>none
   |_=>none)=some z:=by
  simp only[aop,H,n]at f;omega
 split at f
 grind
 ·cases y with
  |tmp d=>
   simp at f;have p:d<N:=by simpa[b0e]using M
   split at f
   ·rename_i r I
    split at f
    ·rename_i F;obtain⟨F,c⟩:=F;have hty:a0g P r.t (.inl t)=true:=by rw[←c0p];exact(G.T t _ F).2
     cases x with
     |tmp i=>
      have hi:i<N:=by simpa[b0e]using L
      have D:=h.slots i hi;have hs:Γ.sl i=.cmp .agg vs:=by
       grind[AE.aggOf]
      rw[hs]at D;obtain⟨us,⟨h1,R,W⟩,h4⟩:=D;have Z:a.eval (.tmp i)=.agg us:=R

      have C:∃e,a0f a d=.pointer (some ⟨e,0,none⟩)∧loc (a0a w σ.ov) r.t (σ.g d) []=some (r.t,.at e 0):=by
       have j:Γ.get d=.ptr d []:=by
        revert f c
        cases r.t with
        |pair u v=>
         grind[AE.stors]
        |unit=>simp_all[Ty.cells]
        |_=>intro c f;simp[AE.stors]at f
       have b:a0e (a0a w σ.ov) σ.g Γ.rt (Shr B w σ) (.ptr d []) (a0f a d):=by
        have b:=h.slots d p;simp[AE.get]at j
        split at j
        rename_i v' J;subst j;rw[J]at b;exact b;simp_all
       obtain⟨r',t',b',o',O,m,p3⟩:=b;rw[I]at O;simp at O;subst O;simp[a0t]at m;obtain⟨rfl,m⟩:=m;obtain⟨O',R',-,-,Y⟩:=(h.roots d r I).rd;rcases Y with⟨-,e,q1,-⟩|⟨-,⟨v,q1⟩,-⟩;rw[q1]at m;simp at m;obtain⟨rfl,rfl⟩:=m;simp_all[a0t];simp_all
      obtain⟨e,E,A⟩:=C;have l:=h.room I A;obtain⟨g0,Γ',σ',Q,V⟩:=o0n hty hi p (us:=us) R E r.t 0 h rfl f;rw[a58]at Q;have S:(Instr.storeAt t (.pointer (some ⟨e,0,none⟩)) (.agg us)).run P w=.ok () (w.setCells e 0 us.toList):=
       m0u hty (by simp_all[Value.cells]) (fun u hu=>by
        obtain⟨k,hk⟩:=a32.1 hu;exact W k u (by rw[←a09];exact hk)) l (a04 _)
      have U:a.eval (.tmp d)=.pointer (some ⟨e,0,none⟩):=E;exact a0i.skip X (by simp_all[execOp]) Q V
     |_=>simp[AE.aggOf]at n
    simp_all
   simp_all
  |_=>grind
end
theorem h0p:∀(p q:a0n)(t:Ty)(x:t.den),b0k (p++q) t x=b0k q (b0k p t x).1 (b0k p t x).2
 | [],_,_,_=>rfl
 |.fst::p,q,t,x=>by
  cases t with
  |pair a b=>exact h0p p q a x.1
  |_=>cases q with
   |nil=>rfl
   |cons s q=>cases s<;>rfl
 |.snd::p,q,t,x=>by
  cases t with
  |pair a b=>exact h0p p q b x.2
  |_=>cases q with
   |nil=>rfl
   |cons s q=>cases s<;>rfl
 |.idx i::p,q,t,x=>by
  cases t with
  |arr n e=>exact h0p p q e _
  |list o e=>cases o with
   |true=>exact h0p p q e _
   |false=>cases q with
    |nil=>rfl
    |cons s q=>cases s<;>rfl
  |_=>cases q with
   |nil=>rfl
   |cons s q=>cases s<;>rfl
theorem j0m(t:Ty)(x y:t.den):b0t [] t x t y=y:=o0m t x y
theorem j0l:∀(p q:a0n)(t:Ty)(x:t.den)(t':Ty)(y:t'.den),b0t (p++q) t x t' y=b0t p t x (b0k p t x).1 (b0t q (b0k p t x).1 (b0k p t x).2 t' y)
 | [],q,t,x,t',y=>(j0m t x (b0t q t x t' y)).symm
 |.fst::p,q,t,x,t',y=>by
  cases t with
  |pair a b=>
   show(b0t (p++q) a x.1 t' y,x.2)=(b0t p a x.1 (b0k p a x.1).1 (b0t q (b0k p a x.1).1 (b0k p a x.1).2 t' y),x.2);simp_all[j0l]
  |_=>rfl
 |.snd::p,q,t,x,t',y=>by
  cases t with
  |pair a b=>
   show(x.1,b0t (p++q) b x.2 t' y)=(x.1,b0t p b x.2 (b0k p b x.2).1 (b0t q (b0k p b x.2).1 (b0k p b x.2).2 t' y));simp_all[j0l]
  |_=>rfl
 |.idx i::p,q,t,x,t',y=>by
  cases t with
  |arr n e=>
   show a47 x i (b0t (p++q) e (a22 x i e.dflt) t' y)=a47 x i (b0t p e (a22 x i e.dflt) (b0k p e (a22 x i e.dflt)).1 (b0t q (b0k p e (a22 x i e.dflt)).1 (b0k p e (a22 x i e.dflt)).2 t' y));simp_all[j0l]
  |list o e=>cases o with
   |true=>
    show a47 x i (b0t (p++q) e (a22 x i e.dflt) t' y)=a47 x i (b0t p e (a22 x i e.dflt) (b0k p e (a22 x i e.dflt)).1 (b0t q (b0k p e (a22 x i e.dflt)).1 (b0k p e (a22 x i e.dflt)).2 t' y));simp_all[j0l]
   |false=>rfl
  |_=>rfl
theorem m0j:∀(p:a0n)(t:Ty)(x:t.den)(t':Ty)(y:t'.den),j0h p=true→(b0k p t x).1=t'→b0k p t (b0t p t x t' y)=⟨t',y⟩
 | [],t,x,t',y,_,h=>by
  have h:t=t':=h;subst h;exact congrArg (Sigma.mk t) (j0m t x y)
 |.fst::p,t,x,t',y,hp,h=>by
  cases t with
  |pair a b=>exact m0j p a x.1 t' y hp h
  |_=>
   have h:Ty.unit=t':=h;subst h;rfl
 |.snd::p,t,x,t',y,hp,h=>by
  cases t with
  |pair a b=>exact m0j p b x.2 t' y hp h
  |_=>
   have h:Ty.unit=t':=h;subst h;rfl
 |.idx _::_,_,_,_,_,hp,_=>by cases hp
theorem m0w:∀(p:a0n)(t:Ty)(x:t.den)(t':Ty)(y z:t'.den),j0h p=true→(b0k p t x).1=t'→b0t p t (b0t p t x t' y) t' z=b0t p t x t' z
 | [],t,x,t',y,z,_,h=>by
  have h:t=t':=h
  grind[j0m]
 |.fst::p,t,x,t',y,z,hp,h=>by
  cases t with
  |pair a b=>
   show(b0t p a (b0t p a x.1 t' y) t' z,x.2)=(b0t p a x.1 t' z,x.2);rw[m0w p a x.1 t' y z hp h]
  |_=>rfl
 |.snd::p,t,x,t',y,z,hp,h=>by
  cases t with
  |pair a b=>
   show(x.1,b0t p b (b0t p b x.2 t' y) t' z)=(x.1,b0t p b x.2 t' z);rw[m0w p b x.2 t' y z hp h]
  |_=>rfl
 |.idx _::_,_,_,_,_,_,hp,_=>by cases hp
theorem k0a:∀(p:a0n)(t:Ty)(x:t.den),j0h p=true→b0t p t x (b0k p t x).1 (b0k p t x).2=x
 | [],t,x,_=>j0m t x x
 |.fst::p,t,x,hp=>by
  cases t with
  |pair a b=>
   show(b0t p a x.1 (b0k p a x.1).1 (b0k p a x.1).2,x.2)=x;rw[k0a p a x.1 hp];rfl
  |_=>rfl
 |.snd::p,t,x,hp=>by
  cases t with
  |pair a b=>
   show(x.1,b0t p b x.2 (b0k p b x.2).1 (b0k p b x.2).2)=x;rw[k0a p b x.2 hp];rfl
  |_=>rfl
 |.idx _::_,_,_,hp=>by cases hp
section
variable {P:Program} {B:Base} {N:Nat} {ρ:Type} {Γ:AE} {a:Act} {w:World} {σ:Gh}
theorem q0v(h:Rel B Γ N tm w σ){n p v r k}{l:List Int}(q:a0e (a0a w σ.ov) σ.g Γ.rt (Shr B w σ) (.sref n p) v)(i:Γ.rt n=some r)(y:b0c r.t r.x p=⟨.list true (.int k),l⟩):
  ∃A c,v=.slice A l.length c∧∀j,j<l.length→∃f,A=some f∧f.spot=none∧a0e (a0a w σ.ov) σ.g Γ.rt (Shr B w σ) (.ptr n (p++[.idx (0+j)])) (.pointer (some ⟨f.block,f.off+j,none⟩)):=by
 obtain⟨s,D,E,m,F,G,o,-,-⟩:=h.slice q i y;rcases b0r o with⟨hv,a⟩|⟨f,C,c,os,hv,b,z,u,-⟩;simp[Src.rd]at hv;obtain⟨a,-⟩:=a;subst a;exact⟨none,0,hv,fun j d=>absurd d (Nat.not_lt_zero j)⟩;simp[Src.rd]at hv;have e:l.length=C:=a0v _ _ u;refine⟨some f,c,by simp_all,fun j d=>⟨f,rfl,b.resolve_left (by omega),r,.int k,f.block,f.off+j,i,?_,rfl⟩⟩;rw[c0x p _ _ _ m];simp_all[a0t,Ty.cells]
theorem q0w(h:Rel B Γ N tm w σ){n p v r k off len}{l:List Int}(y:a0e (a0a w σ.ov) σ.g Γ.rt (Shr B w σ) (.swin n p off len) v)(i:Γ.rt n=some r)(C:b0c r.t r.x p=⟨.list true (.int k),l⟩):
  off+len≤l.length∧∃A c,v=.slice A len c∧∀j,j<len→∃a,A=some a∧a.spot=none∧a0e (a0a w σ.ov) σ.g Γ.rt (Shr B w σ) (.ptr n (p++[.idx (off+j)])) (.pointer (some ⟨a.block,a.off+j,none⟩)):=by
 obtain⟨s,F,G,A,m,c,q,I,u,J,K,L,o,hv,M,b⟩:=h.window y i C;rcases b0r u with⟨f,P⟩|⟨a,Q,H,os,f,d,E,z,-⟩;simp[Src.rd]at f;simp_all;simp[Src.rd]at f;obtain⟨rfl,rfl,rfl⟩:=f;have e:l.length=m:=a0v _ _ z;refine⟨by omega,o,_,hv,fun j O=>?_⟩;rcases b with b|b;omega;simp[c0u (d.resolve_left (by omega))]at b;refine⟨_,b,rfl,r,.int k,a.block,a.off+off*1+j,i,?_,rfl⟩;rw[c0x p _ _ _ q];have D:off+j<m:=by omega
 simp_all[a0t,Ty.cells,Nat.add_assoc]
theorem p0s{Γ:AE}(h:Γ.rt n=some r):Γ.setRt n (some r)=Γ:=by
 have:(fun j=>bif j==n then some r else Γ.rt j)=Γ.rt:=by
  grind
 simp_all[AE.setRt]
theorem t0x{Γ:AE}{r r':Option Root}:(Γ.setRt n r).setRt n r'=Γ.setRt n r':=by
 simp only[AE.setRt]
 grind
theorem s0k(l:List Int)(i:Nat):b0k [.idx i] (.list true (.int k)) l=⟨.int k,l.getD i 0⟩:=rfl
theorem y0v(l:List Int)(i:Nat)(y:Int):b0t [.idx i] (.list true (.int k)) l (.int k) y=l.set i y:=by
 show l.set i (b0t [] (.int k) (l.getD i 0) (.int k) y)=_;exact congrArg _ (j0m (.int k) _ y)
theorem y0x{l:List Int}{y:Int}(b:Γ.pd=none)(e:Γ.rt n=some r)(h:b0c r.t r.x p=⟨.list true (.int k),l⟩):
  Γ.stor (.int k) n (p++[.idx i]) (.val (.int k) y) some=some (Γ.setRt n (some ⟨r.bx,r.t,b0q r.t r.x p (.list true (.int k)) (l.set i y)⟩)):=by
 have h:b0k p r.t r.x=⟨.list true (.int k),l⟩:=h;have f:b0k (p++[.idx i]) r.t r.x=⟨.int k,l.getD i 0⟩:=by rw[h0p,h,s0k]
 have a:b0t (p++[.idx i]) r.t r.x (.int k) y=b0t p r.t r.x (.list true (.int k)) (l.set i y):=by
  have g:=j0l p [.idx i] r.t r.x (.int k) y;rw[h]at g;exact g.trans (congrArg (fun z:List Int=>b0t p r.t r.x (.list true (.int k)) z) (y0v l i y))
 have c:b0c r.t r.x (p++[.idx i])=⟨.int k,l.getD i 0⟩:=f;have d:b0q r.t r.x (p++[.idx i]) (.int k) y=b0q r.t r.x p (.list true (.int k)) (l.set i y):=a;simp_all[AE.stor,Ty.sh,Ty.shn,AE.asV,AE.look,castTo]
theorem w0v{n:Nat}{p:a0n}{k:IntKind}{t0:TypeId}{i:Nat}{av:AV}{tm:Nat→Value}{b o off m L:Nat}(hp:j0h p=true)(hty:a0g P (.int k) (.inl t0)=true)
  (f:∀{Γ:AE}{σ:Gh}{w:World}{r:Root}{l:List Int},Rel B Γ N tm w σ→Γ.sl i=.one av→Γ.rt n=some r→b0c r.t r.x p=⟨.list true (.int k),l⟩→l.length=L→∀j,j<m→
   a0e (a0a w σ.ov) σ.g Γ.rt (Shr B w σ) (.ptr n (p++[.idx (off+j)])) (.pointer (some ⟨b,o+j,none⟩)))(c:off+m≤L):
  ∀(ys:List Int)(s:Nat){Γ:AE}{σ:Gh}{w:World}{r:Root}{l:List Int},s+ys.length≤m→Rel B Γ N tm w σ→Γ.pd=none→Γ.sl i=.one av→Γ.rt n=some r→b0c r.t r.x p=⟨.list true (.int k),l⟩→l.length=L→
   ∃σ',Rel B (Γ.setRt n (some ⟨r.bx,r.t,b0q r.t r.x p (.list true (.int k)) (l.take (off+s)++(ys++l.drop (off+s+ys.length)))⟩)) N tm (w.setCells b (o+s) (ys.map (Value.int k))) σ'
 | [],s,Γ,σ,w,r,l,_,h,_,_,hr,a,_=>by
  refine⟨σ,?_⟩;have a:b0k p r.t r.x=⟨.list true (.int k),l⟩:=a;have e:b0q r.t r.x p (.list true (.int k)) (l.take (off+s)++([]++l.drop (off+s+([]:List Int).length)))=r.x:=by
   have A:=k0a p r.t r.x hp;rw[a]at A;have u:l.take (off+s)++([]++l.drop (off+s+([]:List Int).length))=l:=by
    simp
   exact(congrArg (fun z:List Int=>b0t p r.t r.x (.list true (.int k)) z) u).trans A
  have F:Rel B (Γ.setRt n (some ⟨r.bx,r.t,r.x⟩)) N tm w σ:=by
   rw[show(⟨r.bx,r.t,r.x⟩:Root)=r from rfl,p0s hr];omega
  exact(congrArg (fun z=>Rel B (Γ.setRt n (some ⟨r.bx,r.t,z⟩)) N tm w σ) e).mpr F
 |y::ys,s,Γ,σ,w,r,l,hs,h,hpd,hsl,hr,a,hl=>by
  simp at hs;have I:=f h hsl hr a hl s (by omega);have J:=y0x (i:=off+s) (y:=y) hpd hr a;obtain⟨w',Γ',σ',M,O,C,v,-,K,D⟩:=Rel.storR rfl hty h I (a0e.mk_int (k:=k) y) J;simp at C D;obtain⟨rfl,rfl⟩:=C;subst D;have v:w'=w.setCell ⟨b,o+s,none⟩ (.int k y):=v;subst v;have G:b0k p r.t r.x=⟨.list true (.int k),l⟩:=a;have q:=m0j p r.t r.x (.list true (.int k)) (l.set (off+s) y) hp (by grind);obtain⟨σ2,d⟩:=w0v hp hty f c ys (s+1) (r:=⟨r.bx,r.t,b0q r.t r.x p (.list true (.int k)) (l.set (off+s) y)⟩) (l:=l.set (off+s) y) (by omega) K hpd hsl (f0w _) q (by simp_all);refine⟨σ2,?_⟩;rw[t0x]at d;have E:b0q r.t (b0q r.t r.x p (.list true (.int k)) (l.set (off+s) y)) p (.list true (.int k)) ((l.set (off+s) y).take (off+(s+1))++(ys++(l.set (off+s) y).drop (off+(s+1)+ys.length))) =
    b0q r.t r.x p (.list true (.int k)) (l.take (off+s)++(y::ys++l.drop (off+s+(y::ys).length))):=by
   refine(m0w p r.t r.x (.list true (.int k)) _ _ hp (by grind)).trans (congrArg _ ?_);have H:off+s<l.length:=by omega
   rw[show off+(s+1)=off+s+1 from rfl,a30 (by simp_all)];rw[List.drop_set_of_lt (by omega)];simp only[List.getElem_set_self,a46 (a04 _),aA,lC,List.cons_append,a43]
   grind
  rw[E]at d;exact d
theorem y0i{t0:TypeId}{off Lc c:Nat}{l ys:List Int}(hty:a0g P (.int k) (.inl t0)=true)(h:Rel B Γ N (a0f a) w σ)(h6:Γ.pd=none)(hp:j0h p=true)(F:Γ.sl i=.one av)(H:Γ.rt n=some r)(K:b0c r.t r.x p=⟨.list true (.int k),l⟩)(h8:off+Lc≤l.length)(D:∀{Γ:AE}{σ:Gh}{w:World}{r:Root}{l':List Int},Rel B Γ N (a0f a) w σ→Γ.sl i=.one av→Γ.rt n=some r→b0c r.t r.x p=⟨.list true (.int k),l'⟩→l'.length=l.length→∀j,j<Lc→
   ∃f,A=some f∧f.spot=none∧a0e (a0a w σ.ov) σ.g Γ.rt (Shr B w σ) (.ptr n (p++[.idx (off+j)])) (.pointer (some ⟨f.block,f.off+j,none⟩)))(hE:g0d w (a0a w σ.ov) (Shr B w σ) (.int k) ys vy){ty:TypeId}(h0:ts[0]?=some t)(S:P.underlying t=some (.slice t'))(I:Info P (.int k) t'):
  ∃w' σ',(Builtin.copy_ ts ty #[.slice A Lc c,vy]).run P w=.ok (goInt ((min Lc ys.length:Nat):Int)) w'∧
   Rel B (Γ.setRt n (some ⟨r.bx,r.t,b0q r.t r.x p (.list true (.int k)) (p0h l off Lc ys)⟩)) N (a0f a) w' σ':=by
 obtain⟨Y,ny,cy,cs,rfl,hn,hlen,hone,⟨R,J,hR⟩,hc,hnone,hsp⟩:=hE;have Z:cs=ys.map (Value.int k):=by
  have:=l0k ys ny 0 (by simp_all[Ty.cells]) J
  simp_all
 obtain⟨m,Q⟩:∃m,m=min Lc ys.length:=⟨_,rfl⟩;have h5:m≤ny:=by rw[hn,Q];exact Nat.min_le_right _ _
 have d:=h0a (P:=P) (w:=w) (w2:=w) (e:=.int k) rfl (fun _=>rfl) hlen hc hnone m h5 (c:=cy);simp[Ty.cells]at d;have G:cs.take m=(ys.take m).map (Value.int k):=by simp_all
 have M:p0h l off Lc ys=l.take (off+0)++(ys.take m++l.drop (off+0+(ys.take m).length)):=by
  simp_all[p0h]
 have C:Nat.min ny Lc=m:=by rw[Q,hn];exact Nat.min_comm _ _
 have v:(sizeOf t').run P w=.ok 1 w:=by have:=I.sizeOf (w:=w);simp_all[Ty.cells]
 by_cases hm0:m=0
 refine⟨w,σ,?_,?_⟩;rw[←Q];simp only[Builtin.copy_,h0];have h3:(Builtin.firstCells 1 0 (.slice Y ny cy)).run P w=.ok #[] w:=by
  simp_all
 simp[run_underlying S,Builtin.lenOf,C,hm0,v,h3];cases A<;>simp[storeCells];have e:p0h l off Lc ys=l:=by
  rw[M,hm0];simp
 have h1:=k0a p r.t r.x hp;have s:b0k p r.t r.x=⟨.list true (.int k),l⟩:=K;rw[s]at h1;have X:Rel B (Γ.setRt n (some ⟨r.bx,r.t,r.x⟩)) N (a0f a) w σ:=by
  rw[show(⟨r.bx,r.t,r.x⟩:Root)=r from rfl,p0s H];omega
 exact(congrArg (fun z:List Int=>Rel B (Γ.setRt n (some ⟨r.bx,r.t,b0q r.t r.x p (.list true (.int k)) z⟩)) N (a0f a) w σ) e).mpr ((congrArg (fun z=>Rel B (Γ.setRt n (some ⟨r.bx,r.t,z⟩)) N (a0f a) w σ) h1).mpr X);obtain⟨f,rfl,h9,-⟩:=D h F H K rfl 0 (by omega);obtain⟨σ',h2⟩:=w0v (b:=f.block) (o:=f.off) (off:=off) (m:=m) (L:=l.length) hp hty (fun hR hs h7 s h4 j hj=>by
   obtain⟨A1,V,-,g⟩:=D hR hs h7 s h4 j (by omega);simp_all) (by omega) (ys.take m) 0 (by simp_all) h h6 F H K rfl
 refine⟨_,σ',?_,(congrArg (fun z=>Rel B (Γ.setRt n (some ⟨r.bx,r.t,b0q r.t r.x p (.list true (.int k)) z⟩)) N (a0f a) (w.setCells f.block (f.off+0) ((ys.take m).map (Value.int k))) σ') M).mpr h2⟩;have q:∀j,j<m→∃T,a0w w f.block T∧f.off+j<T:=fun j hj=>by
  obtain⟨A1,V,-,r1,t1,b1,o1,q1,U,q3⟩:=D h F H K rfl j (by omega);simp at V;subst V;simp at q3;obtain⟨rfl,rfl⟩:=q3;have E:=h.room q1 U;refine⟨_,E,?_⟩;have g0:t1=.int k:=by
   rw[H]at q1;simp at q1;subst q1;obtain⟨O1,R1,k1,-⟩:=h.sep H;obtain⟨y,O',R',_,_,_,_,-,g4,-⟩:=b0h _ r.t _ k1 U;have g5:b0k (p++[.idx (off+j)]) r.t r.x=⟨t1,y⟩:=g4;have s:b0k p r.t r.x=⟨.list true (.int k),l⟩:=K;rw[h0p,s,s0k]at g5
   grind
  grind
 have O:=run_storeCells_cells (P:=P) f.block f.off (cs.take m) 0 w (fun j hj=>by
   obtain⟨T,q1,U⟩:=q j (by simp_all);exact(q1.cell (o:=f.off+0+j) (by omega)).1) (fun j hj=>by
   obtain⟨T,q1,U⟩:=q j (by simp_all);exact(q1.cell (o:=f.off+0+j) (by omega)).2) (fun u S=>f0d (hone u (List.mem_of_mem_take S)))
 have W:f=⟨f.block,f.off,none⟩:=by cases f;grind
 rw[←W,Z]at O;rw[←Q];simp only[Builtin.copy_,h0];simp only[a15]at *;simp[run_underlying S,Builtin.lenOf,C,v,d,O,G]
theorem w0x{o:Oper}{c:Call}{d:Nat}{cx:Cx}{q:Bool}{K:AE→Rs ρ}{z:ρ}(h0:CxTy P cx)(ho:o.op=.call c)(Z:c.callee=.builtin .copy)(hd:o.dst=some d)
  (h:Rel B Γ N (a0f a) w σ)(hN:a.tmps.size=N)(hf:fits N o=true)(F:aop cx q o Γ K=some z):a0i P B N o a w K z:=by
 obtain⟨cs,R⟩:=i0w (P:=P) (a:=a) (w:=w) ho Z;have hl:∃x y,c.args.toList=[x,y]:=by
  cases hl:c.args.toList with
  |nil=>simp_all[aop,AE.blt]
  |cons x l=>
   cases l with
   |nil=>simp_all[aop,AE.blt]
   |cons y l=>
    cases l with
    |nil=>simp
    |cons u l=>simp_all[aop,AE.blt]
 obtain⟨x,y,U⟩:=hl;have J:c.args=#[x,y]:=by grind
 have E:=j0w ho Z hf;rw[U]at E;have W:=h.opd (E x (by simp));have hy:=h.opd (E y (by simp));simp only[aop,ho,hd,Z,U,a07,a42,AE.blt]at F
 split at F
 grind
 ·split at F
  ·rename_i o' k Y;obtain⟨t,ht,Y⟩:=a27.1 Y;have h5:c.argTypes[0]?=some t:=by
    rw[←a09];cases hl:c.argTypes.toList with
    |nil=>simp_all
    |cons y l=>simp_all
   obtain⟨g0,hty⟩:=h0.T t _ Y;obtain⟨t',hu,S,h8⟩:=b0l hty;obtain⟨I⟩:=a0k (a0p S);obtain⟨ys,F,hE⟩:=h.elems rfl hy F;have h9:∀(n:Nat)(p:a0n)(off:Nat)(G:Option Nat),(Γ.opd x=.sref n p∧off=0∧G=none∨∃s,Γ.opd x=.swin n p off s∧G=some s)→
     Γ.copTo n p off G k ys (fun m Γ'=>K (Γ'.set d (.val (.int .i64) (m:Int))))=some z→a0i P B N o a w K z:=by
    intro n p off G C F;unfold AE.copTo at F
    split at F
    ·rename_i r h2;obtain⟨h3,hr⟩:=a0o h2
     split at F
     ·rename_i k' l hg;obtain⟨hc,V⟩:=(a0b F).elim id fun h=>by grind
      simp at hc;obtain⟨rfl,hp⟩:=hc;have h7:∃i,x=.tmp i∧Γ.sl i=.one (Γ.opd x):=by
       cases x with
       |tmp i=>
        refine⟨i,rfl,?_⟩
        grind[AE.opd,AE.get]
       |const v=>
        exfalso
        simp[AE.opd]at C;unfold k0v at C
        grind
       |global g=>rcases C with⟨O,-⟩|⟨_,O,-⟩<;>cases O
       |func f=>rcases C with⟨O,-⟩|⟨_,O,-⟩<;>cases O
      obtain⟨i,rfl,h4⟩:=h7;have hi:i<N:=by simp_all[b0e]
      have done:∀(A:Option Addr)(s H:Nat),a.eval (.tmp i)=.slice A s H→G.getD (a13 l)=s→off+s≤a13 l→
        (∀{Γ':AE}{σ:Gh}{w:World}{r:Root}{l':List Int},Rel B Γ' N (a0f a) w σ→Γ'.sl i=.one (Γ.opd (.tmp i))→Γ'.rt n=some r→b0c r.t r.x p=⟨.list true (.int k'),l'⟩→l'.length=a13 l→∀j,j<s→
         ∃A0,A=some A0∧A0.spot=none∧a0e (a0a w σ.ov) σ.g Γ'.rt (Shr B w σ) (.ptr n (p++[.idx (off+j)])) (.pointer (some ⟨A0.block,A0.off+j,none⟩)))→a0i P B N o a w K z:=by
       intro A s H hv X D L;obtain⟨w',σ',k1,k2⟩:=y0i (ty:=o.type) S h h3 hp h4 hr hg D L hE h5 hu I (c:=H);rw[X]at V;refine a0i.set hd hN (w':=w') (σ':=σ') (R.trans ?_) k2 (a0e.mk_int _) V;rw[J];have h6:a.eval (.tmp i)=.slice A s H:=hv;simp[builtin,h6,k1];rfl
      rcases C with⟨Q,rfl,rfl⟩|⟨s,Q,rfl⟩;rw[Q]at W;obtain⟨A,H,hv,-⟩:=q0v h W hr hg;refine done A (a13 l) H hv rfl (by omega) fun {Γ' σ w r l'} hR hs hr' hg' hl' j hj=>?_
      have b:=hR.slots i hi;rw[hs,Q]at b;obtain⟨A2,c2,M,L⟩:=q0v hR b hr' hg';have e:=M.symm.trans hv;simp_all;rw[Q]at W;obtain⟨D,A,H,hv,-⟩:=q0w h W hr hg;refine done A s H hv rfl D fun {Γ' σ w r l'} hR hs hr' hg' hl' j hj=>?_
      have b:=hR.slots i hi;rw[hs,Q]at b;obtain⟨-,A2,c2,M,L⟩:=q0w hR b hr' hg';have e:=M.symm.trans hv;simp_all
     simp_all
    simp_all
   unfold AE.copK at F
   grind
  simp_all
theorem r0l{o:Oper}{f:Nat}{first caps:Array Operand}{d:Nat}{cx:Cx}{q:Bool}{K:AE→Rs ρ}{z:ρ}(j:o.op=.makeFunc (.func f) first caps)(hd:o.dst=some d)
  (h:Rel B Γ N (a0f a) w σ)(l:a.tmps.size=N)(hf:fits N o=true)(i:aop cx q o Γ K=some z):a0i P B N o a w K z:=by
 have g:=a0s hf;rw[j]at g;simp[aop,j,hd]at i;obtain⟨b,i⟩:=(a0b i).elim id fun h=>by grind
 have b:first=#[]:=by simp_all
 subst b;have c:(execOp a.eval o).run P w=.ok (.value (.func (.func f) #[] (caps.map a.eval))) w:=by
  simp_all[execOp,Instr.makeFunc]
 refine⟨_,w,_,σ,.inl c,?_,i⟩;rw[hd];refine h.putd l (fun _=>⟨caps.map a.eval,⟨by simp,rfl⟩,fun k av e=>?_⟩);rw[a29]at e;cases hp:caps.toList[k]? with
 |none=>simp_all
 |some x=>
  rw[hp]at e;simp at e;subst e;refine⟨a.eval x,?_,h.opd (g x (by grind[Op.operands]))⟩;simp_all
end
section
variable {P:Program} {B:Base} {N:Nat} {ρ:Type} {Γ:AE} {a:Act} {w:World} {σ:Gh}
theorem r0k{o:Oper}{t:TypeId}{n:Nat}{ps:Array (Nat×Operand)}{d:Nat}{cx:Cx}{q:Bool}{K:AE→Rs ρ}{z:ρ}{o':Bool}{e t0:Ty}(Q:CxTy P cx)(X:o.op=.buildSlice t n ps)(hd:o.dst=some d)
  (hT:cx.T t=some (.list o' e))(hO:(bif q || !e.isList then none else cx.O d)=some t0)
  (h:Rel B Γ N (a0f a) w σ)(hN:a.tmps.size=N)(hf:fits N o=true)(H:aop cx q o Γ K=some z):a0i P B N o a w K z:=by
 have k:∀y∈(o.op.operands.toList),b0e N y=true:=a0s hf;rw[X]at k;simp[aop,X,hd,hT,hO]at H
 split at H
 ·rename_i f x hl
  split at H
  ·rename_i M;obtain⟨V,rfl⟩:=M;have U:e.isList=true:=by
    grind
   have Z:ps=#[(0,x)]:=by grind
   obtain⟨h6,hty⟩:=Q.T t _ hT;obtain⟨G,hu,E,h4⟩:=b0l hty;obtain⟨I⟩:=a0k (a0p E);have he:e.sh=e:=by
    simp_all[Ty.sh]
   have s:e.cells=1:=h0f U;have h3:f.cells=1:=by grind[Ty.cells_sh]
   have h2:b0e N x=true:=k x (by simp[Op.operands,Z]);obtain⟨z0,F⟩:∃z0,I.z.cells=#[z0]:=by
    have:=I.zsize
    rw[s]at this;obtain⟨z0,F⟩:=a44.1 (show I.z.cells.toList.length=1 by omega)
    grind
   have S:a0d (fun i=>dec (a0a w σ.ov) f fun j=>(#[z0]:Array Value)[i*f.cells+j]?) 1 0=some ([f.dflt],[],[]):=by
    have:=e0f (m:=a0a w σ.ov) f (rd:=fun j=>I.z.cells[j]?) (by rw[←t0e,V];exact I.zok)
    simp_all[a0d]
   obtain⟨Γ1,σ1,k1,J,k3,-,k5⟩:=h.newSlice (c:=1) H (fun c M=>b0m _ c M) (b0s _) (b0i (Obj.cells #[z0] G)) (.inl rfl) (by simp_all) (by simp) S (by simp);have C:Γ1.rt d=some ⟨false,.list true f,[f.dflt]⟩:=by
    grind[AE.newRt,AE.setRt]
   have h5:=J.top1 C rfl k3;have u:a0e (a0a (w.alloc (.cells #[z0] G)) σ1.ov) σ1.g Γ1.rt (Shr B (w.alloc (.cells #[z0] G)) σ1) (.ptr d [.idx 0]) (.pointer (some ⟨w.heap.size,0,none⟩)):=
    ⟨_,f,w.heap.size,0,C,by simp_all[a0t,Src.rd],rfl⟩
   have p:=J.opd h2
   split at k1
   ·rename_i m hy;rw[hy]at p;have h0:∃A n c,a.eval x=.slice A n c:=by
     obtain⟨r,e2,s2,q1,q2,q3⟩:=p;obtain⟨O',R,q4,-⟩:=(J.roots m r q1).rd;simp[a0t]at q2;obtain⟨bx,tr,xr⟩:=r;obtain⟨rfl,rfl⟩:tr=.list true e2∧_=s2:=q2;rcases b0r q4 with⟨q5,-⟩|⟨A,n,c,os,q5,-⟩
     all_goals grind
    obtain⟨A,nA,cA,hv⟩:=h0;have k6:=J.putd (sv:=.one (.sref d [])) (v:=.slice (some ⟨w.heap.size,0,none⟩) 1 1) (d:=d) hN (fun _=>k3);obtain⟨w',Γ',σ',b,off,j1,j2,-,j4,j5⟩:=k6.storR he E u p k1;simp at j1;obtain⟨rfl,rfl⟩:=j1;have h1:w'=w.alloc (.cells #[a.eval x] G):=by
     simp_all[Value.cells,World.setCells,l0w]
    have D:(execOp a.eval o).run P w=.ok (.value (.slice (some ⟨w.heap.size,0,none⟩) 1 1)) (w.alloc (.cells #[a.eval x] G)):=by
     have l:Instr.fill (fun i=>some (i*1,1)) ((a35 (1*1)).map (I.z.cells[·%I.z.cells.size]!)) [(0,a.eval x)]=some #[a.eval x]:=by
      have hr:(a35 (1*1)).map (I.z.cells[·%I.z.cells.size]!)=#[z0]:=by rw[F];simp[Array.range_succ,show a35 0=#[]from rfl]
      rw[hr,hv];rfl
     have W:¬ (1*1 > 2^24):=by simp
     have L:¬ (1*1=0):=by simp
     have Y:(ps.map fun(i,x)=>(i,a.eval x)).toList=[(0,a.eval x)]:=by simp_all
     simp only[execOp,X,Instr.buildSlice,Sem.run_bind,run_underlying hu,Result.andThen_ok,I.sizeOf,s,if_neg W,if_neg L,Sem.run_pure,I.zeroValue,Y,l,newRow]
     simp
    rw[h1]at j4;exact⟨_,_,Γ',σ',.inl D,by simp_all,j5⟩
   simp_all
  simp_all
 simp_all
end
section
variable {P:Program} {B:Base} {N:Nat} {ρ:Type} {Γ:AE} {a:Act} {w:World} {σ:Gh}
theorem w0p{K:AE→Rs ρ}{z:ρ}(j:CxTy P cx)(C:GOk cx.G B)(A:∀c v,o.op=.call c→c.callee≠.value v)(h:Rel B Γ N (a0f a) w σ)(l:a.tmps.size=N)(hf:fits N o=true)(g:aop cx q o Γ K=some z):a0i P B N o a w K z:=by
 cases hd:o.dst with
 |none=>
  cases ho:o.op
  case store t x y=>
   cases hag:Γ.aggOf y with
   |none=>grind[p0b]
   |some vs=>grind[l0u]
  case call c=>
   cases hc:c.callee with
   |value v=>simp_all
   |builtin b=>simp_all[aop]
   |invoke r n=>simp_all[aop]
  all_goals (simp only[aop,ho,hd]at g;cases g)
 |some d=>
  cases ho:o.op
  case store t x y=>
   cases hag:Γ.aggOf y with
   |none=>grind[p0b]
   |some vs=>grind[l0u]
  case call c=>
   cases hc:c.callee with
   |value v=>simp_all
   |builtin b=>
    cases b
    case len=>grind[y0m]
    case cap=>grind[y0l]
    case max=>grind[y0n]
    case min=>grind[y0o]
    case append=>grind[t0m]
    case copy=>grind[w0x]
    all_goals (simp only[aop,ho,hd,hc]at g;unfold AE.blt at g;first|(cases g;done)|(split at g<;>first|(cases g;done)|(rename_i k;cases k;done)|(rename_i k _;cases k;done)))
   |invoke r n=>simp_all[aop]
  case move x=>grind[w0z]
  case assign x=>grind[t0n]
  case pick x y u=>grind[x0a]
  case alloc t=>grind[v0j]
  case box t x=>
   cases hag:(bif q then none else Γ.aggOf x)with
   |none=>exact y0k ho hd hag h l hf g
   |some vs=>grind[t0o]
  case build t x=>
   cases hnl:cx.nlT d t with
   |some τ=>grind[o0z]
   |none=>
    cases hO:cx.O d with
    |none=>grind[o0z]
    |some τ=>grind[r0j]
  case makeFunc fn first caps=>
   cases fn with
   |func f=>grind[r0l]
   |_=>simp_all[aop]
  case buildSlice t n x=>
   by_cases hO:∃p e t0,cx.T t=some (.list p e)∧(bif q || !e.isList then none else cx.O d)=some t0
   grind[r0k]
   ·refine p0a j ho hd (fun p e D=>?_) h l hf g;cases k:(bif q || !e.isList then none else cx.O d)with
    |none=>rfl
    |some t0=>simp_all
  case load t x=>grind[w0y]
  case nilCheck x=>grind[r0m]
  case binOp op t x y s=>grind[v0k]
  case unOp op t x=>grind[x0b]
  case convert s t x=>grind[s0d]
  case makeSlice t x y=>grind[q0d]
  case slice t x u v m=>grind[v0n]
  case fieldAddr s x f=>grind[q0b]
  case field s x f=>grind[v0l]
  case indexAddr t x i=>grind[q0c]
  case index t x i=>grind[v0m]
  case extract x i=>
   cases x with
   |tmp t=>grind[s0e]
   |_=>simp_all[aop]
  all_goals (simp only[aop,ho,hd]at g;cases g)
end
def cells(w:World):Mem:=fun b o=>w.cell? ⟨b,o,none⟩
structure Ent1 where
 r:Root
 s:Src
 O:a0z
def f0o(Γ:AE)(f:AV→AV)(E:Nat→Option Ent1):AE:=
 ⟨(Γ.mapv f).sl,fun n=>match E n with|some e=>some e.r|none=>Γ.rt n,none⟩
def d0f(σ:Gh)(E:Nat→Option Ent1):Gh:=
 ⟨fun n=>match E n with|some e=>e.s|none=>σ.g n,fun n=>match E n with|some e=>e.O|none=>σ.ow n,none⟩
theorem f0u{Γ f E n}(h:E n=none):(f0o Γ f E).rt n=Γ.rt n:=by simp[f0o,h]
theorem d0u{Γ f E n e}(h:E n=some e):(f0o Γ f E).rt n=some e.r:=by simp[f0o,h]
theorem h0t{σ E n}(h:E n=none):(d0f σ E).g n=σ.g n:=by simp[d0f,h]
theorem d0t{σ E n e}(h:E n=some e):(d0f σ E).g n=e.s:=by simp[d0f,h]
theorem c0l{σ E n}(h:E n=none):(d0f σ E).ow n=σ.ow n:=by simp[d0f,h]
theorem c0y{σ E n e}(h:E n=some e):(d0f σ E).ow n=e.O:=by simp[d0f,h]
structure Work (w w':World) (σ:Gh) (F':Nat→Prop) (E:Nat→Option Ent1):Prop where
 own:∀c,F' c→∃n e,E n=some e∧c∈(σ.ow n).map (·.1)
 size:w.heap.size≤w'.heap.size
 same:∀b,b<w.heap.size→¬ F' b→w'.heap[b]?=w.heap[b]?
 mine:∀n e c,E n=some e→c∈e.O.map (·.1)→(F' c∨c∈(σ.ow n).map (·.1))∨w.heap.size≤c
 nodup:∀n e,E n=some e→(e.O.map (·.1)).Nodup
 disj:∀n e n' e',E n=some e→E n'=some e'→n≠n'→∀c,c∈e.O.map (·.1)→c∉e'.O.map (·.1)
 live:∀n e p,E n=some e→p∈e.O→a0w w' p.1 p.2
 still:b0x w'=b0x w
theorem Rel.merge{B Γ N tm w σ}(h:Rel B Γ N tm w σ)(h4:σ.ov=none){F':Nat→Prop}{E:Nat→Option Ent1}(W:Work w w' σ F' E)(Q:∀n e,E n=some e→RootOk (cells w') (fun c=>c<w'.heap.size∧(Shr B w σ c∨F' c∨w.heap.size≤c)∧∀n e,E n=some e→c∉e.O.map (·.1)) e.r e.s e.O)(h6:∀i b e,B.pin i=some b→E (pinned+i)=some e→e.s=b){f:AV→AV}(hf:∀a v,a0e (a0a w σ.ov) σ.g Γ.rt (Shr B w σ) a v→f a=.dead∨(f a=a∧∀k q,(a=.ptr k q∨a=.sref k q∨∃o l,a=.swin k q o l)→E k=none∨(a=.ptr k []∧∃e b,E k=some e∧e.s=.at b 0∧σ.g k=.at b 0)∨
   (a=.sref k []∧∃e v ε,E k=some e∧e.s=.one v∧σ.g k=.one v∧e.r.t=.list true ε))):
  Rel B (f0o Γ f E) N tm w' (d0f σ E)∧
   (∀c,c<w'.heap.size∧(Shr B w σ c∨F' c∨w.heap.size≤c)∧(∀n e,E n=some e→c∉e.O.map (·.1))→Shr B w' (d0f σ E) c):=by
 have D:∀c,F' c→a0r σ c:=fun c m=>by obtain⟨n,e,-,z⟩:=W.own c m;exact⟨n,z⟩
 have h5:∀c,F' c→c<w.heap.size:=fun c m=>h.lt (D c m)

 have K:∀n c,E n=none→c∈(σ.ow n).map (·.1)→¬ F' c:=fun n c z m M=>by
  obtain⟨G,H,T,x⟩:=W.own c M;have A:n≠G:=by grind
  exact h.disj n G A c m x
 have U:∀c,a0r (d0f σ E) c→(∃n,E n=none∧c∈(σ.ow n).map (·.1))∨∃n e,E n=some e∧c∈e.O.map (·.1):=by
  rintro c ⟨n,z⟩
  cases d:E n with
  |none=>grind[c0l]
  |some e=>grind[c0y]
 have R:∀c,c<w'.heap.size∧(Shr B w σ c∨F' c∨w.heap.size≤c)∧(∀n e,E n=some e→c∉e.O.map (·.1))→Shr B w' (d0f σ E) c:=by
  rintro c ⟨T,x,S⟩
  refine⟨T,?_,fun ho=>?_⟩;rcases x with x|x|x;exact x.2.1;exact .inr (h.mine c (D c x));exact .inr (.inr (a23 h.size x));rcases U c ho with⟨n,d,z⟩|⟨n,e,d,z⟩;rcases x with x|x|x;exact x.2.2 ⟨n,z⟩
  grind
  have:=h.lt ⟨n,z⟩;omega
  grind
 have L:∀c,Shr B w σ c→Shr B w' (d0f σ E) c:=fun c m=>R c ⟨a12 m.1 W.size,.inl m,fun n e d z=>by
  rcases W.mine n e c d z with(g|g)|g;exact m.2.2 (D c g);exact m.2.2 ⟨n,g⟩
  have:=m.1;omega⟩
 have J:∀c j,c<w.heap.size→¬ F' c→a0a w' none c j=a0a w σ.ov c j:=fun c j m M=>by
  rw[h4];exact b0g none (W.same c m M) j
 have y:∀n c j,E n=none→c∈(σ.ow n).map (·.1)→a0a w' none c j=a0a w σ.ov c j:=fun n c j z m=>J c j (h.lt ⟨n,m⟩) (K n c z m);have P:∀c j,Shr B w σ c→a0a w' none c j=a0a w σ.ov c j:=fun c j m=>J c j m.1 fun M=>m.2.2 (D c M);have I:∀n q r t s,E n=none→Γ.rt n=some r→loc (a0a w σ.ov) r.t (σ.g n) q=some (t,s)→loc (a0a w' none) r.t (σ.g n) q=some (t,s)∧s.rd (a0a w' none) 0=s.rd (a0a w σ.ov) 0:=by
  intro n q r t s d hr Y;obtain⟨O1,R1,l1,l2,l3,l4,l5,l6⟩:=h.sep hr;refine⟨c0e q r.t _ l1 Y (fun j _=>?_) (fun c j m=>y n c j d (l4 c m)),?_⟩
  ·cases es:σ.g n with
   |one v=>rfl
   |_=>rename_i b o;exact y n b _ d (l5 _ _ es)
  ·cases s with
   |one v=>rfl
   |_=>rename_i b o;exact y n b _ d (h.place hr Y)
 refine⟨⟨fun n r hr=>?_,fun n z=>?_,fun n=>?_,fun n G A c m F=>?_,fun n p hp=>?_,fun i hi=>?_,trivial,a23 h.size W.size,fun b X M=>?_,fun c m=>?_,fun i b X A=>?_,W.still.trans h.still⟩,R⟩
 ·cases d:E n with
  |none=>
   rw[f0u d]at hr;rw[h0t d,c0l d];obtain⟨O1,R1,l1,l2,l3,l4,l5,l6⟩:=h.sep hr;refine⟨O1,R1,?_,fun c m=>L c (l2 c m),l6⟩;show dec (a0a w' none) r.t ((σ.g n).rd (a0a w' none))=_;refine a0j r.t l1 (fun j _=>?_) (fun c j m=>?_)
   ·cases es:σ.g n with
    |one v=>rfl
    |_=>rename_i b o;exact y n b _ d (l5 _ _ es)
   grind
  |some e=>
   rw[d0u d]at hr;rw[d0t d,c0y d];simp at hr;subst hr;exact(Q n e d).mono R
 ·cases d:E n with
  |none=>rw[f0u d]at z;rw[c0l d];exact h.norm n z
  |some e=>grind[d0u]
 ·cases d:E n with
  |none=>rw[c0l d];exact h.nodup n
  |some e=>rw[c0y d];exact W.nodup n e d
 ·have Z:∀n G,E n=none→∀H,E G=some H→c∈(σ.ow n).map (·.1)→c∈H.O.map (·.1)→False:=fun n G d H C m F=>by
   rcases W.mine G H c C F with(g|g)|g
   grind
   exact h.disj n G (by grind) c m g
   have:=h.lt ⟨n,m⟩;omega
  cases d:E n with
  |none=>
   rw[c0l d]at m;cases C:E G with
   |none=>rw[c0l C]at F;exact h.disj n G A c m F
   |some H=>grind[c0y]
  |some e=>
   rw[c0y d]at m;cases C:E G with
   |none=>grind[c0l]
   |some H=>rw[c0y C]at F;exact W.disj n e G H d C A c m F
 ·cases d:E n with
  |none=>
   rw[c0l d]at hp;obtain⟨c,e,lo,hi,T,x,S⟩:=h.live n p hp;have m:=a00 (f:=(·.1)) hp;exact⟨c,e,lo,hi,by rw[W.same p.1 (h.lt ⟨n,m⟩) (K n p.1 d m)];omega,x,S⟩
  |some e=>rw[c0y d]at hp;exact W.live n e p d hp
 refine(h.slots i hi).mapv fun a v V=>?_
 rcases hf a v V with g|⟨g,hk⟩;rw[g];trivial;rw[g]
 by_cases hz:∃k e b,a=.ptr k []∧E k=some e∧e.s=.at b 0∧σ.g k=.at b 0
 obtain⟨k,e,b,rfl,d,hs,hg⟩:=hz;obtain⟨r,t,b',o,T,x,S⟩:=V;simp[a0t,hg]at x;obtain⟨rfl,rfl,rfl⟩:=x;refine⟨e.r,e.r.t,b,0,d0u d,?_,S⟩;rw[d0t d,hs];rfl
 by_cases hy:∃k e u ε,a=.sref k []∧E k=some e∧e.s=.one u∧σ.g k=.one u∧e.r.t=.list true ε
 obtain⟨k,e,u,ε,rfl,d,hs,hg,ht⟩:=hy;obtain⟨r,H,s,T,x,S⟩:=V;simp[a0t,hg]at x;obtain⟨-,rfl⟩:=x;refine⟨e.r,ε,.one u,d0u d,?_,S⟩;rw[d0t d,hs,ht];rfl;refine V.frame P L fun k q r t s h0 hr Y=>?_
 have d:E k=none:=by
  grind
 have hp:=I k q r t s d hr Y;refine⟨r,by grind[f0u],by rw[h0t d];exact hp.1,fun u _ hu=>by rw[←hu];exact hp.2⟩
 ·rw[W.same b (a12 X h.size) ?_];exact h.frame b X M
  ·intro g;rcases h.mine b (D b g)with g|g
   all_goals grind
 rcases U c m with⟨n,d,z⟩|⟨n,e,d,z⟩;exact h.mine c ⟨n,z⟩;rcases W.mine n e c d z with(g|g)|g;exact h.mine c (D c g);exact h.mine c ⟨n,g⟩;exact .inr (a23 h.size g)
 ·cases d:E (pinned+i)with
  |none=>rw[f0u d]at A;rw[h0t d];exact h.pins i b X A
  |some e=>grind[d0t]
def m0a:Src→Value→Prop
 |.at b o,v=>o=0∧v=.pointer (some ⟨b,0,none⟩)
 |.one u,v=>v=u
theorem m0a.uniq:∀{s:Src}{u v:Value},m0a s u→m0a s v→u=v
 |.at _ _,_,_,h,h'=>h.2.trans h'.2.symm
 |.one _,_,_,h,h'=>h.trans (show _=_ from h').symm
def lg(w:World)(σ:Gh)(n:Nat)(bx:Bool):Src:=match bx,σ.g n with
 |false,.at b _=>.one ((w.cell? ⟨b,0,none⟩).getD undef)
 |_,s=>s
def lo(σ:Gh)(n:Nat)(bx:Bool):a0z:=match bx,σ.g n with
 |false,.at _ _=>(σ.ow n).tail
 |_,_=>σ.ow n
theorem A0q{bx:Bool}{p}(h:p∈lo σ n bx):p∈σ.ow n:=by
 unfold lo at h
 grind[List.mem_of_mem_tail]
def l0y(w:World)(Γ:AE)(σ:Gh)(n:Nat)(r:Root)(v:Value):Prop:=
 (Γ.rt n=some r∧m0a (σ.g n) v)∨∃b,(r.bx=false∧∃e,r.t=.list true e)∧Γ.rt n=some ⟨true,r.t,r.x⟩∧σ.g n=.at b 0∧w.cell? ⟨b,0,none⟩=some v
theorem l0y.keep{Γ':AE}{σ':Gh}(h:l0y w Γ σ n r v)(c:∀r,Γ.rt n=some r→Γ'.rt n=some r∧σ'.g n=σ.g n):l0y w Γ' σ' n r v:=by
 rcases h with⟨f,a⟩|⟨b,f,a,e,i⟩;obtain⟨k,d⟩:=c _ f;exact .inl ⟨k,by simp_all⟩;obtain⟨k,d⟩:=c _ a;exact .inr ⟨b,f,k,d.trans e,i⟩
structure ArgsOk (fz:Bool) (B:Base) (w:World) (Γ':AE) (σ':Gh) (ps:List PA) (x:(b0u (ps.map PA.ty)).den) (vs:List Value) (used us:List Nat) (i0:Nat):Prop where
 vals:∀(i:Nat)(t:Ty)(y:t.den)(v:Value),(a0y ps x)[i]?=some ⟨.v t,y⟩→vs[i]?=some v→
  VOk (a0a w σ'.ov) (fun c=>Shr B w σ' c∨(fz=false∧∃n,n∉used∧n∉us∧c∈(σ'.ow n).map (·.1))) t y v
 refs:∀(k n:Nat),us[k]?=some n→∃(i:Nat)(c:Bool)(a:RA)(y:a.ty.den)(v:Value)(r:Root),(a0l ps i0)[k]?=some (i0+i)∧(a0y ps x)[i]?=some ⟨.r c a,y⟩∧vs[i]?=some v∧
  a0q ⟨a,y⟩=some r∧l0y w Γ' σ' n r v∧(c=true→Γ'.rt n=some r∧r.bx=false∧n<pinned)
 len:us.length=(a0l ps i0).length
 nodup:us.Nodup
 apart:∀n∈us,n∉used
section
variable {B:Base} {N:Nat} {tm:Nat→Value} {w:World} {Γ:AE} {σ:Gh}
theorem Rel.src_of(h:Rel B Γ N tm w σ)(f:Γ.rt n=some r):(r.bx=true∧∃b,σ.g n=.at b 0)∨(r.bx=false∧∃v e,σ.g n=.one v∧r.t=.list true e):=by
 obtain⟨k,R,-,-,a⟩:=(h.roots n r f).rd
 grind
theorem Rel.lent(h:Rel B Γ N tm w σ)(s:σ.ov=none)(q:l0y w Γ σ n r v):
  RootOk (a0a w σ.ov) (Shr B w σ) r (lg w σ n r.bx) (lo σ n r.bx)∧m0a (lg w σ n r.bx) v∧(∀p∈lo σ n r.bx,p∈σ.ow n)∧((lo σ n r.bx).map (·.1)).Nodup∧
   ((r.bx=true∧∃b,lg w σ n r.bx=.at b 0)∨(r.bx=false∧∃u e,lg w σ n r.bx=.one u∧r.t=.list true e)):=by
 rcases q with⟨f,i⟩|⟨b,f,i,C,D⟩
 ·have k:lg w σ n r.bx=σ.g n∧lo σ n r.bx=σ.ow n:=by
   rcases h.src_of f with⟨d,b,c⟩|⟨d,u,e,c,-⟩
   all_goals simp_all[lg,lo]
  rw[k.1,k.2];exact⟨h.roots n r f,i,fun _ g=>g,h.nodup n,h.src_of f⟩
 obtain⟨f,l⟩:=f;obtain⟨o,R,x,y,z⟩:=(h.roots n _ i).rd;have k:lg w σ n r.bx=.one v∧lo σ n r.bx=(σ.ow n).tail:=by simp_all[lg,lo]
 rcases z with⟨-,A,d,c⟩|⟨d,-⟩;rw[k.1,k.2,c];have a:=h.nodup n;rw[c,a07]at a;obtain⟨e,m⟩:=l;refine⟨⟨o,R,?_,y,.inr ⟨f,⟨v,rfl⟩,⟨e,m⟩,rfl⟩⟩,rfl,fun p hp=>a01 _ hp,(a05.1 a).2,.inr ⟨f,v,e,rfl,m⟩⟩;refine a0j r.t x (fun j E=>?_) (fun _ _ _=>rfl);simp_all[Ty.cells,Src.rd,a0a];simp_all
end
section
variable {ρ:Type} {B:Base} {N:Nat} {tm:Nat→Value} {w:World}
theorem Rel.arg(h:Rel B Γ N tm w σ){fz:Bool}{used seen:List Nat}{p:PA}{a:AV}{K:p.ty.den→AE→List Nat→List Nat→Rs ρ}{z:ρ}(l:a0e (a0a w σ.ov) σ.g Γ.rt (Shr B w σ) a v∨h0b Γ a)(f:Γ.arg fz q used seen p a K=some z):
  ∃x Γ' σ' used' seen',K x Γ' used' seen'=some z∧Rel B Γ' N tm w σ'∧Ev B w Γ σ Γ' σ'∧c0q (·∉used) Γ σ Γ' σ'∧(fz=false∨q=true→Γ'=Γ∧σ'=σ)∧(∀n∈seen,n∈seen')∧
   match p,x with
   |.v t,x=>used'=used∧VOk (a0a w σ'.ov) (fun c=>Shr B w σ' c∨(fz=false∧∃n,n∉used∧n∈seen'∧c∈(σ'.ow n).map (·.1))) t x v
   |.r c b,x=>∃n r,used'=n::used∧n∉used∧n∉seen∧seen'=seen∧a0q ⟨b,x⟩=some r∧l0y w Γ' σ' n r v∧(c=true→Γ'.rt n=some r∧r.bx=false∧n<pinned):=by
 cases p with
 |v t=>
  simp only[AE.arg]at f;obtain⟨hv,f⟩:(a.viewed.any fun n=>used.contains n)=false∧_:=by
   rcases a0b f with⟨-,g⟩|⟨s,j⟩;cases g;exact⟨s,j⟩
  have A:∀n∈a.viewed,n∉used:=fun n G Z=>by
   simp_all
  cases fz with
  |true=>
   simp at f;obtain⟨x,Γ',σ',D,E,J,L,M,O⟩:=h.asVB l f;exact⟨x,Γ',σ',used,seen,D,E,L,O.mono A,fun g=>M (g.resolve_left (by simp)),fun _ g=>g,rfl,J.frame (fun _ _ _=>rfl) (fun c d=>.inl d)⟩
  |false=>
   simp at f;obtain⟨x,D,E⟩:=h.viewR l f;exact⟨x,Γ,σ,used,a.viewed++seen,D,h,Ev.refl,c0q.refl,fun _=>⟨rfl,rfl⟩,fun _ g=>a31 _ g,rfl,
    E.frame (fun _ _ _=>rfl) (fun c d=>d.imp id fun⟨n,G,d⟩=>⟨rfl,n,A n G,a24 _ G,d⟩)⟩
 |r c b=>
  cases b with
  |v t=>cases a<;>simp only[AE.arg]at f<;>cases f
  |b t=>
   cases a with
   |ptr n p=>
    cases p with
    |cons=>simp only[AE.arg]at f;cases f
    |nil=>
     simp only[AE.arg]at f
     split at f
     grind
     rename_i m;simp at m
     split at f
     rename_i t' x F;obtain⟨u,i⟩:=a0o F
     split at f
     rename_i H;subst H;rcases l with⟨T,t1,b,o,s,j,C⟩|⟨k,S,d,Q⟩;rw[i]at s;simp at s;subst s;obtain⟨U,R,-,-,d⟩:=(h.roots n _ i).rd;rcases d with⟨-,V,y,-⟩|⟨Y,-⟩;simp[a0t,y]at j;obtain⟨-,rfl,rfl⟩:=j;exact⟨x,Γ,σ,n::used,seen,f,h,Ev.refl,c0q.refl,fun _=>⟨rfl,rfl⟩,fun _ g=>g,n,_,rfl,m.1.2,m.2,rfl,rfl,.inl ⟨i,by rw[y];exact⟨rfl,C⟩⟩,fun g=>by simp_all⟩;simp_all;simp_all;simp_all;simp_all
   |_=>simp only[AE.arg]at f;cases f
  |o e=>
   cases a with
   |sref n p=>
    cases p with
    |cons=>simp only[AE.arg]at f;cases f
    |nil=>
     simp only[AE.arg]at f
     split at f
     grind
     ·rename_i m;simp only[Bool.or_eq_true,bA,List.contains_iff_mem,not_or,a54,dT,not_and]at m
      split at f
      ·rename_i I W x F;obtain⟨u,i⟩:=a0o F
       split at f
       ·rename_i H;subst H;rcases l with l|⟨k,S,d,Q⟩
        ·obtain⟨P,f⟩:=(a0b f).elim (fun h=>by grind) id;refine⟨x,Γ,σ,n::used,seen,f,h,Ev.refl,c0q.refl,fun _=>⟨rfl,rfl⟩,fun _ g=>g,n,_,rfl,m.1.2,m.2,rfl,rfl,?_,fun g=>⟨?_,rfl,by simp_all⟩⟩
         ·cases I with
          |false=>exact .inl ⟨i,by rw[h.top1 i rfl l];rfl⟩
          |true=>
           rcases h.src_of i with⟨-,b,y⟩|⟨g,-⟩;refine .inr ⟨b,⟨rfl,_,rfl⟩,i,y,?_⟩;obtain⟨T,X,s2,s,j,C⟩:=l;simp[a0t]at j;rw[←j.2,y,h.ov_none u]at C;exact C;simp_all
         simp_all
        simp_all
       simp_all
      simp_all
   |_=>simp only[AE.arg]at f;cases f
theorem Rel.args:∀(ps:List PA) (as:List AV)(vs:List Value){Γ:AE}{σ:Gh}(_:Rel B Γ N tm w σ){fz q:Bool}{used seen:List Nat}{i0:Nat}{K:(b0u (ps.map PA.ty)).den→AE→List Nat→Rs ρ} {z:ρ}
  (_:∀(i:Nat)(a:AV)(v:Value),as[i]?=some a→vs[i]?=some v→a0e (a0a w σ.ov) σ.g Γ.rt (Shr B w σ) a v∨h0b Γ a) (_:vs.length=as.length) (_:Γ.args fz q used seen ps as K=some z),
  ps.length=as.length∧∃x Γ' σ' us,K x Γ' (us.reverse++used)=some z∧Rel B Γ' N tm w σ'∧Ev B w Γ σ Γ' σ'∧c0q (·∉used) Γ σ Γ' σ'∧(fz=false∨q=true→Γ'=Γ∧σ'=σ)∧(∀n∈seen,n∉us)∧
   ArgsOk fz B w Γ' σ' ps x vs used us i0
 | [],as,vs,Γ,σ,h,fz,q,used,seen,i0,K,z,has,hlen,hK=>by
  cases as with
  |nil=>exact⟨rfl,(),Γ,σ,[],hK,h,Ev.refl,c0q.refl,fun _=>⟨rfl,rfl⟩,by simp,⟨fun i t y v hi=>by simp_all,by simp,rfl,by simp,by simp⟩⟩
  |cons=>simp_all[AE.args]
 | [p],as,vs,Γ,σ,h,fz,q,used,seen,i0,K,z,has,hlen,hK=>by
  match as,vs,hlen with
  | [a],[v],_=>
   simp[AE.args]at hK;obtain⟨x,Γ',σ',Y,W,L,M,A,E,F,h6,d⟩:=h.arg (has 0 a v rfl rfl) hK;cases p with
   |v t=>
    obtain⟨rfl,d⟩:=d;refine⟨rfl,x,Γ',σ',[],L,M,A,E,F,by simp,⟨fun i H y v' hi hv=>?_,by simp,rfl,by simp,by simp⟩⟩;cases i with
    |zero=>
     simp[a0y]at hi hv;cases hi;cases hv;exact d.frame (fun _ _ _=>rfl) (fun c l=>l.imp id fun⟨e,n,j,D,u⟩=>⟨e,n,j,by simp,u⟩)
    |succ i=>simp_all
   |r c b=>
    obtain⟨n,r,rfl,j,D,u,Q,R,I⟩:=d;refine⟨rfl,x,Γ',σ',[n],L,M,A,E,F,fun m s=>by grind,⟨fun i H y v' hi hv=>?_,fun k m o=>?_,rfl,by simp,by simp_all⟩⟩
    grind[a0y]
    ·cases k with
     |zero=>
      simp at o;subst o;exact⟨0,c,b,x,v,r,rfl,rfl,rfl,Q,R,I⟩
     |succ k=>simp_all
  | [],_,_=>simp_all[AE.args]
  |_::_::_,_,_=>simp_all[AE.args]
 |p::p'::ps,as,vs,Γ,σ,h,fz,q,used,seen,i0,K,z,has,hlen,hK=>by
  match as,vs,hlen with
  | [],_,_=>simp_all[AE.args]
  |a::as,v::vs,hlen=>
   simp[AE.args]at hK;obtain⟨x,Γ1,σ1,Z,X,L,M,A,E,F,h6,d⟩:=h.arg (has 0 a v rfl rfl) hK;have ⟨hl,y,Γ',σ',us,k1,k2,k3,k4,k5,k6,k7⟩:=Rel.args (p'::ps) as vs (i0:=i0+1) M (fun i C v' hi hv=>A.live (has (i+1) C v' (by simp_all) (by simp_all))) (by simp_all) L;refine⟨by simp_all,?_⟩;have f:fz=false∨q=true→Γ'=Γ∧σ'=σ:=fun g=>⟨(k5 g).1.trans (F g).1,(k5 g).2.trans (F g).2⟩;cases p with
   |v t=>
    obtain⟨rfl,d⟩:=d;refine⟨(x,y),Γ',σ',us,k1,k2,A.trans k3,E.trans k4,f,fun n G=>k6 n (h6 n G),⟨fun i H y' v' hi hv=>?_,fun k n o=>?_,k7.len,k7.nodup,k7.apart⟩⟩
    ·cases i with
     |zero=>
      simp[a0y]at hi hv;cases hi;cases hv;cases fz with
      |false=>
       obtain⟨rfl,rfl⟩:=k5 (.inl rfl);exact d.frame (fun _ _ _=>rfl) (fun c l=>l.imp id fun⟨e,n,j,D,u⟩=>⟨e,n,j,k6 n D,u⟩)
      |true=>
       have S:VOk (a0a w σ1.ov) (Shr B w σ1) t x v:=d.frame (fun _ _ _=>rfl) (fun c l=>l.resolve_right (by simp));have h8:=k3.vok S;simp_all
     |succ i=>exact k7.vals i H y' v' (by simpa[a0y]using hi) (by simp_all)
    obtain⟨i,P,C,y',v',V,j1,T,j3,U⟩:=k7.refs k n o;exact⟨i+1,P,C,y',v',V,by grind[a0l],by simpa[a0y]using T,by simp_all,U⟩
   |r c b=>
    obtain⟨n,r,rfl,j,D,rfl,Q,R,I⟩:=d;have G:=fun O J=>k4.1 n O (.inr (by simp)) J;refine⟨(x,y),Γ',σ',n::us,by simp_all,k2,A.trans k3,E.trans (k4.mono fun m s g=>s (a01 _ g)),f,fun m s=>?_,⟨fun i H y' v' hi hv=>?_,fun k m o=>?_,by simp[a0l,k7.len],?_,?_⟩⟩
    grind
    ·cases i with
     |zero=>grind[a0y]
     |succ i=>
      exact(k7.vals i H y' v' (by simpa[a0y]using hi) (by simp_all)).frame (fun _ _ _=>rfl) (fun c l=>l.imp id fun⟨e,m,j,D,u⟩=>
       ⟨e,m,fun g=>j (a01 _ g),by simp_all,u⟩)
    ·cases k with
     |zero=>
      simp at o;subst o;exact⟨0,c,b,x,v,r,rfl,rfl,rfl,Q,R.keep fun O J=>⟨(G O J).1,(G O J).2.1⟩,fun g=>⟨(G r (I g).1).1,(I g).2⟩⟩
     |succ k=>
      obtain⟨i,P,C,y',v',V,j1,T,j3,U⟩:=k7.refs k m (by simp_all);exact⟨i+1,P,C,y',v',V,by grind[a0l],by simpa[a0y]using T,by simp_all,U⟩
    simp
    exact⟨fun g=>k7.apart n g (by simp),k7.nodup⟩;intro m s;rcases mC.1 s with rfl|s;omega;exact fun g=>k7.apart m s (a01 _ g)
end
def o0r(m:Mem)(Sh:Nat→Prop):((r:RA)×r.ty.den)→Value→Src×a0z→Prop
 |⟨.v t,x⟩,v,L=>VOk m Sh t x v∧L.2=[]
 |⟨.o e,x⟩,v,L=>L.1=.one v∧RootOk m Sh ⟨false,.list true e,x⟩ L.1 L.2
 |⟨.b t,x⟩,v,L=>RootOk m Sh ⟨true,t,x⟩ L.1 L.2∧∃b,L.1=.at b 0∧v=.pointer (some ⟨b,0,none⟩)
structure Back (B:Base) (w':World) (its:List ((r:RA)×r.ty.den)) (vs:List Value) (Ls:List (Src×a0z)):Prop where
 lv:vs.length=its.length
 ll:Ls.length=its.length
 ok:∀(k:Nat)(it:(r:RA)×r.ty.den) (v:Value) (L:Src×a0z),its[k]?=some it→vs[k]?=some v→Ls[k]?=some L→
  o0r (cells w') (fun c=>c<w'.heap.size∧(B.S c∨B.F c∨B.size≤c)∧∀L∈Ls,c∉L.2.map (·.1)) it v L
 nodup:∀L∈Ls,(L.2.map (·.1)).Nodup
 disj:∀(k k':Nat)(L L':Src×a0z),Ls[k]?=some L→Ls[k']?=some L'→k≠k'→∀c,c∈L.2.map (·.1)→c∉L'.2.map (·.1)
 live:∀L∈Ls,∀p∈L.2,a0w w' p.1 p.2
 mine:∀L∈Ls,∀c∈L.2.map (·.1),B.F c∨B.size≤c
 size:B.size≤w'.heap.size
 frame:∀b,b<B.size→¬ B.F b→w'.heap[b]?=B.hp b
 still:b0x w'=B.io
def l0o:List Value→Value
 | [v]=>v
 |vs=>.tuple vs.toArray
def d0m(ps:List PA)(args:Array Value)(i:Nat):Value:=match i0k ps i with
 |some true=>.slice none 0 0
 |_=>args.getD i undef
def r0s(B:Base)(ps:List PA)(args:Array Value):Prop:=∀i∈a0l ps 0,i0k ps i=some false→∃s,B.pin i=some s∧m0a s (args.getD i undef)
def y0c(C:Array Value→World→(Ending→World→Prop)→Prop)(G:h0c)(s:FSem):Prop:=
 ∀(w:World)(B:Base)(σ:Gh)(args:Array Value) x y,GOk G B→s.F x=some y→B.size=w.heap.size→(∀b,B.hp b=w.heap[b]?)→σ.ov=none→args.size=s.ps.length→
  Rel B (ini s.ps x) s.ps.length (fun i=>args.getD i undef) w σ→r0s B s.ps args→
  C args w fun e w'=>∃vr Ls,e=.returned (l0o vr)∧vr.length=s.rs.length∧Back B w' (c0d (RA.all s.ps s.rs) y) (vr++(a0l s.ps 0).map (d0m s.ps args)) Ls
def i0y(P:Program)(G:h0c)(f:FuncId)(s:FSem):Prop:=y0c (Calls P f) G s
def A0f(P:Program)(G:h0c)(f:FuncId)(s:FSem):Prop:=y0c (fun args w R=>∃v w',(callFunc f args).run P w=.ok (.value v) w'∧R (.returned v) w') G s
def l0x (P : Program) (f : FuncId) : Prop := ∃ fn c, P.funcs[f]? = some fn ∧ fn.body = some c ∧ (fn.name == "runtime.NumGoroutine") = false
def FOk(P:Program)(G:h0c)(f:FuncId)(s:FSem):Prop:=(i0y P G f s∧l0x P f)∨A0f P G f s
theorem f0l:∀(rs:List RA)(x:(b0u (rs.map RA.ty)).den),(c0d rs x).length=rs.length
 | [],_=>rfl
 | [_],_=>rfl
 |_::r'::rs,x=>by simp only[c0d,lC];rw[f0l (r'::rs) x.2];rfl
theorem i0e:∀(rs:List RA)(x:(b0u (rs.map RA.ty)).den) (k:Nat) it,(c0d rs x)[k]?=some it→rs[k]?=some it.1
 | [],_,k,it,h=>by simp[c0d]at h
 | [r],x,0,it,h=>by grind[c0d]
 | [r],x,k+1,it,h=>by simp[c0d]at h
 |r::r'::rs,x,0,it,h=>by grind[c0d]
 |r::r'::rs,x,k+1,it,h=>by simpa using i0e (r'::rs) x.2 k it (by simpa[c0d]using h)
theorem e0a:∀(ps:List PA)(x:(b0u (ps.map PA.ty)).den),(a0y ps x).length=ps.length
 | [],_=>rfl
 | [_],_=>rfl
 |_::p'::ps,x=>by simp only[a0y,lC];rw[e0a (p'::ps) x.2];rfl
theorem e0d:∀(ps:List PA)(x:(b0u (ps.map PA.ty)).den) (k:Nat) it,(a0y ps x)[k]?=some it→ps[k]?=some it.1
 | [],_,k,it,h=>by simp[a0y]at h
 | [r],x,0,it,h=>by grind[a0y]
 | [r],x,k+1,it,h=>by simp[a0y]at h
 |r::r'::ps,x,0,it,h=>by grind[a0y]
 |r::r'::ps,x,k+1,it,h=>by simpa using e0d (r'::ps) x.2 k it (by simpa[a0y]using h)
theorem m0r:∀(ps:List PA)(i0 i:Nat){c a},ps[i]?=some (.r c a)→∃k:Nat,(a0l ps i0)[k]?=some (i0+i)∧(d0o ps)[k]?=some a
 | [],_,i,c,a,h=>by grind
 |p::ps,i0,0,c,a,h=>by
  simp at h;subst h;exact⟨0,rfl,rfl⟩
 |p::ps,i0,i+1,c,a,h=>by
  obtain⟨k,g,f⟩:=m0r ps (i0+1) i (by simpa using h);have g:(a0l ps (i0+1))[k]?=some (i0+(i+1)):=by rw[g];congr 1;omega
  cases p with
  |v t'=>exact⟨k,g,f⟩
  |r c t'=>exact⟨k+1,by simpa[a0l]using g,by simpa[d0o]using f⟩
theorem i0h:∀(ps:List PA)(i0:Nat),(a0l ps i0).Pairwise (·<·)∧∀i∈a0l ps i0,i0≤i
 | [],_=>⟨List.Pairwise.nil,by simp[a0l]⟩
 |.v _::ps,i0=>by
  obtain⟨h,g⟩:=i0h ps (i0+1);exact⟨h,fun i hi=>by have:=g i hi;omega⟩
 |.r _ _::ps,i0=>by
  obtain⟨h,g⟩:=i0h ps (i0+1);refine⟨List.Pairwise.cons (fun i hi=>by grind) h,fun i hi=>?_⟩;rcases mC.1 hi with rfl|hi
  all_goals grind
theorem p0q(g:List PA){i0 k k':Nat}(h:(a0l g i0)[k]?=some i)(f:(a0l g i0)[k']?=some i):k=k':=by
 have hp:=(i0h g i0).1;obtain⟨a,rfl⟩:=lS.1 h
 grind[a18]
theorem g0g(h:List PA):∀i0,(a0l h i0).length=(d0o h).length:=by
 induction h with
 |nil=>intro i0;rfl
 |cons p h ih=>intro i0;cases p<;>simp[a0l,d0o,ih]
def e0h:List Nat→List Nat→Nat→Option Nat
 |i::is,n::ns,j=>if j=i then some n else e0h is ns j
 |_,_,_=>none
theorem g0z:∀(is ns:List Nat)(j n:Nat),e0h is ns j=some n→∃k:Nat,is[k]?=some j∧ns[k]?=some n
 | [],ns,j,n,h=>by simp[e0h]at h
 |i::is,[],j,n,h=>by simp[e0h]at h
 |i::is,m::ns,j,n,h=>by
  simp only[e0h]at h
  split at h
  rename_i e;simp only[sj]at h;exact⟨0,by simp[e],by simp[h]⟩;obtain⟨k,g,f⟩:=g0z is ns j n h;exact⟨k+1,by simpa using g,by simpa using f⟩
theorem q0i:∀(is ns:List Nat)(k j n:Nat),is[k]?=some j→ns[k]?=some n→(∀k',is[k']?=some j→k'=k)→e0h is ns j=some n
 | [],ns,k,j,n,h,_,_=>by grind
 |i::is,[],k,j,n,_,h,_=>by grind
 |i::is,m::ns,0,j,n,h,h',_=>by
  simp_all[e0h]
 |i::is,m::ns,k+1,j,n,h,h',hu=>by
  have g:j≠i:=fun e=>by have:=hu 0 (by grind);omega
  simp[e0h,if_neg g];exact q0i is ns k j n (by simp_all) (by simp_all) (fun k' f=>by have:=hu (k'+1) (by simp_all);omega)
section
variable {B:Base} {N:Nat} {tm:Nat→Value} {w:World} {Γ:AE} {σ:Gh}
def f0f(ps:List PA)(i:Nat):Bool:=match ps[i]? with
 |some (.r _ (.b _))=>true
 |_=>false
def b0a(fz:Bool)(B:Base)(w:World)(σ:Gh)(ps:List PA)(us:List Nat):Base where
 size:=w.heap.size
 hp:=fun b=>w.heap[b]?
 F:=fun c=>∃i n,e0h (a0l ps 0) us i=some n∧c∈(lo σ n (f0f ps i)).map (·.1)
 S:=fun c=>Shr B w σ c∨(fz=false∧a0r σ c)
 io:=b0x w
 pin:=fun i=>match i0k ps i with
  |some false=>(e0h (a0l ps 0) us i).map fun n=>lg w σ n (f0f ps i)
  |_=>none
def d0e(w:World)(σ:Gh)(ps:List PA)(us:List Nat):Gh where
 g:=fun m=>match h0u ps m with
  |some i=>(match e0h (a0l ps 0) us i with
   |some n=>lg w σ n (f0f ps i)
   |none=>.one undef)
  |none=>.one undef
 ow:=fun m=>match h0u ps m with
  |some i=>(match e0h (a0l ps 0) us i with
   |some n=>lo σ n (f0f ps i)
   |none=>[])
  |none=>[]
 ov:=none
theorem r0h{ps:List PA}{m i:Nat}(h:h0u ps m=some i):∃c,i0k ps i=some c∧m=rnm c i∧(c=true→i<pinned):=by
 unfold h0u at h;rcases a0b h with⟨a,h⟩|⟨a,h⟩
 split at h
 rename_i f;cases h;exact⟨true,f,rfl,fun _=>by simp_all⟩;simp_all;obtain⟨k,rfl⟩:=Nat.exists_eq_add_of_le (show pinned≤m by simp_all);rw[a20]at h
 split at h
 rename_i f;obtain rfl:=Option.some.inj h;exact⟨false,f,rfl,fun g=>by grind⟩;simp_all
theorem u0o{c:Bool}(h:i0k ps i=some c)(hi:c=true→i<pinned):h0u ps (rnm c i)=some i:=by
 unfold h0u;cases c with
 |true=>
  have:decide (rnm true i<pinned)=true:=decide_eq_true (show rnm true i<pinned from hi rfl)
  simp_all[rnm]
 |false=>
  have:decide (rnm false i<pinned)=false:=decide_eq_false (by show ¬ pinned+i<pinned;omega)
  simp_all[rnm]
theorem g0y{ps:List PA}{i:Nat}{c a}(h:ps[i]?=some (.r c a)):i0k ps i=some c:=by simp[i0k,h]
theorem x0k{x:(b0u (ps.map PA.ty)).den}{m:Nat}(h:(ini ps x).rt m=some r):∃i c a y,h0u ps m=some i∧(a0y ps x)[i]?=some ⟨.r c a,y⟩∧a0q ⟨a,y⟩=some r:=by
 simp[ini]at h;rcases a0b h with⟨g,h⟩|⟨g,h⟩
 grind[g0y,e0d,h0u]
 split at h
 rename_i a y hi;have f:=g0y (e0d _ _ _ _ hi);exact⟨m-pinned,false,a,y,by simp[h0u,g,f],hi,h⟩;simp_all
theorem x0j{ps:List PA}{x:(b0u (ps.map PA.ty)).den}{i:Nat}{c a y}(h:(a0y ps x)[i]?=some ⟨.r c a,y⟩)(hi:c=true→i<pinned):(ini ps x).rt (rnm c i)=a0q ⟨a,y⟩:=by
 cases c with
 |true=>
  have:decide (rnm true i<pinned)=true:=decide_eq_true (show rnm true i<pinned from hi rfl)
  simp[ini,this];show(match (a0y ps x)[i]? with|some ⟨.r true a,y⟩=>a0q ⟨a,y⟩|_=>none)=_;rw[h]
 |false=>
  have:decide (rnm false i<pinned)=false:=decide_eq_false (by show ¬ pinned+i<pinned;omega)
  have e:rnm false i-pinned=i:=by simp[rnm]
  simp only[ini,this,cF,e,h]
theorem j0u{ps:List PA}{x:(b0u (ps.map PA.ty)).den}{i:Nat}{c a y r}(h:(a0y ps x)[i]?=some ⟨.r c a,y⟩)(g:a0q ⟨a,y⟩=some r):f0f ps i=r.bx:=by
 have h:=e0d _ _ _ _ h;cases a with
 |v t=>simp[a0q]at g
 |o e=>grind[a0q,f0f]
 |b t=>grind[a0q,f0f]
theorem Rel.enter(h:Rel B Γ N tm w σ)(z:σ.ov=none){fz:Bool}{x:(b0u (ps.map PA.ty)).den}{vs:List Value}{us:List Nat}(R:ArgsOk fz B w Γ σ ps x vs [] us 0)(hl:vs.length=ps.length):
  Rel (b0a fz B w σ ps us) (ini ps x) ps.length (fun i=>vs.toArray.getD i undef) w (d0e w σ ps us)∧r0s (b0a fz B w σ ps us) ps vs.toArray:=by
 have g3:∀k i,(a0l ps 0)[k]?=some i→∀k',(a0l ps 0)[k']?=some i→k'=k:=fun k i f k' d=>p0q ps d f;have O:∀(i:Nat) v,vs[i]?=some v→vs.toArray.getD i undef=v:=fun i v hv=>by simp_all

 have Q:∀(i:Nat) c a y,(a0y ps x)[i]?=some ⟨.r c a,y⟩→∃n v r,e0h (a0l ps 0) us i=some n∧n∈us∧vs[i]?=some v∧a0q ⟨a,y⟩=some r∧l0y w Γ σ n r v∧f0f ps i=r.bx:=by
  intro i c a y hi;obtain⟨k,P,-⟩:=m0r ps 0 i (e0d _ _ _ _ hi);rw[a11]at P;have D:k<us.length:=by rw[R.len];grind
  have G:us[k]?=some us[k]:=lG D;obtain⟨T,c',a',y',v,r,U,j2,j3,j4,j5,-⟩:=R.refs k _ G;rw[P]at U;simp at U
  grind[q0i,j0u]
 have L:∀i n,e0h (a0l ps 0) us i=some n→n∈us∧∃c a y v r,(a0y ps x)[i]?=some ⟨.r c a,y⟩∧vs[i]?=some v∧a0q ⟨a,y⟩=some r∧l0y w Γ σ n r v∧f0f ps i=r.bx:=by
  intro i n hi;obtain⟨k,f,d⟩:=g0z _ _ _ _ hi;obtain⟨T,c,a,y,v,r,U,j2,j3,j4,j5,-⟩:=R.refs k n d
  grind
 have g5:∀i T n,e0h (a0l ps 0) us i=some n→e0h (a0l ps 0) us T=some n→i=T:=by
  intro i T n f d;obtain⟨k,f,J⟩:=g0z _ _ _ _ f;obtain⟨k',d,A⟩:=g0z _ _ _ _ d;obtain⟨a1,b1⟩:=lS.1 J;obtain⟨a2,b2⟩:=lS.1 A
  have:k=k':=by
   have hp:=a18.1 R.nodup
   grind
  grind
 have H:∀m p,p∈(d0e w σ ps us).ow m→∃i n,h0u ps m=some i∧e0h (a0l ps 0) us i=some n∧p∈lo σ n (f0f ps i)∧p∈σ.ow n:=by
  intro m p hp;cases hi:h0u ps m with
  |none=>grind[d0e]
  |some i=>
   cases G:e0h (a0l ps 0) us i with
   |none=>grind[d0e]
   |some n=>
    have e:(d0e w σ ps us).ow m=lo σ n (f0f ps i):=by simp[d0e,hi,G]
    rw[e]at hp;obtain⟨-,c,a,y,v,r,-,-,-,hL,K⟩:=L _ _ G;exact⟨i,n,rfl,G,hp,(h.lent z hL).2.2.1 p (K▸hp)⟩
 have I:∀c,a0r (d0e w σ ps us) c→(b0a fz B w σ ps us).F c∧∃n∈us,c∈(σ.ow n).map (·.1):=by
  rintro c ⟨m,hm⟩
  obtain⟨p,hp,rfl⟩:=a08.1 hm;obtain⟨i,n,-,f,d,J⟩:=H m p hp;exact⟨⟨i,n,f,a00 d⟩,n,(L _ _ f).1,a00 J⟩
 have g2:∀c,Shr B w σ c→Shr (b0a fz B w σ ps us) w (d0e w σ ps us) c:=fun c s=>⟨s.1,.inl (.inl s),fun g=>by
  obtain⟨-,n,-,d⟩:=I c g;exact s.2.2 ⟨n,d⟩⟩
 have E:a0a w σ.ov=a0a w (d0e w σ ps us).ov:=by rw[z];rfl
 have C:∀m i n,h0u ps m=some i→e0h (a0l ps 0) us i=some n→(d0e w σ ps us).g m=lg w σ n (f0f ps i)∧(d0e w σ ps us).ow m=lo σ n (f0f ps i):=fun m i n f d=>by
  simp[d0e,f,d]
 have W:∀i b,(b0a fz B w σ ps us).pin i=some b→i0k ps i=some false∧∃n,e0h (a0l ps 0) us i=some n∧b=lg w σ n (f0f ps i):=fun i b K=>by
  simp[b0a]at K
  split at K
  rename_i P;obtain⟨n,G,rfl⟩:=a21.1 K
  grind
  grind
 refine⟨⟨fun m r hr=>?_,fun m hm=>?_,fun m=>?_,fun m m' g9 c s h9=>?_,fun m p hp=>?_,fun i hi=>?_,trivial,a04 _,fun b _ _=>rfl,fun c s=>.inl (I c s).1,fun i b K _=>?_,rfl⟩,fun i hi P=>?_⟩;obtain⟨i,c,a,y,f,d,J⟩:=x0k hr;obtain⟨n,v,r',k1,k2,k3,k4,k5,k6⟩:=Q i c a y d;rw[J]at k4;cases k4;rw[←E,(C m i n f k1).1,(C m i n f k1).2,k6];exact(h.lent z k5).1.mono g2
 ·cases ho:(d0e w σ ps us).ow m with
  |nil=>rfl
  |cons p l=>
   obtain⟨i,n,f,d,-⟩:=H m p (by grind);obtain⟨-,c,a,y,v,r,Z,-,M,-⟩:=L _ _ d;obtain⟨c',X,rfl,h8⟩:=r0h f
   have:=g0y (e0d _ _ _ _ Z)
   grind[x0j]
 ·cases hi:h0u ps m with
  |none=>grind
  |some i=>
   cases G:e0h (a0l ps 0) us i with
   |none=>grind
   |some n=>
    obtain⟨-,c,a,y,v,r,-,-,-,hL,K⟩:=L _ _ G;rw[(C m i n hi G).2,K];exact(h.lent z hL).2.2.2.1
 obtain⟨p,hp,rfl⟩:=a08.1 s;obtain⟨p',g1,e'⟩:=a08.1 h9;obtain⟨i,n,f,d,-,A⟩:=H m p hp;obtain⟨T,Y,g6,g7,-,g8⟩:=H m' p' g1
 by_cases e:n=Y
 grind[r0h]
 exact h.disj n Y e p.1 (a00 A) (by grind);obtain⟨i,n,f,d,J,A⟩:=H m p hp;exact h.live n p A
 ·have D:i<(a0y ps x).length:=by grind[e0a]
  have g4:i<vs.length:=by omega
  have hv:vs[i]?=some vs[i]:=lG g4;have q:(a0y ps x)[i]?=some (a0y ps x)[i]:=lG D;show g0l _ _ _ _ ((ini ps x).sl i) (vs.toArray.getD i undef);rw[O i _ hv]
  revert q
  generalize (a0y ps x)[i]=it;intro q;obtain⟨p,y⟩:=it;cases p with
  |v t=>
   have e:(ini ps x).sl i=.one (valAV t y):=by simp only[ini,q]
   rw[e]
   have:=R.vals i t y _ q hv
   refine VOk.valAV (this.frame (fun c j _=>by rw[E]) (fun c s=>?_));rcases s with s|⟨hf,n,-,G,s⟩
   grind
   refine⟨h.lt ⟨n,s⟩,.inl (.inr ⟨hf,n,s⟩),fun g=>?_⟩;obtain⟨-,Y,f,d⟩:=I c g;exact h.disj n Y (fun e=>G (e▸f)) c s d
  |r c b=>
   have e:(ini ps x).sl i=bif c&&decide (pinned≤i)then .one .dead else .one (p0w (rnm c i) ⟨b,y⟩):=by simp only[ini,q]
   rw[e];cases hcp:c&&decide (pinned≤i)with
   |true=>trivial
   |false=>
    have V:c=true→i<pinned:=fun g=>by
     grind
    obtain⟨n,v,r,f,d,J,A,Z,h0⟩:=Q i c b y q;rw[hv]at J;simp at J;rw[J];have P:=g0y (e0d _ _ _ _ q);have S:=x0j q V;rw[A]at S;obtain⟨hg,-⟩:=C _ i n (u0o P V) f;obtain⟨-,M,-,-,X⟩:=h.lent z Z;rw[←h0]at M X;show a0e _ _ _ _ (p0w (rnm c i) ⟨b,y⟩) v;cases b with
    |v t=>simp[a0q]at A
    |o e0=>
     simp[a0q]at A;subst A;rcases X with⟨g,-⟩|⟨-,u,e2,g,-⟩
     grind
     rw[g]at M;have M:v=u:=M;refine⟨_,e0,.one u,S,?_,by rw[M];rfl⟩;rw[hg,g];rfl
    |b t=>
     simp[a0q]at A;subst A;rcases X with⟨-,bb,g⟩|⟨g,-⟩;rw[g]at M;refine⟨_,t,bb,0,S,?_,M.2⟩;rw[hg,g];rfl
     grind
 obtain⟨P,n,f,rfl⟩:=W i b K;exact(C _ i n (u0o (c:=false) P (fun g=>by grind)) f).1;obtain⟨k,g0⟩:=a32.1 hi;have D:k<us.length:=by rw[R.len];grind
 obtain⟨T,c',a',y',v,r,U,j2,j3,j4,j5,-⟩:=R.refs k _ (lG D);rw[g0]at U;simp at U;subst U;refine⟨lg w σ us[k] (f0f ps i),?_,by rw[O _ _ j3,j0u j2 j4];exact(h.lent z j5).2.1⟩
 grind[b0a,q0i]
end
theorem k0b{α:Type}{f:Nat→Option (α×a0z×List Nat)}:∀(n i:Nat){xs os rs},a0d f n i=some (xs,os,rs)→(∀j x o r,f j=some (x,o,r)→o=[]∧r=[])→os=[]∧rs=[]
 |0,i,xs,os,rs,h,_=>by simp_all[a0d]
 |n+1,i,xs,os,rs,h,hf=>by
  simp[a0d]at h
  split at h
  grind
  rename_i x o r g
  split at h
  grind
  rename_i c a b k;simp at h;obtain⟨rfl,rfl,rfl⟩:=h;obtain⟨rfl,rfl⟩:=hf _ _ _ _ g;obtain⟨rfl,rfl⟩:=k0b n (i+1) k hf
  simp
theorem f0t{m:Mem}:∀(t:Ty){rd:Nat→Option Value}{x O R},t.hasList=false→dec m t rd=some (x,O,R)→O=[]∧R=[]
 |.int k,rd,x,O,R,_,h=>by
  simp[dec]at h
  grind
 |.bool,rd,x,O,R,_,h=>by
  simp[dec]at h
  grind
 |.str,rd,x,O,R,_,h=>by
  simp[dec]at h
  grind
 |.unit,rd,x,O,R,_,h=>by
  simp only[dec]at h;grind
 |.pair a b,rd,x,O,R,ht,h=>by
  simp[Ty.hasList]at ht;obtain⟨e,o1,d,i,o2,r2,g,f,-,rfl,rfl⟩:=c0a h;obtain⟨rfl,rfl⟩:=f0t a ht.1 g;obtain⟨rfl,rfl⟩:=f0t b ht.2 f
  simp
 |.arr n t,rd,x,O,R,ht,h=>k0b n 0 h fun j x o r c=>f0t t ht c
 |.list o t,rd,x,O,R,ht,h=>by simp[Ty.hasList]at ht
 |.nl t,rd,x,O,R,ht,h=>by
  grind[m0g]
theorem t0k{rd:Nat→Option Value}{x O R}(f:e.hasList=false)(h:dec m (.list true e) rd=some (x,O,R)):R=[]:=by
 rcases b0r h with⟨-,-,-,b⟩|⟨A,n,c,os,d,g,k,i,a⟩
 all_goals grind[k0b,f0t]
theorem RootOk.anySh{s O}(h:RootOk m Sh r s O)(g:(r.bx=true∧r.t.hasList=false)∨∃e,r.t=.list true e∧e.hasList=false):RootOk m Sh' r s O:=by
 obtain⟨k,R,f,i,a⟩:=h.rd;have b:R=[]:=by
  rcases g with⟨-,g⟩|⟨e,c,g⟩
  grind[f0t]
  obtain⟨d,t,x⟩:=r;obtain rfl:t=.list true e:=c;exact t0k g f
 subst b;exact⟨k,[],f,by simp,a⟩
theorem VOk.anySh{t:Ty}{x:t.den}(h:VOk m Sh t x v)(a:t.hasList=false):VOk m Sh' t x v:=by
 obtain⟨f,k,R,g,b⟩:=h;obtain⟨-,rfl⟩:=f0t t a g;exact⟨f,k,[],g,by simp⟩
theorem m0s:∀(rs:List RA)(n k m:Nat),(b0d rs n)[k]?=some m→m=n+1000*k∧k<rs.length
 | [],_,k,m,h=>by simp[b0d]at h
 |_::rs,n,0,m,h=>by simp_all[b0d]
 |_::rs,n,k+1,m,h=>by
  obtain⟨g,f⟩:=m0s rs (n+1000) k m (by simpa[b0d]using h)
  grind
theorem h0j:∀(rs:List RA)(n:Nat),(b0d rs n).length=rs.length
 | [],_=>rfl
 |_::rs,n=>by simp[b0d,h0j rs]
theorem m0t:∀(rs:List RA)(n k m:Nat)(r:RA),(b0d rs n)[k]?=some m→rs[k]?=some r→(∀t,r≠.v t)→m∈c0h rs n
 | [],_,k,m,r,h,_,_=>by simp_all
 |r'::rs,n,0,m,r,h,hr,hv=>by
  simp[b0d]at h hr;subst h;subst hr;cases r' with
  |v t=>simp_all
  |o e=>simp[c0h]
  |b t=>simp[c0h]
 |r'::rs,n,k+1,m,r,h,hr,hv=>by
  have:=m0t rs (n+1000) k m r (by simpa[b0d]using h) (by simpa using hr) hv
  cases r'<;>simp[c0h,this]
section
variable {ρ:Type} {B:Base} {N:Nat} {tm:Nat→Value} {w:World}
theorem Rel.dropAll:∀(ns:List Nat) {Γ:AE}{σ:Gh}(_:Rel B Γ N tm w σ)(_:Γ.pd=none){q:Bool}{us:List Nat}{K:AE→Rs ρ}{z:ρ}(_:Γ.dropAll q us ns K=some z),
  (∀n∈ns,n<pinned∧n∉us)∧∃Γ' σ',K Γ'=some z∧Rel B Γ' N tm w σ'∧Γ'.pd=none∧σ'.ov=σ.ov∧(∀c,Shr B w σ c→Shr B w σ' c)∧(∀n∈ns,Γ'.rt n=none)∧
   ((∀n,n∉ns→Γ'.rt n=Γ.rt n∧σ'.ow n=σ.ow n)∧σ'.g=σ.g)∧(∀n,Γ.rt n=none→Γ'.rt n=none)
 | [],Γ,σ,h,hpd,q,us,K,z,f=>⟨by simp,Γ,σ,f,h,hpd,rfl,fun _ g=>g,by simp,⟨fun _ _=>⟨rfl,rfl⟩,rfl⟩,fun _ g=>g⟩
 |n::ns,Γ,σ,h,hpd,q,us,K,z,f=>by
  simp only[AE.dropAll]at f;obtain⟨l,f⟩:=(a0b f).elim id fun h=>by grind
  simp at l
  split at f
  rename_i o;have ⟨k1,Γ',σ',h1,h2,h3,h4,h5,h6,⟨h7,h8⟩,h9⟩:=Rel.dropAll ns h hpd f
  grind
  rename_i r o;rcases a0b f with⟨-,g⟩|⟨-,f⟩
  grind
  have hd:=h.drop (n:=n) (by simp_all);have ⟨k1,Γ',σ',h1,h2,h3,h4,h5,h6,⟨h7,h8⟩,h9⟩:=Rel.dropAll ns hd (by simp_all[AE.setRt,AE.mapv]) f;have b:((Γ.mapv (AV.drop n)).setRt n none).rt n=none:=by simp[AE.setRt]
  refine⟨fun m k=>?_,Γ',σ',h1,h2,h3,h4,fun c i=>h5 c (Rel.shr_gone c i),fun m k=>?_,⟨fun m k=>?_,h8⟩,fun m k=>h9 m ?_⟩
  grind
  grind
  have j:m≠n:=fun e=>k (by grind);have a:m∉ns:=fun g=>k (a01 _ g);obtain⟨a1,d⟩:=h7 m a;have e:(m==n)=false:=by simp_all
  exact⟨a1.trans (by simp[AE.setRt,AE.mapv,e]),d.trans (by simp_all)⟩;simp_all[AE.setRt,AE.mapv]
end
def g0o:List Nat→List ((r:RA)×r.ty.den)→List (Src×a0z)→Nat→Option Ent1
 |k::ns,it::its,L::Ls,n=>match a0q it with
  |some r=>bif n==k then some ⟨r,L.1,L.2⟩else g0o ns its Ls n
  |none=>g0o ns its Ls n
 |_,_,_,_=>none
theorem q0x:∀(ns:List Nat) its (Ls:List (Src×a0z)) (n:Nat) (e:Ent1),g0o ns its Ls n=some e→
  ∃(k:Nat)(it:(r:RA)×r.ty.den) (L:Src×a0z),ns[k]?=some n∧its[k]?=some it∧Ls[k]?=some L∧a0q it=some e.r∧e.s=L.1∧e.O=L.2
 | [],its,Ls,n,e,h=>by simp[g0o]at h
 |k::ns,[],Ls,n,e,h=>by simp[g0o]at h
 |k::ns,it::its,[],n,e,h=>by simp[g0o]at h
 |k::ns,it::its,L::Ls,n,e,h=>by
  have rest:g0o ns its Ls n=some e→∃(j:Nat)(g:(r:RA)×r.ty.den) (f:Src×a0z),(k::ns)[j]?=some n∧(it::its)[j]?=some g∧(L::Ls)[j]?=some f∧a0q g=some e.r∧e.s=f.1∧e.O=f.2:=fun h=>by
   obtain⟨j,g,f,a,b,c,d⟩:=q0x ns its Ls n e h;exact⟨j+1,g,f,by simpa using a,by simpa using b,by simpa using c,d⟩
  simp[g0o]at h
  split at h
  rename_i r i;rcases a0b h with⟨l,h⟩|⟨-,h⟩;simp at h;subst h;exact⟨0,it,L,by simp_all,rfl,rfl,i,rfl,rfl⟩;simp_all;simp_all
theorem q0e:∀(ns:List Nat) its (Ls:List (Src×a0z)) (k n:Nat) it L r,ns[k]?=some n→its[k]?=some it→Ls[k]?=some L→a0q it=some r→
  (∀(k':Nat) it',ns[k']?=some n→its[k']?=some it'→a0q it'≠none→k'=k)→g0o ns its Ls n=some ⟨r,L.1,L.2⟩
 | [],its,Ls,k,n,it,L,r,h,_,_,_,_=>by grind
 |m::ns,[],Ls,k,n,it,L,r,_,h,_,_,_=>by grind
 |m::ns,it'::its,[],k,n,it,L,r,_,_,h,_,_=>by grind
 |m::ns,it'::its,L'::Ls,0,n,it,L,r,h1,h2,h3,h4,_=>by
  simp_all[g0o]
 |m::ns,it'::its,L'::Ls,k+1,n,it,L,r,h1,h2,h3,h4,hu=>by
  simp at h1 h2 h3;have d:=q0e ns its Ls k n it L r h1 h2 h3 h4 fun k' g b c f=>by
   have:=hu (k'+1) g (by simp_all) (by grind) f
   omega
  simp[g0o];cases hr:a0q it' with
  |none=>omega
  |some r'=>
   have a:n≠m:=fun e=>by
    have:=hu 0 it' (by grind) rfl (by simp_all)
    omega
   grind
theorem l0v:∀(ns:List Nat) its (Ls:List (Src×a0z)) (n:Nat),Ls.length=its.length→c0b ns its n=(g0o ns its Ls n).map (·.r)
 | [],its,Ls,n,h=>by rfl
 |k::ns,[],Ls,n,h=>by rfl
 |k::ns,it::its,[],n,h=>by grind
 |k::ns,it::its,L::Ls,n,h=>by
  have g:=l0v ns its Ls n (by simpa using h);simp only[c0b,g0o];cases a0q it with
  |none=>exact g
  |some r=>cases hk:(n==k)<;>simp[g]
theorem q0p:∀(ns:List Nat) its (k:Nat) av,(d0h ns its)[k]?=some av→∃(n:Nat)(it:(r:RA)×r.ty.den),ns[k]?=some n∧its[k]?=some it∧av=p0w n it
 | [],its,k,av,h=>by simp[d0h]at h
 |_::_,[],k,av,h=>by simp[d0h]at h
 |n::ns,it::its,0,av,h=>by simp[d0h]at h;simp_all
 |n::ns,it::its,k+1,av,h=>by
  obtain⟨m,g,f,a,b⟩:=q0p ns its k av (by simpa[d0h]using h);exact⟨m,g,by simpa using f,by simpa using a,b⟩
theorem m0d:∀(ns:List Nat)(its:List ((r:RA)×r.ty.den)),ns.length≤its.length→(d0h ns its).length=ns.length
 | [],its,h=>by rfl
 |_::_,[],h=>by grind
 |_::ns,_::its,h=>by simp only[d0h,lC];rw[m0d ns its (by simpa using h)]
theorem t0u:∀{it:(r:RA)×r.ty.den} {r:Root},a0q it=some r→it.1.hasList=false→(r.bx=true∧r.t.hasList=false)∨∃e,r.t=.list true e∧e.hasList=false
 |⟨.v t,x⟩,r,h,_=>by simp[a0q]at h
 |⟨.o e,x⟩,r,h,hl=>by simp[a0q]at h;subst h;exact .inr ⟨e,rfl,hl⟩
 |⟨.b t,x⟩,r,h,hl=>by simp[a0q]at h;subst h;exact .inl ⟨rfl,hl⟩
theorem o0r.root{m Sh}:∀{it:(r:RA)×r.ty.den} {v L r},o0r m Sh it v L→a0q it=some r→RootOk m Sh r L.1 L.2
 |⟨.v t,x⟩,v,L,r,h,hr=>by simp[a0q]at hr
 |⟨.o e,x⟩,v,L,r,h,hr=>by simp[a0q]at hr;subst hr;exact h.2
 |⟨.b t,x⟩,v,L,r,h,hr=>by simp[a0q]at hr;subst hr;exact h.1
@[reducible] def Fr(ro:Option Nat):Fence:={ fn:=fun _=>True,depth:=none,alive:=false,round:=ro }
theorem s0b{ro:Option Nat}{args:Array Value}{R:Ending→World→Prop}(h:Calls P f args w R):CallsIn (Fr ro) n P f args w R:=
 (callsIn_wide (n:=n)).2 h
theorem p0k{ro:Option Nat}{a:Act}(g:∀c,o.op≠.defer c)(h:o.uponIn (Fr ro) 0 P a next Q ((execOp a.eval o).run P w)):
  o.wpIn (Fr ro) 0 P a w next Q:=
 ⟨fun _ _=>trivial,by rw[Oper.semAt_eq _ _ _ g];exact h⟩
theorem s0t(hb:l0x P f)(ho:o.op=.call c)(hc:c.callee=.value (.func f))(a:Act)(w:World):
  (execOp a.eval o).run P w=.ok (.enter f (c.args.map a.eval)) w:=by
 obtain ⟨fn,c',h1,h2,h3⟩:=hb;have h4 : ¬ fn.name = "runtime.NumGoroutine" := by simpa using h3
 simp [execOp,ho,resolve,hc,Act.eval,Deferred.ofValue,invoke,callFunc,program,Sem.run,h1,h2,h4,Result.andThen]
theorem t0v(hb:l0x P f){t:Nat}(ho:o.op=.call c)(hc:c.callee=.value (.tmp t))(a:Act)(w:World){us:Array Value}(hv:a.eval (.tmp t)=.func (.func f) #[] us):
  (execOp a.eval o).run P w=.ok (.enter f (c.args.map a.eval++us)) w:=by
 obtain ⟨fn,c',h1,h2,h3⟩:=hb;have h4 : ¬ fn.name = "runtime.NumGoroutine" := by simpa using h3
 simp [execOp,ho,resolve,hc,hv,Deferred.ofValue,invoke,callFunc,program,Sem.run,h1,h2,h4,Result.andThen]
section
variable {P:Program} {B:Base} {N:Nat} {ρ:Type} {Γ:AE} {a:Act} {w:World} {σ:Gh} {ro:Option Nat}
theorem GOk.callee(j:GOk G B)(h:Rel B Γ N tm w σ)(fz:Bool)(r:List PA)(us:List Nat):GOk G (b0a fz B w σ r us):=by
 intro g t x l;obtain⟨a,c,b,s,d,e⟩:=j g t x l;have f:¬ a0r σ g:=fun o=>by
  rcases h.mine _ o with q|q;exact b q;omega
 have k:=h.size;exact⟨a12 a k,.inl ⟨a12 a k,.inl c,f⟩,fun⟨i,n,_,m⟩=>by obtain⟨p,hp,rfl⟩:=a08.1 m;exact f ⟨n,a00 (A0q hp)⟩,s,d.trans (h.frame g a b).symm,e⟩
theorem n0f:∀(ps:List PA)(us:List Nat)(i0 n:Nat),n∈brw ps us→∃(k i:Nat)(e:Ty),us[k]?=some n∧(a0l ps i0)[k]?=some (i0+i)∧ps[i]?=some (.r false (.o e))
 | [],us,i0,n,h=>by simp[brw]at h
 |.v _::ps,us,i0,n,h=>by
  obtain⟨k,i,e,g,f,b⟩:=n0f ps us (i0+1) n (by simpa[brw]using h);exact⟨k,i+1,e,g,by simp only[a0l];rw[f];congr 1;omega,by simpa using b⟩
 |.r c a::ps,[],i0,n,h=>by cases c<;>cases a<;>simp[brw]at h
 |.r c a::ps,u::us,i0,n,h=>by
  have rest:n∈brw ps us→∃(k i:Nat)(e:Ty),(u::us)[k]?=some n∧(a0l (.r c a::ps) i0)[k]?=some (i0+i)∧(PA.r c a::ps)[i]?=some (.r false (.o e)):=fun h=>by
   obtain⟨k,i,e,g,f,b⟩:=n0f ps us (i0+1) n h;exact⟨k+1,i+1,e,by simpa using g,by simp only[a0l,List.getElem?_cons_succ];rw[f];congr 1;omega,by simpa using b⟩
  cases c with
  |true=>exact rest (by cases a<;>simpa[brw]using h)
  |false=>
   cases a with
   |o e=>
    rcases mC.1 (show n∈u::brw ps us from h)with rfl|h;exact⟨0,0,e,rfl,rfl,rfl⟩;exact rest h
   |_=>exact rest (by simpa[brw]using h)
def j0j(o:Option Root)(s:Src)(e:Ent1):Ent1:=match o,s with
 |some ⟨true,_,_⟩,.at b _=>if e.r.bx=true then e else⟨⟨true,e.r.t,e.r.x⟩,s,(b,1)::e.O⟩
 |_,_=>e
theorem j0v{C:Array Value→World→(Ending→World→Prop)→Prop}{avs:List AV}{vals:List Value}{s:FSem}{K:AE→Rs ρ}{z:ρ}(m0:∀R,C vals.toArray w R→(∀e w',R e w'→∃v,e=.returned v∧next (a.put o.dst v) w')→o.wpIn (Fr ro) 0 P a w next Q)(g7:avs.length=vals.length)(f6:∀(i:Nat) av v,avs[i]?=some av→vals[i]?=some v→a0e (a0a w σ.ov) σ.g Γ.rt (Shr B w σ) av v)(hG:GOk G B)(hF:y0c C G s)(h:Rel B Γ N (a0f a) w σ)(hN:a.tmps.size=N)(hz:Γ.call q o.dst s avs K=some z)(h9:∀v w' Γ' σ',Rel B Γ' N (a0f (a.put o.dst v)) w' σ'→K Γ'=some z→next (a.put o.dst v) w'):o.wpIn (Fr ro) 0 P a w next Q:=by
 unfold AE.call at hz
 split at hz
 cases hz;rename_i l0;have m5:=h.ov_none l0;obtain⟨hl,x,Γ',σ',us,l6,h',ev,bx,k4,-,ha⟩:=Rel.args s.ps avs vals (i0:=0) h (fun i av v h1 h2=>.inl (f6 i av v h1 h2)) (by omega) hz;clear hz;obtain⟨fz,f9⟩:∃fz,(s.rs.any RA.hasList || (d0o s.ps).any RA.hasList)=fz:=⟨_,rfl⟩;rw[f9]at ha k4;have l1:Γ'.pd=none:=ev.pd.trans l0;have a7:σ'.ov=none:=ev.ov.trans m5;obtain⟨hnames,Γ1,σ1,hz2,h1,hpd1,hov1,hshr,hnone,⟨c6,d5⟩,hnone'⟩:=Rel.dropAll _ h' l1 l6;clear l6;obtain⟨y,hy,l7⟩:=a27.1 hz2;clear hz2;obtain⟨f1,d7⟩:=h'.enter a7 ha (by omega);obtain⟨ns,c8⟩:∃ns,b0d s.rs (o.dst.getD 0+1000)=ns:=⟨_,rfl⟩;have m7:(us.reverse++[]).reverse=us:=by simp
 obtain⟨rn,l3⟩:∃rn,c0h s.rs (o.dst.getD 0+1000)=rn:=⟨_,rfl⟩;rw[l3]at hnames hnone c6;refine m0 _ (hF w _ _ _ x y (hG.callee h' _ _ _) hy rfl (fun _=>rfl) rfl (by rw[a51];omega) f1 d7) ?_
 rintro e w' ⟨vr,Ls,rfl,f3,bk⟩
 refine⟨_,rfl,?_⟩;obtain⟨J,g6⟩:∃J,c0d (RA.all s.ps s.rs) y=J:=⟨_,rfl⟩;obtain⟨vs,f4⟩:∃vs,vr++(a0l s.ps 0).map (d0m s.ps vals.toArray)=vs:=⟨_,rfl⟩;rw[g6,f4]at bk;have m9:J.length=s.rs.length+us.length:=by
  rw[←g6,f0l,RA.all,lN,ha.len,g0g]
 have a6:ns.length=s.rs.length:=by rw[←c8,h0j]
 have X:∀n∈rn,n<pinned∧n∉us:=fun n hn=>by
  have:=hnames n hn
  simpa using this

 have T:∀(k n:Nat) it,(ns++us)[k]?=some n→J[k]?=some it→a0q it≠none→(k<ns.length∧n∈rn∧n=o.dst.getD 0+1000+1000*k)∨(ns.length≤k∧us[k-ns.length]?=some n):=by
  intro k n it h1 h2 h3
  by_cases W:k<ns.length
  rw[a03 W]at h1;have hf:=i0e (RA.all s.ps s.rs) y k it (by rw[g6];exact h2);rw[RA.all,a03 (by omega)]at hf;refine .inl ⟨W,?_,?_⟩;rw[←l3];exact m0t s.rs _ k n it.1 (by rw[c8];exact h1) hf fun t ht=>h3 (by
   obtain⟨r,xx⟩:=it;obtain rfl:r=.v t:=ht;rfl)
  exact(m0s s.rs _ k n (by rw[c8];exact h1)).1;rw[a10 (by omega)]at h1;exact .inr ⟨by omega,h1⟩
 have d0:∀(k k' n:Nat) it g0,(ns++us)[k]?=some n→J[k]?=some it→a0q it≠none→(ns++us)[k']?=some n→J[k']?=some g0→a0q g0≠none→k'=k:=by
  intro k k' n it g0 h1 h2 h3 h4 h5 h6;rcases T k n it h1 h2 h3 with⟨a1,a2,a3⟩|⟨a1,a2⟩;rcases T k' n g0 h4 h5 h6 with⟨b1,b2,b3⟩|⟨b1,b2⟩;omega;exact absurd (a06 b2) (X n a2).2;rcases T k' n g0 h4 h5 h6 with⟨b1,b2,b3⟩|⟨b1,b2⟩;exact absurd (a06 a2) (X n b2).2;obtain⟨c1,c2⟩:=lS.1 a2;obtain⟨c3,c4⟩:=lS.1 b2;have hp:=a18.1 ha.nodup;rcases a52 (k-ns.length) (k'-ns.length)with g|g|g;exact absurd (c2.trans c4.symm) (hp _ _ c1 c3 g);omega;exact absurd (c4.trans c2.symm) (hp _ _ c3 c1 g)
 let E0:Nat→Option Ent1:=g0o (ns++us) J Ls
 have g8:∀n∈us,Γ1.rt n=Γ'.rt n∧σ1.ow n=σ'.ow n:=fun n hn=>c6 n fun g=>(X n g).2 hn;have e7:∀c,(b0a fz B w σ' s.ps us).F c→∃n∈us,c∈(σ'.ow n).map (·.1):=by
  rintro c ⟨i,n,h1,h2⟩
  obtain⟨k,q1,q2⟩:=g0z _ _ _ _ h1;obtain⟨i',c',ra,y',v,r,j1,j2,j3,j4,j5,-⟩:=ha.refs k n q2;rw[q1]at j1;simp only[a11,sj]at j1;subst j1;obtain⟨p,hp,rfl⟩:=a08.1 h2;rw[j0u j2 j4]at hp;exact⟨n,a06 q2,a00 ((h'.lent a7 j5).2.2.1 p hp)⟩
 have e4:∀n∈us,∃A r0,E0 n=some A∧Γ'.rt n=some r0∧
   ((A.r.bx=r0.bx∧(A.s=σ'.g n∨(r0.bx=false∧n<pinned∧n∉brw s.ps us))∧(r0.bx=false→∃ε,A.r.t=.list true ε))∨
    ∃b v ε,r0.bx=true∧A.r.bx=false∧A.r.t=.list true ε∧σ'.g n=.at b 0∧w.cell? ⟨b,0,none⟩=some v∧A.s=.one v∧b∈(σ'.ow n).map (·.1)∧a0w w b 1∧¬ (b0a fz B w σ' s.ps us).F b):=by
  intro n hn;obtain⟨k,W⟩:=a32.1 hn;obtain⟨i,c,ra,y',v,r,j1,j2,j3,j4,j5,j7⟩:=ha.refs k n W;rw[a11]at j1;have b5:=e0d _ _ _ _ j2;have n0:k<us.length:=(lS.1 W).1;have i8:(ns.length+k)<J.length:=by omega
  have g5:=lG i8;have e9:ns.length+k<Ls.length:=by rw[bk.ll];exact i8
  have b7:=lG e9;have k5:=i0e (RA.all s.ps s.rs) y (ns.length+k) _ (by rw[g6];exact g5);have b4:(ns++us)[ns.length+k]?=some n:=by rw[a10 (by omega)];simpa using W
  have f5:(RA.all s.ps s.rs)[ns.length+k]?=some ra:=by
   rw[RA.all,a10 (by omega),a6,a20];obtain⟨k2,q1,q2⟩:=m0r s.ps 0 i b5;rw[a11]at q1;rw[p0q s.ps j1 q1];exact q2
  rw[f5]at k5;simp only[sj]at k5;have d8:vs[ns.length+k]?=some (d0m s.ps vals.toArray i):=by
   rw[←f4,a10 (by omega),f3,a6,a20,a29,j1];rfl
  have d1:vals.toArray.getD i undef=v:=by simp only[Array.getD_eq_getD_getElem?,a15,j3,Option.getD_some]
  have k4:∀k3,us[k3]?=some n→k=k3:=fun k3 q1=>by
   obtain⟨c1,c2⟩:=lS.1 W;obtain⟨c3,c4⟩:=lS.1 q1;have hp:=a18.1 ha.nodup;rcases a52 k k3 with g|g|g;exact absurd (c2.trans c4.symm) (hp _ _ c1 c3 g);exact g;exact absurd (c4.trans c2.symm) (hp _ _ c3 c1 g)
  have h7:=bk.ok _ _ _ _ g5 d8 b7
  revert k5 h7 g5
  generalize J[ns.length+k]=it;obtain⟨r0,xx⟩:=it;intro g5 k5 h7;obtain rfl:ra=r0:=k5;have e6:∀r',a0q ⟨ra,xx⟩=some r'→E0 n=some ⟨r',Ls[ns.length+k].1,Ls[ns.length+k].2⟩:=fun r' l2=>
   q0e (ns++us) J Ls (ns.length+k) n _ _ _ b4 g5 b7 l2 (fun k' g0 g1 M g3=>d0 _ k' n _ g0 b4 g5 (by rw[l2];simp) g1 M g3)
  cases ra with
  |v t=>simp[a0q]at j4
  |b t=>
   simp only[a0q,sj]at j4;subst j4;cases c with
   |true=>have:=(j7 rfl).2.1;cases this
   |false=>
    have b8:d0m s.ps vals.toArray i=v:=by simp only[d0m,g0y b5,d1]
    rw[b8]at h7;obtain⟨hr,b',Y,hv⟩:=h7;rcases j5 with⟨j5,j6⟩|⟨_,⟨g,-⟩,-⟩;refine⟨_,_,e6 _ rfl,j5,.inl ⟨rfl,.inl ?_,fun g=>by cases g⟩⟩;rcases h'.src_of j5 with⟨-,b,g⟩|⟨g,-⟩;rw[g]at j6⊢
    have:=j6.2.symm.trans hv
    simp only[Value.pointer.injEq,sj,Addr.mk.injEq,and_true]at this;rw[this];exact Y;cases g;cases g
  |o A=>
   simp only[a0q,sj]at j4;subst j4;obtain⟨Y,hr⟩:=h7;have g4:f0f s.ps i=false:=by simp[f0f,b5]
   rcases j5 with⟨j5,j6⟩|⟨b,-,j5,hg,e8⟩
   ·refine⟨_,_,e6 _ rfl,j5,.inl ⟨rfl,?_,fun _=>⟨A,rfl⟩⟩⟩;cases c with
    |true=>
     refine .inr ⟨rfl,(j7 rfl).2.2,fun hb=>?_⟩;obtain⟨k3,i3,e3,q1,q2,Z⟩:=n0f s.ps us 0 n hb;obtain rfl:=k4 k3 q1;rw[j1]at q2;simp only[a11,sj]at q2;subst q2;rw[b5]at Z;cases Z
    |false=>
     have b8:d0m s.ps vals.toArray i=v:=by simp only[d0m,g0y b5,d1]
     rw[b8]at Y;left;rcases h'.src_of j5 with⟨g,-⟩|⟨-,u,e2,g,-⟩;cases g;rw[g]at j6⊢;have j6:v=u:=j6;rw[←j6];exact Y
   ·have l9:c=false:=by
     cases c with
     |false=>rfl
     |true=>have:=(j7 rfl).1;rw[j5]at this;cases this
    subst l9;have b8:d0m s.ps vals.toArray i=v:=by simp only[d0m,g0y b5,d1]
    rw[b8]at Y;have f0:σ'.ow n=(b,1)::(σ'.ow n).tail∧b∉((σ'.ow n).tail).map (·.1):=by
     obtain⟨O',R,-,-,Z⟩:=(h'.roots n _ j5).rd;rcases Z with⟨-,b',q4,q5⟩|⟨q4,-⟩;rw[hg]at q4;simp only[Src.at.injEq,and_true]at q4;subst q4;have j8:=h'.nodup n;rw[q5,a07]at j8;rw[q5];exact⟨rfl,(a05.1 j8).1⟩;cases q4
    have f7:b∈(σ'.ow n).map (·.1):=by rw[f0.1];simp
    refine⟨_,_,e6 _ rfl,j5,.inr ⟨b,v,A,rfl,rfl,rfl,hg,e8,Y,f7,h'.live n (b,1) (by rw[f0.1];simp),?_⟩⟩
    rintro⟨i',n',q1,q2⟩
    obtain⟨k',Z,q4⟩:=g0z _ _ _ _ q1
    by_cases hnn:n'=n
    subst hnn;obtain rfl:=k4 k' q4;rw[j1]at Z;simp only[sj]at Z;subst Z;rw[g4]at q2;simp only[lo,hg]at q2;exact f0.2 q2;obtain⟨i2,c2,a2,y2,v2,r2,z1,z2,z3,z4,z5,-⟩:=ha.refs k' n' q4;rw[Z]at z1;simp only[a11,sj]at z1;subst z1;obtain⟨p,hp,m6⟩:=a08.1 q2;rw[j0u z2 z4]at hp;exact h'.disj n n' (Ne.symm hnn) b f7 (by rw[←m6];exact a00 ((h'.lent a7 z5).2.2.1 p hp))
 let E:Nat→Option Ent1:=fun n=>(E0 n).map fun e=>bif us.contains n then j0j (Γ1.rt n) (σ1.g n) e else e
 have g9:∀n e,E n=some e→∃A,E0 n=some A∧(e=A∨(n∈us∧∃b v ε,A.r.bx=false∧A.r.t=.list true ε∧σ'.g n=.at b 0∧w.cell? ⟨b,0,none⟩=some v∧A.s=.one v∧b∈(σ'.ow n).map (·.1)∧a0w w b 1∧
   ¬ (b0a fz B w σ' s.ps us).F b∧e=⟨⟨true,A.r.t,A.r.x⟩,.at b 0,(b,1)::A.O⟩)):=by
  intro n e D;obtain⟨A,I,rfl⟩:=a21.1 D;refine⟨A,I,?_⟩;cases U:us.contains n with
  |false=>exact .inl rfl
  |true=>
   have hn:n∈us:=by simpa using U
   obtain⟨e1,r0,q1,q2,Z⟩:=e4 n hn;rw[I]at q1;cases q1;simp only[cT];rw[(g8 n hn).1,q2,d5];obtain⟨bx,t0,x0⟩:=r0;rcases Z with⟨Z,-⟩|⟨b,v,ε,Z,q4,q5,q6,q7⟩
   ·left;cases bx with
    |false=>rfl
    |true=>
     rcases σ'.g n with⟨b,o⟩|u;simp only[j0j];rw[if_pos Z];rfl
   right;have Z:bx=true:=Z;subst Z;refine⟨hn,b,v,ε,q4,q5,q6,q7.1,q7.2.1,q7.2.2.1,q7.2.2.2.1,q7.2.2.2.2,?_⟩;rw[q6];simp only[j0j];rw[if_neg (by rw[q4];simp)]
 have d2:∀n∈us,∃e r,E n=some e∧Γ'.rt n=some r∧(e.s=σ'.g n∨(r.bx=false∧n<pinned∧n∉brw s.ps us))∧(r.bx=false→∃ε,e.r.t=.list true ε):=by
  intro n hn;obtain⟨A,r0,q1,q2,Z⟩:=e4 n hn;have hE:∃e,E n=some e:=⟨_,by simp only[E,q1,a26];rfl⟩;obtain⟨e,D⟩:=hE;obtain⟨e1,z1,z2⟩:=g9 n e D;rw[q1]at z1;cases z1;refine⟨e,r0,D,q2,?_⟩;rcases Z with⟨Z,q4,q5⟩|⟨b,v,ε,Z,q4,q5,q6,q7⟩;rcases z2 with rfl|⟨-,b,v,ε,z3,z4,z5,z6,z7,z8,z9,h8,rfl⟩;exact⟨q4,q5⟩;rw[z3]at Z;rcases h'.src_of q2 with⟨g,-⟩|⟨-,u,_,g,-⟩;rw[g]at Z;cases Z;rw[g]at z5;cases z5;refine⟨.inl ?_,fun g=>by rw[Z]at g;cases g⟩;rcases z2 with rfl|⟨-,b',v',ε',z3,z4,z5,z6,z7,z8,z9,h8,rfl⟩
  exfalso
  obtain⟨e2,f8,b0⟩:=a21.1 D;rw[q1]at f8;cases f8;have U:us.contains n=true:=by simpa using hn
  rw[U]at b0;simp only[cT]at b0;rw[(g8 n hn).1,q2,d5,q6]at b0;obtain⟨bx,t0,x0⟩:=r0;have Z:bx=true:=Z;subst Z;simp only[j0j]at b0;rw[if_neg (by rw[q4];simp)]at b0
  have:=congrArg (fun e=>e.r.bx) b0
  rw[q4]at this;cases this;exact z5.symm
 have H:∀n e,E0 n=some e→∃(k:Nat)(it:(r:RA)×r.ty.den) (v:Value) (L:Src×a0z),(ns++us)[k]?=some n∧J[k]?=some it∧vs[k]?=some v∧Ls[k]?=some L∧a0q it=some e.r∧e.s=L.1∧e.O=L.2∧
   o0r (cells w') (fun c=>c<w'.heap.size∧((b0a fz B w σ' s.ps us).S c∨(b0a fz B w σ' s.ps us).F c∨(b0a fz B w σ' s.ps us).size≤c)∧∀L∈Ls,c∉L.2.map (·.1)) it v L:=by
  intro n e D;obtain⟨k,it,L,j1,j2,j3,j4⟩:=q0x _ _ _ _ _ D;have m3:k<vs.length:=by rw[bk.lv];exact(lS.1 j2).1
  have hv:=lG m3;exact⟨k,it,vs[k],L,j1,j2,hv,j3,j4.1,j4.2.1,j4.2.2,bk.ok _ _ _ _ j2 hv j3⟩
 have k8:∀n A c,E0 n=some A→c∈A.O.map (·.1)→(b0a fz B w σ' s.ps us).F c∨w.heap.size≤c:=fun n A c D U=>by
  obtain⟨k,it,v,L,j1,j2,jv,j3,j4,j5,j6,j7⟩:=H n A D;rw[j6]at U;exact bk.mine L (a06 j3) c U
 have c7:∀n e,E n=some e→n∈rn∨n∈us:=fun n e D=>by
  obtain⟨A,I,-⟩:=g9 n e D;obtain⟨k,it,v,L,j1,j2,-,-,j4,-⟩:=H n A I;rcases T k n it j1 j2 (by rw[j4];simp)with⟨-,g,-⟩|⟨-,g⟩;exact .inl g;exact .inr (a06 g)
 have k7:∀n b,b∈(σ'.ow n).map (·.1)→¬ (b0a fz B w σ' s.ps us).F b→∀n' A,E0 n'=some A→b∉A.O.map (·.1):=fun n b hb hF n' A D U=>by
  rcases k8 n' A b D U with g|g;exact hF g
  have:=h'.lt ⟨n,hb⟩;omega
 have hW:Work w w' σ1 (b0a fz B w σ' s.ps us).F E:={
  own:=fun c hF=>by
   obtain⟨n,hn,U⟩:=e7 c hF;obtain⟨e,r,D,-⟩:=d2 n hn;exact⟨n,e,D,by rw[(g8 n hn).2];exact U⟩
  size:=bk.size
  still:=bk.still
  same:=fun b hb l8=>bk.frame b hb l8
  mine:=fun n e c D U=>by
   obtain⟨A,I,z⟩:=g9 n e D;rcases z with rfl|⟨hn,b,v,ε,z3,z4,z5,z6,z7,z8,z9,h8,rfl⟩;exact(k8 n e c I U).imp .inl id;rcases mC.1 (show c∈b::A.O.map (·.1)from U)with rfl|U;exact .inl (.inr (by rw[(g8 n hn).2];exact z8));exact(k8 n A c I U).imp .inl id
  nodup:=fun n e D=>by
   obtain⟨A,I,z⟩:=g9 n e D;have h0:(A.O.map (·.1)).Nodup:=by
    obtain⟨k,it,v,L,j1,j2,jv,j3,j4,j5,j6,j7⟩:=H n A I;rw[j6];exact bk.nodup L (a06 j3)
   rcases z with rfl|⟨hn,b,v,ε,z3,z4,z5,z6,z7,z8,z9,h8,rfl⟩;exact h0;exact a05.2 ⟨k7 n b z8 h8 n A I,h0⟩
  disj:=fun n e n' e' D b9 d6 c U V=>by
   obtain⟨A,I,z⟩:=g9 n e D;obtain⟨a8,c0,z'⟩:=g9 n' e' b9;have a4:c∈A.O.map (·.1)→c∈a8.O.map (·.1)→False:=fun U V=>by
    obtain⟨k,it,v,L,j1,j2,jv,j3,j4,j5,j6,j7⟩:=H n A I;obtain⟨k',g0,v',L',i1,i2,iv,i3,i4,i5,i6,i7⟩:=H n' a8 c0;rw[j6]at U;rw[i6]at V;exact bk.disj k k' L L' j3 i3 (fun g=>by subst g;rw[j1]at i1;exact d6 (Option.some.inj i1)) c U V
   rcases z with rfl|⟨hn,b,v,ε,z3,z4,z5,z6,z7,z8,z9,h8,rfl⟩;rcases z' with rfl|⟨j0,b',v',ε',y3,y4,y5,y6,y7,y8,y9,d9,rfl⟩;exact a4 U V;rcases mC.1 (show c∈b'::a8.O.map (·.1)from V)with rfl|V;exact k7 n' c y8 d9 n e I U;exact a4 U V;rcases mC.1 (show c∈b::A.O.map (·.1)from U)with rfl|U;rcases z' with rfl|⟨j0,b',v',ε',y3,y4,y5,y6,y7,y8,y9,d9,rfl⟩;exact k7 n c z8 h8 n' e' c0 V;rcases mC.1 (show c∈b'::a8.O.map (·.1)from V)with rfl|V;exact h'.disj n n' d6 c z8 y8;exact k7 n c z8 h8 n' a8 c0 V;rcases z' with rfl|⟨j0,b',v',ε',y3,y4,y5,y6,y7,y8,y9,d9,rfl⟩;exact a4 U V;rcases mC.1 (show c∈b'::a8.O.map (·.1)from V)with rfl|V;exact k7 n' c y8 d9 n A I U;exact a4 U V
  live:=fun n e p D hp=>by
   obtain⟨A,I,z⟩:=g9 n e D;have h0:p∈A.O→a0w w' p.1 p.2:=fun hp=>by
    obtain⟨k,it,v,L,j1,j2,jv,j3,j4,j5,j6,j7⟩:=H n A I;rw[j6]at hp;exact bk.live L (a06 j3) p hp
   rcases z with rfl|⟨hn,b,v,ε,z3,z4,z5,z6,z7,z8,z9,h8,rfl⟩;exact h0 hp;rcases mC.1 hp with rfl|hp;obtain⟨c,e,lo,hi,q1,q2⟩:=z9;exact⟨c,e,lo,hi,by rw[bk.frame b (h'.lt ⟨n,z8⟩) h8];exact q1,q2⟩;exact h0 hp }

 have a5:∀c,(c<w'.heap.size∧((b0a fz B w σ' s.ps us).S c∨(b0a fz B w σ' s.ps us).F c∨(b0a fz B w σ' s.ps us).size≤c)∧∀L∈Ls,c∉L.2.map (·.1))→fz=true→
   (c<w'.heap.size∧(Shr B w σ1 c∨(b0a fz B w σ' s.ps us).F c∨w.heap.size≤c)∧∀n e,E n=some e→c∉e.O.map (·.1)):=by
  rintro c ⟨g1,M,g3⟩ hfzt
  refine⟨g1,?_,fun n e D d3=>?_⟩;rcases M with(M|⟨M,-⟩)|M|M;exact .inl (hshr c M);rw[hfzt]at M;cases M;exact .inr (.inl M);exact .inr (.inr M);obtain⟨A,I,z⟩:=g9 n e D;have h0:c∉A.O.map (·.1):=by
   obtain⟨k,it,v,L,j1,j2,jv,j3,j4,j5,j6,j7⟩:=H n A I;rw[j6];exact g3 L (a06 j3)
  rcases z with rfl|⟨hn,b,v,ε,z3,z4,z5,z6,z7,z8,z9,h8,rfl⟩;exact h0 d3;rcases mC.1 (show c∈b::A.O.map (·.1)from d3)with rfl|d3;rcases M with(M|⟨M,-⟩)|M|M;exact M.2.2 ⟨n,z8⟩;rw[hfzt]at M;cases M;exact h8 M
  have:=h'.lt ⟨n,z8⟩
  have M:w.heap.size≤c:=M;omega;exact h0 d3
 have k6:fz=false→∀(k:Nat) it,J[k]?=some it→it.1.hasList=false:=by
  intro d4 k it W;have h1:=i0e (RA.all s.ps s.rs) y k it (by rw[g6];exact W);rw[←f9]at d4;simp only[Bool.or_eq_false_iff,List.any_eq_false,a54]at d4;have hm:=a06 h1;simp only[RA.all,mA]at hm;rcases hm with hm|hm;exact d4.1 _ hm;exact d4.2 _ hm
 have f2:∀n e,E n=some e→RootOk (cells w') (fun c=>c<w'.heap.size∧(Shr B w σ1 c∨(b0a fz B w σ' s.ps us).F c∨w.heap.size≤c)∧∀n e,E n=some e→c∉e.O.map (·.1)) e.r e.s e.O:=by
  intro n e D;obtain⟨A,I,z⟩:=g9 n e D;have h0:RootOk (cells w') (fun c=>c<w'.heap.size∧(Shr B w σ1 c∨(b0a fz B w σ' s.ps us).F c∨w.heap.size≤c)∧∀n e,E n=some e→c∉e.O.map (·.1)) A.r A.s A.O:=by
   obtain⟨k,it,v,L,j1,j2,jv,j3,j4,j5,j6,j7⟩:=H n A I;have hr:=j7.root j4;rw[j5,j6];cases hfz':fz with
   |true=>
    rw[hfz']at hr a5;exact hr.mono fun c U=>a5 c U rfl
   |false=>exact hr.anySh (t0u j4 (k6 hfz' k it j2))
  rcases z with rfl|⟨hn,b,v,ε,z3,z4,z5,z6,z7,z8,z9,h8,rfl⟩;exact h0;obtain⟨O',R,k1,k2,k3⟩:=h0.rd;rcases k3 with⟨k3,-⟩|⟨-,-,-,k3⟩;rw[z3]at k3;cases k3;refine⟨O',R,a0j _ k1 (fun j hj=>?_) (fun _ _ _=>rfl),k2,.inl ⟨rfl,b,rfl,?_⟩⟩;have hj:j<A.r.t.cells:=hj;rw[z4]at hj;have m1:j=0:=by simp only[Ty.cells]at hj;omega
  subst m1;rw[z7];show cells w' b (0+0)=some v
  have:=b0g (w':=w') (w:=w) (c:=b) none (bk.frame b (h'.lt ⟨n,z8⟩) h8) 0
  exact this.trans z6;show(b,1)::A.O=(b,A.r.t.cells)::O';rw[z4,k3];rfl
 obtain⟨hM,e5⟩:=h1.merge (hov1.trans a7) hW f2 (fun i b e hb D=>by
   rcases c7 _ e D with g|g;exact absurd (X _ g).1 (by omega);obtain⟨e',r',b9,k9,Y,-⟩:=d2 _ g;rw[D]at b9;simp only[sj]at b9;subst b9;rcases Y with Y|⟨-,Y,-⟩;rw[Y];exact h'.pins i b hb (by rw[k9];simp);omega) (f:=AV.deeps us (Γ1.unbx (brw s.ps us))) (fun av v k0=>by
   have key:∀k q,(av=.ptr k q∨av=.sref k q∨∃o l,av=.swin k q o l)→k∉us→E k=none:=fun k q W m2=>by
    cases D:E k with
    |none=>rfl
    |some e=>
     rcases c7 k e D with g|g;have hn:=hnone k g;rcases W with rfl|rfl|⟨o,l,rfl⟩;obtain⟨r,t,b,o,g1,-⟩:=k0;rw[hn]at g1;cases g1;obtain⟨r,e,s,g1,-⟩:=k0;rw[hn]at g1;cases g1;obtain⟨r,e,s,_,_,_,g1,-⟩:=k0;rw[hn]at g1;cases g1;exact absurd g m2
   cases av with
   |sref m p=>
    simp only[AV.deeps];split
    ·rename_i hm;cases p with
     |cons=>exact .inl rfl
     |nil=>
      simp only[];split;rename_i hb;refine .inr ⟨rfl,fun k p' W=>.inr (.inr ?_)⟩;rcases W with g|g|⟨o,l,g⟩<;>cases g;obtain⟨e,r,D,k9,Y,ht⟩:=d2 m (by simpa using hm);have b6:=(g8 m (by simpa using hm)).1.trans k9;have hb:m∈Γ1.unbx (brw s.ps us):=by simpa using hb
      simp only[AE.unbx,List.mem_filter,a39]at hb;obtain⟨hb,g4⟩:=hb;rcases Y with Y|⟨-,-,Y⟩;obtain⟨r2,e2,s2,g1,M,g3⟩:=k0;rw[b6]at g1;cases g1;simp only[loc,a0t,sj,pJ]at M;rcases h1.src_of b6 with⟨a9,b,hg⟩|⟨a9,u,e3,hg,-⟩;rw[b6]at g4;simp only[m0m]at g4;rw[a9]at g4;cases g4;obtain⟨ε,ht⟩:=ht a9;exact⟨rfl,e,u,ε,D,by rw[Y,←d5];exact hg,hg,ht⟩;exact absurd hb Y;exact .inl rfl
    rename_i hm;refine .inr ⟨rfl,fun k p' W=>.inl (key k p' W ?_)⟩;rcases W with g|g|⟨o,l,g⟩<;>cases g;simpa using hm
   |swin m p o l=>
    simp only[AV.deeps];split;exact .inl rfl;rename_i hm;refine .inr ⟨rfl,fun k p' W=>.inl (key k p' W ?_)⟩;rcases W with g|g|⟨o,l,g⟩<;>cases g;simpa using hm
   |ptr m p=>
    simp only[AV.deeps];split
    ·rename_i hm;cases p with
     |cons=>exact .inl rfl
     |nil=>
      refine .inr ⟨rfl,fun k p' W=>.inr (.inl ?_)⟩;rcases W with g|g|⟨o,l,g⟩<;>cases g;obtain⟨e,r,D,k9,Y,ht⟩:=d2 m (by simpa using hm);have b6:=(g8 m (by simpa using hm)).1.trans k9;obtain⟨r2,t2,b2,o2,g1,M,-⟩:=k0;rw[b6]at g1;cases g1;simp only[loc,a0t,sj,pJ]at M;rcases h1.src_of b6 with⟨a9,b,hg⟩|⟨a9,u,e3,hg,-⟩;rcases Y with Y|⟨Y,-⟩;exact⟨rfl,e,b,D,by rw[Y,←d5];exact hg,hg⟩;rw[a9]at Y;cases Y;rw[hg]at M;cases M.2
    rename_i hm;refine .inr ⟨rfl,fun k p' W=>.inl (key k p' W ?_)⟩;rcases W with g|g|⟨o,l,g⟩<;>cases g;simpa using hm
   |_=>exact .inr ⟨rfl,fun k p' W=>by rcases W with g|g|⟨o,l,g⟩<;>cases g⟩)

 have c9:∀(k:Nat) av,(d0h ns J)[k]?=some av→∃u,vr[k]?=some u∧a0e (a0a w' none) (d0f σ1 E).g (f0o Γ1 (AV.deeps us (Γ1.unbx (brw s.ps us))) E).rt (Shr B w' (d0f σ1 E)) av u:=by
  intro k av W;obtain⟨n,it,g1,M,rfl⟩:=q0p _ _ _ _ W;have i9:k<vr.length:=by rw[f3,←a6];exact(lS.1 g1).1
  have d8:=lG i9;have l5:vs[k]?=some vr[k]:=by rw[←f4,a03 i9];exact d8
  have e9:k<Ls.length:=by rw[bk.ll];exact(lS.1 M).1
  have b7:=lG e9;have h7:=bk.ok _ _ _ _ M l5 b7;have b4:(ns++us)[k]?=some n:=by rw[a03 (by omega)];exact g1
  refine⟨vr[k],d8,?_⟩;have c5:∀r,a0q it=some r→E n=some ⟨r,Ls[k].1,Ls[k].2⟩:=fun r hr=>by
   have h0:E0 n=some ⟨r,Ls[k].1,Ls[k].2⟩:=q0e (ns++us) J Ls k n it _ r b4 M b7 hr (fun k' g0 a1 a2 a3=>d0 _ k' n _ g0 b4 M (by rw[hr];simp) a1 a2 a3);have m4:us.contains n=false:=by
    rcases T k n it b4 M (by rw[hr];simp)with⟨-,g,-⟩|⟨g,-⟩;simpa using(X n g).2
    have:=(lS.1 g1).1
    omega
   simp only[E,h0,a26,m4,cF]
  obtain⟨r,xx⟩:=it;cases r with
  |v t=>
   obtain⟨hv,-⟩:=h7;cases hfz':fz with
   |true=>
    rw[hfz']at hv a5 e5;exact hv.frame (fun _ _ _=>rfl) fun c U=>e5 c (a5 c U rfl)
   |false=>exact hv.anySh (k6 hfz' k _ M)
  |o e=>
   obtain⟨Y,-⟩:=h7;have D:=c5 _ rfl;refine⟨_,e,.one vr[k],d0u D,?_,rfl⟩;rw[d0t D];show some (_,Ls[k].1)=_;rw[Y]
  |b t=>
   obtain⟨-,b,Y,hv⟩:=h7;have D:=c5 _ rfl;refine⟨_,t,b,0,d0u D,?_,hv⟩;rw[d0t D];show some (_,Ls[k].1)=_;rw[Y]
 have m8:(⟨fun i=>(Γ1.sl i).mapv (AV.deeps (us.reverse++[]) (Γ1.unbx (brw s.ps us))),fun n=>match c0b (ns++us) J n with
    |some r=>some (bif (us.reverse++[]).contains n then h0h (Γ1.rt n) r else r)
    |none=>Γ1.rt n,none⟩:AE)=f0o Γ1 (AV.deeps us (Γ1.unbx (brw s.ps us))) E:=by
  have e1:AV.deeps (us.reverse++[]) (Γ1.unbx (brw s.ps us))=AV.deeps us (Γ1.unbx (brw s.ps us)):=by
   funext av;cases av<;>simp[AV.deeps]
  have e2:∀n,(us.reverse++[]).contains n=us.contains n:=fun n=>by simp
  rw[e1];simp only[f0o,AE.mapv,E,E0,e2];congr 1;funext n;rw[l0v _ _ Ls n bk.ll];cases g0o (ns++us) J Ls n with
  |none=>rfl
  |some e=>
   simp only[a26];cases us.contains n with
   |false=>rfl
   |true=>
    simp only[cT,sj];cases k9:Γ1.rt n with
    |none=>simp[h0h,j0j]
    |some r0=>
     rcases h1.src_of k9 with⟨hb,b,hg⟩|⟨hb,u,A,hg,-⟩;obtain⟨bx,t0,x0⟩:=r0;have hb:bx=true:=hb;subst hb;rw[hg];simp only[h0h,j0j];split;rename_i D;obtain⟨⟨bx,t1,x1⟩,s1,O1⟩:=e;have D:bx=true:=D;subst D;rfl;rfl;obtain⟨bx,t0,x0⟩:=r0;have hb:bx=false:=hb;subst hb;simp[h0h,j0j]
 have hz:(match o.dst with
   |none=>K (f0o Γ1 (AV.deeps us (Γ1.unbx (brw s.ps us))) E)
   |some d=>match d0h (b0d s.rs (d+1000)) J with
    | [v]=>K ((f0o Γ1 (AV.deeps us (Γ1.unbx (brw s.ps us))) E).set d v)
    |vs=>K ((f0o Γ1 (AV.deeps us (Γ1.unbx (brw s.ps us))) E).put d (.cmp .tup vs)))=some z:=by
  rw[m7,c8,g6]at l7;rw[←m8];exact l7
 cases hd:o.dst with
 |none=>
  rw[hd]at hz h9;simp only[]at hz;exact h9 _ w' _ _ hM hz
 |some d=>
  have j9:b0d s.rs (d+1000)=ns:=by rw[←c8,hd];rfl
  rw[hd]at hz h9;simp only[j9]at hz;have g7:(d0h ns J).length=vr.length:=by rw[m0d _ _ (by omega),a6,f3]
  split at hz
  ·rename_i av k0;rw[k0]at g7 c9;obtain⟨u,hu,h7⟩:=c9 0 av rfl;have l4:vr=[u]:=by
    match vr,g7,hu with
    | [u'],_,hu=>simp only[List.getElem?_cons_zero,sj]at hu;rw[hu]
   refine h9 _ w' _ _ (hM.putd (sv:=.one av) (v:=l0o vr) (d:=d) hN (fun _=>?_)) hz;rw[l4];exact h7
  ·rename_i d6;refine h9 _ w' _ _ (hM.putd (sv:=.cmp .tup (d0h ns J)) (v:=l0o vr) (d:=d) hN (fun _=>?_)) hz;refine⟨vr.toArray,?_,fun k av W=>?_⟩
   ·match vr,g7 with
    | [],_=>rfl
    | [u],g7=>
     obtain⟨av,k0⟩:=a44.1 (g7.trans rfl);exact absurd k0 (d6 av)
    |_::_::_,_=>rfl
   obtain⟨u,hu,h7⟩:=c9 k av W;exact⟨u,by simpa using hu,h7⟩
theorem z0r(g:o.op=.call c)(h:c.callee=.value (.func f)):(execOp a.eval o).run P w=(callFunc f (c.args.map a.eval)).run P w:=by
 simp[execOp,g,resolve,h,Act.eval,Deferred.ofValue,invoke]
theorem w0c{t:Nat}(g:o.op=.call c)(h:c.callee=.value (.tmp t)){us:Array Value}(hv:a.eval (.tmp t)=.func (.func f) #[] us):(execOp a.eval o).run P w=(callFunc f (c.args.map a.eval++us)).run P w:=by
 simp[execOp,g,resolve,h,hv,Deferred.ofValue,invoke]
theorem u0h{vs:Array Value}(k:∀c,o.op≠.defer c)(g:(execOp a.eval o).run P w=.ok (.enter f vs) w)(R:Ending→World→Prop)(d:Calls P f vs w R)(b:∀e w',R e w'→∃v,e=.returned v∧next (a.put o.dst v) w'):o.wpIn (Fr ro) 0 P a w next Q:=by
 refine p0k k ?_
 rw[g,Oper.uponIn_enter];refine⟨fun h=>(by cases h),s0b (d.mono fun e w' h=>?_)⟩;obtain⟨v,rfl,i⟩:=b e w' h;exact i
theorem x0f{vs:Array Value}(g:∀c,o.op≠.defer c)(h:(execOp a.eval o).run P w=(callFunc f vs).run P w)(R:Ending→World→Prop)(i:∃v w',(callFunc f vs).run P w=.ok (.value v) w'∧R (.returned v) w')(d:∀e w',R e w'→∃v,e=.returned v∧next (a.put o.dst v) w'):o.wpIn (Fr ro) 0 P a w next Q:=by
 refine p0k g ?_
 obtain⟨v,w',k,b⟩:=i;rw[h,k,Oper.uponIn_value];obtain⟨v',e,j⟩:=d _ w' b;cases e;exact j
theorem v0e{s:FSem}{K:AE→Rs ρ}{z:ρ}(m:o.op=.call c)(n:c.callee=.value (.func f))(y:GOk G B)(d:FOk P G f s)(h:Rel B Γ N (a0f a) w σ)(A:a.tmps.size=N)(hf:fits N o=true)(D:Γ.call q o.dst s (c.args.toList.map Γ.opd) K=some z)(k:∀v w' Γ' σ',Rel B Γ' N (a0f (a.put o.dst v)) w' σ'→K Γ'=some z→next (a.put o.dst v) w'):o.wpIn (Fr ro) 0 P a w next Q:=by
 have j:∀x∈c.args.toList,b0e N x=true:=fun x F=>a0s hf x (by simp only[m,Op.operands,Call.operands,n];simp;exact .inr (by simpa using F));have e:∀p,o.op≠.defer p:=fun p t=>by rw[m]at t;cases t
 have r:(c.args.toList.map a.eval).toArray=c.args.map a.eval:=by rw[←Array.toList_map]
 have u:∀(i:Nat) av v,(c.args.toList.map Γ.opd)[i]?=some av→(c.args.toList.map a.eval)[i]?=some v→a0e (a0a w σ.ov) σ.g Γ.rt (Shr B w σ) av v:=by
  intro i av v b l;rw[a29]at b l;cases hi:c.args.toList[i]? with
  |none=>rw[hi]at b;cases b
  |some o'=>
   rw[hi]at b l;simp only[a26,sj]at b l;subst b;subst l;exact h.opd (j o' (a06 hi))
 rcases d with⟨d,E⟩|d;exact j0v (C:=Calls P f) (vals:=c.args.toList.map a.eval) (u0h e (by rw[s0t E m n,r])) (by simp) u y d h A D k;exact j0v (vals:=c.args.toList.map a.eval) (x0f e (by rw[z0r m n,r])) (by simp) u y d h A D k
theorem w0t{t:Nat}{vs:List AV}{s:FSem}{K:AE→Rs ρ}{z:ρ}(l:o.op=.call c)(r:c.callee=.value (.tmp t))(O:Γ.sl t=.cmp (.clo f) vs)(F:GOk G B)(e:FOk P G f s)(h:Rel B Γ N (a0f a) w σ)(H:a.tmps.size=N)(hf:fits N o=true)(I:Γ.call q o.dst s (c.args.toList.map Γ.opd++vs) K=some z)(k:∀v w' Γ' σ',Rel B Γ' N (a0f (a.put o.dst v)) w' σ'→K Γ'=some z→next (a.put o.dst v) w'):o.wpIn (Fr ro) 0 P a w next Q:=by
 have m:∀x∈c.args.toList,b0e N x=true:=fun x S=>a0s hf x (by simp only[l,Op.operands,Call.operands,r];simp;exact .inr (by simpa using S));have R:t<N:=by
  have:=a0s hf (.tmp t) (by simp only[l,Op.operands,Call.operands,r];simp)
  simpa[b0e]using this
 have n:=h.slots t R;rw[O]at n;obtain⟨us,⟨D,p⟩,h3⟩:=n;have p:a.eval (.tmp t)=.func (.func f) #[] us:=p;have j:∀y,o.op≠.defer y:=fun y A=>by rw[l]at A;cases A
 have E:∀(i:Nat) av v,(c.args.toList.map Γ.opd++vs)[i]?=some av→(c.args.toList.map a.eval++us.toList)[i]?=some v→a0e (a0a w σ.ov) σ.g Γ.rt (Shr B w σ) av v:=by
  intro i av v b d
  by_cases hi:i<c.args.toList.length
  ·rw[a03 (by simpa using hi),a29]at b d;cases hi':c.args.toList[i]? with
   |none=>rw[hi']at b;cases b
   |some o'=>
    rw[hi']at b d;simp only[a26,sj]at b d;subst b;subst d;exact h.opd (m o' (a06 hi'))
  rw[a10 (by simpa using hi),a57]at b d;obtain⟨u,J,L⟩:=h3 _ av b;rw[a09,J]at d;simp only[sj]at d;subst d;exact L
 rcases e with⟨e,M⟩|e;exact j0v (C:=Calls P f) (vals:=c.args.toList.map a.eval++us.toList) (u0h j (by rw[t0v M l r a w p];simp)) (by simp[D]) E F e h H I k;exact j0v (vals:=c.args.toList.map a.eval++us.toList) (x0f j (by rw[w0c l r p,show(c.args.toList.map a.eval++us.toList).toArray=c.args.map a.eval++us from by simp])) (by simp[D]) E F e h H I k
end
theorem n0q:∀(l:List Nat),r0v l=true→l.Nodup
 | [],_=>List.nodup_nil
 |a::l,h=>by
  simp only[r0v,bA,a39,List.contains_eq_mem,decide_eq_false_iff_not]at h;exact a05.2 ⟨h.1,n0q l h.2⟩
section
variable {ρ:Type}
inductive SlOk (nm:List Nat) (Γ:AE) (es:a0c) (i:Nat):SV→Prop
 |dead:SlOk nm Γ es i (.one .dead)
 |same (av:AV):Γ.get i=av→av≠.dead→(∀k q,(av=.ptr k q∨av=.sref k q∨∃o l,av=.swin k q o l)→k∈nm)→SlOk nm Γ es i (.one av)
 |made (n:Nat) (e:Ty):Ent.own i n e∈es→Γ.rt n=none→n∈nm→(Γ.get i=.nils∨Γ.get i=.empt)→SlOk nm Γ es i (.one (.sref n []))
 |clo (f:Nat) (ns:List Nat):Γ.sl i=.cmp (.clo f) (g0c ns)→(∀k∈ns,k∈nm)→SlOk nm Γ es i (.cmp (.clo f) (g0c ns))
theorem r0g:∀(vs:List AV)(ns:List Nat),i0g vs ns=true→vs=g0c ns
 | [],[],_=>rfl
 |v::vs,[],h=>by simp_all[i0g]
 | [],_::_,h=>by simp[i0g]at h
 |v::vs,m::ns,h=>by
  cases v with
  |ptr n p=>
   cases p with
   |nil=>
    simp[i0g]at h;rw[h.1,r0g vs ns h.2];rfl
   |cons=>simp[i0g]at h
  |_=>simp[i0g]at h
theorem p0p:∀(ns:List Nat)(k:Nat)(av:AV),(g0c ns)[k]?=some av→∃n∈ns,av=.ptr n []
 | [],k,av,h=>by simp[g0c]at h
 |n::ns,0,av,h=>by
  simp_all[g0c]
 |n::ns,k+1,av,h=>by
  obtain⟨m,g,e⟩:=p0p ns k av (by simpa[g0c]using h);exact⟨m,by simp[g],e⟩
theorem SlOk.cons{nm Γ es i v}(h:SlOk nm Γ es i v)(e:Ent):SlOk nm Γ (e::es) i v:=by
 cases h with
 |dead=>exact .dead
 |same av g1 g2 g3=>exact .same av g1 g2 g3
 |made n e' g1 g2 g3 g4=>exact .made n e' (a01 _ g1) g2 g3 g4
 |clo f ns g1 g2=>exact .clo f ns g1 g2
def i0b(r' r:Root):Prop:=r'=r∨(r'.bx=true∧r.bx=true∧r'.t.shn=r'.t∧castTo r'.t r.t r'.x=some r.x)
theorem s0n{m:Mem}:∀(q:a0n)(a b:Ty)(s:Src){t1 s1},a.le b=true→loc m a s q=some (t1,s1)→∃t2,loc m b s q=some (t2,s1)
 | [],a,b,s,t1,s1,h,g=>by
  simp[a0t]at g;obtain⟨-,rfl⟩:=g;exact⟨b,rfl⟩
 |.fst::p,a,b,s,t1,s1,h,g=>by
  obtain⟨a1,f,bl,o,rfl,rfl,g⟩:=e0n g;cases b with
  |pair b1 b2=>
   simp[Ty.le]at h;exact s0n p a1 b1 _ h.1 g
  |_=>simp[Ty.le]at h
 |.snd::p,a,b,s,t1,s1,h,g=>by
  obtain⟨a1,f,bl,o,rfl,rfl,g⟩:=e0o g;cases b with
  |pair b1 b2=>
   simp[Ty.le]at h;obtain⟨t2,k⟩:=s0n p f b2 _ h.2 g;rw[Ty.le_cells _ _ h.1]at k;exact⟨t2,k⟩
  |_=>simp[Ty.le]at h
 |.idx i::p,a,b,s,t1,s1,h,g=>by
  have d:a=b:=by
   rcases d0y g with⟨n,t,bl,o,rfl,rfl,hi,g⟩|⟨t,e,n,c,rfl,hv,hi,g⟩<;>simpa[Ty.le]using h
  simp_all
theorem i0b.loc{m:Mem}{r' r:Root}(h:i0b r' r){p:a0n}{s:Src}{t1 s1}(g:loc m r'.t s p=some (t1,s1)):∃t2,Ab.loc m r.t s p=some (t2,s1):=by
 rcases h with rfl|⟨-,-,-,h⟩
 all_goals grind[castTo,s0n]
theorem i0b.locL{r':Root}(h:i0b r' r){s:Src}{e s1}(g:Ab.loc m r'.t s p=some (.list true e,s1)):Ab.loc m r.t s p=some (.list true e,s1):=by
 rcases h with rfl|⟨-,-,h,-⟩;omega
 have:=f0n p _ _ h g
 simp[Ty.shn]at this
theorem a0e.recast{g g':Nat→Src}{rt rt':Nat→Option Root}{a:AV}(h:a0e m g rt Sh a v)(z:∀c,Sh c→Sh' c)(w:∀n p r,(a=.ptr n p∨a=.sref n p∨∃o l,a=.swin n p o l)→rt n=some r→g' n=g n∧∃f,rt' n=some f∧i0b r f):a0e m g' rt' Sh' a v:=by
 cases a with
 |ptr n p=>
  obtain⟨r,t,b,o,k,d,i⟩:=h;obtain⟨u,f,j,q⟩:=w n p r (.inl rfl) k;obtain⟨t2,x⟩:=q.loc d;exact⟨f,t2,b,o,j,by simp_all,i⟩
 |sref n p=>
  obtain⟨r,e,s,k,d,i⟩:=h;obtain⟨u,f,j,q⟩:=w n p r (.inr (.inl rfl)) k;exact⟨f,e,s,j,by rw[u];exact q.locL d,i⟩
 |swin n p o l=>
  obtain⟨r,e,s,a,l',c,k,d,i,j,q⟩:=h;obtain⟨u,f,x,y⟩:=w n p r (.inr (.inr ⟨_,_,rfl⟩)) k;exact⟨f,e,s,a,l',c,x,by rw[u];exact y.locL d,i,j,q⟩
 |_=>exact h.frame (fun _ _ _=>rfl) z (by rintro n p r t s (g|g|⟨_,_,g⟩)<;>cases g)
inductive RtOk (Γ:AE) (es:a0c) (n:Nat):Option Root→Prop
 |none:n∉es.names→RtOk Γ es n none
 |same (r r':Root):n∈es.names→Γ.rt n=some r'→i0b r' r→RtOk Γ es n (some r)
 |made (i:Nat) (e:Ty):n∈es.names→n<pinned→Ent.own i n e∈es→Γ.rt n=Option.none→(Γ.get i=.nils∨Γ.get i=.empt)→RtOk Γ es n (some ⟨false,.list true e,[]⟩)
theorem c0f(Γ:AE)(i j:Nat)(v:AV):(Γ.set i v).sl j=if j=i then .one v else Γ.sl j:=by
 simp_all[AE.set,AE.put]
theorem h0v(Γ:AE)(n m:Nat)(r:Option Root):(Γ.setRt n r).rt m=if m=n then r else Γ.rt m:=by
 simp_all[AE.setRt]
theorem b0n(b:List Nat)(Γ:AE):∀(es:a0c){K:es.ty.den→Rs ρ}{z:ρ},(∀n∈es.names,n∈b)→es.names.Nodup→a0c.rest b Γ es K=some z→
  ∃x,K x=some z∧(es.enc x).pd=none∧(∀i,SlOk b Γ es i ((es.enc x).sl i))∧∀n,RtOk Γ es n ((es.enc x).rt n)
 | [],K,z,_,_,h=>⟨(),h,rfl,fun i=>.dead,fun n=>.none (by simp[a0c.names])⟩
 |.sv i t::r,K,z,hnm,hnd,h=>by
  simp only[a0c.rest]at h
  split at h
  rename_i S x T
  split at h
  rename_i Q;subst Q;obtain⟨y,F,B,C,v⟩:=b0n b Γ r hnm hnd h;refine⟨(x,y),F,B,fun j=>?_,fun n=>?_⟩;show SlOk b Γ _ j (((a0c.enc r y).set i (.val S x)).sl j);rw[c0f];split;rename_i e;subst e;exact .same _ T (by simp) (by rintro k q (g|g|⟨o,l,g⟩)<;>cases g);exact(C j).cons _;show RtOk Γ _ n ((a0c.enc r y).rt n);cases hrt:(a0c.enc r y).rt n<;>have:=v n<;>rw[hrt]at this<;>cases this;exact .none (by assumption);exact .same _ _ (by assumption) (by assumption) (by assumption);rename_i D u d a s w A;exact .made D u d a (a01 _ s) w A;cases h;cases h
 |.own i n e::r,K,z,hnm,hnd,h=>by
  simp[a0c.names]at hnd;have I:∀m∈a0c.names r,m∈b:=fun m N=>hnm m (by simp[a0c.names,N]);have J:n∈b:=hnm n (by simp[a0c.names]);have G:∀(l:List e.den)(L:(a0c.ty r).den→Rs ρ),a0c.rest b Γ r L=some z→(∀y,L y=K (l,y))→
    SlOk b Γ (.own i n e::r) i (.one (.sref n []))→RtOk Γ (.own i n e::r) n (some ⟨false,.list true e,l⟩)→
    ∃x,K x=some z∧(a0c.enc (.own i n e::r) x).pd=none∧(∀j,SlOk b Γ (.own i n e::r) j ((a0c.enc (.own i n e::r) x).sl j))∧∀m,RtOk Γ (.own i n e::r) m ((a0c.enc (.own i n e::r) x).rt m):=by
   intro l L h W Z H;obtain⟨y,F,B,C,v⟩:=b0n b Γ r I hnd.2 h;refine⟨(l,y),by simp_all,B,fun j=>?_,fun m=>?_⟩;show SlOk b Γ _ j ((((a0c.enc r y).setRt n (some ⟨false,.list true e,l⟩)).set i (.sref n [])).sl j);rw[c0f];split;simp_all;exact(C j).cons _
   ·show RtOk Γ _ m (((a0c.enc r y).setRt n (some ⟨false,.list true e,l⟩)).rt m);rw[h0v];split;simp_all
    ·rename_i O;cases hrt:(a0c.enc r y).rt m with
     |none=>
      have:=v m
      rw[hrt]at this;cases this with
      |none g=>exact .none (by simp_all[a0c.names])
     |some rr=>
      have:=v m
      rw[hrt]at this;cases this with
      |same _ M d s g5=>exact .same rr M (by simp[a0c.names,d]) s g5
      |made D u d a s w A=>exact .made D u (by simp[a0c.names,d]) a (a01 _ s) w A
  simp[a0c.rest]at h
  split at h
  rename_i m N;rcases a0b h with⟨O,h⟩|⟨-,g⟩;obtain rfl:m=n:=by simp_all
  split at h
  rename_i u l H
  split at h
  rename_i X;subst X;exact G l _ h (fun _=>rfl) (.same _ N (by simp) (by simp_all)) (.same _ _ (by simp[a0c.names]) H (.inl rfl));simp_all;simp_all;simp_all;rename_i hi
  split at h
  rename_i H;obtain⟨hp,h⟩:=(a0b h).elim id fun h=>by grind
  exact G [] _ h (fun _=>rfl) (.made n e (by simp) H J (.inl hi)) (.made i e (by simp[a0c.names]) (by simp_all) (by simp) H (.inl hi));simp_all;rename_i hi
  split at h
  rename_i H;obtain⟨hp,h⟩:=(a0b h).elim id fun h=>by grind
  exact G [] _ h (fun _=>rfl) (.made n e (by simp) H J (.inr hi)) (.made i e (by simp[a0c.names]) (by simp_all) (by simp) H (.inr hi));simp_all;simp_all
 |.box n t::r,K,z,hnm,hnd,h=>by
  simp[a0c.names]at hnd;have I:∀m∈a0c.names r,m∈b:=fun m N=>hnm m (by simp[a0c.names,N]);simp[a0c.rest]at h;have G:∀(R:t.den)(L:(a0c.ty r).den→Rs ρ),a0c.rest b Γ r L=some z→(∀y,L y=K (R,y))→(∃M,Γ.rt n=some M∧i0b M ⟨true,t,R⟩)→
    ∃x,K x=some z∧(a0c.enc (.box n t::r) x).pd=none∧(∀j,SlOk b Γ (.box n t::r) j ((a0c.enc (.box n t::r) x).sl j))∧∀m,RtOk Γ (.box n t::r) m ((a0c.enc (.box n t::r) x).rt m):=by
   intro R L h W ⟨M,H,E⟩;obtain⟨y,F,B,C,v⟩:=b0n b Γ r I hnd.2 h;refine⟨(R,y),by simp_all,B,fun j=>(C j).cons _,fun m=>?_⟩;show RtOk Γ _ m (((a0c.enc r y).setRt n (some ⟨true,t,R⟩)).rt m);rw[h0v];split;rename_i e;subst e;exact .same _ _ (by simp[a0c.names]) H E
   ·rename_i O;cases hrt:(a0c.enc r y).rt m with
    |none=>
     have:=v m
     rw[hrt]at this;cases this with
     |none g=>exact .none (by simp_all[a0c.names])
    |some rr=>
     have:=v m
     rw[hrt]at this;cases this with
     |same _ M d s g5=>exact .same rr M (by simp[a0c.names,d]) s g5
     |made D u d a s w A=>exact .made D u (by simp[a0c.names,d]) a (a01 _ s) w A
  split at h
  rename_i S x H
  split at h
  rename_i Q;subst Q;exact G x _ h (fun _=>rfl) ⟨_,H,.inl rfl⟩
  split at h
  rename_i P
  split at h
  rename_i Y U;exact G Y _ h (fun _=>rfl) ⟨_,H,.inr ⟨rfl,rfl,P,U⟩⟩;simp_all;simp_all;simp_all
 |.ptr i n p::r,K,z,hnm,hnd,h=>by
  simp only[a0c.rest]at h
  split at h
  rename_i m q hi;obtain⟨E,h⟩:=(a0b h).elim id fun h=>by grind
  simp at E;obtain⟨J,rfl,hp⟩:=E;obtain rfl:=e0s _ _ hp;obtain⟨y,F,B,C,v⟩:=b0n b Γ r hnm hnd h;refine⟨y,F,B,fun j=>?_,fun c=>?_⟩;show SlOk b Γ _ j (((a0c.enc r y).set i (.ptr m q)).sl j);rw[c0f];split;rename_i e;subst e;exact .same _ hi (by simp) (by simp_all);exact(C j).cons _;show RtOk Γ _ c ((a0c.enc r y).rt c);cases hrt:(a0c.enc r y).rt c<;>have:=v c<;>rw[hrt]at this<;>cases this;exact .none (by assumption);exact .same _ _ (by assumption) (by omega) (by omega);rename_i D u d a s w A;exact .made D u d a (a01 _ s) w A;simp_all
 |.vp i t::r,K,z,hnm,hnd,h=>by
  simp only[a0c.rest]at h
  split at h
  rename_i S x T
  split at h
  rename_i Q;subst Q;obtain⟨y,F,B,C,v⟩:=b0n b Γ r hnm hnd h;refine⟨(x,y),F,B,fun j=>?_,fun n=>?_⟩;show SlOk b Γ _ j (((a0c.enc r y).set i (.vptr S x)).sl j);rw[c0f];split;rename_i e;subst e;exact .same _ T (by simp) (by rintro k q (g|g|⟨o,l,g⟩)<;>cases g);exact(C j).cons _;show RtOk Γ _ n ((a0c.enc r y).rt n);cases hrt:(a0c.enc r y).rt n<;>have:=v n<;>rw[hrt]at this<;>cases this;exact .none (by assumption);exact .same _ _ (by assumption) (by assumption) (by assumption);rename_i D u d a s w A;exact .made D u d a (a01 _ s) w A;cases h;cases h
 |.ref i n p::r,K,z,hnm,hnd,h=>by
  simp only[a0c.rest]at h
  split at h
  rename_i m q hi;obtain⟨E,h⟩:=(a0b h).elim id fun h=>by grind
  simp at E;obtain⟨J,rfl,hp⟩:=E;obtain rfl:=e0s _ _ hp;obtain⟨y,F,B,C,v⟩:=b0n b Γ r hnm hnd h;refine⟨y,F,B,fun j=>?_,fun c=>?_⟩;show SlOk b Γ _ j (((a0c.enc r y).set i (.sref m q)).sl j);rw[c0f];split;rename_i e;subst e;exact .same _ hi (by simp) (by simp_all);exact(C j).cons _;show RtOk Γ _ c ((a0c.enc r y).rt c);cases hrt:(a0c.enc r y).rt c<;>have:=v c<;>rw[hrt]at this<;>cases this;exact .none (by assumption);exact .same _ _ (by assumption) (by omega) (by omega);rename_i D u d a s w A;exact .made D u d a (a01 _ s) w A;simp_all
 |.rfi i n::r,K,z,hnm,hnd,h=>by
  simp only[a0c.rest]at h
  split at h
  rename_i m k hi;obtain⟨E,h⟩:=(a0b h).elim id fun h=>by grind
  simp at E;obtain⟨J,rfl⟩:=E;obtain⟨y,F,B,C,v⟩:=b0n b Γ r hnm hnd h;refine⟨((k:Int),y),F,B,fun j=>?_,fun c=>?_⟩;show SlOk b Γ _ j (((a0c.enc r y).set i (.sref m [.idx (k:Int).toNat])).sl j);rw[c0f];split;rename_i e;subst e;exact .same _ (by simp_all) (by simp) (by simp_all);exact(C j).cons _;show RtOk Γ _ c ((a0c.enc r y).rt c);cases hrt:(a0c.enc r y).rt c<;>have:=v c<;>rw[hrt]at this<;>cases this;exact .none (by assumption);exact .same _ _ (by assumption) (by omega) (by omega);rename_i D u d a s w A;exact .made D u d a (a01 _ s) w A;simp_all
 |.win i n p::r,K,z,hnm,hnd,h=>by
  simp only[a0c.rest]at h
  split at h
  rename_i m q o k hi;obtain⟨E,h⟩:=(a0b h).elim id fun h=>by grind
  simp at E;obtain⟨J,rfl,hp⟩:=E;obtain rfl:=e0s _ _ hp;obtain⟨y,F,B,C,v⟩:=b0n b Γ r hnm hnd h;refine⟨((o:Int),(k:Int),y),F,B,fun j=>?_,fun c=>?_⟩;show SlOk b Γ _ j (((a0c.enc r y).set i (.swin m q (o:Int).toNat (k:Int).toNat)).sl j);rw[c0f];split;rename_i e;subst e;exact .same _ (by simp_all) (by simp) (by simp_all);exact(C j).cons _;show RtOk Γ _ c ((a0c.enc r y).rt c);cases hrt:(a0c.enc r y).rt c<;>have:=v c<;>rw[hrt]at this<;>cases this;exact .none (by assumption);exact .same _ _ (by assumption) (by omega) (by omega);rename_i D u d a s w A;exact .made D u d a (a01 _ s) w A;simp_all
 |.clo i f ns::r,K,z,hnm,hnd,h=>by
  simp[a0c.rest]at h
  split at h
  rename_i f' vs hi;obtain⟨E,V⟩:=(a0b h).elim id fun h=>by grind
  simp at E;obtain⟨rfl,J,hp⟩:=E;obtain rfl:=r0g _ _ hp;obtain⟨y,F,B,C,v⟩:=b0n b Γ r hnm hnd V;refine⟨y,F,B,fun j=>?_,fun c=>?_⟩;show SlOk b Γ _ j (bif j==i then(SV.cmp (.clo f') (g0c ns))else(a0c.enc r y).sl j)
  by_cases e:j=i
  subst e
  simp
  exact .clo f' ns hi J;have u:(j==i)=false:=by simp_all
  simp[u];exact(C j).cons _;show RtOk Γ _ c ((a0c.enc r y).rt c);cases hrt:(a0c.enc r y).rt c<;>have:=v c<;>rw[hrt]at this<;>cases this;exact .none (by assumption);exact .same _ _ (by assumption) (by omega) (by omega);rename_i D u d a s w A;exact .made D u d a (a01 _ s) w A;simp_all
end
def Ent.fits(N:Nat):Ent→Bool
 |.sv i _|.own i _ _|.ptr i _ _|.ref i _ _|.rfi i _|.win i _ _|.vp i _|.clo i _ _=>decide (i<N)
 |.box _ _=>true
def a0c.fits(N:Nat)(es:a0c):Bool:=es.all (Ent.fits N)
section
variable {ρ:Type} {B:Base} {N:Nat} {tm:Nat→Value} {w:World}
theorem c0w(h:Rel B Γ N tm w σ)(hi:i<N):a0e (a0a w σ.ov) σ.g Γ.rt (Shr B w σ) (Γ.get i) (tm i):=by
 have:=h.slots i hi
 simp[AE.get]
 revert this
 cases Γ.sl i with
 |one v=>exact fun h=>h
 |cmp c vs=>exact fun _=>trivial
theorem Rel.vals{nm:List Nat}:∀(m:a0c) {Γ:AE} {σ:Gh}(_:Rel B Γ N tm w σ)(_:Γ.pd=none){K:m.ty.den→Rs ρ}{z:ρ}(_:m.fits N=true)(_:∀n∈m.names,n∈nm)(_:m.names.Nodup)(_:a0c.vals nm m Γ K=some z),
  ∃x Γf σf,K x=some z∧Rel B Γf N tm w σf∧Γf.pd=none∧(∀(j:Nat) t y,Γ.get j=.val t y→Γf.get j=.val t y)∧(m.enc x).pd=none∧(∀i,SlOk nm Γf m i ((m.enc x).sl i))∧∀n,RtOk Γf m n ((m.enc x).rt n):=by
 intro m
 induction m with
 |nil=>
  intro Γ σ h hpd K z hf hnm hnd d;obtain⟨x,k,a,b,c⟩:=b0n nm Γ [] hnm hnd d
  grind
 |cons e r ih=>
  intro Γ σ h hpd K z hf hnm hnd d;cases e with
  |sv i t=>
   simp only[a0c.fits,List.all_cons,bA,Ent.fits,dT]at hf;simp[a0c.vals]at d;obtain⟨o,d⟩:=(a0b d).resolve_right (fun g=>by grind);have key:∃x Γ1 σ1,a0c.vals nm r (Γ1.set i (.val t x)) (fun y=>K (x,y))=some z∧Rel B Γ1 N tm w σ1∧Γ1.pd=none∧VOk (a0a w σ1.ov) (Shr B w σ1) t x (tm i)∧
     ∀(j:Nat) l y,Γ.get j=.val l y→(Γ1.set i (.val t x)).get j=.val l y:=by
    have A:=c0w h hf.1;have other:(∀l y,Γ.get i≠.val l y)→∃x Γ1 σ1,a0c.vals nm r (Γ1.set i (.val t x)) (fun y=>K (x,y))=some z∧Rel B Γ1 N tm w σ1∧Γ1.pd=none∧VOk (a0a w σ1.ov) (Shr B w σ1) t x (tm i)∧
     ∀(j:Nat) l y,Γ.get j=.val l y→(Γ1.set i (.val t x)).get j=.val l y:=fun C=>by
     obtain⟨x,Γ1,σ1,k,a,b,c,-,J⟩:=h.asVB (.inl A) d;refine⟨x,Γ1,σ1,k,a,c.pd.trans hpd,b,fun j l y q=>?_⟩;have L:j≠i:=fun e=>C l y (e▸q)
     have:=J.2 j l y q
     simp_all[AE.get,c0f]
    cases hg:Γ.get i with
    |val l x=>
     rw[hg]at d A;simp[AE.asV]at d
     split at d
     rename_i x2 s;rw[hg]at o;simp[AV.exact]at o;subst o;rw[n0l]at s;cases s;refine⟨x,Γ,σ,d,h,hpd,A,fun j t2 y q=>?_⟩
     by_cases e:j=i
     subst e;rw[hg]at q;simp[AE.get];rw[c0f,if_pos rfl];omega;simp_all[AE.get,c0f];simp_all
    |_=>exact other (by rw[hg];intro l y e;cases e)
   obtain⟨x,Γ1,σ1,V,W,X,Y,Z⟩:=key;have k6:Rel B (Γ1.set i (.val t x)) N tm w σ1:=W.put (v:=tm i) (fun _=>Y) (fun j _=>by simp_all);obtain⟨y,Γf,σf,P,Q,R,D,S,T,U⟩:=ih k6 X (by simp_all[a0c.fits]) hnm hnd V;have M:Γf.get i=.val t x:=D i t x (by simp[AE.get];rw[c0f,if_pos rfl]);refine⟨(x,y),Γf,σf,P,Q,R,fun j l y' q=>D j l y' (Z j l y' q),S,fun j=>?_,fun n=>?_⟩;show SlOk nm Γf _ j (((a0c.enc r y).set i (.val t x)).sl j);rw[c0f];split;rename_i e;subst e;exact .same _ M (by simp) (by simp);exact(T j).cons _;show RtOk Γf _ n ((a0c.enc r y).rt n);cases hrt:(a0c.enc r y).rt n<;>have:=U n<;>rw[hrt]at this<;>cases this;exact .none (by assumption);exact .same _ _ (by assumption) (by omega) (by omega);rename_i O E F u G H I;exact .made O E F u (a01 _ G) H I
  |own i n e=>exact(fun⟨x,k,a,b,c⟩=>⟨x,Γ,σ,k,h,hpd,fun _ _ _ g=>g,a,b,c⟩) (b0n nm Γ _ hnm hnd d)
  |box n t=>exact(fun⟨x,k,a,b,c⟩=>⟨x,Γ,σ,k,h,hpd,fun _ _ _ g=>g,a,b,c⟩) (b0n nm Γ _ hnm hnd d)
  |ptr i n p=>exact(fun⟨x,k,a,b,c⟩=>⟨x,Γ,σ,k,h,hpd,fun _ _ _ g=>g,a,b,c⟩) (b0n nm Γ _ hnm hnd d)
  |vp i n=>exact(fun⟨x,k,a,b,c⟩=>⟨x,Γ,σ,k,h,hpd,fun _ _ _ g=>g,a,b,c⟩) (b0n nm Γ _ hnm hnd d)
  |ref i n p=>exact(fun⟨x,k,a,b,c⟩=>⟨x,Γ,σ,k,h,hpd,fun _ _ _ g=>g,a,b,c⟩) (b0n nm Γ _ hnm hnd d)
  |rfi i n=>exact(fun⟨x,k,a,b,c⟩=>⟨x,Γ,σ,k,h,hpd,fun _ _ _ g=>g,a,b,c⟩) (b0n nm Γ _ hnm hnd d)
  |clo i f ns=>exact(fun⟨x,k,a,b,c⟩=>⟨x,Γ,σ,k,h,hpd,fun _ _ _ g=>g,a,b,c⟩) (b0n nm Γ _ hnm hnd d)
  |win i n p=>exact(fun⟨x,k,a,b,c⟩=>⟨x,Γ,σ,k,h,hpd,fun _ _ _ g=>g,a,b,c⟩) (b0n nm Γ _ hnm hnd d)
theorem r0e:∀(r:a0c){i n e},Ent.own i n e∈r→n∈r.names
 |a::r,i,n,e,h=>by
  rcases mC.1 h with h|h;subst h;simp[a0c.names]
  have:=r0e r h
  cases a<;>simp[a0c.names,this]
def i0v:a0c→Nat→Nat
 | [],_=>0
 |.own i m _::r,n=>if m=n then i else i0v r n
 |_::r,n=>i0v r n
theorem c0z:∀(es:a0c){i n e},es.names.Nodup→Ent.own i n e∈es→i0v es n=i
 |.own j m e'::r,i,n,e,hnd,h=>by
  simp only[a0c.names,a05]at hnd;simp only[i0v];rcases mC.1 h with h|h;cases h;simp
  have:=r0e r h
  rw[if_neg (fun g=>hnd.1 (by rw[g];exact this))];exact c0z r hnd.2 h
 |.sv j t::r,i,n,e,hnd,h=>by
  rcases mC.1 h with h|h;cases h;exact c0z r hnd h
 |.box m t::r,i,n,e,hnd,h=>by
  simp only[a0c.names,a05]at hnd;rcases mC.1 h with h|h;cases h;exact c0z r hnd.2 h
 |.ptr j m p::r,i,n,e,hnd,h=>by
  rcases mC.1 h with h|h;cases h;exact c0z r hnd h
 |.vp j m::r,i,n,e,hnd,h=>by
  rcases mC.1 h with h|h;cases h;exact c0z r hnd h
 |.ref j m p::r,i,n,e,hnd,h=>by
  rcases mC.1 h with h|h;cases h;exact c0z r hnd h
 |.rfi j m::r,i,n,e,hnd,h=>by
  rcases mC.1 h with h|h;cases h;exact c0z r hnd h
 |.clo j m p::r,i,n,e,hnd,h=>by
  rcases mC.1 h with h|h;cases h;exact c0z r hnd h
 |.win j m p::r,i,n,e,hnd,h=>by
  rcases mC.1 h with h|h;cases h;exact c0z r hnd h
theorem Rel.cut(h:Rel B Γ N tm w σ)(Q:Γ.pd=none){es:a0c}(hf:es.fits N=true)(D:es.names.Nodup){X:AE}(hX:X.pd=none)(hs:∀i,SlOk es.names Γ es i (X.sl i))(E:∀n,RtOk Γ es n (X.rt n)):
  ∃σ',Rel B X N tm w σ':=by
 have h0:=h.ov_none Q
 let σ':Gh:=⟨fun n=>match Γ.rt n with|some _=>σ.g n|none=>.one (tm (i0v es n)),fun n=>match X.rt n with|some _=>σ.ow n|none=>[],none⟩
 have K:∀n r,Γ.rt n=some r→σ'.g n=σ.g n:=fun n r e=>by grind
 have C:∀n,Γ.rt n=none→σ'.g n=.one (tm (i0v es n)):=fun n e=>by grind
 have V:∀n r,X.rt n=some r→σ'.ow n=σ.ow n:=fun n r e=>by grind
 have P:∀n,X.rt n=none→σ'.ow n=[]:=fun n e=>by grind
 have G:∀n p,p∈σ'.ow n→p∈σ.ow n:=fun n p hp=>by
  grind
 have a:∀n c,c∈(σ'.ow n).map (·.1)→c∈(σ.ow n).map (·.1):=fun n c l=>by
  grind
 have q:∀c,Shr B w σ c→Shr B w σ' c:=fun c l=>⟨l.1,l.2.1,fun⟨n,d⟩=>l.2.2 ⟨n,a n c d⟩⟩;have o:a0a w σ'.ov=a0a w σ.ov:=by grind
 have O:∀n,n∈es.names→∃r,X.rt n=some r:=fun n d=>by
  cases hrt:X.rt n<;>have:=E n<;>rw[hrt]at this<;>cases this
  all_goals simp_all
 have v:∀n r,n∈es.names→Γ.rt n=some r→∃r2,X.rt n=some r2∧i0b r r2:=fun n r d K=>by
  cases hrt:X.rt n<;>have:=E n<;>rw[hrt]at this<;>cases this
  all_goals simp_all
 have y:∀i e n,Ent.own i n e∈es→i<N:=fun i e n U=>by
  have:=lA.1 hf _ U
  simp_all[Ent.fits]
 refine⟨σ',fun n r d=>?_,fun n d=>P n d,fun n=>?_,fun n m s c l M=>h.disj n m s c (a n c l) (a m c M),fun n p hp=>h.live n p (G n p hp),fun i hi=>?_,?_,h.size,h.frame,fun c ⟨n,d⟩=>h.mine c ⟨n,a n c d⟩,fun i b J s=>?_,h.still⟩
 ·have:=E n
  rw[d]at this;rw[o,V n r d];cases this with
  |same _ r5 g1 g2 g5=>
   rw[K n r5 g2];rcases g5 with rfl|⟨e1,W,Y,S⟩;exact(h.roots n _ g2).mono q;obtain⟨O',R,z,H,L⟩:=(h.roots n r5 g2).rd;have Z:=g0n Y z;subst Z;refine⟨[],R,l0g S z,fun c l=>q c (H c l),?_⟩;rcases L with⟨-,b,I,k5⟩|⟨I,-⟩;exact .inl ⟨W,b,I,by rw[k5,(q0s S).2]⟩;simp_all
  |made i e g1 g1' g2 g3 g4=>
   rw[C n g3,c0z es D g2,h.norm n g3];have hi:=y i e n g2;have j:=c0w h hi;refine⟨[],[],?_,by simp,.inr ⟨rfl,⟨_,rfl⟩,⟨e,rfl⟩,rfl⟩⟩;show a0x _ true e.cells (dec _ e) (some (tm i))=some (([]:List e.den),[],[]);rcases g4 with g4|g4;rw[g4]at j;have j:tm i=.slice none 0 0:=j;rw[j];rfl
   ·rw[g4]at j;obtain⟨A,j⟩:=j;rw[j];cases A with
    |none=>rfl
    |some A=>rfl
 ·cases e:X.rt n with
  |none=>simp_all
  |some r=>rw[V n r e];exact h.nodup n
 ·have x:=hs i
  revert x
  generalize X.sl i=sv;intro x;have j:=c0w h hi;cases x with
  |dead=>trivial
  |clo f ns g1 g2=>
   have J:=h.slots i hi;rw[g1]at J;obtain⟨us,z,H⟩:=J;refine⟨us,z,fun k av T=>?_⟩;obtain⟨u,L,I⟩:=H k av T;obtain⟨m,U,rfl⟩:=p0p ns k av T;refine⟨u,L,?_⟩;rw[o];refine I.recast q fun n p r l t=>?_
   simp_all
  |same av g1 g2 g3=>
   rw[g1]at j;show a0e _ _ _ _ av _;rw[o];exact j.recast q fun n p r l t=>⟨K n r t,v n r (g3 n p l) t⟩
  |made n e g1 g2 g3 g4=>
   obtain⟨r,F⟩:=O n g3
   have:=E n
   rw[F]at this;cases this with
   |same _ _ z H=>simp_all
   |made i' e' z k1' H L I=>
    refine⟨_,e',.one (tm i),F,?_,rfl⟩;rw[C n g2,c0z es D g1];rfl
 show f0y _ _ _ X.pd none;rw[hX];trivial
 ·obtain⟨r,d⟩:=Option.ne_none_iff_exists'.1 s
  have:=E (pinned+i)
  rw[d]at this;cases this with
  |same _ _ g1 g2=>rw[K _ _ g2];exact h.pins i b J (by simp_all)
  |made i' e g1 g1'=>omega
theorem Rel.dcd(h:Rel B Γ N tm w σ){es:a0c}(hf:es.fits N=true){K:es.ty.den→Rs ρ}{z:ρ}(k:es.dcd Γ K=some z):∃x σ',K x=some z∧Rel B (es.enc x) N tm w σ':=by
 unfold a0c.dcd at k
 split at k
 rename_i a;obtain⟨f,k⟩:=(a0b k).elim id fun h=>by grind
 have f:=n0q _ f;obtain⟨x,Γf,σf,j,b,c,-,d,e,i⟩:=Rel.vals es h a hf (fun _ g=>g) f k;obtain⟨σ',l⟩:=b.cut c hf f d e i
 grind
 simp_all
end
structure CxOk (P:Program) (cx:Cx):Prop extends CxTy P cx where
 C:∀f s,cx.C f=some s→FOk P cx.G f s
section
variable {P:Program} {B:Base} {N:Nat} {ρ:Type} {Γ:AE} {a:Act} {w:World} {σ:Gh} {cx:Cx} {ro:Option Nat}
theorem a0i.wp{K:AE→Rs ρ}{z:ρ}(f:∀c,o.op≠.defer c)(h:a0i P B N o a w K z)(k:∀v w' Γ' σ',Rel B Γ' N (a0f (a.put o.dst v)) w' σ'→K Γ'=some z→next (a.put o.dst v) w'):o.wpIn (Fr ro) 0 P a w next Q:=by
 obtain⟨v,w',Γ',σ',g,b,d⟩:=h;refine p0k f ?_
 rcases g with h|⟨h,rfl⟩
 all_goals grind[Oper.uponIn_value,Oper.uponIn_skip]
theorem e0w(b:CxOk P cx)(j:GOk cx.G B){o:Oper}{q:Bool}{K:AE→Rs ρ}{z:ρ}{next:Act→World→Prop}{Q:Exit→Act→World→Prop}
  (h:Rel B Γ N (a0f a) w σ)(l:a.tmps.size=N)(hf:fits N o=true)(n:aop cx q o Γ K=some z)
  (k:∀v w' Γ' σ',Rel B Γ' N (a0f (a.put o.dst v)) w' σ'→K Γ'=some z→next (a.put o.dst v) w'):o.wpIn (Fr ro) 0 P a w next Q:=by
 by_cases d:∃c v,o.op=.call c∧c.callee=.value v
 ·obtain⟨c,v,i,d⟩:=d;have g:(match v with|.func f=>(match cx.C f with|some s=>Γ.call q o.dst s (c.args.toList.map Γ.opd) K|none=>none)|.tmp t=>(if q then none else match Γ.sl t with|.cmp (.clo f) p=>(match cx.C f with|some s=>Γ.call q o.dst s (c.args.toList.map Γ.opd++p) K|none=>none)|_=>none)|_=>none)=some z:=by
   cases hd:o.dst<;>simp only[aop,i,hd,d]at n<;>rw[←n]<;>cases v<;>rfl
  cases v with
  |func f=>
   simp at g
   split at g
   rename_i s m;exact v0e i d j (b.C f s m) h l hf g k;cases g
  |tmp t=>
   simp only[]at g
   split at g
   grind
   split at g
   rename_i f p m
   split at g
   rename_i s r;exact w0t i d m j (b.C f s r) h l hf g k;cases g;cases g
  |_=>simp only[]at g;cases g
 refine(w0p b.toCxTy j (fun c v i e=>d ⟨c,v,i,e⟩) h l hf n).wp (fun u e=>?_) k;simp_all[aop]
theorem p0n{Γ:AE}{x:Operand}(h:p0m Γ x=some n):∃t,x=.tmp t∧Γ.sl t=.one (.ptr n [])∧pinned≤n:=by
 unfold p0m at h
 grind
theorem l0p{Γ:AE}(h:h0x o Γ=some n):∃t,(o.op=.move (.tmp t)∨o.op=.nilCheck (.tmp t))∧Γ.sl t=.one (.ptr n [])∧pinned≤n:=by
 unfold h0x at h
 split at h
 rename_i x k;obtain⟨t,rfl,g,f⟩:=p0n h;simp_all;rename_i x k;obtain⟨t,rfl,g,f⟩:=p0n h;simp_all;simp_all
theorem r0f{ρ:Type}{cx:Cx}{o:Oper}{Γ:AE}{n d:Nat}(h:h0x o Γ=some n)(hd:o.dst=some d){q:Bool}(K:AE→Rs ρ):aop cx q o Γ K=K (Γ.put d (.one (.ptr n []))):=by
 obtain⟨t,g|g,f,-⟩:=l0p h;simp_all[aop];simp[aop,g,hd,AE.opd,AE.get,f];rfl
theorem q0l{m:Mem}:∀(p:a0n)(t:Ty)(s:Src){t' τ s'},loc m t s p=some (t',s')→tyF t p=some τ→t'=τ
 | [],t,s,t',τ,s',h,h2=>by
  simp only[loc,a0t,sj,pJ]at h;simp only[tyF,sj]at h2;rw[←h.1,h2]
 |.fst::p,t,s,t',τ,s',h,h2=>by
  obtain⟨a,b,bl,o,rfl,rfl,h⟩:=e0n h;exact q0l p a _ h h2
 |.snd::p,t,s,t',τ,s',h,h2=>by
  obtain⟨a,b,bl,o,rfl,rfl,h⟩:=e0o h;exact q0l p b _ h h2
 |.idx i::p,t,s,t',τ,s',h,h2=>by cases t<;>cases h2
theorem q0k:∀(p:a0n)(t:Ty)(x:t.den){τ},tyF t p=some τ→(b0c t x p).1=τ
 | [],t,x,τ,h=>by simp only[tyF,sj]at h;subst h;rfl
 |.fst::p,.pair a b,x,τ,h=>q0k p a x.1 h
 |.snd::p,.pair a b,x,τ,h=>q0k p b x.2 h
 |.idx i::p,t,x,τ,h=>by cases t<;>cases h
 |.fst::p,.unit,_,_,h|.fst::p,.int _,_,_,h|.fst::p,.bool,_,_,h|.fst::p,.str,_,_,h|.fst::p,.list _ _,_,_,h|.fst::p,.arr _ _,_,_,h|.fst::p,.nl _,_,_,h=>by cases h
 |.snd::p,.unit,_,_,h|.snd::p,.int _,_,_,h|.snd::p,.bool,_,_,h|.snd::p,.str,_,_,h|.snd::p,.list _ _,_,_,h|.snd::p,.arr _ _,_,_,h|.snd::p,.nl _,_,_,h=>by cases h
theorem Rel.cell_of{tm}(h:Rel B Γ N tm w σ){n r p b o e}(m:Γ.rt n=some r)(q:loc (a0a w σ.ov) r.t (σ.g n) p=some (.list true e,.at b o))(hp:p.all Step.isField=true)(l:Γ.pdElem=true):
  w.cell? ⟨b,o,none⟩=a0a w σ.ov b o:=by
 cases hov:σ.ov with
 |none=>rfl
 |some ov=>
  obtain⟨z,E,u⟩:=ov;have f:=h.pend;rw[hov]at f;cases hpd':Γ.pd with
  |none=>rw[hpd']at f;exact f.elim
  |some x=>
   obtain⟨n2,k,G⟩:=x;rw[hpd']at f;obtain⟨r2,H,q1,a⟩:=f;rw[←hov]at a;have i:k.all Step.isField=false:=by simpa[AE.pdElem,hpd']using l
   have s:∀rest,p≠k++rest:=fun rest e=>by rw[e,List.all_append,i]at hp;simp at hp
   have d:¬ (b=z∧o=E):=by
    rintro⟨rfl,rfl⟩
    by_cases hn:n=n2
    subst hn;rw[m]at q1;cases q1;obtain⟨F,R,v,I,D,J,K,L⟩:=h.sep m;obtain⟨y,O2,R2,_,_,_,_,C,-,-,-⟩:=b0h k r.t _ v a
    have:=(h0q (m':=fun c j=>if c=b∧j=o then none else a0a w σ.ov c j) k p r.t (σ.g n) v a C D (fun c j=>by
     by_cases hc:c=b∧j=o
     exact .inr (.inl ⟨hc.1,by omega,by simp only[Ty.cells];omega⟩);exact .inl (by simp only[if_neg hc])) (fun rest e=>absurd e (s rest)) q).2 _ _ rfl s
    have A:a0a w σ.ov b o=some u:=by rw[hov];simp[a0a]
    simp[Src.rd,A]at this;exact h.disj n n2 hn b (h.place m q) (h.place q1 a)
   simp only[a0a,if_neg d]
theorem i0q{x:Operand}{n p τ}(h:Γ.ptrTy x=some (n,p,τ)):∃t r,x=.tmp t∧Γ.sl t=.one (.ptr n p)∧Γ.rt n=some r∧tyF r.t p=some τ:=by
 unfold AE.ptrTy at h
 split at h
 rename_i t
 split at h
 rename_i b p' a
 split at h
 rename_i r k;obtain⟨τ',f,g⟩:=a21.1 h;simp only[pJ]at g;obtain⟨rfl,rfl,rfl⟩:=g;exact⟨t,r,rfl,a,k,f⟩;cases h;cases h;cases h
theorem z0s(i:CxOk P cx)(V:GOk cx.G B){v:AV}{K:AE→Rs ρ}{z:ρ}(g:Γ.stay cx o=some v)(hd:o.dst=some d)(hv:v.still=true)(M:Γ.pdElem=true)(h:Rel B Γ N (a0f a) w σ)(J:a.tmps.size=N)(hf:fits N o=true)(S:K (Γ.put d (.one v))=some z)(k:∀v w' Γ' σ',Rel B Γ' N (a0f (a.put o.dst v)) w' σ'→K Γ'=some z→next (a.put o.dst v) w'):o.wpIn (Fr ro) 0 P a w next Q:=by
 unfold AE.stay at g
 split at g
 rename_i t j
 split at g
 rename_i u E;obtain⟨-,g⟩:=(a0b g).elim id fun h=>by cases h.2
 cases g;refine e0w (q:=true) i V h J hf (z:=z) (K:=K) ?_ k;simp only[aop,j,hd,E];exact S;cases g;rename_i s x f j
 split at g
 rename_i n p τ hp;obtain⟨t,r,rfl,H,l,I⟩:=i0q hp
 split at g
 rename_i W;cases g;refine e0w (q:=true) i V h J hf (z:=z) (K:=K) ?_ k;have X:(b0k p r.t r.x).1=τ:=q0k p r.t r.x I;simp only[aop,j,hd,AE.opd,AE.get,H,l];show(if b0y (b0k p r.t r.x).1 f=true∧cx.T s=some (b0k p r.t r.x).1.sh then _ else _)=_
 rw[X,if_pos W];exact S;cases g;cases g;rename_i s x j
 split at g
 rename_i n p e hp;obtain⟨t,r,rfl,H,l,I⟩:=i0q hp
 split at g
 rename_i τ hT;obtain⟨L,g⟩:=(a0b g).elim id fun h=>by cases h.2
 cases g;obtain⟨Y,hty⟩:=i.T s _ hT;have c:∀y∈(o.op.operands.toList),b0e N y=true:=a0s hf;rw[j]at c;have Z:t<N:=by simpa[b0e]using c (.tmp t) (by simp[Op.operands])
 have C:=h.slots t Z;rw[H]at C;obtain⟨r',t1,b,off,U,D,F⟩:=C;rw[l]at U;cases U;have O:=q0l p r.t _ D I;subst O;obtain⟨O',R,k1,-,-,-,-,-⟩:=h.sep l;obtain⟨y,O2,R2,_,_,_,_,hy,-,-,-⟩:=b0h p r.t _ k1 D;obtain⟨u,E,-⟩:=e0c _ hy 0 (by simp[Ty.cells]);have hw:w.cell? ⟨b,off,none⟩=some u:=by rw[h.cell_of l D hv M];exact E
 have m:τ.isAgg=false:=by cases τ<;>first|rfl|cases L
 refine a0i.wp (fun c' A=>by rw[j]at A;cases A) (a0i.set hd J (v:=u) (av:=.sref n p) ?_ h ⟨r,e,.at b off,l,D,E⟩ S) k;have F:a.eval (.tmp t)=.pointer (some ⟨b,off,none⟩):=F;simp[execOp,j,F,Instr.loadAt,Instr.sureAddr,loadVar,e0v hty,m,hw];cases g;cases g;cases g
theorem p0v(k:CxOk P cx)(c:GOk cx.G B){o:Oper}{md:Md}{K:AE→Rs ρ}{z:ρ}{next:Act→World→Prop}{Q:Exit→Act→World→Prop}
  (h:Rel B Γ N (a0f a) w σ)(e:a.tmps.size=N)(hf:fits N o=true)(g:c0o cx md o Γ K=some z)
  (f:∀v w' Γ' σ',Rel B Γ' N (a0f (a.put o.dst v)) w' σ'→K Γ'=some z→next (a.put o.dst v) w'):o.wpIn (Fr ro) 0 P a w next Q:=by
 cases md with
 |x=>exact e0w k c h e hf g f
 |w ws=>
  simp[c0o]at g
  split at g
  obtain⟨-,g⟩:=(a0b g).elim id fun h=>by grind
  grind[e0w]
  simp_all
 |r ns=>
  simp only[c0o]at g;obtain⟨-,g⟩:=(a0b g).elim id fun h=>by grind
  split at g
  refine e0w k c h e hf g fun v w' Γ' σ' hr hK=>f v w' Γ' σ' hr ?_
  grind
  simp_all
 |p=>
  simp[c0o]at g
  split at g
  rename_i n d hp hd;refine e0w (q:=true) k c h e hf (z:=z) (K:=K) ?_ f;simp_all[r0f];simp_all
 |a ws=>
  simp[c0o]at g
  split at g
  obtain⟨-,g⟩:=(a0b g).elim id fun h=>by cases h.2
  exact e0w k c h e hf g f;cases g
 |b ws=>
  simp only[c0o]at g
  split at g
  obtain⟨-,g⟩:=(a0b g).elim id fun h=>by cases h.2
  refine e0w k c h e hf g fun v w' Γ' σ' hr hK=>f v w' Γ' σ' hr ?_
  split at hK
  exact((a0b hK).elim id fun h=>by cases h.2).2;cases hK;cases g
 |s=>
  simp only[c0o]at g
  split at g
  rename_i v d l hd;obtain⟨j,g⟩:=(a0b g).elim id fun h=>by cases h.2
  obtain⟨hv,i⟩:=Bool.and_eq_true_iff.1 j;exact z0s k c l hd hv i h e hf g f;cases g
 |q=>
  simp only[c0o]at g;obtain⟨-,g⟩:=(a0b g).elim id fun h=>by grind
  grind[e0w]
 |v=>
  simp only[c0o]at g
  split at g
  rename_i n hp
  split at g
  rename_i d hd;refine e0w (q:=true) k c h e hf (z:=z) (K:=K) ?_ f;simp_all[r0f];simp_all;obtain⟨-,g⟩:=(a0b g).elim id fun h=>by grind
  split at g
  refine e0w k c h e hf g fun v w' Γ' σ' hr hK=>f v w' Γ' σ' hr ?_
  grind
  simp_all
def f0p(N:Nat)(ops:List Oper)(o:Oper):Bool:=fits N o&&(match o.guard with
 |some (j,_)=>(match g0f ops j with
  |some g=>decide (g<N)
  |none=>true)
 |none=>true)
theorem k0h{ops:List Oper}(h:f0p N ops o=true):fits N o=true:=by
 simp_all[f0p]
theorem Rel.skip(h:Rel B Γ N (a0f a) w σ)(g:a.tmps.size=N)(d:Option Nat):Rel B (Γ.setD d .skp) N (a0f (a.put d undef)) w σ:=by
 cases d with
 |none=>exact h
 |some d=>exact h.putd g fun _=>rfl
theorem Rel.same(h:Rel B Γ N (a0f a) w σ){g:Nat}(k:Γ.get g=av):Rel B (Γ.set g av) N (a0f a) w σ:=by
 refine h.put (v:=a0f a g) (fun f=>?_) (fun i _=>by simp_all)
 have:=c0w h f
 rw[k]at this;exact this
theorem w0l{ops:Array Oper}{j g:Nat}(h:g0f ops.toList j=some g)(f:g<a.tmps.size):yielded ops a.tmps j=match a0f a g with|.bool b=>some b|_=>none:=by
 have h:(ops[j]?).bind (·.dst)=some g:=by simpa[g0f]using h
 simp[yielded,h,a0f,Array.getElem?_eq_getElem f]
 grind
theorem u0d(l:CxOk P cx)(s:GOk cx.G B){ops:Array Oper}{md:Md}{K:AE→Rs ρ}{z:ρ}(h:Rel B Γ N (a0f a) w σ)(i:a.tmps.size=N)(hf:f0p N ops.toList o=true)(e:a0m cx md ops.toList o Γ K=some z)(k:∀v w' Γ' σ',Rel B Γ' N (a0f (a.put o.dst v)) w' σ'→K Γ'=some z→next (a.put o.dst v) w'):
  if Region.wanted o (yielded ops a.tmps)then o.wpIn (Fr ro) 0 P a w next Q else((∀f,o.about P w a.eval=some f→(Fr ro).fn f)∧next (a.put o.dst undef) w):=by
 have m:=k0h hf;unfold a0m at e
 split at e
 rename_i t;rw[if_pos (by simp[Region.wanted,t])]
 grind[p0v]
 rename_i j n t
 split at e
 grind
 rename_i g q;have r:g<N:=by
  simp_all[f0p]
 have p:=w0l (a:=a) q (by omega);have d:=c0w h r
 split at e
 rename_i b c;rw[c]at d;have u:=a0e.bool d;rw[u]at p;simp at p;cases b<;>cases n<;>simp only[cT,cF]at e;rw[if_pos (by simp_all[Region.wanted])];exact p0v l s (h.same c) i m e k;rw[if_neg (by simp_all[Region.wanted])];exact⟨fun _ _=>trivial,k _ w _ _ ((h.same c).skip i o.dst) e⟩;rw[if_neg (by simp_all[Region.wanted])];exact⟨fun _ _=>trivial,k _ w _ _ ((h.same c).skip i o.dst) e⟩;rw[if_pos (by simp_all[Region.wanted])];exact p0v l s (h.same c) i m e k;rename_i c;rw[c]at d;have d:a0f a g=undef:=d;rw[d]at p;simp[undef]at p;rw[if_neg (by simp_all[Region.wanted])];exact⟨fun _ _=>trivial,k _ w _ _ (h.skip i o.dst) e⟩;simp_all
theorem u0e(g:CxOk P cx)(f:GOk cx.G B){ops:Array Oper}{Q:Exit→Act→World→Prop}{D:List Deferred}{z:ρ}:∀(l:List (Md×Oper)) {Γ:AE} {a:Act} {w:World} {σ:Gh} {K:AE→Rs ρ} (_:Rel B Γ N (a0f a) w σ) (_:a.tmps.size=N) (_:a.defers=D)
  (_:∀p∈l,f0p N ops.toList p.2=true) (_:h0m cx ops.toList l Γ K=some z) (_:∀a' w' Γ' σ',Rel B Γ' N (a0f a') w' σ'→a'.tmps.size=N→a'.defers=D→K Γ'=some z→Q .normal a' w'),
  wpListIn (Fr ro) 0 P ops Q (l.map (·.2)) a w
 | [],Γ,a,w,σ,K,h,hN,hD,_,hz,hQ=>hQ a w Γ σ h hN hD hz
 |(md,o)::l,Γ,a,w,σ,K,h,hN,hD,hf,hz,hQ=>by
  simp[h0m]at hz
  have:=u0d (ro:=ro) (next:=wpListIn (Fr ro) 0 P ops Q (l.map (·.2))) (Q:=Q) g f h hN (hf (md,o) (by simp)) hz fun v w' Γ' σ' hr hK=>
   u0e g f l hr (by rw[j0n];omega) (by simp_all[i0n]) (fun p hp=>hf p (by grind)) hK hQ
  simp only[a07,wpListIn];omega
end
theorem f0v{B:Base}{N:Nat}{tm:Nat→Value}{w:World}{ρ:Type}:∀(os:f0x){Γ:AE}{σ:Gh}(_:Rel B Γ N tm w σ){e:Ex}{K:os.den→Rs ρ}{z:ρ}(_:os.all (fun p=>p.2.fits N)=true) (_:os.pack e Γ K=some z),
  ∃y X σ',K y=some z∧Rel B X N tm w σ'∧∀{ρ':Type}(g:Ex→AE→Rs ρ'),os.open y g=g e X
 | [],Γ,σ,h,e,K,z,hf,hz=>by simp_all[f0x.pack]
 | [(e',s)],Γ,σ,h,e,K,z,hf,hz=>by
  simp only[f0x.pack]at hz
  split at hz
  rename_i a;subst a;obtain⟨x,σ',f,k⟩:=h.dcd (by simp_all) hz;exact⟨x,_,σ',f,k,fun g=>rfl⟩;simp_all
 |(e',s)::x::r,Γ,σ,h,e,K,z,hf,hz=>by
  simp[f0x.pack]at hz
  split at hz
  rename_i a;subst a;obtain⟨y,σ',f,k⟩:=h.dcd (by simp_all) hz;exact⟨.inl y,_,σ',f,k,fun g=>rfl⟩;obtain⟨y,X,σ',f,k,b⟩:=f0v (x::r) h (by
   grind) hz
  exact⟨.inr y,X,σ',f,k,fun g=>b g⟩
theorem v0w{σ β:Type}{f:σ→Option (σ ⊕ β)}{s:σ}{b:β}(h:v0v f s=some b):∃n,j0z f n s=some b:=by
 unfold v0v at h
 split at h
 all_goals grind
theorem x0l{σ β:Type}{f:σ→Option (σ ⊕ β)}{s:σ}{b:β}(h:y0s f s=some b):∃n,j0z f n s=some b:=by
 grind[y0s,v0w]
end Go.Ab
