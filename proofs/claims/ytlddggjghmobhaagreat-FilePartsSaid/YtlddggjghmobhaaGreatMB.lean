/- Part of the proof: LibQ. Conditions: as each statement tells. -/
import Derived.Laws.MakeOwn
import Derived.Great.FillDense
import Derived.Laws.AppendOwn
import Derived.MapKept
import Derived.CallsIn
import Derived.Test.YtlddggjghmobhaaGreatMA
noncomputable section
set_option linter.unusedSimpArgs false
set_option linter.unusedVariables false
open Array renaming getElem?_toList→a09,getElem?_eq_some_iff→a28,length_toList→a29,range→a44,mapM_eq_mapM_toList→a45,getElem_push_lt→a53,toArray_toList→a54,foldl_toList→a58
open Bool renaming not_eq_true'→a34,or_eq_false_iff→a55,false_eq_true→a59,not_eq_true→a63
open List renaming mem_map_of_mem→a00,length_eq_zero_iff→a01,mem_map→a03,map_cons→a05,getElem?_append_left→a06,mem_of_getElem?→a08,getElem?_cons_zero→a10,getElem?_toArray→a11,getElem?_append_right→a12,mem_cons_of_mem→a13,nodup_cons→a14,length→a15,nodup_append→a16,append→a17,getElem?_cons_succ→a20,pairwise_iff_getElem→a22,length_nil→a23,getD→a24,replicate→a25,mem_append_left→a27,drop_eq_getElem_cons→a30,nil_append→a31,getElem?_map→a35,take_succ_eq_append_getElem→a37,mem_append_right→a38,mem_iff_getElem?→a39,map_nil→a41,mem_singleton→a43,size_toArray→a46,take→a47,append_nil→a50,length_eq_one_iff→a51,length_replicate→a52,take_set_of_le→a56,set→a57,take_length→a62,length_map→a65,drop_zero→a66,drop→a67
open Nat renaming lt_of_lt_of_le→a02,le_refl→a04,zero_add→a07,mul_le_mul_right→a18,add_sub_cancel_left→a19,add_mul→a21,le_trans→a26,add_zero→a40,mul_le_mul→a42,le_of_eq→a49,le_of_lt→a60,lt_trichotomy→a61,mul_eq_zero→a64
open Option renaming map_some→a32,bind_eq_some_iff→a33,map_eq_some_iff→a36,isSome_iff_exists→a48
namespace Go.Ab
theorem Rel.ov_lt{B Γ N tm w σ}(h:Rel B Γ N tm w σ){b o v}(g:σ.ov=some (b,o,v)):b<w.heap.size:=by
 have hp:=h.pend;rw[g]at hp;cases hpd:Γ.pd with
 |none=>rw[hpd]at hp;exact hp.elim
 |some x=>
  obtain⟨n,p,d⟩:=x;rw[hpd]at hp;obtain⟨r,e,k,f⟩:=hp;rw[←g]at f;exact h.lt ⟨n,h.place k f⟩
theorem Rel.memo_new{B Γ N tm w σ}(h:Rel B Γ N tm w σ){w':World}{cs:Array Value}{e fr}(f:w'.heap[w.heap.size]?=some (.cells cs e fr))(j:Nat):a0a w' σ.ov w.heap.size j=cs[j]?:=by
 have k:w'.cell? ⟨w.heap.size,j,none⟩=cs[j]?:=by simp_all[World.cell?]
 unfold a0a;split;rename_i b o v g
 have:=h.ov_lt g
 grind
 omega
theorem Rel.memo_old{B Γ N tm w σ}(_:Rel B Γ N tm w σ){w':World}(h:∀c,c<w.heap.size→w'.heap[c]?=w.heap[c]?){c j:Nat}(g:c<w.heap.size):a0a w' σ.ov c j=a0a w σ.ov c j:=
 b0q _ (h c g) j
theorem Rel.newBox{ρ:Type}{B Γ N tm w σ}{q:Bool}{n:Nat}{t:Ty}{x:t.den}{K:AE→Rs ρ}{z:ρ}(h:Rel B Γ N tm w σ)(v:Γ.fresh q n ⟨true,t,x⟩ K=some z){w':World}
  (f:∀c,c<w.heap.size→w'.heap[c]?=w.heap[c]?)(d:w.heap.size≤w'.heap.size){cs:Array Value}{e:TypeId}(k:w'.heap[w.heap.size]?=some (.cells cs e (0,0)))(r:cs.size=t.cells){R}
  (u:dec (a0a w σ.ov) t (fun j=>cs[j]?)=some (x,[],R))(i:∀c∈R,Shr B w σ c)(hio:c0o w'=c0o w:=by first|rfl|assumption):
  ∃Γ' σ',K Γ'=some z∧Rel B Γ' N tm w' σ'∧a0e (a0a w' σ'.ov) σ'.g Γ'.rt (Shr B w' σ') (.ptr n []) (.pointer (some ⟨w.heap.size,0,none⟩)):=by
 have hd:dec (a0a w' σ.ov) t ((Src.at w.heap.size 0).rd (a0a w' σ.ov))=some (x,[],R):=a0k t u (fun j _=>by simp[Src.rd];exact h.memo_new k j)
  (fun b j a=>by
   rcases a with a|a;simp_all;exact h.memo_old f (i b a).1)
 obtain⟨Γ',σ',l,m,o,p,y,A⟩:=h.fresh v f d (s:=.at w.heap.size 0) (O:=[(w.heap.size,t.cells)]) (by simp) (by simp)
  (by simp;exact⟨cs,e,0,0,k,by omega,.inl rfl⟩) ⟨[],R,hd,i,.inl ⟨rfl,_,rfl,rfl⟩⟩
 exact⟨Γ',σ',l,m,_,t,w.heap.size,0,o,by rw[p];rfl,rfl⟩
theorem Rel.newSlice{ρ:Type}{B Γ N tm w σ}{q:Bool}{n:Nat}{e:Ty}{l:List e.den}{K:AE→Rs ρ}{z:ρ}(h:Rel B Γ N tm w σ)(I:Γ.fresh q n ⟨false,.list true e,l⟩ K=some z){w':World}
  (f:∀c,c<w.heap.size→w'.heap[c]?=w.heap[c]?)(r:w.heap.size≤w'.heap.size){cs:Array Value}{t:TypeId}{fr}(k:w'.heap[w.heap.size]?=some (.cells cs t fr)){c:Nat}(m:fr.2=fr.1∨c*e.cells≤fr.1)(d:c*e.cells≤cs.size)(F:l.length≤c){R}
  (G:a0d (fun i=>dec (a0a w σ.ov) e fun j=>cs[i*e.cells+j]?) l.length 0=some (l,[],R))(u:∀c∈R,Shr B w σ c)(hio:c0o w'=c0o w:=by first|rfl|assumption):
  ∃Γ' σ',K Γ'=some z∧Rel B Γ' N tm w' σ'∧a0e (a0a w' σ'.ov) σ'.g Γ'.rt (Shr B w' σ') (.sref n []) (.slice (some ⟨w.heap.size,0,none⟩) l.length c)∧σ'.ov=σ.ov∧Γ'=Γ.newRt n ⟨false,.list true e,l⟩:=by
 have H:a0d (fun i=>dec (a0a w' σ.ov) e fun j=>a0a w' σ.ov w.heap.size (0+(i*e.cells+j))) l.length 0=some (l,[],R):=by
  have E:dec (a0a w σ.ov) (.arr l.length e) (fun j=>cs[j]?)=some (l,[],R):=G;refine a0k (.arr l.length e) E (rd':=fun j=>a0a w' σ.ov w.heap.size (0+j)) (fun j _=>?_) (fun b j a=>?_);show a0a w' σ.ov w.heap.size (0+j)=_;rw[a07];exact h.memo_new k j;rcases a with a|a;simp_all;exact h.memo_old f (u b a).1
 have o:b0c w' w.heap.size (c*e.cells):=⟨cs,t,fr.1,fr.2,k,d,m⟩
 let O:b0k:=if c=0 then[]else[(w.heap.size,0+c*e.cells)]
 have J:∀p∈O,p=(w.heap.size,0+c*e.cells):=by
  grind
 have hd:dec (a0a w' σ.ov) (.list true e) ((Src.one (.slice (some ⟨w.heap.size,0,none⟩) l.length c)).rd (a0a w' σ.ov))=some (l,O,R):=by
  show a0w (a0a w' σ.ov) true e.cells (dec (a0a w' σ.ov) e) (some (.slice (some ⟨w.heap.size,0,none⟩) l.length c))=_;simp only[a0w]
  grind
 obtain⟨Γ',σ',v,x,y,A,C,D⟩:=h.fresh I f r (s:=.one (.slice (some ⟨w.heap.size,0,none⟩) l.length c)) (O:=O) (by
   grind) (by grind)
  (fun p hp=>by grind) ⟨O,R,hd,u,.inr ⟨rfl,⟨_,rfl⟩,⟨e,rfl⟩,rfl⟩⟩
 exact⟨Γ',σ',v,x,⟨_,e,_,y,by rw[A];rfl,rfl⟩,C,D⟩
theorem u0u{P:Program}{cx:Cx}{d t:Nat}{τ:Ty}(g:CxTy P cx)(h:cx.own d t=some τ):a0i P τ (.inl t)=true:=by
 unfold Cx.own at h
 split at h
 split at h
 rename_i hT;simp at h;subst h;rw[←d0g];exact(g.T t _ hT).2;simp_all;exact(g.T t _ h).2
theorem p0v{m:Mem}{e:Ty}{z:Array Value}(g:c0q e (fun j=>z[j]?)=true)(hs:z.size=e.cells)(n:Nat):a0d (fun i=>dec m e fun j=>(madeCells z (n*e.cells))[i*e.cells+j]?) n 0=some (a25 n e.dflt,[],[]):=by
 refine i0p n 0 fun i _ hi=>a0k e (e0c (m:=m) e g) (fun j f=>?_) (fun _ _ _=>rfl);have h:i*e.cells+j<n*e.cells:=by
  have:(i+1)*e.cells≤n*e.cells:=a18 _ (by omega)
  grind
 have k:(i*e.cells+j)%e.cells=j:=by simp_all[Nat.mod_eq_of_lt]
 simp_all[madeCells]
section
variable {P:Program} {B:Base} {N:Nat} {ρ:Type} {Γ:AE} {a:Act} {w:World} {σ:Gh}
theorem b0x(o:Obj)(c:Nat)(h:c<w.heap.size):(w.alloc o).heap[c]?=w.heap[c]?:=A0b w o c h
theorem b0r(o:Obj):(w.alloc o).heap[w.heap.size]?=some o:=by
 show(w.heap.push o)[w.heap.size]?=_
 simp
theorem c0l(o:Obj):w.heap.size≤(w.alloc o).heap.size:=by
 simp
theorem a0j.sets{o:Oper}{K:AE→Rs ρ}{z:ρ}{d:Nat}{v:Value}{w':World}{av:AV}(hd:o.dst=some d)(k:a.tmps.size=N)(f:(execOp a.eval o).run P w=.ok (.value v) w')
  (h:∃Γ' σ',K (Γ'.set d av)=some z∧Rel B Γ' N (a0f a) w' σ'∧a0e (a0a w' σ'.ov) σ'.g Γ'.rt (Shr B w' σ') av v):a0j P B N o a w K z:=by
 grind[a0j.set]
theorem x0s{o:Oper}{t:TypeId}{d:Nat}{cx:Cx}{q:Bool}{K:AE→Rs ρ}{z:ρ}(f:CxTy P cx)(b:o.op=.alloc t)(hd:o.dst=some d)
  (h:Rel B Γ N (a0f a) w σ)(e:a.tmps.size=N)(k:aop cx q o Γ K=some z):a0j P B N o a w K z:=by
 simp[aop,b,hd]at k
 split at k
 rename_i τ hT;have hty:=u0u f hT;obtain⟨I⟩:=a0m (a0s hty);have g:(execOp a.eval o).run P w=.ok (.value (.pointer (some ⟨w.heap.size,0,none⟩))) (w.alloc (.cells I.z.cells t)):=by
  simp[execOp,b,Instr.alloc,I.zeroValue,newVar,newRow]
 exact a0j.sets hd e g (h.newBox k (fun c i=>b0x _ c i) (c0l _) (b0r _) I.zsize (e0c _ I.zok) (by simp));simp_all
theorem B0g{o:Oper}{t:TypeId}{x:Operand}{d:Nat}{cx:Cx}{q:Bool}{K:AE→Rs ρ}{z:ρ}(E:o.op=.box t x)(hd:o.dst=some d)(v:(bif q then none else Γ.aggOf x)=none)
  (h:Rel B Γ N (a0f a) w σ)(D:a.tmps.size=N)(hf:fits N o=true)(i:aop cx q o Γ K=some z):a0j P B N o a w K z:=by
 have G:=h.opd (a0r hf x (by simp[E,Op.operands]));simp[aop,E,hd,v]at i
 split at i
 rename_i τ hT;obtain⟨y,Γ1,σ1,i,l,hv,-,-⟩:=h.asV (.inl G) i;have e:(execOp a.eval o).run P w=.ok (.value (.pointer (some ⟨w.heap.size,0,none⟩))) (w.alloc (.cells (a.eval x).cells t)):=by
  simp_all[execOp,Instr.box,newVar,newRow]
 obtain⟨-,-,R,C,s⟩:=id hv
 split at i
 
 have n:=b0r (w:=w) (.cells (a.eval x).cells t);have k:∀c,c<w.heap.size→(w.alloc (.cells (a.eval x).cells t)).heap[c]?=w.heap[c]?:=fun c f=>b0x _ c f;have p:=c0l (w:=w) (.cells (a.eval x).cells t);have A:w.heap.size<(w.alloc (.cells (a.eval x).cells t)).heap.size:=by simp
 have F:=l.ext k p;have m:dec (a0a (w.alloc (.cells (a.eval x).cells t)) σ1.ov) τ ((Src.at w.heap.size 0).rd (a0a (w.alloc (.cells (a.eval x).cells t)) σ1.ov))=some (y,[],R):=
  a0k τ C (fun j _=>by simp[Src.rd];exact l.memo_new n j) (fun b j r=>by
   rcases r with r|r;simp_all;exact l.memo_old k (s b r).1)
 have u:∀c,Shr B w σ1 c→Shr B (w.alloc (.cells (a.eval x).cells t)) σ1 c:=fun c f=>⟨a02 f.1 p,f.2⟩;exact a0j.set hd D e F (av:=.vptr τ y) ⟨w.heap.size,0,R,rfl,m,⟨A,.inr (.inr l.size),fun g=>by have:=l.lt g;omega⟩,fun c f=>u c (s c f)⟩ i;exact a0j.sets hd D e (l.newBox i (fun c f=>b0x _ c f) (c0l _) (b0r _) hv.cells.1 C s);simp_all
theorem y0g{av:AV}{t:Ty}{K:t.den→Rs ρ}{z:ρ}(h:av.isVal t K=some z):∃x,av=.val t x∧K x=some z:=by
 cases av with
 |val t' x=>
  simp only[AV.isVal]at h
  grind
 |_=>cases h
theorem q0z{av:AV}{k:IntKind}{K:Int→Rs ρ}{z:ρ}(h:av.isVal (.int k) K=some z):∃x:Int,av=.val (.int k) x∧K x=some z:=y0g h
theorem r0s{o:Oper}{t:TypeId}{x y:Operand}{d:Nat}{cx:Cx}{q:Bool}{K:AE→Rs ρ}{z:ρ}(j:CxTy P cx)(b:o.op=.makeSlice t x y)(hd:o.dst=some d)
  (h:Rel B Γ N (a0f a) w σ)(X:a.tmps.size=N)(hf:fits N o=true)(g:aop cx q o Γ K=some z):a0j P B N o a w K z:=by
 have D:=h.opd (a0r hf x (by simp[b,Op.operands]));have E:=h.opd (a0r hf y (by simp[b,Op.operands]));simp[aop,b,hd]at g
 split at g
 rename_i O e hT;obtain⟨l,s,g⟩:=q0z g;obtain⟨c,u,g⟩:=q0z g;rw[s]at D;rw[u]at E;rcases a0b g with⟨k,g⟩|⟨-,g⟩;simp only[bA,dT,lim]at k;obtain⟨H,J,S⟩:=k;have hty:=u0u j hT;obtain⟨v,L,r,C⟩:=b0w hty;obtain⟨I⟩:=a0m (a0s r);have f:=run_make (P:=P) w t v I.i I.z L I.info I.zero .i64 .i64 l c H J (by
  have:=I.bytes
  have W:((I.i.bytes*c.toNat:Nat):Int)≤((32768*2147483648:Nat):Int):=Int.ofNat_le.2 (a42 this (by omega))
  grind) (by omega)
 rw[I.size]at f;have p:(execOp a.eval o).run P w=.ok (.value (.slice (some ⟨w.heap.size,0,none⟩) l.toNat c.toNat)) (w.alloc (.cells (madeCells I.z.cells (c.toNat*e.cells)) v)):=by
  simp only[execOp,b,a0e.int D,a0e.int E,Sem.run_bind];simp_all
 have n:=p0v (m:=a0a w σ.ov) I.zok I.zsize c.toNat
 obtain⟨Γ',σ',T,U,V,-,-⟩:=h.newSlice (c:=c.toNat) g (fun c k=>b0x _ c k) (c0l _) (b0r (Obj.cells (madeCells I.z.cells (c.toNat*e.cells)) v)) (.inl rfl) (by simp_all[size_madeCells])
  (by grind) (R:=[]) (by
   rw[a52];refine i0p _ 0 fun i _ hi=>?_
   obtain⟨x',O,r',A,B',Q,G,F,M,Y,Z⟩:=b0a _ 0 i n (by omega);rw[a07]at F;rw[F];rw[List.getElem?_replicate,if_pos (by omega)]at M;simp_all) (by simp)
 grind[a0j.set]
 simp_all;simp_all
theorem q0u(off:Nat)(l:List Value)(i:Nat)(cs:Array Value):((l.zipIdx i).foldl (fun cs (c:Value×Nat)=>cs.setIfInBounds (off+c.2) c.1) cs).size=cs.size∧
  ∀k,((l.zipIdx i).foldl (fun cs (c:Value×Nat)=>cs.setIfInBounds (off+c.2) c.1) cs)[k]?=if off+i≤k∧k<off+i+l.length∧k<cs.size then l[k-(off+i)]? else cs[k]?:=by
 induction l generalizing i cs with
 |nil=>exact⟨rfl,fun k=>by rw[if_neg (by grind)];rfl⟩
 |cons v l ih=>
  obtain⟨h,g⟩:=ih (i+1) (cs.setIfInBounds (off+i) v);refine⟨by simp_all,fun k=>?_⟩;simp only[List.zipIdx_cons,List.foldl_cons]
  grind
end
def q0g(t:Ty)(place:Nat→Option (Nat×Nat)):Prop:=∀i,AE.pathOk t i=true→∃τ' k,place i=some (k,τ'.cells)∧k+τ'.cells≤t.cells∧∀(m:Mem) b o,loc m t (.at b o) (AE.pathOf t i)=some (τ',.at b (o+k))
theorem r0c(n:Nat)(e:Ty):q0g (.arr n e) fun i=>some (i*e.cells,e.cells):=by
 intro i hi;simp only[AE.pathOk,dT]at hi;refine⟨e,i*e.cells,rfl,?_,fun m b o=>?_⟩
 have:(i+1)*e.cells≤n*e.cells:=a18 _ (by omega)
 rw[Nat.succ_mul]at this;exact this;show(if i<n then a0t m [] e (.at b (o+i*e.cells))else none)=_
 rw[if_pos hi];rfl
theorem A0k{m:Mem}{Sh:Nat→Prop}{sz:Nat}(C:∀c,Sh c→c<sz){t τ':Ty}{cs:Array Value}{x:t.den}{R i k}(hd:dec m t (fun j=>cs[j]?)=some (x,[],R))(B:∀c∈R,Sh c)
  (S:∀(m:Mem) b o,loc m t (.at b o) (AE.pathOf t i)=some (τ',.at b (o+k)))(W:k+τ'.cells≤cs.size){y:τ'.den}{v:Value}(hv:VOk m Sh τ' y v):
  ∃R',dec m t (fun j=>(v.cells.zipIdx.foldl (fun cs (c,j)=>cs.setIfInBounds (k+j) c) cs)[j]?)=some (b0s t x (AE.pathOf t i) τ' y,[],R')∧∀c∈R',Sh c:=by
 obtain⟨T,-⟩:=hv.cells;obtain⟨-,-,R2,F,w⟩:=hv;have d:v.cells.zipIdx.foldl (fun cs (c,j)=>cs.setIfInBounds (k+j) c) cs=(v.cells.toList.zipIdx 0).foldl (fun cs (c:Value×Nat)=>cs.setIfInBounds (k+c.2) c.1) cs:=by
  rw[←a58];simp
 obtain⟨-,g⟩:=q0u k v.cells.toList 0 cs;rw[d];generalize (v.cells.toList.zipIdx 0).foldl (fun cs (c:Value×Nat)=>cs.setIfInBounds (k+c.2) c.1) cs=cs' at g
 let m0:Mem:=fun c j=>if c=sz then cs[j]? else m c j
 let a:Mem:=fun c j=>if c=sz then cs'[j]? else m c j
 have l:∀c,Sh c→c≠sz:=fun c f e=>by have:=C c f;omega
 have E:∀c j,Sh c→m0 c j=m c j:=fun c j f=>by simp only[m0];rw[if_neg (l c f)]
 have s:∀c j,Sh c→a c j=m c j:=fun c j f=>by simp only[a];rw[if_neg (l c f)]
 have H:dec m0 t ((Src.at sz 0).rd m0)=some (x,[],R):=a0k t hd (fun j _=>by simp[Src.rd,m0]) (fun b j h=>by
  rcases h with h|h;simp at h;exact E b j (B b h))
 have r:=S m0 sz 0;obtain⟨X,L,R1,U,V,J,K,D,-,M,-⟩:=b0f _ t _ H r;have z:L=[]:=by
  have:=congrArg a15 M
  simp at this;exact a01.1 (by omega)
 subst z;have O:dec a τ' ((Src.at sz (0+k)).rd a)=some (y,[],R2):=a0k τ' F (fun j Q=>by
   simp only[Src.rd,a,if_true,a07,g,a40];rw[if_pos ⟨by omega,by simp;omega,by omega⟩,a19];simp) (fun b j h=>by
  rcases h with h|h;simp at h;exact s b j (w b h))
 have u:Sep (Src.at sz 0) [] R:=⟨by simp,by simp,fun c f=>⟨by simp,fun e=>l c (B c f) e⟩⟩;have q:Chg m0 a (Src.at sz 0) [] R sz (0+k) τ'.cells []:=fun c j=>by
  by_cases f:c=sz
  by_cases Q:k≤j∧j<k+τ'.cells
  exact .inr (.inl ⟨f,by omega,by omega⟩);refine .inl ?_
  simp only[m0,a,if_pos f,g];rw[if_neg (by simp only[a29];omega)];exact .inl (by simp only[m0,a,if_neg f])
 obtain⟨A,B',G,N,I,P⟩:=p0x _ t _ H r D O u q;have n:A=[]∧B'=[]:=by
  have:=congrArg a15 N
  simp at this;exact⟨a01.1 (by omega),a01.1 (by omega)⟩
 rw[n.1,n.2]at I;have p:∀c∈G,Sh c:=fun c f=>(P c f).elim (B c) (w c);exact⟨G,a0k t I (fun j _=>by simp[Src.rd,a]) (fun b j h=>by
  rcases h with h|h;simp at h;exact(s b j (p b h)).symm),p⟩
section
variable {P:Program} {B:Base} {N:Nat} {ρ:Type} {Γ:AE} {a:Act} {w:World} {σ:Gh}
theorem m0l{q:Bool}{t:Ty}{place:Nat→Option (Nat×Nat)}(hp:q0g t place):∀(l:List (Nat×Operand)) {Γ:AE} {σ:Gh} {x:t.den} {cs:Array Value} {R} {K:t.den→AE→Rs ρ} {z:ρ},Rel B Γ N (a0f a) w σ→
  (∀y∈l,b0m N y.2=true)→cs.size=t.cells→dec (a0a w σ.ov) t (fun j=>cs[j]?)=some (x,[],R)→(∀c∈R,Shr B w σ c)→Γ.fills q t l x K=some z→
  ∃y f Γ' σ' r,K y Γ'=some z∧Rel B Γ' N (a0f a) w σ'∧Instr.fill place cs (l.map fun(i,x)=>(i,a.eval x))=some f∧f.size=t.cells∧dec (a0a w σ'.ov) t (fun j=>f[j]?)=some (y,[],r)∧(∀c∈r,Shr B w σ' c)
 | [],Γ,σ,x,cs,R,K,z,h,_,hs,hd,hR,g=>⟨x,cs,Γ,σ,R,g,h,rfl,hs,hd,hR⟩
 |(i,o)::l,Γ,σ,x,cs,R,K,z,h,hl,hs,hd,hR,g=>by
  unfold AE.fills at g;rcases a0b g with⟨hi,g⟩|⟨-,g⟩;obtain⟨τ',k,O,Y,C⟩:=hp i hi;have n:(a0p t x (AE.pathOf t i)).1=τ':=by
   have M:dec (fun c j=>if c=w.heap.size then cs[j]? else a0a w σ.ov c j) t ((Src.at w.heap.size 0).rd fun c j=>if c=w.heap.size then cs[j]? else a0a w σ.ov c j)=some (x,[],R):=
    a0k t hd (fun j _=>by simp[Src.rd]) (fun b j e=>by
     rcases e with e|e;simp at e
     have:=(hR b e).1
     exact if_neg (by omega))
   obtain⟨Z,X,R1,V,W,D,E,T,n,-⟩:=b0f _ t _ M (C _ _ _);rw[n]
  generalize hgg:a0p t x (AE.pathOf t i)=gg at g n;obtain⟨t2,y2⟩:=gg;simp only at n;subst n;simp only at g;obtain⟨y,Γ1,σ1,g,P,hv,m,-⟩:=h.asV (.inl (h.opd (hl _ (List.mem_cons_self ..)))) g;have A:dec (a0a w σ1.ov) t (fun j=>cs[j]?)=some (x,[],R):=by rw[m.ov];exact hd
  obtain⟨r,Q,S⟩:=A0k (sz:=w.heap.size) (fun c v=>v.1) A (fun c v=>m.shr c (hR c v)) C (by omega) hv;obtain⟨y',f,Γ',σ',s,F,G,H,I,J,L⟩:=m0l hp l P (fun u U=>hl u (a13 _ U)) (cs:=(a.eval o).cells.zipIdx.foldl (fun cs (c,j)=>cs.setIfInBounds (k+j) c) cs) (by
   have d:(a.eval o).cells.zipIdx.foldl (fun cs (c,j)=>cs.setIfInBounds (k+j) c) cs=((a.eval o).cells.toList.zipIdx 0).foldl (fun cs (c:Value×Nat)=>cs.setIfInBounds (k+c.2) c.1) cs:=by
    rw[←a58];simp
   rw[d,(q0u k _ 0 cs).1];exact hs) Q S g
  refine⟨y',f,Γ',σ',s,F,G,?_,I,J,L⟩;have p:=hv.cells.1;simp only[a05,Instr.fill,O];have p:(a.eval o).cells.size=t2.cells:=p;rw[if_neg (by simp;omega)];exact H;cases g
theorem s0v{q:Bool}{e:Ty}{n:Nat}:∀(l:List (Nat×Operand)) (Γ:AE) (x:List e.den) (K:List e.den→AE→Rs ρ),Γ.lit q e n l x K=Γ.fills q (.arr n e) l x K
 | [],_,_,_=>rfl
 |(i,o)::l,Γ,x,K=>by
  show(bif decide (i<n)then Γ.asV q e (Γ.opd o) (fun y Γ'=>Γ'.lit q e n l (x.set i y) K)else none) =
   (bif decide (i<n)then Γ.asV q e (Γ.opd o) (fun y Γ'=>Γ'.fills q (.arr n e) l (b0s (.arr n e) x [.idx i] e y) K)else none)
  congr 2;funext y Γ';rw[s0v l];congr 1;show x.set i y=a57 x i (if h:e=e then h▸y else _)
  rw[dif_pos rfl]
theorem q0q{o:Oper}{t:TypeId}{n:Nat}{ps:Array (Nat×Operand)}{d:Nat}{cx:Cx}{q:Bool}{K:AE→Rs ρ}{z:ρ}(V:CxTy P cx)(S:o.op=.buildSlice t n ps)(hd:o.dst=some d)
  (hO:∀o' e,cx.T t=some (.list o' e)→(bif q || !e.isList then none else cx.O d)=none)
  (h:Rel B Γ N (a0f a) w σ)(hN:a.tmps.size=N)(hf:fits N o=true)(l:aop cx q o Γ K=some z):a0j P B N o a w K z:=by
 have u:∀y∈(o.op.operands.toList),b0m N y=true:=a0r hf;rw[S]at u;simp only[aop,S,hd]at l
 split at l
 rename_i o' e hT;rw[hO o' e hT]at l;rcases a0b l with⟨r,l⟩|⟨-,l⟩;simp only[bA,dT,lim]at r;rw[s0v]at l;obtain⟨h5,hty⟩:=V.T t _ hT;obtain⟨k,hu,X,h3⟩:=b0w hty;obtain⟨I⟩:=a0m (a0s X);obtain⟨y,f,Γ',σ',Q,D,C,g3,g4,E,U⟩:=m0l (r0c n e) ps.toList h (fun y hy=>u y.2 (by
   simp only[Op.operands];exact a03.2 ⟨y,hy,rfl⟩)) (cs:=madeCells I.z.cells (n*e.cells)) (size_madeCells _ _) (p0v (m:=a0a w σ.ov) I.zok I.zsize n) (by simp) l
 have E:a0d (fun i=>dec (a0a w σ'.ov) e fun j=>f[i*e.cells+j]?) n 0=some (y,[],Q):=E;have H:=b0b n 0 E;have h4:n*e.cells=0→n=0:=fun e0=>by
  rcases a64.1 e0 with e1|e1;exact e1;omega
 have v:(execOp a.eval o).run P w=.ok (.value (.slice (some ⟨w.heap.size,0,none⟩) n n)) (w.alloc (.cells f k)):=by
  have G:¬ (n*e.cells > 2^24):=by omega
  have L:(ps.map fun(i,x)=>(i,a.eval x)).toList=ps.toList.map fun(i,x)=>(i,a.eval x):=by simp
  by_cases h0:n*e.cells=0
  have:(a44 (n*e.cells)).map (fun i=>(#[]:Array Value)[i%(#[]:Array Value).size]!)=madeCells I.z.cells (n*e.cells):=by
   rw[h0];simp[madeCells]
  have p:=g3;rw[←this]at p;simp only[execOp,S,Instr.buildSlice,Sem.run_bind,run_underlying hu,Result.andThen_ok,I.sizeOf,if_neg G,if_pos h0,Sem.run_pure,L,p,newRow]
  simp
  have p:Instr.fill (fun i=>some (i*e.cells,e.cells)) ((a44 (n*e.cells)).map (I.z.cells[·%I.z.cells.size]!)) (ps.toList.map fun(i,x)=>(i,a.eval x))=some f:=g3;simp only[execOp,S,Instr.buildSlice,Sem.run_bind,run_underlying hu,Result.andThen_ok,I.sizeOf,if_neg G,if_neg h0,Sem.run_pure,I.zeroValue,L,p,newRow]
  simp
 have A:a15 (show List e.den from y)=n:=H;rcases a0b D with⟨-,D⟩|⟨-,D⟩;have s:∀c,c<w.heap.size→(w.alloc (.cells f k)).heap[c]?=w.heap[c]?:=fun c r=>b0x _ c r;have h2:=C.ext s (c0l _);have M:∀c,Shr B w σ' c→Shr B (w.alloc (.cells f k)) σ' c:=fun c ⟨a1,a2,a3⟩=>⟨a02 a1 (c0l _),a2,a3⟩;have J:Shr B (w.alloc (.cells f k)) σ' w.heap.size:=⟨(a28.1 (b0r (w:=w) (Obj.cells f k))).1,.inr (.inr C.size),fun g=>Nat.lt_irrefl _ (C.lt g)⟩;have Y:a0d (fun i=>dec (a0a (w.alloc (.cells f k)) σ'.ov) e fun j=>a0a (w.alloc (.cells f k)) σ'.ov w.heap.size (0+(i*e.cells+j))) n 0=some (y,[],Q):=by
  have h1:dec (a0a w σ'.ov) (.arr n e) (fun j=>f[j]?)=some (y,[],Q):=E;refine a0k (.arr n e) h1 (rd':=fun j=>a0a (w.alloc (.cells f k)) σ'.ov w.heap.size (0+j)) (fun j _=>?_) (fun b j F=>?_);show a0a _ σ'.ov w.heap.size (0+j)=_;rw[a07];exact C.memo_new (b0r (Obj.cells f k)) j;rcases F with F|F;simp at F;exact C.memo_old s (U b F).1
 have W:∃R,dec (a0a (w.alloc (.cells f k)) σ'.ov) (.list false e) ((Src.one (.slice (some ⟨w.heap.size,0,none⟩) n n)).rd (a0a (w.alloc (.cells f k)) σ'.ov))=some (y,[],R)∧∀c∈R,Shr B (w.alloc (.cells f k)) σ' c:=by
  show ∃R,a0w (a0a (w.alloc (.cells f k)) σ'.ov) false e.cells (dec (a0a (w.alloc (.cells f k)) σ'.ov) e) (some (.slice (some ⟨w.heap.size,0,none⟩) n n))=some (y,[],R)∧_;simp only[a0w];rw[if_pos ⟨.inr trivial,a04 _⟩,Y];simp only[a59,if_false];split;exact⟨[],rfl,by simp⟩;refine⟨w.heap.size::Q,by simp;rfl,fun c r=>?_⟩;rcases mC.1 r with rfl|r;exact J;exact M c (U c r)
 obtain⟨R2,Z,k2⟩:=W;exact a0j.set hd hN v h2 (av:=.val (.list false e) y) (VOk.one (t:=.list false e) rfl rfl Z k2 rfl) D;obtain⟨Γ2,σ2,Z,k2,k3,-,-⟩:=C.newSlice (c:=n) D (fun c r=>b0x _ c r) (c0l _) (b0r (Obj.cells f k)) (.inl rfl) (a49 g4.symm) (a49 A) (by rw[A];exact E) U;rw[A]at k3;exact a0j.set hd hN v k2 k3 Z;cases l;cases l
theorem l0h{P:Program}{w:World}:∀(fs:List Field),(∀f∈fs,∃i,P.info? f.type=some i)→
  ∃l:List (Nat×Nat),(fs.mapM fun f=>do pure (f.offset,←sizeOf f.type):Sem (List (Nat×Nat))).run P w=.ok l w∧l.length=fs.length∧∀(k:Nat) f,fs[k]?=some f→∃i,P.info? f.type=some i∧l[k]?=some (f.offset,i.size)
 | [],_=>⟨[],rfl,rfl,by simp⟩
 |f::fs,h=>by
  obtain⟨i,hi⟩:=h f (by simp);obtain⟨l,b,c,d⟩:=l0h (w:=w) fs (fun g a=>h g (by simp[a]));refine⟨(f.offset,i.size)::l,?_,by simp[c],fun k g a=>?_⟩;have e:(do pure (f.offset,←sizeOf f.type):Sem (Nat×Nat)).run P w=.ok (f.offset,i.size) w:=by simp[sizeOf,typeInfo,hi]
  rw[List.mapM_cons,Sem.run_bind,e];simp only[Result.andThen_ok,Sem.run_bind,b];rfl
  ·cases k with
   |zero=>simp only[a10,sj]at a;subst a;exact⟨i,hi,rfl⟩
   |succ k=>simp only[a20]at a⊢;exact d k g a
theorem h0g{P:Program}:∀(τ:Ty)(fs:List Field)(off:Nat),a0i P τ (.inr (fs,off))=true→∀f∈fs,∃i,P.info? f.type=some i
 |.pair a b,f::r,off,h=>by
  simp only[a0i,bA]at h;obtain⟨I⟩:=a0m (a0s h.1.1.2);intro g k;rcases mC.1 k with rfl|k;exact⟨_,I.info⟩;exact h0g b r _ h.2 g k
 |.unit,[],_,_=>by simp
 |.unit,_::_,_,h=>by simp[a0i]at h
 |.pair _ _,[],_,h=>by simp[a0i]at h
 |.int _,_,_,h=>by simp[a0i]at h
 |.bool,_,_,h=>by simp[a0i]at h
 |.str,_,_,h=>by simp[a0i]at h
 |.list _ _,_,_,h=>by simp[a0i]at h
 |.arr _ _,_,_,h=>by simp[a0i]at h
 |.fn _,_,_,h=>by simp[a0i]at h
 |.hd,_,_,h=>by simp[a0i]at h
theorem s0h{o:Oper}{t:TypeId}{τ:Ty}{ps:Array (Nat×Operand)}{d:Nat}{q:Bool}{K:AE→Rs ρ}{z:ρ}(hty:a0i P τ (.inl t)=true)(O:o.op=.build t ps)(hd:o.dst=some d)
  (h:Rel B Γ N (a0f a) w σ)(hN:a.tmps.size=N)(hf:fits N o=true)(Q:(bif τ.isAgg then Γ.fills q τ ps.toList τ.dflt fun y Γ=>K (Γ.set d (.val τ y))else none)=some z):a0j P B N o a w K z:=by
 have m:∀y∈(o.op.operands.toList),b0m N y=true:=a0r hf;rw[O]at m
 ·obtain⟨I⟩:=a0m (a0s hty);obtain⟨g,Q⟩:τ.isAgg=true∧_:=(a0b Q).elim id fun h=>by cases h.2
  have s:∀y∈ps.toList,b0m N y.2=true:=fun y hy=>m y.2 (by
     simp only[Op.operands];exact a03.2 ⟨y,hy,rfl⟩)
  have D:(ps.map fun(i,x)=>(i,a.eval x)).toList=ps.toList.map fun(i,x)=>(i,a.eval x):=by simp
  have p:∀place,q0g τ place→(∀b,Instr.fill place I.z.cells (ps.toList.map fun(i,x)=>(i,a.eval x))=some b→(execOp a.eval o).run P w=.ok (.value (.agg b)) w)→τ.isAgg=true→a0j P B N o a w K z:=by
   intro place hp E g;obtain⟨y,b,Γ',σ',U,Y,Z,g3,g4,g5,g6⟩:=m0l hp ps.toList h s I.zsize (e0c τ I.zok) (by simp) Q;exact a0j.set hd hN (E b g3) Z (av:=.val τ y) ⟨fun _=>⟨b,rfl,g4⟩,fun e=>(by rw[g]at e;cases e),U,g5,g6⟩ Y
  have str:∀fs:Array Field,P.underlying t=some (.struct fs)→a0i P τ (.inr (fs.toList,0))=true→(∀i,AE.pathOk τ i=c0k τ i∧AE.pathOf τ i=b0l i)→τ.isAgg=true→a0j P B N o a w K z:=by
   intro fs j hs c g;obtain⟨l,h1,h2,h3⟩:=l0h (P:=P) (w:=w) fs.toList (h0g τ _ _ hs);refine p (fun i=>l.toArray[i]?) (fun i hi=>?_) (fun b J=>?_) g;rw[(c i).1]at hi;rw[(c i).2];obtain⟨H,τ',k,S,k2,k3,k4,k5⟩:=j0n i τ _ 0 hs hi;obtain⟨X,τ2,k',R,j2,j3,j4,-⟩:=l0p i τ _ 0 hs hi;rw[S]at R;simp only[sj]at R;subst R;obtain⟨i',L,M⟩:=h3 i H S;obtain⟨C⟩:=a0m (a0s k3);obtain⟨G⟩:=a0m (a0s j3);have V:i'=C.i:=by have:=L.symm.trans C.info;simpa using this
   have W:C.i=G.i:=by have:=C.info.symm.trans G.info;simpa using this
   refine⟨τ',k,?_,?_,k5⟩;have hk:H.offset=k:=by omega
   simp only[a11];rw[M,V,C.size,hk];have s1:=C.size;have s2:=G.size;rw[←W]at s2;omega;have hm:(fs.mapM fun f=>do pure (f.offset,←sizeOf f.type):Sem (Array (Nat×Nat))).run P w=.ok l.toArray w:=by
    rw[a45];show((fs.toList.mapM fun f=>do pure (f.offset,←sizeOf f.type)) >>= fun l=>pure l.toArray:Sem (Array (Nat×Nat))).run P w=_;rw[Sem.run_bind,h1];rfl
   simp only[execOp,O,Instr.build,Sem.run_bind,I.zeroValue,Result.andThen_ok,run_underlying j,hm,D,J]
   simp
  have arr:∀n F e,P.underlying t=some (.array n F)→a0i P e (.inl F)=true→q0g τ (fun i=>some (i*e.cells,e.cells))→τ.isAgg=true→a0j P B N o a w K z:=by
   intro n F e j A hp g;obtain⟨T⟩:=a0m (a0s A);refine p _ hp (fun b J=>?_) g;simp only[execOp,O,Instr.build,Sem.run_bind,I.zeroValue,Result.andThen_ok,run_underlying j,T.sizeOf,D,J]
   simp
  clear p;cases τ with
  |pair u v=>
   simp only[a0i,bA]at hty;obtain⟨-,hty⟩:=hty
   split at hty
   rename_i fs j
   split at hty
   rename_i H r M;refine str fs j ?_ (fun i=>⟨rfl,rfl⟩) rfl;rw[M];simp only[a0i];simpa using hty;cases hty;cases hty
  |unit=>
   simp only[a0i,bA]at hty;obtain⟨-,hty⟩:=hty
   split at hty
   rename_i fs j;refine str fs j ?_ (fun i=>⟨rfl,rfl⟩) rfl
   have:fs.toList=[]:=by simpa using hty
   rw[this];rfl;cases hty
  |arr n e=>
   obtain⟨F,j,A,-⟩:=h0f hty;exact arr n F e j A (r0c n e) rfl
  |_=>cases g
theorem q0p{o:Oper}{t:TypeId}{ps:Array (Nat×Operand)}{d:Nat}{cx:Cx}{q:Bool}{K:AE→Rs ρ}{z:ρ}(f:CxTy P cx)(k:o.op=.build t ps)(hd:o.dst=some d)(c:cx.nlT d t=none→cx.O d=none)
  (h:Rel B Γ N (a0f a) w σ)(b:a.tmps.size=N)(hf:fits N o=true)(g:aop cx q o Γ K=some z):a0j P B N o a w K z:=by
 simp only[aop,k,hd]at g;cases hn:cx.nlT d t with
 |some τ=>
  rw[hn]at g;refine s0h ?_ k hd h b hf g;simp only[Cx.nlT]at hn
  split at hn
  split at hn
  rename_i i _ e;cases hn;rw[←d0g];exact(f.T t _ e.2).2;cases hn;cases hn
 |none=>
 rw[hn]at g;simp only[c hn]at g
 split at g
 rename_i τ hT;exact s0h (f.T t _ hT).2 k hd h b hf g;cases g
theorem o0j{u:Value}(h:b0v u=true):u.cells=#[u]:=by
 cases u<;>first|rfl|(simp[b0v]at h)
theorem u0l(h:Rel B Γ N (a0f a) w σ){v:AV}{τ:Ty}{u:Value}(hv:a0e (a0a w σ.ov) σ.g Γ.rt (Shr B w σ) v u)(hf:v.fits1 τ=true):b0v u=true:=by
 unfold AV.fits1 at hf
 split at hf
 rename_i t x;simp only[bA,a34]at hf;exact hv.2.1 hf.1;rename_i n e;obtain⟨r,b,s,f,k,j⟩:=hv;obtain⟨l,R,d,o,-⟩:=h.sep f;obtain⟨y,m,R1,_,_,_,_,p,i,-⟩:=b0f _ r.t _ d k;obtain⟨s',A,c,-,-,hv,-,q,-⟩:=h.sref_head ⟨r,b,s,f,k,j⟩ f i;rw[hv];rfl;have hv:u=.slice none 0 0:=hv;rw[hv];rfl;cases hf
theorem z0v{place:Nat→Option (Nat×Nat)}{k:Nat}{u:Value}{l:List (Nat×Value)}{pre zs:List Value}{c:Value}(hp:place k=some (k,1))(g:b0v u=true)(a:pre.length=k):
  Instr.fill place (pre++c::zs).toArray ((k,u)::l)=Instr.fill place (pre++[u]++zs).toArray l:=by
 have g:=o0j g;simp only[Instr.fill,hp];have f:(decide (u.cells.size≠1) || decide (k+u.cells.size > (pre++c::zs).toArray.size))=false:=by
  rw[g];simp;omega
 rw[f];simp only[a59,if_false];have h:(u.cells.zipIdx.foldl (fun cs (x:Value×Nat)=>cs.setIfInBounds (k+x.2) x.1) (pre++c::zs).toArray)=(pre++[u]++zs).toArray:=by
  rw[g];subst a
  simp
 rw[←h]
theorem A0x{m:Mem}{g:Nat→Src}{rt:Nat→Option Root}{Sh:Nat→Prop}{τ:Ty}{v:AV}{u:Value}{rd:Nat→Option Value}(h:g0g τ=some v)(f:c0q τ rd=true)(c:rd 0=some u):τ.cells=1∧b0v u=true∧a0e m g rt Sh v u:=by
 have val:τ.isAgg=false→b0v u=true→τ.cells=1→c0q τ (fun j=>u.cells[j]?)=true→VOk m Sh τ τ.dflt u:=fun d i p l=>
  ⟨fun g=>(by rw[d]at g;cases g),fun _=>i,[],e0c τ l,by simp⟩
 cases τ with
 |int k=>
  simp only[g0g,sj]at h;simp only[c0q,c]at f;cases u with
  |int k' n=>
   subst h;exact⟨rfl,rfl,val rfl rfl rfl (by simpa[c0q,Value.cells]using f)⟩
  |_=>cases f
 |bool=>
  simp only[g0g,sj]at h;simp only[c0q,c]at f;cases u with
  |bool b=>
   subst h;exact⟨rfl,rfl,val rfl rfl rfl (by simpa[c0q,Value.cells]using f)⟩
  |_=>cases f
 |str=>
  simp only[g0g,sj]at h;simp only[c0q,c]at f;cases u with
  |string b=>
   subst h;exact⟨rfl,rfl,val rfl rfl rfl (by simpa[c0q,Value.cells]using f)⟩
  |_=>cases f
 |list o e=>
  simp only[g0g,sj]at h;simp only[c0q,c]at f;subst h
  split at f
  rename_i a;simp only[sj]at a;subst a;exact⟨rfl,rfl,rfl⟩;cases f
 |_=>cases h
theorem n0i{place:Nat→Option (Nat×Nat)}(h:Rel B Γ N (a0f a) w σ):∀(τ:Ty)(k:Nat)(ps:List (Nat×Operand)) (vs:List AV),Γ.aggV k τ ps=some vs→(∀p∈ps,b0m N p.2=true)→
  (∀j,j<τ.cells→place (k+j)=some (k+j,1))→∀(pre zs:List Value),pre.length=k→zs.length=τ.cells→c0q τ (fun j=>zs[j]?)=true→
  ∃us:List Value,us.length=τ.cells∧vs.length=τ.cells∧Instr.fill place (pre++zs).toArray (ps.map fun p=>(p.1,a.eval p.2))=some (pre++us).toArray∧
   ∀(j:Nat) v,vs[j]?=some v→∃u,us[j]?=some u∧b0v u=true∧a0e (a0a w σ.ov) σ.g Γ.rt (Shr B w σ) v u
 |.unit,k,[],vs,hv,_,_,pre,zs,hp,hz,_=>by
  simp only[AE.aggV,sj]at hv;subst hv
  have:zs=[]:=List.eq_nil_of_length_eq_zero hz
  subst this;exact⟨[],rfl,rfl,rfl,fun j v b=>by simp at b⟩
 |.pair u v,k,ps,vs,hv,hops,hpl,pre,zs,hp,hz,hzr=>by
  have zero:((g0g u).bind fun x=>(Γ.aggV (k+1) v ps).map (x::·))=some vs→∃us:List Value,us.length=(Ty.pair u v).cells∧vs.length=(Ty.pair u v).cells∧Instr.fill place (pre++zs).toArray (ps.map fun p=>(p.1,a.eval p.2))=some (pre++us).toArray∧
    ∀(j:Nat) v,vs[j]?=some v→∃u,us[j]?=some u∧b0v u=true∧a0e (a0a w σ.ov) σ.g Γ.rt (Shr B w σ) v u:=fun c=>by
   cases hx:g0g u with
   |none=>rw[hx]at c;cases c
   |some x=>
    rw[hx]at c;cases hr:Γ.aggV (k+1) v ps with
    |none=>rw[hr]at c;cases c
    |some vs'=>
     rw[hr]at c;cases c;simp only[c0q,bA]at hzr;have z:0<u.cells:=by
      cases u<;>first|(cases hx;done)|exact Nat.one_pos
     cases zs with
     |nil=>simp only[Ty.cells,a23]at hz;omega
     |cons z0 zs=>
      obtain⟨A,C,D⟩:=A0x (m:=a0a w σ.ov) (g:=σ.g) (rt:=Γ.rt) (Sh:=Shr B w σ) hx hzr.1 (by simp:(z0::zs)[0]?=some z0);have d:zs.length=v.cells:=by simp only[Ty.cells,lC]at hz;omega
      obtain⟨us,G,H,q,s⟩:=n0i h v (k+1) ps vs' hr hops (fun j b=>by
       have:=hpl (j+1) (by simp only[Ty.cells];omega)
       rwa [show k+(j+1)=k+1+j from by omega]at this) (pre++[z0]) zs (by simp[hp]) d (by
       have:=hzr.2
       rw[A]at this;simpa[Nat.add_comm 1]using this)
      refine⟨z0::us,by simp only[lC,Ty.cells];omega,by simp only[lC,Ty.cells];omega,?_,fun j y b=>?_⟩;rw[show pre++z0::zs=pre++[z0]++zs from by simp,q]
      simp
      ·cases j with
       |zero=>
        simp only[a10,sj]at b;subst b;exact⟨z0,by simp,C,D⟩
       |succ j=>
        simp only[a20]at b⊢;exact s j y b
  cases ps with
  |nil=>exact zero hv
  |cons p r=>
   obtain⟨i,o⟩:=p;simp only[AE.aggV]at hv;rcases a0b hv with⟨hi,f⟩|⟨-,f⟩
   ·have hi:i=k:=by simpa using hi
    subst hi;obtain⟨t,f⟩:=(a0b f).elim id fun h=>by cases h.2
    simp only[bA,dT]at t;obtain⟨E,F⟩:=t;cases hr:Γ.aggV (i+1) v r with
    |none=>rw[hr]at f;cases f
    |some vs'=>
     rw[hr]at f;cases f;have e:=h.opd (hops (i,o) (by simp));have n:=u0l h e F;cases zs with
     |nil=>simp only[Ty.cells,a23]at hz;omega
     |cons z0 zs=>
      have d:zs.length=v.cells:=by simp only[Ty.cells,lC]at hz;omega
      simp only[c0q,bA]at hzr;obtain⟨us,G,H,q,s⟩:=n0i h v (i+1) r vs' hr (fun p hp=>hops p (by simp[hp])) (fun j b=>by
       have:=hpl (j+1) (by simp only[Ty.cells];omega)
       rwa [show i+(j+1)=i+1+j from by omega]at this) (pre++[a.eval o]) zs (by simp[hp]) d (by
       have:=hzr.2
       rw[E]at this;simpa[Nat.add_comm 1]using this)
      refine⟨a.eval o::us,by simp only[lC,Ty.cells];omega,by simp only[lC,Ty.cells];omega,?_,fun j y b=>?_⟩;rw[a05];have l:=hpl 0 (by simp only[Ty.cells];omega);rw[a40]at l;rw[z0v l n hp,q]
      simp
      ·cases j with
       |zero=>
        simp only[a10,sj]at b;subst b;exact⟨a.eval o,by simp,n,e⟩
       |succ j=>
        simp only[a20]at b⊢;exact s j y b
   exact zero f
 |.unit,_,_::_,_,hv,_,_,_,_,_,_,_=>by simp[AE.aggV]at hv
 |.int _,_,_,_,hv,_,_,_,_,_,_,_=>by simp[AE.aggV]at hv
 |.bool,_,_,_,hv,_,_,_,_,_,_,_=>by simp[AE.aggV]at hv
 |.str,_,_,_,hv,_,_,_,_,_,_,_=>by simp[AE.aggV]at hv
 |.list _ _,_,_,_,hv,_,_,_,_,_,_,_=>by simp[AE.aggV]at hv
 |.arr _ _,_,_,_,hv,_,_,_,_,_,_,_=>by simp[AE.aggV]at hv
 |.fn _,_,_,_,hv,_,_,_,_,_,_,_=>by simp[AE.aggV]at hv
 |.hd,_,_,_,hv,_,_,_,_,_,_,_=>by simp[AE.aggV]at hv
theorem u0c:∀(τ:Ty)(k:Nat)(ps:List (Nat×Operand)) (vs:List AV),Γ.aggV k τ ps=some vs→vs.length=τ.cells∧
  ∀{P:Program} fs,a0i P τ (.inr (fs,k))=true→fs.length=vs.length∧∀(j:Nat) f,fs[j]?=some f→f.offset=k+j∧∃τ',a0i P τ' (.inl f.type)=true∧τ'.cells=1
 |.unit,k,[],vs,hv=>by
  simp only[AE.aggV,sj]at hv;subst hv;exact⟨rfl,fun fs h=>by
   cases fs with
   |nil=>exact⟨rfl,by simp⟩
   |cons f r=>simp[a0i]at h⟩
 |.pair u v,k,ps,vs,hv=>by
  have step:∀x d a,u.cells=1→Γ.aggV (k+1) v d=some a→vs=x::a→vs.length=(Ty.pair u v).cells∧
    ∀{P:Program} fs,a0i P (.pair u v) (.inr (fs,k))=true→fs.length=vs.length∧∀(j:Nat) f,fs[j]?=some f→f.offset=k+j∧∃τ',a0i P τ' (.inl f.type)=true∧τ'.cells=1:=fun x d a l b e=>by
   subst e;obtain⟨z,q⟩:=u0c v (k+1) d a b;refine⟨by simp only[lC,Ty.cells];omega,fun fs h=>?_⟩;cases fs with
   |nil=>simp[a0i]at h
   |cons f fs=>
    simp only[a0i,bA,beq_iff_eq,dT]at h;obtain⟨⟨⟨s,t⟩,j3⟩,j4⟩:=h;rw[l]at j4;obtain⟨q1,w⟩:=q fs j4;refine⟨by simp[q1],fun j f' hf=>?_⟩;cases j with
    |zero=>
     simp only[a10,sj]at hf;subst hf;exact⟨s,u,t,l⟩
    |succ j=>
     obtain⟨y,n⟩:=w j f' (by simpa using hf);exact⟨by omega,n⟩
  have zero:((g0g u).bind fun x=>(Γ.aggV (k+1) v ps).map (x::·))=some vs→vs.length=(Ty.pair u v).cells∧
    ∀{P:Program} fs,a0i P (.pair u v) (.inr (fs,k))=true→fs.length=vs.length∧∀(j:Nat) f,fs[j]?=some f→f.offset=k+j∧∃τ',a0i P τ' (.inl f.type)=true∧τ'.cells=1:=fun c=>by
   cases hx:g0g u with
   |none=>rw[hx]at c;cases c
   |some x=>
    rw[hx]at c;cases b:Γ.aggV (k+1) v ps with
    |none=>rw[b]at c;cases c
    |some a=>
     rw[b]at c;cases c;exact step x ps a (by cases u<;>first|(cases hx;done)|rfl) b rfl
  cases ps with
  |nil=>exact zero hv
  |cons p r=>
   obtain⟨i,o⟩:=p;simp only[AE.aggV]at hv;rcases a0b hv with⟨-,g⟩|⟨-,g⟩
   ·obtain⟨m,g⟩:=(a0b g).elim id fun h=>by cases h.2
    simp only[bA,dT]at m;cases b:Γ.aggV (k+1) v r with
    |none=>rw[b]at g;cases g
    |some a=>
     rw[b]at g;cases g;exact step _ r a m.1 b rfl
   exact zero g
 |.unit,_,_::_,_,hv=>by simp[AE.aggV]at hv
 |.int _,_,_,_,hv=>by simp[AE.aggV]at hv
 |.bool,_,_,_,hv=>by simp[AE.aggV]at hv
 |.str,_,_,_,hv=>by simp[AE.aggV]at hv
 |.list _ _,_,_,_,hv=>by simp[AE.aggV]at hv
 |.arr _ _,_,_,_,hv=>by simp[AE.aggV]at hv
 |.fn _,_,_,_,hv=>by simp[AE.aggV]at hv
 |.hd,_,_,_,hv=>by simp[AE.aggV]at hv
theorem t0g{o:Oper}{t:TypeId}{ps:Array (Nat×Operand)}{d:Nat}{cx:Cx}{q:Bool}{K:AE→Rs ρ}{z:ρ}{τ:Ty}(E:CxTy P cx)(J:o.op=.build t ps)(hd:o.dst=some d)(hO:cx.O d=some τ)(H:cx.nlT d t=none)
  (h:Rel B Γ N (a0f a) w σ)(hN:a.tmps.size=N)(hf:fits N o=true)(s:aop cx q o Γ K=some z):a0j P B N o a w K z:=by
 have m:∀y∈(o.op.operands.toList),b0m N y=true:=a0r hf;rw[J]at m;have r:∀y∈ps.toList,b0m N y.2=true:=fun y hy=>m y.2 (by
  simp only[Op.operands];exact a03.2 ⟨y,hy,rfl⟩)
 simp only[aop,J,hd,hO,H]at s
 ·split at s
  ·rename_i hT
   split at s
   ·rename_i vs g;obtain⟨c,S⟩:=(a0b s).elim id fun h=>by cases h.2
    have c:0<τ.cells:=by simpa using c
    have hty:a0i P τ (.inl t)=true:=by rw[←d0g];exact(E.T t _ hT).2
    obtain⟨Q,g4⟩:=u0c τ 0 ps.toList vs g;cases τ with
    |pair u v=>
     obtain⟨I⟩:=a0m (a0s hty);obtain⟨fs,hu,hs⟩:=i0v (f:=0) hty rfl;obtain⟨g5,g6⟩:=g4 _ hs;obtain⟨l,h1,h2,h3⟩:=l0h (P:=P) (w:=w) fs.toList (h0g _ _ _ hs);have hm:(fs.mapM fun f=>do pure (f.offset,←sizeOf f.type):Sem (Array (Nat×Nat))).run P w=.ok l.toArray w:=by
      rw[a45];show((fs.toList.mapM fun f=>do pure (f.offset,←sizeOf f.type)) >>= fun l=>pure l.toArray:Sem (Array (Nat×Nat))).run P w=_;rw[Sem.run_bind,h1];rfl
     have L:∀j,j<(Ty.pair u v).cells→(fun i=>l.toArray[i]?) (0+j)=some (0+j,1):=fun j hj=>by
      have F:j<fs.toList.length:=by rw[g5,Q];exact hj
      have A:=lG F;obtain⟨i,hi,hl⟩:=h3 j _ A;obtain⟨W,τ',X,Y⟩:=g6 j _ A;obtain⟨D⟩:=a0m (a0s X);have Z:i=D.i:=by have:=hi.symm.trans D.info;simpa using this
      simp only[a11,a07];rw[hl,W,Z,D.size,Y,a07]
     obtain⟨us,k1,-,b,U⟩:=n0i h (Ty.pair u v) 0 ps.toList vs g r L [] I.z.cells.toList rfl (by simpa using I.zsize) (by simpa using I.zok);simp only[a31,a54]at b;have M:(ps.map fun(i,x)=>(i,a.eval x)).toList=ps.toList.map fun p=>(p.1,a.eval p.2):=by simp
     have C:(execOp a.eval o).run P w=.ok (.value (.agg us.toArray)) w:=by
      simp only[execOp,J,Instr.build,Sem.run_bind,I.zeroValue,Result.andThen_ok,run_underlying hu,hm,M,b]
      simp
     refine⟨_,w,_,σ,.inl C,?_,S⟩;rw[hd];refine h.putd hN (fun _=>⟨_,⟨by simp only[a46];omega,rfl,fun k x R=>?_⟩,fun k av hk=>?_⟩);rw[a11]at R;have G:k<vs.length:=by
      have:=(lS.1 R).1
      omega
     obtain⟨V,q1,q2,-⟩:=U k _ (lG G);rw[R]at q1;cases q1;exact q2;obtain⟨V,q1,-,q3⟩:=U k av hk;exact⟨V,by rw[a11];exact q1,q3⟩
    |unit=>simp[Ty.cells]at c
    |int k=>simp[AE.aggV]at g
    |bool=>simp[AE.aggV]at g
    |str=>simp[AE.aggV]at g
    |list o' e=>simp[AE.aggV]at g
    |arr n e=>simp[AE.aggV]at g
    |nl e=>simp[AE.aggV]at g
    |fn f=>simp[AE.aggV]at g
    |hd=>simp[AE.aggV]at g
   cases s
  cases s
end
theorem j0d{m:Mem}{e:Ty}{b o n:Nat}{l:List e.den}{os R}(h:a0d (fun i=>dec m e fun j=>m b (o+(i*e.cells+j))) n 0=some (l,os,R)):
  ∃cs:List Value,cs.length=n*e.cells∧(∀j u,cs[j]?=some u→m b (o+j)=some u)∧(∀u∈cs,b0v u=true)∧a0d (fun i=>dec m e fun j=>cs[i*e.cells+j]?) n 0=some (l,os,R):=by
 have k:dec m (.arr n e) (fun j=>m b (o+j))=some (l,os,R):=h;have d:∀j,j<n*e.cells→∃u,m b (o+j)=some u∧b0v u=true:=e0b (.arr n e) k
 let cs:List Value:=(List.range (n*e.cells)).map fun j=>(m b (o+j)).getD undef
 have f:∀j,j<n*e.cells→cs[j]?=m b (o+j):=fun j a=>by
  grind
 have g:cs.length=n*e.cells:=by grind
 refine⟨cs,g,fun j u c=>?_,fun u c=>?_,?_⟩
 grind
 grind
 exact a0k (.arr n e) k (rd':=fun j=>cs[j]?) (fun j a=>f j a) (fun _ _ _=>rfl)
theorem r0p{m:Mem}{o:Bool}{e:Ty}(t:e.sh=e){v:Value}{l:List e.den}{O R}(h:dec m (.list o e) ((Src.one v).rd m)=some (l,O,R)):
  (v=.slice none 0 0∧l=[])∨∃a n c g,v=.slice (some a) n c∧(c=0∨a.spot=none)∧n≤c∧n=l.length∧a0d (fun i=>dec m e fun j=>m a.block (a.off+(i*e.cells+j))) n 0=some (l,[],g)∧
   (∀x∈g,x∈R)∧(o=false→0<n→a.block∈R):=by
 have h:a0w m o e.cells (dec m e) (some v)=some (l,O,R):=h;unfold a0w at h
 split at h
 simp_all;rename_i a n c hv;simp at hv
 split at h
 rename_i s
 split at h
 grind
 rename_i xs os g b;have f:os=[]:=by
  have d:dec m (.arr n e) (fun j=>m a.block (a.off+j))=some (xs,os,g):=b;exact h0c (by simp_all[Ty.shn]) d
 subst f;have k:xs=l∧(∀x∈g,x∈R)∧(o=false→0<n→a.block∈R):=by
  split at h
  grind
  split at h
  rename_i p;subst p;simp[a0d]at b;simp_all
  grind
 obtain⟨rfl,q,r⟩:=k
 grind[b0b]
 simp_all;simp_all
def g0s(w:World)(m:Mem)(Sh:Nat→Prop)(e:Ty)(l:List e.den)(v:Value):Prop:=
 ∃A n c,∃cs:List Value,v=.slice A n c∧n=l.length∧cs.length=n*e.cells∧(∀u∈cs,b0v u=true)∧(∃R,a0d (fun i=>dec m e fun j=>cs[i*e.cells+j]?) n 0=some (l,[],R)∧∀c∈R,Sh c)∧
  (∀b,A=some b→∀j u,cs[j]?=some u→w.cell? (b.add j)=some u)∧(A=none→n=0)∧(∀b,A=some b→n=0∨b.spot=none)
theorem g0s.nil{w m Sh e}{A:Option Addr}{c:Nat}:g0s w m Sh e [] (.slice A 0 c):=
 ⟨A,0,c,[],rfl,rfl,by simp,by simp,⟨[],rfl,by simp⟩,by simp,fun _=>rfl,fun _ _=>.inl rfl⟩
section
variable {P:Program} {B:Base} {N:Nat} {ρ:Type} {Γ:AE} {a:Act} {w:World} {σ:Gh}
theorem Rel.ov_none{tm}(h:Rel B Γ N tm w σ)(hp:Γ.pd=none):σ.ov=none:=by
 have:=h.pend
 rw[hp]at this;cases hov:σ.ov with
 |none=>rfl
 |some x=>rw[hov]at this;exact this.elim
theorem Rel.memo_shr{tm}(h:Rel B Γ N tm w σ){c j:Nat}(a:Shr B w σ c):a0a w σ.ov c j=w.cell? ⟨c,j,none⟩:=by
 unfold a0a;split
 ·rename_i b o v g;have hp:=h.pend;rw[g]at hp;cases hpd:Γ.pd with
  |none=>rw[hpd]at hp;exact hp.elim
  |some x=>
   obtain⟨n,p,d⟩:=x;rw[hpd]at hp;obtain⟨r,e,i,f⟩:=hp;rw[←g]at f;have k:=h.place i f;rw[if_neg]
   rintro⟨rfl,-⟩
   exact a.2.2 ⟨n,k⟩
 rfl
theorem j0w{A:Addr}(h:A.spot=none)(j:Nat):w.cell? (A.add j)=w.cell? ⟨A.block,A.off+j,none⟩:=by rw[d0i h]
theorem Rel.elems{tm}{e:Ty}(he:e.sh=e)(h:Rel B Γ N tm w σ){av v}{K:List e.den→Rs ρ}{z:ρ}(m:a0e (a0a w σ.ov) σ.g Γ.rt (Shr B w σ) av v)(a:Γ.elems e av K=some z):
  ∃l,K l=some z∧g0s w (a0a w σ.ov) (Shr B w σ) e l v:=by
 unfold AE.elems at a
 split at a
 rename_i t' x
 split at a
 rename_i ht;subst ht;refine⟨_,a,?_⟩;obtain⟨R,h1,h2⟩:=VOk.rd (t:=.list false t') m rfl rfl;rcases r0p he h1 with⟨rfl,h3⟩|⟨A,n,c,V,rfl,Z,g2,P,G,Q,g6⟩;simp_all[g0s.nil];obtain⟨cs,F,U,J,L⟩:=j0d G;refine⟨some A,n,c,cs,rfl,P,F,J,⟨V,L,fun b f=>h2 b (Q b f)⟩,fun b f j u I=>?_,by simp,fun b f=>by grind⟩;simp at f;subst f;have H:0<n:=by
  grind
 rw[j0w (Z.resolve_left (by omega)),←h.memo_shr (h2 _ (g6 rfl H))];simp_all;simp_all;refine⟨[],a,?_⟩;have m:v=.slice none 0 0:=m;rw[m];exact g0s.nil;refine⟨[],a,?_⟩;obtain⟨A,hv⟩:=m;rw[hv];exact g0s.nil;rename_i n p
 split at a
 rename_i r E;obtain⟨D,E⟩:=a0q E
 split at a
 rename_i d l hg
 split at a
 rename_i y;subst y;obtain⟨s,O',R',Z,g2,P,G,Q,g6⟩:=h.slice m E hg;refine⟨l,a,?_⟩;have C:=h.ov_none D;rcases r0p he G with⟨rfl,h3⟩|⟨A,n,c,V,rfl,W,f2,X,O,Y,-⟩;rw[h3];exact g0s.nil;obtain⟨cs,F,U,J,L⟩:=j0d O;refine⟨some A,n,c,cs,rfl,X,F,J,⟨V,L,fun b f=>Q b (Y b f)⟩,fun b f j u I=>?_,by simp,fun b f=>by grind⟩;simp at f;subst f;have H:0<n:=by
  grind
 rw[j0w (W.resolve_left (by omega))]
 have:=U j u I
 rw[C]at this;exact this;simp_all;simp_all;simp_all
 ·rename_i n p o k
  split at a
  ·rename_i r E;obtain⟨D,E⟩:=a0q E
   split at a
   ·rename_i d l hg
    split at a
    ·rename_i y;subst y;obtain⟨s,O',R',A0,n0,c,Z,g2,P,G,Q,g6,a',rfl,g7,S⟩:=h.window m E hg;refine⟨_,a,?_⟩;show g0s _ _ _ _ (a47 k (a67 o l)) _;have C:=h.ov_none D;rcases r0p he P with⟨hv,h3⟩|⟨A,n,c',V,hv,W,f2,X,O,Y,-⟩;simp_all[g0s.nil]
     ·simp at hv;obtain⟨rfl,rfl,rfl⟩:=hv;rw[show n0=o+(k+(n0-o-k))from by omega]at O;obtain⟨h7,g0,h8,g9,j1,j2,e1,rfl⟩:=e0a o _ 0 O;obtain⟨h5,M,h9,k0,j3,j4,rfl,rfl⟩:=e0a k _ (0+o) j2;have h4:h5=[]:=by
       simp_all
      subst h4;have T:∀(q i:Nat),a0d (fun i=>dec (a0a w σ.ov) d fun j=>a0a w σ.ov A.block (A.off+o*d.cells+(i*d.cells+j))) q i=a0d (fun i=>dec (a0a w σ.ov) d fun j=>a0a w σ.ov A.block (A.off+(i*d.cells+j))) q (o+i):=by
       intro q
       induction q with
       |zero=>intro i;rfl
       |succ q ih=>
        intro i;have hf:(fun j=>a0a w σ.ov A.block (A.off+o*d.cells+(i*d.cells+j)))=fun j=>a0a w σ.ov A.block (A.off+((o+i)*d.cells+j)):=by
         funext j
         grind
        simp[a0d];rw[ih (i+1),hf,show o+(i+1)=o+i+1 from by rfl]
      have hc:a0d (fun i=>dec (a0a w σ.ov) d fun j=>a0a w σ.ov A.block (A.off+o*d.cells+(i*d.cells+j))) k 0=some (a47 k (a67 o l),[],M):=by
       grind
      obtain⟨cs,F,U,J,L⟩:=j0d hc;refine⟨a',k,c-o,cs,rfl,?_,F,J,⟨M,L,fun b f=>G b (Y b (by grind))⟩,fun b f j u I=>?_,fun hn=>?_,fun b f=>(g7 b f).imp (fun e=>by omega) id⟩;have e0:n0=l.length:=X;have e1:(a47 k (a67 o l)).length=min k (l.length-o):=List.length_take.trans (congrArg (min k) List.length_drop);omega;have h0:=(lS.1 I).1;rw[F]at h0;have h6:0<k:=Nat.pos_of_ne_zero fun e0=>by grind
      rcases S with S|S;omega;rw[S]at f;simp at f;rw[←f,d0i (W.resolve_left (by omega)),j0w rfl]
      have:=U j u I
      rw[C]at this;exact this
      grind
    simp_all
   simp_all
  simp_all
 simp_all
theorem h0n{w w2:World}{e:Ty}{v:Value}{A:Option Addr}{n c:Nat}{cs:List Value}(hv:v=.slice A n c)(i:∀x,w2.cell? x=w.cell? x)(h:cs.length=n*e.cells)
  (g:∀b,A=some b→∀j u,cs[j]?=some u→w.cell? (b.add j)=some u)(a:A=none→n=0)(k:Nat)(f:k≤n):
  (Builtin.firstCells e.cells k v).run P w2=.ok (cs.take (k*e.cells)).toArray w2:=by
 subst hv;cases A with
 |none=>
  have:k=0:=by simp_all
  simp_all[Builtin.firstCells]
 |some b=>
  refine run_firstCells_some w2 e.cells k b n c _ ?_ fun j u d=>?_
  simp_all
  grind
end
theorem B0w{P:Program}{τ:Ty}{t:TypeId}(h:a0i P τ (.inl t)=true):∃d,P.underlying t=some d:=by
 cases hu:P.underlying t with
 |some d=>simp
 |none=>cases τ<;>simp[a0i,hu]at h
theorem h0h{P:Program}{k:IntKind}{t:TypeId}(h:a0i P (.int k) (.inl t)=true):P.underlying t=some (.int k):=by
 simp[a0i]at h
 grind
theorem k0n{P:Program}{t:TypeId}(h:a0i P .str (.inl t)=true):P.underlying t=some .string:=by
 simp[a0i]at h
 grind
theorem m0p{m:Mem}{k:IntKind}:∀(l:List Int)(n i:Nat){cs:List Value}{R},cs.length=i+n→a0d (fun i=>dec m (.int k) fun j=>cs[i*1+j]?) n i=some (l,[],R)→cs.drop i=l.map (Value.int k)
 |l,0,i,cs,R,hl,h=>by
  have p:[]=l:=congrArg (·.1) (Option.some.inj h);simp_all
 |l,n+1,i,cs,R,hl,h=>by
  simp only[a0d]at h
  split at h
  grind
  rename_i x o r g
  split at h
  grind
  rename_i xs os s c;have hi:i<cs.length:=by omega
  simp[dec,lG hi]at g
  split at g
  rename_i k' e hv
  split at g
  rename_i d;subst d;have b:e=x:=congrArg (·.1) (Option.some.inj g);have f:x::xs=l:=congrArg (·.1) (Option.some.inj h);have q:o=[]:=by
   simp_all
  have a:os=[]:=by
   grind
  subst a;rw[a30 hi,m0p xs n (i+1) (by omega) c,←f];simp at hv;rw[hv,b];rfl;simp_all;simp_all
section
variable {P:Program} {B:Base} {N:Nat} {ρ:Type} {Γ:AE} {a:Act} {w:World} {σ:Gh}
theorem y0t(ns:List Int):∀(s:ByteArray),((ns.foldl (fun r n=>r.push (UInt8.ofNat n.toNat)) s).data.toList.map fun b=>(b.toNat:Int))=(s.data.toList.map fun b=>(b.toNat:Int))++b2s ns:=by
 induction ns with
 |nil=>intro s;simp[b2s]
 |cons n ns ih=>
  simp_all[b2s]
theorem l0g(w:World)(a:Addr)(c:Nat):(w.freeze a 1).heap[c]?=if c=a.block then(w.heap[c]?).map (fun|.cells cs elem (lo,hi)=>.cells cs elem (if lo==hi then(a.off,a.off+1)else(min lo a.off,max hi (a.off+1)))|o=>o)else w.heap[c]?:=by
 unfold World.freeze
 grind
theorem v0l(w:World)(a p:Addr):(w.freeze a 1).cell? p=w.cell? p:=by
 unfold World.cell?;rw[l0g]
 grind
theorem l0i(w:World)(a:Addr)(ov):a0a (w.freeze a 1) ov=a0a w ov:=by
 funext b o;simp_all[v0l,a0a]
theorem Rel.frozen{Γ:AE}{w:World}{σ:Gh}{tm:Nat→Value}(h:Rel B Γ N tm w σ){b:Nat}(i:a0u σ b){cs:Array Value}{el:TypeId}{lo hi:Nat}(r:w.heap[b]?=some (.cells cs el (lo,hi))):
  Rel B Γ N tm (w.freeze { block:=b,off:=cs.size } 1) σ:=by
 have f:(w.freeze { block:=b,off:=cs.size } 1).heap.size=w.heap.size:=by
  simp_all[World.freeze]
 refine h.mem (fun c j _=>by rw[l0i]) (fun n p hp=>?_) (a49 f.symm) (fun c a k=>?_);obtain⟨c,e,l,d,m,o,q⟩:=h.live n p hp;unfold b0c;rw[l0g]
 grind
 ·rw[l0g,if_neg (fun e=>?_)];exact h.frame c a k
  ·rcases h.mine b i with g|g
   all_goals grind
theorem u0h{o:Oper}{t t2:TypeId}{x:Operand}{d:Nat}{cx:Cx}{q:Bool}{K:AE→Rs ρ}{z:ρ}(f:CxTy P cx)(ho:o.op=.convert t t2 x)(hd:o.dst=some d)
  (h:Rel B Γ N (a0f a) w σ)(V:a.tmps.size=N)(hf:fits N o=true)(g:aop cx q o Γ K=some z):a0j P B N o a w K z:=by
 have I:=h.opd (a0r hf x (by simp[ho,Op.operands]));simp[aop,ho,hd]at g;have p:∀v w',(convert t t2 (a.eval x)).run P w=.ok v w'→(execOp a.eval o).run P w=.ok (.value v) w':=fun v w' hv=>by simp[execOp,ho,hv]
 unfold AE.conv AE.convK at g
 split at g
 rename_i τ k k' n hT m H;rw[H]at I;have hv:=a0e.int I;obtain⟨u,M⟩:=B0w (f.T _ _ hT).2;have C:=h0h (f.T _ _ m).2;refine a0j.set hd V (p (.int k (k.wrap n)) w ?_) h (a0e.mk_int _) g;rw[hv];simp[convert,run_underlying M,run_underlying C,Conv.intToInt]
 ·rename_i o' l hT m H
  suffices main:∀l:List Int,Γ.opd x=.val .str l→(bif lim (a15 l)then Γ.fresh q d ⟨false,.list true (.int .u8),l⟩ fun Γ=>K (Γ.set d (.sref d []))else none)=some z→a0j P B N o a w K z from main l H g
  clear H g;intro l H g;rw[H]at I;obtain⟨s,hv,hl⟩:=a0e.str I;have M:=k0n (f.T _ _ hT).2;obtain⟨Y,h5⟩:=f.T _ _ m;obtain⟨e,C,F,-⟩:=b0w h5;have G:=h0h F;rcases a0b g with⟨-,g⟩|⟨-,g⟩
  ·have hr:=run_bytes_of_string (P:=P) w t t2 e s M C G;rw[←hv]at hr;have hg:=grownCap_ge w s.size 0 e;have E:(bytesRow s (grownCap w s.size 0 e)).size=grownCap w s.size 0 e:=by
    have:s.data.size=s.size:=rfl
    simp_all[bytesRow]
   have h9:a15 l=s.size:=by simp_all
   have W:@List.length (Ty.int .u8).den l=s.size:=h9;have y:a0d (fun i=>dec (a0a w σ.ov) (.int .u8) fun j=>(bytesRow s (grownCap w s.size 0 e))[i*(Ty.int .u8).cells+j]?) (a15 l) 0=some (l,[],[]):=by
    have key:∀(n i:Nat)(l':List Int),l'=l.drop i→l'.length=n→i+n=s.size→a0d (fun i=>dec (a0a w σ.ov) (.int .u8) fun j=>(bytesRow s (grownCap w s.size 0 e))[i*(Ty.int .u8).cells+j]?) n i=some (l',[],[]):=by
     intro n
     induction n with
     |zero=>intro i l' _ h2 _;rw[a01.1 h2];rfl
     |succ n ih=>
      intro i l' h1 h2 h3;have hi:i<s.data.toList.length:=by
       grind
      have g7:i<(List.map (fun b:UInt8=>(b.toNat:Int)) s.data.toList).length:=by simp_all
      have O:(bytesRow s (grownCap w s.size 0 e))[i]?=some (.int .u8 ((s.data.toList[i]).toNat:Int)):=by
       simp_all[bytesRow,Array.getElem?_append_left]
      have h8:l'=((s.data.toList[i]).toNat:Int)::l.drop (i+1):=by
       simp_all[a30]
      subst h8;have h4:=ih (i+1) (l.drop (i+1)) rfl (by grind) (by omega);simp only[a0d];rw[h4];simp only[dec,Ty.cells,Nat.mul_one,a40,O,if_true];rfl
    grind
   obtain⟨Γ',σ',g1,g2,g3,-,-⟩:=h.newSlice (c:=grownCap w s.size 0 e) g (w':=w.drew.alloc (.cells (bytesRow s (grownCap w s.size 0 e)) e ((bytesRow s (grownCap w s.size 0 e)).size,(bytesRow s (grownCap w s.size 0 e)).size+1)))
    (fun c hc=>b0x (w:=w.drew) _ c hc) (c0l (w:=w.drew) _) (b0r (w:=w.drew) _) (.inr (by simp[E,Ty.cells])) (by simp[E,Ty.cells]) (a26 (a49 W) hg) y (by simp)
   grind[a0j.set]
  simp_all
 rename_i l hT m H;rw[H]at I;obtain⟨s,hv,hl⟩:=a0e.str I;have M:=k0n (f.T _ _ hT).2;have C:=k0n (f.T _ _ m).2;refine a0j.set hd V (p (.string s) w ?_) h (hl▸a0e.mk_str s) g;simp_all[convert,run_underlying];rename_i o1 o2 n hT m H
 split at g
 rename_i g5;subst g5
 split at g
 rename_i l hl;obtain⟨L,g⟩:=(a0b g).elim id fun h=>by grind
 have L:0<a15 l:=by simp_all
 obtain⟨k0,hr⟩:=a0q hl;rw[H]at I;obtain⟨Y,hty⟩:=f.T _ _ hT;obtain⟨e,M,F,-⟩:=b0w hty;have G:=h0h F;obtain⟨s,O',R',f1,f2,f3,f4,f5,f6⟩:=h.slice I hr (show a0p (.list true (.int .u8)) l []=⟨.list true (.int .u8),l⟩from rfl);obtain⟨b,n1,U,h6,hb,g9,g6,J⟩:∃(b:Addr)(n1 U:Nat),a.eval x=.slice (some b) n1 U∧b.spot=none∧n1≤U∧U≠0∧b.block∈(σ.ow n).map (·.1):=by
  rcases c0j f4 with⟨hs,g8,-,-⟩|⟨b,n1,U,os,hs,hA,hn,y,ho⟩;simp_all;simp[Src.rd]at hs
  grind[b0b]
 have X:a0u σ b.block:=⟨n,J⟩;obtain⟨p0,g0,g4⟩:=a03.1 J;obtain⟨cs,el,lo,hi,D,-,-⟩:=h.live n p0 g0;rw[g4]at D;have S:(convert t t (a.eval x)).run P w=.ok (a.eval x) (w.freeze { block:=b.block,off:=cs.size } 1):=by
  have Z:w.shape? b.block=some (el,cs.size):=by simp_all[World.shape?]
  rw[h6];simp[convert,run_underlying M,run_underlying G,markStringish,Z]
 exact a0j.set hd V (p _ _ S) (h.frozen X D) (av:=.sref n []) (by
  obtain⟨r,e',s',k1,k2,k3⟩:=I;exact⟨r,e',s',k1,by simp_all[l0i],by simp_all[l0i]⟩) g
 simp_all;simp_all
 ·rename_i o' hT m;obtain⟨Y,hty⟩:=f.T _ _ hT;obtain⟨e,M,F,-⟩:=b0w hty;have G:=h0h F;have C:=k0n (f.T _ _ m).2;obtain⟨l,g,A,n,c,cs,hv,hn,L,-,⟨R,y,-⟩,hc,hnil,-⟩:=h.elems rfl I g;have Q:cs.length=n:=by simp_all[Ty.cells]
  have h7:cs=l.map (Value.int .u8):=by
   have:=m0p (k:=.u8) l n 0 (cs:=cs) (by omega) y
   grind
  cases A with
  |none=>
   have h0:l=[]:=by
    grind
   refine a0j.set hd V (p (.string .empty) w ?_) h (av:=.val .str (b2s l)) (by rw[h0];exact a0e.mk_str .empty) g;simp_all[run_convert_bytes_string,Conv.bytesToString]
  |some b=>
   refine a0j.set hd V (p (.string (l.foldl (fun r n=>r.push (UInt8.ofNat n.toNat)) ByteArray.empty)) w ?_) h (av:=.val .str (b2s l)) ?_ g;rw[hv,run_convert_bytes_string w t t2 e _ n c M G C];refine run_bytesToString w b n c l ?_
   rw[←h7,←Q];exact run_loadCells_list w b cs (hc b rfl)
   have:=y0t l ByteArray.empty
   have e1:b2s l=((l.foldl (fun r n=>r.push (UInt8.ofNat n.toNat)) ByteArray.empty).data.toList.map fun b=>(b.toNat:Int)):=by
    exact(this.trans (a31 _)).symm
   simp_all[a0e.mk_str]
 simp_all
theorem j0t{o:Oper}{c:Call}{b:Builtin}(g:o.op=.call c)(h:c.callee=.builtin b):
  ∃cs,(execOp a.eval o).run P w=(builtin b c.argTypes o.type cs (c.args.map a.eval)).run P w:=by
 exact⟨_,by simp[execOp,g,resolve,h,invoke];rfl⟩
theorem B0i{o:Oper}{c:Call}{d:Nat}{cx:Cx}{q:Bool}{K:AE→Rs ρ}{z:ρ}(e:CxTy P cx)(s:o.op=.call c)(r:c.callee=.builtin .len)(hd:o.dst=some d)
  (h:Rel B Γ N (a0f a) w σ)(u:a.tmps.size=N)(hf:fits N o=true)(g:aop cx q o Γ K=some z):a0j P B N o a w K z:=by
 obtain⟨cs,k⟩:=j0t (P:=P) (a:=a) (w:=w) s r;have f:=a0r hf;have i:∃x,c.args.toList=[x]:=by
  cases i:c.args.toList with
  |nil=>simp_all[aop,AE.blt]
  |cons x l=>
   cases l with
   |nil=>simp
   |cons y l=>simp_all[aop,AE.blt]
 obtain⟨x,v⟩:=i;have b:c.args=#[x]:=by grind
 have p:b0m N x=true:=f x (by simp_all[Op.operands,Call.operands]);simp[aop,s,hd,r,v,AE.blt]at g;cases ht:c.argTypes.toList.head? with
  |none=>
   simp_all[AE.lenK]
  |some t=>
   rw[ht]at g;simp at g;obtain⟨n,g,A⟩:=A0g e h p g o.type;have m:c.argTypes[0]?=some t:=by
    rw[←a09];cases i:c.argTypes.toList with
    |nil=>simp_all
    |cons y l=>simp_all
   refine a0j.set hd u (k.trans ?_) h (a0e.mk_int _) g;have j:Builtin.len_ c.argTypes o.type #[a.eval x]=Builtin.len_ #[t] o.type #[a.eval x]:=by
    simp[Builtin.len_,m]
   simp_all[builtin]
theorem B0h{o:Oper}{c:Call}{d:Nat}{cx:Cx}{q:Bool}{K:AE→Rs ρ}{z:ρ}(s:CxTy P cx)(m:o.op=.call c)(j:c.callee=.builtin .cap)(hd:o.dst=some d)
  (h:Rel B Γ N (a0f a) w σ)(A:a.tmps.size=N)(hf:fits N o=true)(k:aop cx q o Γ K=some z):a0j P B N o a w K z:=by
 obtain⟨cs,r⟩:=j0t (P:=P) (a:=a) (w:=w) m j;have p:=a0r hf;have b:∃x,c.args.toList=[x]∧Γ.opd x=.nils:=by
  cases b:c.args.toList with
  |nil=>simp only[aop,m,hd,j,b,a41,AE.blt]at k;cases k
  |cons x l=>
   cases l with
   |nil=>
    refine⟨x,rfl,?_⟩;cases n:Γ.opd x<;>first|rfl|(simp only[aop,m,hd,j,b,a05,a41,AE.blt,n]at k;cases k)
   |cons y l=>
    simp only[aop,m,hd,j,b,a05,AE.blt]at k;cases n:Γ.opd x<;>(rw[n]at k;cases k)
 obtain⟨x,n,i⟩:=b;have f:c.args=#[x]:=by rw[←Array.toList_inj];simpa using n
 have v:b0m N x=true:=p x (by simp[m,Op.operands,j,f,Call.operands]);simp only[aop,m,hd,j,n,a05,a41,AE.blt,i]at k;have hv:=h.opd v;rw[i]at hv;obtain hv:a.eval x=.slice none 0 0:=hv;rcases a0b k with⟨hT,k⟩|⟨-,g⟩
 ·cases ht:c.argTypes.toList.head? with
  |none=>rw[ht]at hT;cases hT
  |some t=>
   rw[ht]at hT;simp only[oB]at hT;cases hc:cx.T t with
   |none=>rw[hc]at hT;cases hT
   |some τ=>
    rw[hc]at hT;cases τ with
    |list o e=>
     obtain⟨C,hty⟩:=s.T t _ hc;obtain⟨F,E,D,-⟩:=b0w hty;have u:c.argTypes[0]?=some t:=by
      rw[←a09];cases b:c.argTypes.toList with
      |nil=>rw[b]at ht;cases ht
      |cons y l=>rw[b]at ht;simpa using ht
     exact a0j.set hd A (r.trans (by simp[builtin,f,hv,Builtin.cap_,u,run_underlying E,goInt])) h (a0e.mk_int _) k
    |_=>cases hT
 cases g
theorem k0s{o:Oper}{c:Call}{b:Builtin}(g:o.op=.call c)(h:c.callee=.builtin b)(hf:fits N o=true):∀y∈c.args.toList,b0m N y=true:=fun y f=>
 a0r hf y (by simp_all[Op.operands,Call.operands])
theorem B0j{o:Oper}{c:Call}{d:Nat}{cx:Cx}{q:Bool}{K:AE→Rs ρ}{z:ρ}(p:o.op=.call c)(m:c.callee=.builtin .max)(hd:o.dst=some d)
  (h:Rel B Γ N (a0f a) w σ)(v:a.tmps.size=N)(hf:fits N o=true)(e:aop cx q o Γ K=some z):a0j P B N o a w K z:=by
 obtain⟨cs,i⟩:=j0t (P:=P) (a:=a) (w:=w) p m;have b:=k0s p m hf;cases hl:c.args.toList with
 |nil=>simp_all[aop,AE.blt]
 |cons x l=>
  simp[aop,p,hd,m,hl,AE.blt]at e
  split at e
  all_goals first|(rename_i j;cases j;done)|(rename_i j _;cases j;done)|(cases e;done)|skip
  rename_i k n r j u;have s:=h.opd (b x (by simp_all));obtain⟨t,rfl⟩:=List.cons.inj u;rw[t]at s;obtain⟨r,e,C⟩:=n0x (P:=P) (f:=y0d) (g:=Builtin.max2) (k:=k) (fun x y w=>by simp[Builtin.max2,y0d]) l n h (fun y D=>b y (by simp_all)) e;refine a0j.set hd v (i.trans ?_) h (a0e.mk_int _) e;have A:(c.args.map a.eval).toList=a.eval x::l.map a.eval:=by simp_all
  simp only[builtin,Builtin.max_,A,a0e.int s,Sem.run_bind];simp_all
theorem B0k{o:Oper}{c:Call}{d:Nat}{cx:Cx}{q:Bool}{K:AE→Rs ρ}{z:ρ}(p:o.op=.call c)(m:c.callee=.builtin .min)(hd:o.dst=some d)
  (h:Rel B Γ N (a0f a) w σ)(v:a.tmps.size=N)(hf:fits N o=true)(e:aop cx q o Γ K=some z):a0j P B N o a w K z:=by
 obtain⟨cs,i⟩:=j0t (P:=P) (a:=a) (w:=w) p m;have b:=k0s p m hf;cases hl:c.args.toList with
 |nil=>simp_all[aop,AE.blt]
 |cons x l=>
  simp[aop,p,hd,m,hl,AE.blt]at e
  split at e
  all_goals first|(rename_i j;cases j;done)|(rename_i j _;cases j;done)|(cases e;done)|skip
  rename_i k n r j u;have s:=h.opd (b x (by simp_all));obtain⟨t,rfl⟩:=List.cons.inj u;rw[t]at s;obtain⟨r,e,C⟩:=n0x (P:=P) (f:=y0e) (g:=Builtin.min2) (k:=k) (fun x y w=>by simp[Builtin.min2,y0e]) l n h (fun y D=>b y (by simp_all)) e;refine a0j.set hd v (i.trans ?_) h (a0e.mk_int _) e;have A:(c.args.map a.eval).toList=a.eval x::l.map a.eval:=by simp_all
  simp only[builtin,Builtin.min_,A,a0e.int s,Sem.run_bind];simp_all
end
open IntKind(wrap)
theorem j0a{m:Mem}:∀(p:a0l)(t:Ty)(s:Src){x O R t' b o y O' R'},dec m t (s.rd m)=some (x,O,R)→loc m t s p=some (t',.at b o)→dec m t' ((Src.at b o).rd m)=some (y,O',R')→
  (O.map (·.1)).Nodup→(∀c∈O.map (·.1),s.avoids c)→b∉O'.map (·.1)
 | [],t,s,x,O,R,t',b,o,y,O',R',h,g,hy,hn,hs=>by
  simp[a0t]at g;obtain⟨rfl,rfl⟩:=g;rw[h]at hy;simp at hy;obtain⟨-,rfl,-⟩:=hy;exact fun w=>hs b w rfl
 |.fst::p,t,s,x,O,R,t',b,o,y,O',R',h,g,hy,hn,hs=>by
  obtain⟨a,q,bl,so,rfl,rfl,g⟩:=d0v g;obtain⟨G,o1,F,H,o2,r2,r,j,rfl,rfl,rfl⟩:=c0h h;simp only[pA]at hn hs;exact j0a p a (.at bl so) r g hy (a16.1 hn).1 (fun c f=>hs c (a27 _ f))
 |.snd::p,t,s,x,O,R,t',b,o,y,O',R',h,g,hy,hn,hs=>by
  obtain⟨a,q,bl,so,rfl,rfl,g⟩:=d0w g;obtain⟨G,o1,F,H,o2,r2,r,j,rfl,rfl,rfl⟩:=c0h h;rw[e0e]at j;simp only[pA]at hn hs;exact j0a p q (.at bl (so+a.cells)) j g hy (a16.1 hn).2.1 (fun c f=>hs c (a38 _ f))
 |.idx i::p,t,s,x,O,R,t',b,o,y,O',R',h,g,hy,hn,hs=>by
  rcases e0v g with⟨n,l,bl,so,rfl,rfl,hi,g⟩|⟨l,a,n,c,rfl,k,hi,g⟩;simp[dec,e0e]at h;obtain⟨I,D,E,u,v,d,e,hf,-,rfl,rfl⟩:=b0a n 0 i h hi;simp at hf;simp only[pA]at hn hs;exact j0a p l _ hf g hy (a16.1 (a16.1 hn).2.1).1 (fun c f=>hs c (a38 _ (a27 _ f)));rcases c0j h with⟨hv,-⟩|⟨J,C,K,os,hv,L,z,B,A⟩;simp_all;rw[hv]at k;simp at k;obtain⟨rfl,rfl,rfl⟩:=k;obtain⟨I,D,E,u,v,d,e,hf,-,rfl,rfl⟩:=b0a C 0 i B hi;simp at hf;rcases A with⟨f,-⟩|⟨-,rfl⟩;omega;simp only[pA,a05,a14]at hn hs;exact j0a p l _ hf g hy (a16.1 (a16.1 hn.2).2.1).1 (fun c f=>by
   rintro rfl
   simp_all)
section
variable {P:Program} {B:Base} {N:Nat} {ρ:Type} {Γ:AE} {a:Act} {w:World} {σ:Gh}
theorem Rel.own{tm}(h:Rel B Γ N tm w σ){n p v r}{e:Ty}{l:List e.den}(K:a0e (a0a w σ.ov) σ.g Γ.rt (Shr B w σ) (.sref n p) v)(D:Γ.rt n=some r)(L:a0p r.t r.x p=⟨.list true e,l⟩):
  ∃s f k,loc (a0a w σ.ov) r.t (σ.g n) p=some (.list true e,s)∧s.rd (a0a w σ.ov) 0=some v∧dec (a0a w σ.ov) (.list true e) (s.rd (a0a w σ.ov))=some (l,f,k)∧
   dec (a0a w σ.ov) (.list true e) ((Src.one v).rd (a0a w σ.ov))=some (l,f,k)∧(∀c∈k,Shr B w σ c)∧(∀q∈f,q∈σ.ow n)∧(f.map (·.1)).Nodup∧(∀b o,s=.at b o→b∉f.map (·.1)):=by
 obtain⟨X,I,s,i,m,C⟩:=K;rw[D]at i;simp at i;subst i;obtain⟨H,R1,F,O,z,U,V,W⟩:=h.sep D;obtain⟨y,f,k,A,B',P,G,d,a,Q,R⟩:=b0f p r.t _ F m;rw[L]at a;have J:e=I:=by grind
 subst J;have a:=eq_of_heq (Sigma.mk.inj a).2;subst a;have E:∀q∈f,q∈H:=fun q M=>by simp_all
 refine⟨s,f,k,m,C,d,a0k _ d (fun j T=>?_) (fun _ _ _=>rfl),fun c S=>O c (by simp_all),fun q M=>?_,?_,fun b o hs=>?_⟩;have u:j=0:=by simp_all[Ty.cells]
 subst u;rw[C];rfl
 grind
 have:=z.nodup
 grind
 subst hs;exact j0a p r.t _ F m d z.nodup z.src
theorem l0m{m:Mem}{e:Ty}{l1 l2:List e.den}{cs1 cs2 rest:List Value}{n1 n2:Nat}{o1 o2 R1 R2}(a:a0d (fun i=>dec m e fun j=>cs1[i*e.cells+j]?) n1 0=some (l1,o1,R1))(g:cs1.length=n1*e.cells)
  (b:a0d (fun i=>dec m e fun j=>cs2[i*e.cells+j]?) n2 0=some (l2,o2,R2))(f:cs2.length=n2*e.cells):
  a0d (fun i=>dec m e fun j=>(cs1++(cs2++rest))[i*e.cells+j]?) (n1+n2) 0=some (a17 l1 l2,o1++o2,R1++R2):=by
 have a1:a0d (fun i=>dec m e fun j=>(cs1++(cs2++rest))[i*e.cells+j]?) n1 0=some (l1,o1,R1):=by
  refine a0k (.arr n1 e) (show dec m (.arr n1 e) (fun j=>cs1[j]?)=_ from a) (rd':=fun j=>(cs1++(cs2++rest))[j]?) (fun j h=>?_) (fun _ _ _=>rfl);exact a06 (by rw[g];exact h)
 have c:a0d (fun i=>dec m e fun j=>(cs1++(cs2++rest))[i*e.cells+j]?) n2 n1=some (l2,o2,R2):=by
  have hs:∀(k i:Nat),i+k≤n2→a0d (fun i=>dec m e fun j=>(cs1++(cs2++rest))[i*e.cells+j]?) k (n1+i)=a0d (fun i=>dec m e fun j=>(cs2++rest)[i*e.cells+j]?) k i:=by
   intro k
   induction k with
   |zero=>intro i _;rfl
   |succ k ih=>
    intro i hi;have hf:(fun j=>(cs1++(cs2++rest))[(n1+i)*e.cells+j]?)=fun j=>(cs2++rest)[i*e.cells+j]?:=by
     grind
    grind[a0d]
  have:=hs n2 0 (by omega)
  rw[a40]at this;rw[this];refine a0k (.arr n2 e) (show dec m (.arr n2 e) (fun j=>cs2[j]?)=_ from b) (rd':=fun j=>(cs2++rest)[j]?) (fun j h=>?_) (fun _ _ _=>rfl);exact a06 (by rw[f];exact h)
 have:=l0v n1 n2 0 a1 (by rw[a07];omega)
 omega
theorem v0x{cx:Cx}{ts:Array TypeId}(g:CxTy P cx)(h:n0y cx ts.toList=true):ts[1]?=none∨∃t2,ts[1]?=some t2∧(P.underlying t2=some .string∨∃e,P.underlying t2=some (.slice e)):=by
 rw[←a09];unfold n0y at h
 split at h
 simp_all;rename_i t2 _ f;rw[f];refine .inr ⟨t2,rfl,?_⟩
 split at h
 rename_i hT;obtain⟨e,k,-⟩:=b0w (g.T _ _ hT).2;simp_all;rename_i hT;exact .inl (k0n (g.T _ _ hT).2);simp_all;simp_all
theorem e0y{w2:World}{t t' ty:TypeId}{ts:Array TypeId}{x:Value}{e:Ty}(I:Info P e t')(i:ts[0]?=some t)(j:P.underlying t=some (.slice t'))
  (a:ts[1]?=none∨∃t2,ts[1]?=some t2∧(P.underlying t2=some .string∨∃e,P.underlying t2=some (.slice e)))
  {A:Option Addr}{n c k:Nat}{new:List Value}(g:(Builtin.lenOf x).run P w=.ok k w)(f:(Builtin.firstCells e.cells k x).run P w=.ok new.toArray w)(h:n+k≤c)
  (m:∀b,A=some b→(storeCells (b.add (n*e.cells)) new).run P w=.ok () w2)(l:A=none→w2=w):
  (Builtin.append_ ts ty #[.slice A n c,x]).run P w=.ok (.slice A (n+k) c) w2:=by
 have key:∀A,(A=none→w2=w)→(∀b,A=some b→(storeCells (b.add (n*e.cells)) new).run P w=.ok () w2)→(Builtin.append_ ts ty #[.slice A n c,x]).run P w=.ok (.slice A (n+k) c) w2:=by
  intro A l m;cases A with
  |none=>
   have:=l rfl
   subst this;rcases a with a|⟨t2,a,d|⟨o,d⟩⟩;simp[Builtin.append_,i,a,run_underlying j,I.sizeOf,g,h,f];simp[Builtin.append_,i,a,run_underlying j,run_underlying d,I.sizeOf,g,h,f];simp[Builtin.append_,i,a,run_underlying j,run_underlying d,I.sizeOf,g,h,f]
  |some b=>
   have hs:=m b rfl;rcases a with a|⟨t2,a,d|⟨o,d⟩⟩;simp[Builtin.append_,i,a,run_underlying j,I.sizeOf,g,h,f,hs];simp[Builtin.append_,i,a,run_underlying j,run_underlying d,I.sizeOf,g,h,f,hs];simp[Builtin.append_,i,a,run_underlying j,run_underlying d,I.sizeOf,g,h,f,hs]
 simp_all
theorem h0e{t t' ty:TypeId}{ts:Array TypeId}{x:Value}{e:Ty}(I:Info P e t')(l:ts[0]?=some t)(q:P.underlying t=some (.slice t'))
  (d:ts[1]?=none∨∃t2,ts[1]?=some t2∧(P.underlying t2=some .string∨∃e,P.underlying t2=some (.slice e)))
  {A:Option Addr}{n c k:Nat}{old new:List Value}(h:(Builtin.lenOf x).run P w=.ok k w)(g:(Builtin.firstCells e.cells k x).run P w.drew=.ok new.toArray w.drew)
  (f:(Builtin.firstCells e.cells n (.slice A n c)).run P w.drew=.ok old.toArray w.drew)(s:c<n+k)(j:n+k<2147483648):
  (Builtin.append_ ts ty #[.slice A n c,x]).run P w=.ok (.slice (some ⟨w.heap.size,0,none⟩) (n+k) (grownCap w (n+k) c t'))
   (w.drew.alloc (.cells (old++(new++(Builtin.zeroCells I.z.cells (grownCap w (n+k) c t'-(n+k))).toList)).toArray t')):=by
 have p:¬ (n+k≤c):=by omega
 have o:Builtin.nextslicecap (n+k) c*I.i.bytes≤281474976710656:=growslice_fits s (by
  have:=a42 (a60 j) I.bytes
  omega)
 have a:¬ (281474976710656<Builtin.nextslicecap (n+k) c*I.i.bytes):=by omega
 have b:¬ (9223372036854775807<((n:Int)+(k:Int))):=by omega
 have r:∀X Y:Array Value,X.toList=Y.toList→w.drew.alloc (Obj.cells X t')=w.drew.alloc (Obj.cells Y t'):=fun X Y e=>by simp_all
 rcases d with d|⟨t2,d,m|⟨u,m⟩⟩;simp[Builtin.append_,l,d,run_underlying q,I.sizeOf,I.typeInfo,I.zeroValue,h,p,g,f,a,b,Question.forced,newRow,grownCap]
 grind
 simp[Builtin.append_,l,d,run_underlying q,run_underlying m,I.sizeOf,I.typeInfo,I.zeroValue,h,p,g,f,a,b,Question.forced,newRow,grownCap]
 grind
 simp[Builtin.append_,l,d,run_underlying q,run_underlying m,I.sizeOf,I.typeInfo,I.zeroValue,h,p,g,f,a,b,Question.forced,newRow,grownCap]
 grind
theorem p0y{t t' t2 ty:TypeId}{ts:Array TypeId}{e:Ty}(I:Info P e t')(j:ts[0]?=some t)(p:P.underlying t=some (.slice t'))(l:ts[1]?=some t2)(m:P.underlying t2=some (.int .i64))(d:0<e.cells){n:Nat}(o:0<n)(h:n<2147483648):
  (Builtin.append_ ts ty #[.slice none 0 0,.int .i64 (n:Int)]).run P w=.ok (.slice (some ⟨w.heap.size,0,none⟩) n (grownCap w n 0 t'))
   (w.drew.alloc (.cells (([]:List Value)++((Builtin.zeroCells I.z.cells n).toList++(Builtin.zeroCells I.z.cells (grownCap w n 0 t'-n)).toList)).toArray t')):=by
 have b:Builtin.nextslicecap n 0*I.i.bytes≤281474976710656:=growslice_fits o (by
  have:=a42 (a60 h) I.bytes
  omega)
 have s:n*I.i.bytes≤281474976710656:=a26 (a42 (a60 h) I.bytes) (by simp);have f:¬ (281474976710656<Builtin.nextslicecap n 0*I.i.bytes):=by omega
 have k:¬ (9223372036854775807<(n:Int)):=by omega
 have q:IntKind.i64.wrap (n:Int)=n:=by
  grind[wrap,IntKind.bits]
 have g:¬ ((n:Int)<0):=by omega
 have a:¬ (281474976710656<(n:Int)*(I.i.bytes:Int)):=by omega
 have r:¬ (n*e.cells=0):=by grind[a64]
 have c:¬ (n=0):=by omega
 simp[Builtin.append_,j,l,run_underlying p,run_underlying m,I.sizeOf,I.typeInfo,I.zeroValue,asInt,asIntOf,q,g,a,r,c,f,k,Question.forced,newRow,grownCap,Builtin.firstCells];exact congrArg (fun X=>w.drew.alloc (Obj.cells X t')) (Array.ext' (by simp))
end
theorem D0a{m:Mem}{e:Ty}(y:e.sh=e){v:Value}{l:List e.den}{O R}(h:dec m (.list true e) ((Src.one v).rd m)=some (l,O,R)):
  (v=.slice none 0 0∧l=[]∧O=[]∧R=[])∨∃b n c,∃cs:List Value,v=.slice (some b) n c∧(c=0∨b.spot=none)∧n≤c∧n=l.length∧O=(if c=0 then[]else[(b.block,b.off+c*e.cells)])∧
   cs.length=n*e.cells∧(∀j u,cs[j]?=some u→m b.block (b.off+j)=some u)∧(∀u∈cs,b0v u=true)∧a0d (fun i=>dec m e fun j=>cs[i*e.cells+j]?) n 0=some (l,[],R):=by
 rcases c0j h with⟨hv,t,w,x⟩|⟨b,n,c,os,hv,a,d,o,z⟩;simp_all[Src.rd];simp[Src.rd]at hv;have g:a0d (fun i=>dec m e fun j=>m b.block (b.off+(i*e.cells+j))) n 0=some (l,os,R):=by simp_all[m0v]
 have f:os=[]:=by
  have k:dec m (.arr n e) (fun j=>m b.block (b.off+j))=some (l,os,R):=g;exact h0c (by simp_all[Ty.shn]) k
 subst f;obtain⟨cs,p,q,r,s⟩:=j0d g;refine .inr ⟨b,n,c,cs,hv,a,d,(b0b n 0 o).symm,?_,p,q,r,s⟩
 grind
theorem o0r{m m0:Mem}{e:Ty}{b:Addr}{n c:Nat}{cs:List Value}{l:List e.den}{os R}(f:c=0∨b.spot=none)(g:n≤c)(a:n*e.cells≤cs.length)(q:∀j u,j<n*e.cells→cs[j]?=some u→m b.block (b.off+j)=some u)
  (d:a0d (fun i=>dec m0 e fun j=>cs[i*e.cells+j]?) n 0=some (l,os,R))(p:∀c∈R,∀j,m c j=m0 c j)(o:∀c∈os.map (·.1),∀j,m c j=m0 c j:=by simp):
  dec m (.list true e) ((Src.one (.slice (some b) n c)).rd m)=some (l,if c=0 then[]else(b.block,b.off+c*e.cells)::os,R):=by
 have h:dec m (.arr n e) (fun j=>m b.block (b.off+j))=some (l,os,R):=a0k (.arr n e) (show dec m0 (.arr n e) (fun j=>cs[j]?)=_ from d) (fun j k=>by
  have k:j<n*e.cells:=k
  grind) (fun c j f=>by
  grind)
 have h:a0d (fun i=>dec m e fun j=>m b.block (b.off+(i*e.cells+j))) n 0=some (l,os,R):=h;show a0w m true e.cells (dec m e) (some (.slice (some b) n c))=_;simp only[a0w];rw[if_pos ⟨f,g⟩,h]
 simp
 split
 all_goals simp_all[a0d]
theorem n0w{m:Mem}:∀(p:a0l)(t:Ty)(s:Src){t' s'},loc m t s p=some (t',s')→p≠[]→∃b o,s'=.at b o
 | [],_,_,_,_,_,hp=>absurd rfl hp
 |.fst::p,t,s,t',s',h,_=>by
  obtain⟨a,g,bl,so,rfl,rfl,h⟩:=d0v h;cases p with
  |nil=>simp[a0t]at h;grind
  |cons x p=>exact n0w (x::p) _ _ h (by simp)
 |.snd::p,t,s,t',s',h,_=>by
  obtain⟨a,g,bl,so,rfl,rfl,h⟩:=d0w h;cases p with
  |nil=>simp[a0t]at h;grind
  |cons x p=>exact n0w (x::p) _ _ h (by simp)
 |.idx i::p,t,s,t',s',h,_=>by
  rcases e0v h with⟨n,k,bl,so,rfl,rfl,hi,h⟩|⟨k,a,n,c,rfl,f,hi,h⟩
  ·cases p with
   |nil=>simp[a0t]at h;grind
   |cons x p=>exact n0w (x::p) _ _ h (by simp)
  ·cases p with
   |nil=>simp[a0t]at h;grind
   |cons x p=>exact n0w (x::p) _ _ h (by simp)
theorem g0m{Γ:AE}{n:Nat}(r:Option Root):(Γ.setRt n r).rt n=r:=by simp[AE.setRt]
section
variable {P:Program} {B:Base} {N:Nat} {ρ:Type} {Γ:AE} {a:Act} {w:World} {σ:Gh}
structure News (P:Program) (w:World) (m:Mem) (Sh:Nat→Prop) (e:Ty) (ys:List e.den) (x:Value) where
 cs:List Value
 len:(Builtin.lenOf x).run P w=.ok ys.length w
 size:cs.length=ys.length*e.cells
 one:∀u∈cs,b0v u=true
 R:List Nat
 rd:a0d (fun i=>dec m e fun j=>cs[i*e.cells+j]?) ys.length 0=some (ys,[],R)
 shr:∀c∈R,Sh c
 run:(Builtin.firstCells e.cells ys.length x).run P w=.ok cs.toArray w
 drew:(Builtin.firstCells e.cells ys.length x).run P w.drew=.ok cs.toArray w.drew
theorem Rel.turn{d:Nat}{K:AE→Rs ρ}{z:ρ}{n:Nat}{p:a0l}{r:Root}{e:Ty}{l l':List e.den}{v v':Value}{w2:World}{s O' R' O2 R2}(h:Rel B Γ N (a0f a) w σ)(hN:a.tmps.size=N)(L:Γ.look n=some r)
  (Y:loc (a0a w σ.ov) r.t (σ.g n) p=some (.list true e,s))(hg:a0p r.t r.x p=⟨.list true e,l⟩)(hv:s.rd (a0a w σ.ov) 0=some v)
  (hd:dec (a0a w σ.ov) (.list true e) (s.rd (a0a w σ.ov))=some (l,O',R'))(U:∀q∈O',q∈σ.ow n)(g2:∀b o,s=.at b o→b∉O'.map (·.1))
  (W:dec (a0a w2 none) (.list true e) ((Src.one v').rd (a0a w2 none))=some (l',O2,R2))
  (h8:∀c j,a0a w2 none c j=a0a w none c j∨c∈O'.map (·.1)∨w.heap.size≤c)
  (G:∀c∈O2.map (·.1),c∈O'.map (·.1)∨w.heap.size≤c)(R:(O2.map (·.1)).Nodup)(y:∀p∈O2,b0c w2 p.1 p.2)(u:∀c k,b0c w c k→a0u σ c→b0c w2 c k)
  (I:w.heap.size≤w2.heap.size)(Q:∀b,b<B.size→¬ B.F b→w2.heap[b]?=B.hp b)(M:∀c∈R2,Shr B w σ c)
  (C:(let Γ':=((Γ.mapv (AV.kill n p)).setRt n (some ⟨r.bx,r.t,b0s r.t r.x p (.list true e) l'⟩)).set d (.sref n p)
   match p,r.bx with
   | [],false=>bif decide (n<pinned)then K Γ' else none
   |p,_=>match Γ.pd with
    |none=>K { Γ' with pd:=some (n,p,d) }
    |some _=>none)=some z)(hio:c0o w2=c0o w:=by first|rfl|assumption):
  ∃Γ' σ',Rel B Γ' N (a0f (a.put (some d) v')) w2 σ'∧K Γ'=some z:=by
 obtain⟨A,L⟩:=a0q L;have g3:=h.ov_none A;have D:∀c∈R2,c<w2.heap.size∧(B.S c∨B.F c∨B.size≤c)∧¬ a0u σ c∧c∉O2.map (·.1):=fun c H=>by
  have hs:=M c H;refine⟨a02 hs.1 I,hs.2.1,hs.2.2,fun g=>?_⟩;rcases G c g with g|g;obtain⟨q,hq,rfl⟩:=a03.1 g;exact hs.2.2 ⟨n,a00 (U q hq)⟩
  have:=hs.1;omega
 have top:p=[]→r.bx=false→∃Γ' σ',Rel B Γ' N (a0f (a.put (some d) v')) w2 σ'∧K Γ'=some z:=by
  intro hp P;subst hp;obtain⟨bx,t,x⟩:=r;simp only at P;subst P;simp[a0p,b0j]at hg;cases hg;have C:(bif decide (n<pinned)then K (((Γ.mapv (AV.kill n [])).setRt n (some ⟨false,.list true e,b0s (.list true e) l [] (.list true e) l'⟩)).set d (.sref n []))else none)=some z:=C;obtain⟨T,C⟩:=(a0b C).elim id fun h=>by grind
  have T:n<pinned:=by simp_all
  have h9:b0s (.list true e) l [] (.list true e) l'=l':=q0a _ _ _;replace C:K (((Γ.mapv (AV.kill n [])).setRt n (some ⟨false,.list true e,l'⟩)).set d (.sref n []))=some z:=by
   simp_all
  have i:=h.top L T A (w':=w2) (v':=v') (l':=l') (by grind) (fun c j H hn=>by
    grind) (fun c H=>(G c H).imp (fun g=>by
     grind) id) R y u I Q D (f:=AV.kill n []) (fun av=>by
    cases av with
    |ptr m q=>
     simp only[AV.kill]
     by_cases hm:m=n
     ·subst hm;cases q with
      |nil=>simp
      |cons=>left;simp[d0d]
     simp_all
    |sref m q=>
     grind[AV.kill,d0d]
    |swin m q o k=>
     grind[AV.kill,d0d]
    |_=>exact .inr ⟨rfl,fun k q E _=>by rcases E with E|E|⟨_,_,E⟩<;>cases E⟩)
  refine⟨_,_,i.putd (sv:=.one (.sref n [])) (v:=v') hN (fun _=>⟨⟨false,.list true e,l'⟩,e,.one v',g0m _,?_,rfl⟩),C⟩;show some (_,if n=n then Src.one v' else _)=_
  simp
 have h0:(∃b o,s=.at b o)→K { (((Γ.mapv (AV.kill n p)).setRt n (some ⟨r.bx,r.t,b0s r.t r.x p (.list true e) l'⟩)).set d (.sref n p))with pd:=some (n,p,d) }=some z→
   ∃Γ' σ',Rel B Γ' N (a0f (a.put (some d) v')) w2 σ'∧K Γ'=some z:=by
  rintro⟨b,o,rfl⟩ C
  have hb:=h.place L Y;have O:a0u σ b:=⟨n,hb⟩;have h7:=h.lt O;have h4:b∉O2.map (·.1):=fun g=>by
   grind
  have h5:b∉R2:=fun g=>(M b g).2.2 O;have Z:∀c j,c≠b→a0a w2 (some (b,o,v')) c j=a0a w2 none c j:=fun c j H=>by
   simp_all[a0a]
  have X:dec (a0a w2 (some (b,o,v'))) (.list true e) ((Src.at b o).rd (a0a w2 (some (b,o,v'))))=some (l',O2,R2):=a0k _ W (fun j hj=>by
   simp_all[Ty.cells,Src.rd,a0a]) (fun c j H=>Z c j fun e=>by
    simp_all)
  obtain⟨g5,g4,i⟩:=h.chg L Y hd (w':=w2) (ov':=some (b,o,v')) (pd':=some (n,p,d)) (.new d v' e A rfl) X (fun c j=>by
    by_cases H:c=b∧j=o
    simp_all[Ty.cells];have e1:a0a w2 (some (b,o,v')) c j=a0a w2 none c j:=by
     simp_all[a0a]
    grind) G R y u I Q D (f:=AV.kill n p) (fun av=>m0q n p _ av)
  obtain⟨h3,V,E,h2⟩:=i.pend;exact⟨_,_,i.putd (sv:=.one (.sref n p)) (v:=v') hN (fun _=>⟨h3,V,.at b o,E,h2,by simp[Src.rd,a0a]⟩),C⟩
 cases p with
 |nil=>
  cases hb:r.bx with
  |false=>
   simp_all
  |true=>
   have J:(match Γ.pd with
    |none=>K { (((Γ.mapv (AV.kill n [])).setRt n (some ⟨r.bx,r.t,b0s r.t r.x [] (.list true e) l'⟩)).set d (.sref n []))with pd:=some (n,[],d) }
    |some _=>none)=some z:=by
    simp_all
   rw[A]at J;refine h0 ?_ J;simp[a0t]at Y;obtain⟨g0,g1,-,-,-,-,-,h6⟩:=h.sep L
   grind
 |cons x p=>
  have J:(match Γ.pd with
   |none=>K { (((Γ.mapv (AV.kill n (x::p))).setRt n (some ⟨r.bx,r.t,b0s r.t r.x (x::p) (.list true e) l'⟩)).set d (.sref n (x::p)))with pd:=some (n,x::p,d) }
   |some _=>none)=some z:=C
  grind[n0w]
end
section
variable {P:Program} {B:Base} {N:Nat} {ρ:Type} {Γ:AE} {a:Act} {w:World} {σ:Gh}
theorem f0m(b:Nat):∀(vs:List Value)(o:Nat)(w:World),c0o (w.setCells b o vs)=c0o w
 | [],_,_=>rfl
 |v::r,o,w=>(f0m b r (o+1) (w.setCell ⟨b,o,none⟩ v)).trans rfl
theorem j0p{z:Array Value}(n:Nat):Builtin.zeroCells z n=madeCells z (n*z.size):=rfl
theorem z0j{q:Bool}{d:Nat}{e:Ty}(he:e.sh=e){t t' ty:TypeId}{ts:Array TypeId}(I:Info P e t')(h0:ts[0]?=some t)(H:P.underlying t=some (.slice t'))
  (h1:ts[1]?=none∨∃t2,ts[1]?=some t2∧(P.underlying t2=some .string∨∃e,P.underlying t2=some (.slice e)))
  {av:AV}{s x:Value}{ys:List e.den}{K:AE→Rs ρ}{z:ρ}(h:Rel B Γ N (a0f a) w σ)(hN:a.tmps.size=N)(Z:a0e (a0a w σ.ov) σ.g Γ.rt (Shr B w σ) av s)
  (Y:News P w (a0a w σ.ov) (Shr B w σ) e ys x)(D:Γ.apnd q d e av ys K=some z):
  ∃v w' Γ' σ',(Builtin.append_ ts ty #[s,x]).run P w=.ok v w'∧Rel B Γ' N (a0f (a.put (some d) v)) w' σ'∧K Γ'=some z:=by

 have g8:∀(l:List e.den)(n:Nat)(cs:List Value)(R:List Nat)(rest:List Value),cs.length=n*e.cells→a0d (fun i=>dec (a0a w σ.ov) e fun j=>cs[i*e.cells+j]?) n 0=some (l,[],R)→
   a0d (fun i=>dec (a0a w σ.ov) e fun j=>(cs++(Y.cs++rest)).toArray[i*e.cells+j]?) (n+ys.length) 0=some (a17 l ys,[],R++Y.R):=by
  intro l n cs R rest hl E;simp only[a11];exact l0m E hl Y.rd Y.size
 have k6:∀k,(Builtin.zeroCells I.z.cells k).size=k*e.cells:=fun k=>by rw[j0p,size_madeCells,I.zsize]
 have a9:∀A:Option Addr,s=.slice A 0 0→(bif lim ys.length then Γ.fresh q d ⟨false,.list true e,ys⟩ fun Γ=>K (Γ.set d (.sref d []))else none)=some z→
   ∃v w' Γ' σ',(Builtin.append_ ts ty #[s,x]).run P w=.ok v w'∧Rel B Γ' N (a0f (a.put (some d) v)) w' σ'∧K Γ'=some z:=by
  intro A hs D;subst hs;obtain⟨U,D⟩:lim ys.length=true∧_:=(a0b D).elim id fun h=>by grind
  simp[lim]at U
  by_cases hk:ys.length=0
  ·have g9:Y.cs=[]:=a01.1 (by rw[Y.size,hk];omega);have hy:ys=[]:=a01.1 hk;have o:=e0y (P:=P) (w2:=w) (ty:=ty) I h0 H h1 (A:=A) (n:=0) (c:=0) Y.len Y.run (by omega) (fun b _=>by rw[g9];rfl) (fun _=>rfl);obtain⟨Γ',σ',g1,g2,g3,g4,g5,g6⟩:=h.fresh D (fun _ _=>rfl) (a04 _) (s:=.one (.slice A (0+ys.length) 0)) (O:=[]) (by simp) (by simp) (by simp) ⟨[],[],by
    show a0w (a0a w σ.ov) true e.cells (dec (a0a w σ.ov) e) (some (.slice A (0+ys.length) 0))=some (ys,[],[]);rw[hk,hy];cases A with
    |none=>rfl
    |some b=>rfl,by simp,.inr ⟨rfl,⟨_,rfl⟩,⟨e,rfl⟩,rfl⟩⟩
   exact⟨_,w,_,σ',o,g2.putd (sv:=.one (.sref d [])) hN (fun _=>⟨_,e,_,g3,by rw[g4];rfl,rfl⟩),g1⟩
  have W:(Builtin.firstCells e.cells 0 (.slice A 0 0)).run P w.drew=.ok ([]:List Value).toArray w.drew:=by
   have:=h0n (P:=P) (w:=w) (w2:=w.drew) (e:=e) (v:=.slice A 0 0) (cs:=[]) rfl (fun _=>rfl) (by simp) (by simp) (fun _=>rfl) 0 (by omega)
   simp_all
  have o:=h0e (P:=P) (w:=w) (ty:=ty) I h0 H h1 (A:=A) (n:=0) (c:=0) Y.len Y.drew W (by omega) (by omega);have hg:=grownCap_ge w (0+ys.length) 0 t';obtain⟨Γ',σ',g1,g2,g3,-,-⟩:=h.newSlice (c:=grownCap w (0+ys.length) 0 t') D (fun c E=>b0x (w:=w.drew) _ c E) (c0l (w:=w.drew) _)
   (b0r (w:=w.drew) (Obj.cells (([]:List Value)++(Y.cs++(Builtin.zeroCells I.z.cells (grownCap w (0+ys.length) 0 t'-(0+ys.length))).toList)).toArray t')) (.inl rfl) (by
    have:(([]:List Value)++(Y.cs++(Builtin.zeroCells I.z.cells (grownCap w (0+ys.length) 0 t'-(0+ys.length))).toList)).length=grownCap w (0+ys.length) 0 t'*e.cells:=by
     simp only[a31,lN,Y.size,a29,k6];rw[←a21];simp_all
    simp_all) (by omega) (by
    have:=g8 [] 0 [] [] (Builtin.zeroCells I.z.cells (grownCap w (0+ys.length) 0 t'-(0+ys.length))).toList (by simp) rfl
    simp_all) Y.shr
  refine⟨_,_,_,σ',o,g2.putd (sv:=.one (.sref d [])) hN (fun _=>?_),g1⟩;rw[a07]at g3⊢;exact g3
 unfold AE.apnd at D
 split at D
 have Z:s=.slice none 0 0:=Z;simp_all;obtain⟨A,hv⟩:=Z;simp_all
 ·rename_i n p;obtain⟨-,D⟩:q=false∧_:=by
   by_cases hq:q
   rw[hq]at D;simp at D;exact⟨by simp_all,(a0b D).elim (fun h=>absurd h.1 hq) (·.2)⟩
  split at D
  ·rename_i r hr;obtain⟨a6,a7⟩:=a0q hr;have h4:=h.ov_none a6
   split at D
   ·rename_i e' l hg
    split at D
    ·rename_i a3;subst a3;obtain⟨U,D⟩:lim (a15 l+ys.length)=true∧_:=(a0b D).elim id fun h=>by grind
     simp[lim]at U;obtain⟨s',O',R',f1,f2,f3,f4,f5,f6,f7,f8⟩:=h.own Z a7 hg;have h5:∀c∈R'++Y.R,Shr B w σ c:=fun c E=>(mA.1 E).elim (f5 c) (Y.shr c);have g0:∀c∈O'.map (·.1),a0u σ c:=fun c E=>by
      obtain⟨q,hq,rfl⟩:=a03.1 E;exact⟨n,a00 (f6 q hq)⟩

     have h6:∀(A:Option Addr)(f c:Nat)(cs:List Value),s=.slice A f c→f=a15 l→cs.length=f*e.cells→(∀b,A=some b→∀j u,cs[j]?=some u→w.cell? (b.add j)=some u)→(A=none→f=0)→
       a0d (fun i=>dec (a0a w σ.ov) e fun j=>cs[i*e.cells+j]?) f 0=some (l,[],R')→c<f+ys.length→
       ∃v w' Γ' σ',(Builtin.append_ ts ty #[s,x]).run P w=.ok v w'∧Rel B Γ' N (a0f (a.put (some d) v)) w' σ'∧K Γ'=some z:=by
      intro A f c cs hs k4 F C h9 L a4;subst hs;have W:(Builtin.firstCells e.cells f (.slice A f c)).run P w.drew=.ok cs.toArray w.drew:=by
       have:=h0n (P:=P) (w:=w) (w2:=w.drew) (e:=e) (v:=.slice A f c) (cs:=cs) rfl (fun _=>rfl) F C h9 f (a04 _)
       grind
      have o:=h0e (P:=P) (w:=w) (ty:=ty) I h0 H h1 (A:=A) (n:=f) (c:=c) Y.len Y.drew W a4 (by omega);have h8:=grownCap_ge w (f+ys.length) c t';generalize hw2:w.drew.alloc _=w2 at o;generalize hgc:grownCap w (f+ys.length) c t'=gc at o h8;have X:∀c,c<w.heap.size→w2.heap[c]?=w.heap[c]?:=fun c E=>by rw[←hw2];exact b0x (w:=w.drew) _ c E
      have G:=b0r (w:=w.drew) (.cells (cs++(Y.cs++(Builtin.zeroCells I.z.cells (gc-(f+ys.length))).toList)).toArray t');have G:w2.heap[w.heap.size]?=some (.cells (cs++(Y.cs++(Builtin.zeroCells I.z.cells (gc-(f+ys.length))).toList)).toArray t'):=by
       rw[←hw2,hgc];simp_all
      have k5:w.heap.size≤w2.heap.size:=by grind
      have k0:(cs++(Y.cs++(Builtin.zeroCells I.z.cells (gc-(f+ys.length))).toList)).length=gc*e.cells:=by
       simp[F,Y.size,k6];rw[←a21,←a21]
       grind
      have T:=o0r (m:=a0a w2 none) (m0:=a0a w σ.ov) (b:=⟨w.heap.size,0,none⟩) (n:=f+ys.length) (c:=gc) (cs:=cs++(Y.cs++(Builtin.zeroCells I.z.cells (gc-(f+ys.length))).toList)) (.inr rfl) h8 (by
        rw[k0];exact a18 _ h8) (fun j u _ H=>by
        simp only[a0a,a07,World.cell?,G]
        grind) (by
        have:=g8 l f cs R' (Builtin.zeroCells I.z.cells (gc-(f+ys.length))).toList F L
        simpa only[a11]using this) (fun c E j=>by
        rw[h4];exact b0q none (X c (h5 c E).1) j)
      have k3:gc≠0:=by omega
      rw[if_neg k3]at T;have h7:∀c k,b0c w c k→b0c w2 c k:=fun c k hf=>by
       obtain⟨cc,e1,lo,hi,g1,g2⟩:=hf;exact⟨cc,e1,lo,hi,by grind,g2⟩
      obtain⟨Γ',σ',k1,k2⟩:=h.turn (w2:=w2) hN hr f1 hg f2 f3 f6 f8 T (fun c j=>by
        grind[b0q]) (fun c E=>by
        grind) (by simp) (fun p hp=>by
        simp only[a43]at hp;subst hp;exact⟨_,t',0,0,G,by grind,.inl rfl⟩) (fun c k hf _=>h7 c k hf) k5 (fun b hb hF=>by
        have:=h.size
        rw[X b (by omega)];exact h.frame b hb hF) h5 D (hio:=by rw[←hw2];rfl)
      grind
     rcases D0a he f4 with⟨hs,a5,b0,k8⟩|⟨b,f,c,cs,hs,hb,b2,k4,hO,F,C,a8,L⟩
     by_cases hk:ys.length=0
     have g9:Y.cs=[]:=a01.1 (by rw[Y.size,hk];omega);have hy:ys=[]:=a01.1 hk;have o:=e0y (P:=P) (w2:=w) (ty:=ty) I h0 H h1 (A:=none) (n:=0) (c:=0) Y.len Y.run (by omega) (fun b hb=>by grind) (fun _=>rfl);subst hs;obtain⟨Γ',σ',k1,k2⟩:=h.turn (w2:=w) (v':=.slice none (0+ys.length) 0) (O2:=[]) (R2:=[]) (l':=a17 l ys) hN hr f1 hg f2 f3 f6 f8 (by
       grind[a17]) (fun c j=>.inl rfl) (by simp) (by simp) (by simp) (fun _ _ hf _=>hf) (a04 _) h.frame (by simp) D
     grind
     exact h6 none 0 0 [] hs (by grind) (by simp) (by simp) (fun _=>rfl) (by rw[a5,k8];rfl) (by omega)
     ·have h2:∀b',some b=some b'→∀j u,cs[j]?=some u→w.cell? (b'.add j)=some u:=fun b' Q j u H=>by
       simp at Q;subst Q;have a2:c≠0:=fun e0=>by
        grind
       rw[j0w (hb.resolve_left a2)]
       have:=C j u H
       rw[h4]at this;exact this
      by_cases hfit:f+ys.length≤c
      ·
       let w2:=w.setCells b.block (b.off+f*e.cells) Y.cs
       have V:c≠0→b0c w b.block (b.off+c*e.cells):=fun E=>h.live n (b.block,b.off+c*e.cells) (f6 _ (by grind));have g7:Y.cs≠[]→c≠0∧b.off+f*e.cells+Y.cs.length≤b.off+c*e.cells:=fun y=>by
        have:ys.length≠0:=fun e0=>y (a01.1 (by rw[Y.size,e0];omega))
        refine⟨by omega,?_⟩
        have:=a18 e.cells hfit
        rw[a21,←Y.size]at this;omega
       have k7:(storeCells (b.add (f*e.cells)) Y.cs).run P w=.ok () w2:=by
        by_cases y:Y.cs=[]
        simp[w2,y];rfl;obtain⟨E,b1⟩:=g7 y;rw[d0i (hb.resolve_left E)]
        have:=run_storeCells_cells (P:=P) b.block (b.off+f*e.cells) Y.cs 0 w (fun j hj=>((V E).cell (by omega)).1) (fun j hj=>((V E).cell (by omega)).2) (fun u H=>f0s (Y.one u H))
        omega
       have h3:∀J j,w2.cell? ⟨J,j,none⟩=if J=b.block∧b.off+f*e.cells≤j∧j<b.off+f*e.cells+Y.cs.length then Y.cs[j-(b.off+f*e.cells)]? else w.cell? ⟨J,j,none⟩:=fun J j=>by
        by_cases y:Y.cs=[]
        simp only[w2,y,World.setCells,a23]
        grind
        grind[f0l]
       have o:=e0y (P:=P) (w2:=w2) (ty:=ty) I h0 H h1 (A:=some b) (n:=f) (c:=c) Y.len Y.run hfit (fun b' Q=>by
        grind) (fun hn=>by grind)
       have M:∀J,J≠b.block→w2.heap[J]?=w.heap[J]?:=fun J S=>d0t _ _ _ _ _ S;have k9:Y.cs≠[]→b.block∈O'.map (·.1):=fun y=>by grind
       have T:=o0r (m:=a0a w2 none) (m0:=a0a w σ.ov) (b:=b) (n:=f+ys.length) (c:=c) (cs:=cs++(Y.cs++[])) (l:=a17 l ys) (R:=R'++Y.R) hb hfit (by
         simp only[lN,F,Y.size,a23]
         grind) (fun j u hj H=>by
         simp only[a0a,h3]
         by_cases hj2:j<f*e.cells
         rw[if_neg (by omega)];rw[a06 (by omega)]at H
         have:=C j u H
         rw[h4]at this;exact this;rw[a21,←Y.size]at hj;rw[if_pos ⟨trivial,by omega,by omega⟩];rw[a12 (by omega),a50,F]at H;rw[←H];congr 1;omega) (by
         have:=g8 l f cs R' [] F L
         simpa only[a11]using this) (fun J S j=>by
         rw[h4]
         by_cases y:Y.cs=[]
         grind[World.setCells]
         exact b0q none (M J fun e1=>(h5 J S).2.2 (by grind)) j)
       rw[←hO]at T;subst hs;obtain⟨Γ',σ',k1,k2⟩:=h.turn (w2:=w2) hN hr f1 hg f2 f3 f6 f8 T (fun J j=>by
         grind[World.setCells,b0q]) (fun J S=>.inl S) f7 (fun p hp=>(h.live n p (f6 p hp)).setCells _ _ _) (fun _ _ hf _=>hf.setCells _ _ _) (by rw[e0w];simp) (fun b' Q hF=>by
         by_cases y:Y.cs=[]
         simp[w2,y,World.setCells];exact h.frame b' Q hF
         ·rw[M b' ?_];exact h.frame b' Q hF
          ·rintro rfl
           rcases h.mine _ (g0 _ (k9 y))with g|g
           all_goals grind) h5 D (hio:=f0m _ _ _ _)
       grind
      exact h6 (some b) f c cs hs k4 F h2 (by simp) L (by omega)
    simp_all
   simp_all
  simp_all
 simp_all
end
theorem w0w{m:Mem}{e:Ty}{v:Value}{l:List e.den}{O R}(h:dec m (.list true e) ((Src.one v).rd m)=some (l,O,R)):
  ∃A n c,∃cs:List Value,∃os,v=.slice A n c∧n=l.length∧n≤c∧cs.length=n*e.cells∧(∀u∈cs,b0v u=true)∧a0d (fun i=>dec m e fun j=>cs[i*e.cells+j]?) n 0=some (l,os,R)∧
   (∀b,A=some b→(c=0∨b.spot=none)∧O=(if c=0 then[]else(b.block,b.off+c*e.cells)::os)∧∀j u,cs[j]?=some u→m b.block (b.off+j)=some u)∧(A=none→c=0)∧(c=0→O=[]∧os=[]∧R=[]):=by
 rcases c0j h with⟨hv,rfl,rfl,rfl⟩|⟨b,n,c,os,hv,x,o,p,y⟩;simp[Src.rd]at hv;exact⟨none,0,0,[],[],hv,rfl,a04 _,by simp,by simp,rfl,by simp,fun _=>rfl,fun _=>⟨rfl,rfl,rfl⟩⟩;simp[Src.rd]at hv;have k:a0d (fun i=>dec m e fun j=>m b.block (b.off+(i*e.cells+j))) n 0=some (l,os,R):=by simp_all[m0v]
 obtain⟨cs,q,z,r,s⟩:=j0d k;have a:c=0→os=[]∧R=[]:=fun f=>by
  simp_all[a0d]
 have w:O=if c=0 then[]else(b.block,b.off+c*e.cells)::os:=by
  grind
 exact⟨some b,n,c,cs,os,hv,(b0b n 0 p).symm,o,q,r,s,fun t d=>by
  simp_all,fun g=>(by grind),fun f=>⟨by simp_all,(a f).1,(a f).2⟩⟩
section
variable {P:Program} {B:Base} {N:Nat} {ρ:Type} {Γ:AE} {a:Act} {w:World} {σ:Gh}
theorem Rel.one{tm}(h:Rel B Γ N tm w σ){n}{e:Ty}{l:List e.den}(b:Γ.rt n=some ⟨false,.list true e,l⟩):
  ∃v R,σ.g n=.one v∧dec (a0a w σ.ov) (.list true e) ((Src.one v).rd (a0a w σ.ov))=some (l,σ.ow n,R)∧∀c∈R,Shr B w σ c:=by
 obtain⟨d,R,f,k,-,-,-,a⟩:=h.sep b;rcases a with⟨g,-⟩|⟨-,⟨v,hv⟩,-,hO⟩
 grind
 rw[hv]at f;exact⟨v,R,hv,by rw[hO];exact f,k⟩
theorem q0v{d m n:Nat}{es e:Ty}{ys:List e.den}(d0:e.sh=es){t t' ty:TypeId}{ts:Array TypeId}(I:Info P es t')(h0:ts[0]?=some t)(hu:P.underlying t=some (.slice t'))
  (h1:ts[1]?=none∨∃t2,ts[1]?=some t2∧(P.underlying t2=some .string∨∃e,P.underlying t2=some (.slice e)))
  {s x:Value}{K:AE→Rs ρ}{z:ρ}(h:Rel B Γ N (a0f a) w σ)(hN:a.tmps.size=N)(d2:σ.g n=.one s)(d1:σ.g m=.one x)(hm:Γ.rt m=some ⟨false,.list true e,ys⟩)(hz:Γ.gathN d m e ys n K=some z):
  ∃v w' Γ' σ',(Builtin.append_ ts ty #[s,x]).run P w=.ok v w'∧Rel B Γ' N (a0f (a.put (some d) v)) w' σ'∧K Γ'=some z:=by
 have a2:es.cells=e.cells:=by rw[←d0,Ty.cells_sh]
 unfold AE.gathN at hz
 split at hz
 rotate_left;cases hz;rename_i e' l hl
 split at hz
 rotate_left;cases hz;rename_i c9;subst c9;obtain⟨b6,hr⟩:=a0q hl;obtain⟨C,hz⟩:=(a0b hz).elim id fun h=>by cases h.2
 simp only[bA,lim,dT,a34,beq_eq_false_iff_ne]at C;obtain⟨⟨d9,U⟩,hlim⟩:=C;have h4:=h.ov_none b6;obtain⟨s',Rn,g1,g2,g3⟩:=h.one hr;rw[d2]at g1;cases g1;obtain⟨x',Rm,f1,f2,f3⟩:=h.one hm;rw[d1]at f1;cases f1;obtain⟨An,L,cn,h5,Z,hs,d6,d8,g5,e8,e4,k7,h7,g6⟩:=w0w g2;obtain⟨Am,X,cm,r,Y,hx,d5,b5,S,e5,b7,g0,h3,a7⟩:=w0w f2;subst hs;subst hx;have cell:∀{A:Option Addr}{cs:List Value}{c:Nat}{O os:b0k},(∀b,A=some b→(c=0∨b.spot=none)∧O=(if c=0 then[]else(b.block,b.off+c*e.cells)::os)∧∀j u,cs[j]?=some u→a0a w σ.ov b.block (b.off+j)=some u)→(∃n,cs.length=n*e.cells∧n≤c)→
   ∀b,A=some b→∀j u,cs[j]?=some u→w.cell? (b.add j)=some u:=fun {A cs c O os} hA ⟨n,hl,g8⟩ b hb j u hu=>by
  obtain⟨q1,-,q2⟩:=hA b hb;have k9:c≠0:=fun e0=>by
   have:=(lS.1 hu).1
   rw[hl,show n=0 from by omega,Nat.zero_mul]at this;omega
  rw[j0w (q1.resolve_left k9)]
  have:=q2 j u hu
  rw[h4]at this;exact this
 have h9:∀(w2:World),(∀x,w2.cell? x=w.cell? x)→∀{A:Option Addr}{cs:List Value}{n c:Nat}{O os:b0k},(∀b,A=some b→(c=0∨b.spot=none)∧O=(if c=0 then[]else(b.block,b.off+c*e.cells)::os)∧∀j u,cs[j]?=some u→a0a w σ.ov b.block (b.off+j)=some u)→
   cs.length=n*e.cells→n≤c→(A=none→c=0)→(Builtin.firstCells es.cells n (.slice A n c)).run P w2=.ok cs.toArray w2:=fun w2 hw A cs n c O os hA hl g8 h0=>by
  have:=h0n (P:=P) (w:=w) (w2:=w2) (e:=e) (v:=.slice A n c) rfl hw hl (cell hA ⟨n,hl,g8⟩) (fun g=>by have:=h0 g;omega) n (a04 _)
  rw[←hl,a62]at this;rw[a2];exact this
 have g9:(Builtin.lenOf (.slice Am X cm)).run P w=.ok X w:=rfl;have k4:∀rest,a0d (fun i=>dec (a0a w σ.ov) e fun j=>(h5++(r++rest))[i*e.cells+j]?) (L+X) 0=some (a17 l ys,Z++Y,Rn++Rm):=fun rest=>l0m e4 g5 b7 S;have k6:∀p∈Z,p∈σ.ow n:=fun p hp=>by
  by_cases e0:cn=0
  rw[(g6 e0).2.1]at hp;cases hp
  ·cases hA:An with
   |none=>exact absurd (h7 hA) e0
   |some b=>rw[(k7 b hA).2.1,if_neg e0];exact a13 _ hp
 have W:∀p∈Y,p∈σ.ow m:=fun p hp=>by
  by_cases e0:cm=0
  rw[(a7 e0).2.1]at hp;cases hp
  ·cases hA:Am with
   |none=>exact absurd (h3 hA) e0
   |some b=>rw[(g0 b hA).2.1,if_neg e0];exact a13 _ hp
 have a5:∀p∈Z++Y,p∈σ.ow n∨p∈σ.ow m:=fun p hp=>(mA.1 hp).imp (k6 p) (W p);have a9:∀c∈(Z++Y).map (·.1),a0u σ c:=fun c C=>by
  obtain⟨p,hp,rfl⟩:=a03.1 C;rcases a5 p hp with g|g;exact⟨n,a00 g⟩;exact⟨m,a00 g⟩
 have c5:(Z.map (·.1)).Nodup:=by
  have:=h.nodup n
  by_cases e0:cn=0
  rw[(g6 e0).2.1];simp
  ·cases hA:An with
   |none=>exact absurd (h7 hA) e0
   |some b=>rw[(k7 b hA).2.1,if_neg e0]at this;exact(a14.1 this).2
 have c4:(Y.map (·.1)).Nodup:=by
  have:=h.nodup m
  by_cases e0:cm=0
  rw[(a7 e0).2.1];simp
  ·cases hA:Am with
   |none=>exact absurd (h3 hA) e0
   |some b=>rw[(g0 b hA).2.1,if_neg e0]at this;exact(a14.1 this).2
 have c3:((Z++Y).map (·.1)).Nodup:=by
  rw[pA];refine a16.2 ⟨c5,c4,fun c C H J e=>?_⟩;subst e;obtain⟨p,hp,rfl⟩:=a03.1 C;obtain⟨p',e3,e⟩:=a03.1 J;exact h.disj n m U p.1 (a00 (k6 p hp)) (by rw[←e];exact a00 (W p' e3))
 have k5:∀c∈Rn++Rm,Shr B w σ c:=fun c C=>(mA.1 C).elim (g3 c) (f3 c)

 have b1:∀{w2:World}{v':Value}{O2:b0k},dec (a0a w2 none) (.list true e) ((Src.one v').rd (a0a w2 none))=some (a17 l ys,O2,Rn++Rm)→
   (∀c j,c<w.heap.size→c∉(σ.ow n).map (·.1)→a0a w2 none c j=a0a w none c j)→(∀c∈O2.map (·.1),(c∈(σ.ow n).map (·.1)∨c∈(σ.ow m).map (·.1))∨w.heap.size≤c)→(O2.map (·.1)).Nodup→
   (∀p∈O2,b0c w2 p.1 p.2)→(∀c k,b0c w c k→a0u σ c→b0c w2 c k)→w.heap.size≤w2.heap.size→(∀b,b<B.size→¬ B.F b→w2.heap[b]?=B.hp b)→c0o w2=c0o w→
   ∃Γ' σ',Rel B Γ' N (a0f (a.put (some d) v')) w2 σ'∧K Γ'=some z:=by
  intro w2 v' O2 q1 q2 q3 q4 q5 q6 q7 q8 q9;have b0:=h.topG (w':=w2) (v':=v') (l':=a17 l ys) (O2:=O2) (R2:=Rn++Rm) (G:=fun j=>j==m) hr d9 b6 (by simpa using U) (by rw[h4];exact q1) (fun c j c1 c2 _=>by rw[h4];exact q2 c j c1 c2)
   (fun c C=>(q3 c C).imp (fun g=>g.imp id fun g=>⟨m,by simp,g⟩) id) q4 q5 q6 q7 q8 (fun c C=>by
    have hs:=k5 c C;refine⟨a02 hs.1 q7,hs.2.1,hs.2.2,fun g=>?_⟩;rcases q3 c g with(g|g)|g;exact hs.2.2 ⟨n,g⟩;exact hs.2.2 ⟨m,g⟩
    have:=hs.1;omega) (f:=fun av=>(av.kill n []).drop m) (fun av=>by
    have same:(∀k q,(av=.ptr k q∨av=.sref k q∨∃o l,av=.swin k q o l)→False)→(av.kill n []).drop m=av→(av.kill n []).drop m=.dead∨((av.kill n []).drop m=av∧∀k q,(av=.ptr k q∨av=.sref k q∨∃o l,av=.swin k q o l)→(k=n→av=.ptr n [])∧(k==m)=false):=
     fun h1 h2=>.inr ⟨h2,fun k q hk=>(h1 k q hk).elim⟩
    cases av with
    |sref k q=>
     by_cases D:k=n
     left;simp[AV.kill,AV.drop,D,d0d]
     by_cases e2:k=m
     left;simp[AV.kill,AV.drop,e2,Ne.symm U];right;simp[AV.kill,AV.drop,D,e2]
    |swin k q o l=>
     by_cases D:k=n
     left;simp[AV.kill,AV.drop,D,d0d]
     by_cases e2:k=m
     left;simp[AV.kill,AV.drop,e2,Ne.symm U];right;simp[AV.kill,AV.drop,D,e2]
    |ptr k q=>
     by_cases e2:k=m
     left
     by_cases D:k=n
     exact absurd (D.symm.trans e2) U;simp[AV.kill,AV.drop,e2,Ne.symm U]
     ·by_cases D:k=n
      ·cases q with
       |nil=>right;simp[AV.kill,AV.drop,D,U,d0d]
       |cons=>left;simp[AV.kill,AV.drop,D,d0d]
      right;simp[AV.kill,AV.drop,D,e2]
    |_=>exact same (by rintro k q (g|g|⟨_,_,g⟩)<;>cases g) rfl) q9
  have c7:(⟨(Γ.mapv fun av=>(av.kill n []).drop m).sl,fun j=>if j=n then some ⟨false,.list true e,a17 l ys⟩else bif j==m then none else Γ.rt j,none⟩:AE) =
    (((Γ.mapv (AV.kill n [])).mapv (AV.drop m)).setRt m none).setRt n (some ⟨false,.list true e,a17 l ys⟩):=by
   simp only[AE.setRt,AE.mapv,b6];congr 1;funext j;cases Γ.sl j<;>simp[SV.mapv];funext j
   by_cases D:j=n
   simp[D];have e2:(j==n)=false:=by simpa using D
   simp[D,e2]
  rw[c7]at b0;refine⟨_,_,b0.putd (sv:=.one (.sref n [])) (v:=v') hN (fun _=>⟨_,e,.one v',g0m _,?_,rfl⟩),hz⟩;show some (_,if n=n then Src.one v' else _)=_
  rw[if_pos rfl]
 by_cases hfit:L+X≤cn
 ·cases hA:An with
  |none=>
   have k9:=h7 hA;have b4:X=0:=by omega
   have c0:L=0:=by omega
   have d4:a17 l ys=[]:=by
    have D:l=[]:=a01.1 (by omega);have e2:ys=[]:=a01.1 (by omega);rw[D,e2];rfl
   have e7:r=[]:=a01.1 (by rw[S,b4];omega);have c8:Rm=[]:=by
    subst b4;simp only[a0d,sj,pJ]at b7;exact b7.2.2.symm
   have Q:=e0y (P:=P) (w:=w) (w2:=w) (ty:=ty) (A:=none) (n:=L) (c:=cn) (k:=X) (new:=r) I h0 hu h1 g9 (h9 w (fun _=>rfl) g0 S b5 h3) hfit (fun b hb=>by cases hb) (fun _=>rfl);obtain⟨Γ',σ',k1,k2⟩:=b1 (w2:=w) (v':=.slice none (L+X) cn) (O2:=[]) (by
    rw[d4,b4,c0,k9,(g6 k9).2.2,c8];rfl) (fun _ _ _ _=>rfl) (by simp) (by simp) (by simp) (fun _ _ hf _=>hf) (a04 _) h.frame rfl
   exact⟨_,w,Γ',σ',Q,k1,k2⟩
  |some b=>
   obtain⟨hb,hO,b2⟩:=k7 b hA;obtain⟨w2,E⟩:∃w2,w2=w.setCells b.block (b.off+L*e.cells) r:=⟨_,rfl⟩;have h6:cn≠0→b0c w b.block (b.off+cn*e.cells):=fun C=>h.live n (b.block,b.off+cn*e.cells) (by rw[hO,if_neg C];simp);have V:r≠[]→cn≠0∧b.off+L*e.cells+r.length≤b.off+cn*e.cells:=fun y=>by
    have:X≠0:=fun e0=>y (a01.1 (by rw[S,e0];omega))
    refine⟨by omega,?_⟩
    have:=a18 e.cells hfit
    rw[a21,←S]at this;omega
   have a6:(storeCells (b.add (L*es.cells)) r).run P w=.ok () w2:=by
    rw[a2,E]
    by_cases y:r=[]
    simp only[y];rfl;obtain⟨C,g8⟩:=V y;rw[d0i (hb.resolve_left C)]
    have:=run_storeCells_cells (P:=P) b.block (b.off+L*e.cells) r 0 w (fun j hj=>((h6 C).cell (by omega)).1) (fun j hj=>((h6 C).cell (by omega)).2) (fun u hu=>f0s (e5 u hu))
    simpa using this
   have a3:∀H j,w2.cell? ⟨H,j,none⟩=if H=b.block∧b.off+L*e.cells≤j∧j<b.off+L*e.cells+r.length then r[j-(b.off+L*e.cells)]? else w.cell? ⟨H,j,none⟩:=fun H j=>by
    rw[E]
    by_cases y:r=[]
    simp only[y,World.setCells,a23];rw[if_neg (by omega)];obtain⟨C,g8⟩:=V y;exact f0l _ _ _ w _ (h6 C) g8 H j
   have Q:=e0y (P:=P) (w:=w) (w2:=w2) (ty:=ty) (A:=some b) (n:=L) (c:=cn) (k:=X) (new:=r) I h0 hu h1 g9 (h9 w (fun _=>rfl) g0 S b5 h3) hfit (fun b' g4=>by
    simp only[sj]at g4;subst g4;exact a6) (fun hn=>by cases hn)
   have h8:∀H,H≠b.block→w2.heap[H]?=w.heap[H]?:=fun H J=>by rw[E];exact d0t _ _ _ _ _ J
   have k8:r≠[]→b.block∈(σ.ow n).map (·.1):=fun y=>by rw[hO,if_neg (V y).1];simp
   have k3:∀H,(r≠[]→H≠b.block)→∀j,a0a w2 none H j=a0a w σ.ov H j:=fun H J j=>by
    rw[h4]
    by_cases y:r=[]
    rw[E,y];rfl;exact b0q none (h8 H (J y)) j
   have a4:=o0r (m:=a0a w2 none) (m0:=a0a w σ.ov) (b:=b) (n:=L+X) (c:=cn) (cs:=h5++(r++[])) (l:=a17 l ys) (os:=Z++Y) (R:=Rn++Rm) hb hfit (by
     simp only[lN,g5,S,a23];rw[a21];omega) (fun j u hj hu=>by
     simp only[a0a,a3]
     by_cases hj2:j<L*e.cells
     rw[if_neg (by omega)];rw[a06 (by omega)]at hu
     have:=b2 j u hu
     rw[h4]at this;exact this;rw[a21,←S]at hj;rw[if_pos ⟨trivial,by omega,by omega⟩];rw[a12 (by omega),a50,g5]at hu;rw[←hu];congr 1;omega) (k4 []) (fun H J j=>k3 H (fun y D=>(k5 H J).2.2 ⟨n,by rw[D];exact k8 y⟩) j) (fun H J j=>k3 H (fun y D=>by
     obtain⟨p,hp,rfl⟩:=a03.1 J;rcases mA.1 hp with hp|hp
     have:=h.nodup n
     rw[hO,if_neg (V y).1,a05,a14]at this;exact this.1 (by show b.block∈_;rw[←D];exact a00 hp);exact h.disj n m U b.block (k8 y) (by rw[←D];exact a00 (W p hp))) j)
   have b8:∀p∈(if cn=0 then[]else(b.block,b.off+cn*e.cells)::(Z++Y)),p∈σ.ow n∨p∈σ.ow m:=fun p hp=>by
    split at hp
    cases hp;rename_i C;rcases mC.1 hp with rfl|hp;left;rw[hO,if_neg C];simp;exact a5 p hp
   obtain⟨Γ',σ',k1,k2⟩:=b1 (w2:=w2) a4 (fun H j J d7=>by
     have:=k3 H (fun y D=>d7 (by rw[D];exact k8 y)) j
     rw[h4]at this;exact this) (fun H J=>by
     obtain⟨p,hp,rfl⟩:=a03.1 J;exact .inl ((b8 p hp).imp a00 a00)) (by
     split
     simp
     rename_i C;rw[a05,a14];refine⟨fun g=>?_,c3⟩;obtain⟨p,hp,D⟩:=a03.1 g;have D:p.1=b.block:=D;rcases mA.1 hp with hp|hp
     have:=h.nodup n
     rw[hO,if_neg C,a05,a14]at this;exact this.1 (by show b.block∈_;rw[←D];exact a00 hp);exact h.disj n m U b.block (by rw[hO,if_neg C];simp) (by rw[←D];exact a00 (W p hp))) (fun p hp=>by
     have:b0c w p.1 p.2:=(b8 p hp).elim (h.live n p) (h.live m p)
     rw[E];exact this.setCells _ _ _) (fun _ _ hf _=>by rw[E];exact hf.setCells _ _ _) (by rw[E,e0w];exact a04 _) (fun b' g4 hF=>by
     by_cases y:r=[]
     rw[E,y];exact h.frame b' g4 hF;rw[h8 b' ?_];exact h.frame b' g4 hF
     rintro rfl
     rcases h.mine _ ⟨n,k8 y⟩with g|g;exact hF g;omega) (by rw[E];exact f0m _ _ _ _)
   exact⟨_,w2,Γ',σ',Q,k1,k2⟩
 have d3:cn<L+X:=by omega
 have Q:=h0e (P:=P) (w:=w) (ty:=ty) (A:=An) (n:=L) (c:=cn) (k:=X) (old:=h5) (new:=r) I h0 hu h1 g9 (h9 w.drew (fun _=>rfl) g0 S b5 h3) (h9 w.drew (fun _=>rfl) k7 g5 d8 h7) d3 (by rw[d6,d5];exact hlim);have b3:=grownCap_ge w (L+X) cn t';generalize E:w.drew.alloc _=w2 at Q;generalize hgc:grownCap w (L+X) cn t'=gc at Q b3;have M:∀c,c<w.heap.size→w2.heap[c]?=w.heap[c]?:=fun c C=>by rw[←E];exact b0x (w:=w.drew) _ c C
 have T:=b0r (w:=w.drew) (.cells (h5++(r++(Builtin.zeroCells I.z.cells (gc-(L+X))).toList)).toArray t');have T:w2.heap[w.heap.size]?=some (.cells (h5++(r++(Builtin.zeroCells I.z.cells (gc-(L+X))).toList)).toArray t'):=by
  rw[←E,hgc];exact T
 have c6:w.heap.size≤w2.heap.size:=by rw[←E];exact c0l (w:=w.drew) _
 have e6:∀k,(Builtin.zeroCells I.z.cells k).size=k*e.cells:=fun k=>by rw[j0p,size_madeCells,I.zsize,a2]
 have a8:(h5++(r++(Builtin.zeroCells I.z.cells (gc-(L+X))).toList)).length=gc*e.cells:=by
  simp only[lN,g5,S,a29,e6];rw[←a21,←a21];congr 1;omega
 have a4:=o0r (m:=a0a w2 none) (m0:=a0a w σ.ov) (b:=⟨w.heap.size,0,none⟩) (n:=L+X) (c:=gc) (cs:=h5++(r++(Builtin.zeroCells I.z.cells (gc-(L+X))).toList)) (os:=Z++Y) (.inr rfl) b3 (by
   rw[a8];exact a18 _ b3) (fun j u _ hu=>by
   simp only[a0a,a07,World.cell?,T];simpa using hu) (k4 _) (fun c C j=>by
   rw[h4];exact b0q none (M c (k5 c C).1) j) (fun c C j=>by
   rw[h4];exact b0q none (M c (h.lt (a9 c C))) j)
 have b9:gc≠0:=by omega
 rw[if_neg b9]at a4;have g7:∀c k,b0c w c k→b0c w2 c k:=fun c k hf=>by
  obtain⟨cc,D,lo,hi,g1,g2⟩:=hf;exact⟨cc,D,lo,hi,by rw[M c (a28.1 g1).1];exact g1,g2⟩
 obtain⟨Γ',σ',k1,k2⟩:=b1 (w2:=w2) a4 (fun c j C _=>b0q none (M c C) j) (fun c C=>by
   rw[a05,mC]at C;rcases C with C|C;exact .inr (by have C:c=w.heap.size:=C;omega);obtain⟨p,hp,rfl⟩:=a03.1 C;exact .inl ((a5 p hp).imp a00 a00)) (by
   rw[a05,a14];refine⟨fun g=>?_,c3⟩
   have:=h.lt (a9 _ g)
   exact absurd this (Nat.lt_irrefl _)) (fun p hp=>by
   rcases mC.1 hp with rfl|hp;exact⟨_,t',0,0,T,by show 0+gc*e.cells≤_;rw[a46,a8];omega,.inl rfl⟩;exact g7 _ _ ((a5 p hp).elim (h.live n p) (h.live m p))) (fun c k hf _=>g7 c k hf) c6 (fun b hb hF=>by
   have:=h.size
   rw[M b (by omega)];exact h.frame b hb hF) (by rw[←E];rfl)
 exact⟨_,w2,Γ',σ',by rw[←a2]at *;exact Q,k1,k2⟩
theorem A0j{d m:Nat}{r:Root}{y:Operand}{q:a0l}(h:Γ.opd y=.sref m q)(hd:d≠m):(Γ.newRt d r).opd y=.sref m q:=by
 unfold AE.newRt;split;exact h
 ·cases y with
  |tmp t=>
   have e:(m==d)=false:=by grind
   simp[AE.opd,AE.get,AE.setRt,AE.mapv]at h⊢
   grind[SV.mapv,AV.drop]
  |_=>exact h
theorem Rel.top1{tm}(h:Rel B Γ N tm w σ){k:Nat}{r:Root}{v:Value}(a:Γ.rt k=some r)(l:r.bx=false)(hv:a0e (a0a w σ.ov) σ.g Γ.rt (Shr B w σ) (.sref k []) v):σ.g k=.one v:=by
 obtain⟨m,j,s',b,c,e⟩:=hv;rw[a]at b;cases b;simp[a0t]at c;obtain⟨i,R,-,-,d⟩:=(h.roots k r a).rd;rcases d with⟨g,-⟩|⟨-,⟨n,f⟩,-⟩;simp_all;rw[←c.2,f]at e;simp_all[Src.rd]
theorem z0w{d m:Nat}{es e:Ty}{ys:List e.den}(c:e.sh=es){t t' ty:TypeId}{ts:Array TypeId}(I:Info P es t')(A:ts[0]?=some t)(E:P.underlying t=some (.slice t'))
  (C:ts[1]?=none∨∃t2,ts[1]?=some t2∧(P.underlying t2=some .string∨∃e,P.underlying t2=some (.slice e)))
  {s:Value}{av:AV}{y:Operand}{K:AE→Rs ρ}{z:ρ}(h:Rel B Γ N (a0f a) w σ)(D:a.tmps.size=N)(k:a0e (a0a w σ.ov) σ.g Γ.rt (Shr B w σ) av s)(p:b0m N y=true)(G:Γ.opd y=.sref m [])
  (i:Γ.look m=some ⟨false,.list true e,ys⟩)(f:Γ.gath d m e ys av K=some z):
  ∃v w' Γ' σ',(Builtin.append_ ts ty #[s,a.eval y]).run P w=.ok v w'∧Rel B Γ' N (a0f (a.put (some d) v)) w' σ'∧K Γ'=some z:=by
 obtain⟨L,i⟩:=a0q i;unfold AE.gath at f
 split at f
 have k:s=.slice none 0 0:=k;subst k;rcases a0b f with⟨-,g⟩|⟨b,f⟩;cases g;have b:d≠m:=by simpa using b
 obtain⟨Γ1,σ1,M,u,S,Q,T,x⟩:=h.fresh f (fun _ _=>rfl) (a04 _) (s:=.one (.slice none 0 0)) (O:=[]) (by simp) (by simp) (by simp) ⟨[],[],rfl,by simp,.inr ⟨rfl,⟨_,rfl⟩,⟨e,rfl⟩,rfl⟩⟩;have j:Γ1.rt m=some ⟨false,.list true e,ys⟩:=by
  have H:(m==d)=false:=by simpa using Ne.symm b
  rw[x];unfold AE.newRt
  split<;>simp[AE.setRt,AE.mapv,H,i]
 have o:=u.opd p;rw[x,A0j G b,←x]at o;exact q0v c I A E C u D Q (u.top1 j rfl o) j M;rename_i n;have F:=h.opd p;rw[G]at F;have r:∃l,Γ.rt n=some ⟨false,.list true e,l⟩:=by
  unfold AE.gathN at f
  split at f
  rename_i R l J
  split at f
  rename_i q;subst q;exact⟨l,(a0q J).2⟩;cases f;cases f
 obtain⟨l,r⟩:=r;exact q0v c I A E C h D (h.top1 r rfl k) (h.top1 i rfl F) i f;simp_all
end
section
variable {P:Program} {B:Base} {N:Nat} {ρ:Type} {Γ:AE} {a:Act} {w:World} {σ:Gh}
theorem g0s.news{m Sh}{e:Ty}{l:List e.den}{v:Value}(h:g0s w m Sh e l v):Nonempty (News P w m Sh e l v):=by
 obtain⟨A,n,c,cs,hv,hn,hlen,hone,⟨R,g,a⟩,hc,hnone,-⟩:=h;have f:=h0n (P:=P) (w:=w) (w2:=w) (e:=e) hv (fun _=>rfl) hlen hc hnone n (a04 _);have k:=h0n (P:=P) (w:=w) (w2:=w.drew) (e:=e) hv (fun _=>rfl) hlen hc hnone n (a04 _);rw[←hlen,a62]at f k;refine⟨⟨cs,?_,by simp_all,hone,R,by simp_all,a,by simp_all,by simp_all⟩⟩;rw[hv,←hn];rfl
theorem B0v{m Sh}(s:ByteArray){l:List (Ty.int .u8).den}(d:l=(s.data.toList.map fun b=>(b.toNat:Int):List Int)):Nonempty (News P w m Sh (.int .u8) l (.string s)):=by
 have k:(s.data.toList.map fun b=>(b.toNat:Int)).length=s.size:=by simp
 have g:l.length=s.size:=(congrArg a15 d).trans k;have a:∀w:World,(Builtin.firstCells (Ty.int .u8).cells s.size (.string s)).run P w=.ok (s.data.toList.map fun b=>Value.int .u8 (b.toNat:Int)).toArray w:=fun w=>by
  have n:s.extract 0 s.size=s:=by simp
  simp only[Builtin.firstCells,n,Sem.run_pure];congr 1
  grind
 refine⟨⟨s.data.toList.map fun b=>Value.int .u8 (b.toNat:Int),?_,?_,?_,[],?_,by simp,?_,?_⟩⟩;rw[g];rfl;rw[g,a65];show s.data.toList.length=s.size*1
 simp
 intro u e;obtain⟨b,-,rfl⟩:=a03.1 e;rfl
 ·have key:∀(l:List UInt8)(h:List Value)(i:Nat),h.length=i→a0d (fun i=>dec m (.int .u8) fun j=>(h++l.map fun b=>Value.int .u8 (b.toNat:Int))[i*(Ty.int .u8).cells+j]?) l.length i =
    some ((l.map fun b=>(b.toNat:Int):List Int),[],[]):=by
   intro l
   induction l with
   |nil=>intro h i _;rfl
   |cons b l ih=>
    intro h i hp;have c:=ih (h++[Value.int .u8 (b.toNat:Int)]) (i+1) (by grind);simp at c;have f:(h++(b::l).map fun b=>Value.int .u8 (b.toNat:Int))[i*(Ty.int .u8).cells+0]?=some (.int .u8 (b.toNat:Int)):=by
     show(h++_)[i*1+0]?=_;simp_all
    simp only[lC,a0d];rw[show dec m (.int .u8) (fun j=>(h++(b::l).map fun b=>Value.int .u8 (b.toNat:Int))[i*(Ty.int .u8).cells+j]?)=some ((b.toNat:Int),[],[])from by
     simp only[dec];rw[f];rfl]
    simp only[a05];rw[c];rfl
  have:=key s.data.toList [] 0 rfl
  rw[g];rw[show s.data.toList.length=s.size from rfl]at this;rw[d];exact this
 all_goals simp_all
theorem z0f{q:Bool}{d:Nat}{e:Ty}{t t' t2 ty:TypeId}{ts:Array TypeId}{K:AE→Rs ρ}{z:ρ}(I:Info P e t')(x:ts[0]?=some t)(D:P.underlying t=some (.slice t'))(y:ts[1]?=some t2)(A:P.underlying t2=some (.int .i64))(b:0<e.cells)
  (h:Rel B Γ N (a0f a) w σ)(C:a.tmps.size=N){n:Nat}(l:Γ.apnd q d e .nils (a25 n e.dflt) K=some z):
  ∃v w' Γ' σ',(Builtin.append_ ts ty #[.slice none 0 0,.int .i64 (n:Int)]).run P w=.ok v w'∧Rel B Γ' N (a0f (a.put (some d) v)) w' σ'∧K Γ'=some z:=by
 simp only[AE.apnd]at l;obtain⟨f,l⟩:lim (a25 n e.dflt).length=true∧_:=(a0b l).elim id fun h=>by grind
 simp[lim]at f
 by_cases hk:n=0
 subst hk;have g:(Builtin.append_ ts ty #[.slice none 0 0,.int .i64 ((0:Nat):Int)]).run P w=.ok (.slice none 0 0) w:=by
  have H:IntKind.i64.wrap (0:Int)=0:=rfl;simp[Builtin.append_,x,y,run_underlying D,run_underlying A,I.sizeOf,I.typeInfo,asInt,asIntOf,H]
 obtain⟨Γ',σ',p,r,o,E,J,L⟩:=h.fresh l (fun _ _=>rfl) (a04 _) (s:=.one (.slice none 0 0)) (O:=[]) (by simp) (by simp) (by simp) ⟨[],[],by
   rfl,by simp,.inr ⟨rfl,⟨_,rfl⟩,⟨e,rfl⟩,rfl⟩⟩
 exact⟨_,w,_,σ',g,r.putd (sv:=.one (.sref d [])) C (fun _=>⟨_,e,_,o,by rw[E];rfl,rfl⟩),p⟩;have g:=p0y (P:=P) (w:=w) (ty:=ty) I x D y A b (n:=n) (by omega) f;have M:=grownCap_ge w n 0 t';have u:∀k,(Builtin.zeroCells I.z.cells k).size=k*e.cells:=fun k=>by rw[j0p,size_madeCells,I.zsize]
 have rd:a0d (fun i=>dec (a0a w σ.ov) e fun j=>(Builtin.zeroCells I.z.cells n).toList[i*e.cells+j]?) n 0=some (a25 n e.dflt,[],[]):=by
  have:=p0v (m:=a0a w σ.ov) I.zok I.zsize n
  rw[j0p,I.zsize];simp_all
 have G:(a25 n e.dflt).length=n:=a52;obtain⟨Γ',σ',p,r,o,-,-⟩:=h.newSlice (c:=grownCap w n 0 t') l (fun c F=>b0x (w:=w.drew) _ c F) (c0l (w:=w.drew) _)
  (b0r (w:=w.drew) (Obj.cells (([]:List Value)++((Builtin.zeroCells I.z.cells n).toList++(Builtin.zeroCells I.z.cells (grownCap w n 0 t'-n)).toList)).toArray t')) (.inl rfl) (by
   have:(([]:List Value)++((Builtin.zeroCells I.z.cells n).toList++(Builtin.zeroCells I.z.cells (grownCap w n 0 t'-n)).toList)).length=grownCap w n 0 t'*e.cells:=by
    simp[u];rw[←a21];simp_all
   simp_all) (by omega) (R:=[]) (by
   have:=l0m (m:=a0a w σ.ov) (e:=e) (l1:=[]) (l2:=a25 n e.dflt) (cs1:=[]) (cs2:=(Builtin.zeroCells I.z.cells n).toList) (rest:=(Builtin.zeroCells I.z.cells (grownCap w n 0 t'-n)).toList) (n1:=0) (n2:=n) (o1:=[]) (o2:=[]) (R1:=[]) (R2:=[]) rfl (by simp) rd (by simp_all)
   simp_all) (by simp)
 rw[G]at o;exact⟨_,_,_,σ',g,r.putd (sv:=.one (.sref d [])) C (fun _=>o),p⟩
theorem v0o{o:Oper}{c:Call}{d:Nat}{cx:Cx}{q:Bool}{K:AE→Rs ρ}{z:ρ}(s:CxTy P cx)(ho:o.op=.call c)(X:c.callee=.builtin .append)(hd:o.dst=some d)
  (h:Rel B Γ N (a0f a) w σ)(S:a.tmps.size=N)(hf:fits N o=true)(b:aop cx q o Γ K=some z):a0j P B N o a w K z:=by
 obtain⟨cs,r⟩:=j0t (P:=P) (a:=a) (w:=w) ho X;have hl:∃x y,c.args.toList=[x,y]:=by
  cases hl:c.args.toList with
  |nil=>simp_all[aop,AE.blt]
  |cons x l=>
   cases l with
   |nil=>simp_all[aop,AE.blt]
   |cons y l=>
    cases l with
    |nil=>simp
    |cons u l=>simp_all[aop,AE.blt]
 obtain⟨x,y,G⟩:=hl;have V:c.args=#[x,y]:=by grind
 have i:=k0s ho X hf;rw[G]at i;have F:=h.opd (i x (by simp));have M:=h.opd (i y (by simp));simp[aop,ho,hd,X,G,AE.blt]at b;rcases a0b b with⟨h3,b⟩|⟨-,b⟩;rotate_left;rw[m0e]at b
 split at b
 rename_i e ys j;unfold v0h at j
 split at j
 rename_i t t2 rr n E W Z
 split at j
 rename_i o2 e2 hT U;rcases a0b j with⟨hc,j⟩|⟨-,g⟩;cases j;simp at hc;obtain⟨h4,hty⟩:=s.T t _ hT;obtain⟨t',L,C,A⟩:=b0w hty;obtain⟨I⟩:=a0m (a0s C);have h0:c.argTypes[0]?=some t:=by rw[←a09,E];rfl
 have J:c.argTypes[1]?=some t2:=by rw[←a09,E];rfl
 have h2:P.underlying t2=some (.int .i64):=by
  have hty:=(s.T t2 _ U).2;simp[a0i]at hty
  grind
 rw[W]at F;obtain F:a.eval x=.slice none 0 0:=F;rw[Z]at M;have M:=a0e.int M;obtain⟨v,w',Γ',σ',O,k2,H⟩:=z0f (ty:=o.type) I h0 L J h2 A h S b;rw[Int.toNat_of_nonneg hc.1]at O;refine⟨v,w',Γ',σ',.inl (r.trans ?_),by simp_all,H⟩;simp_all[builtin];simp_all;simp_all;simp_all;simp_all;have J:=v0x s h3
 split at b
 ·rename_i o' e hT;obtain⟨t,ht,hT⟩:=a33.1 hT;have D:c.argTypes[0]?=some t:=by
   rw[←a09];cases hl:c.argTypes.toList with
   |nil=>simp_all
   |cons y l=>simp_all
  obtain⟨h4,hty⟩:=s.T t _ hT;obtain⟨t',L,C,A⟩:=b0w hty;obtain⟨I⟩:=a0m (a0s C);have he:e.sh=e:=by
   simp_all[Ty.sh]
  have R:∀ys,Nonempty (News P w (a0a w σ.ov) (Shr B w σ) e ys (a.eval y))→Γ.apnd q d e (Γ.opd x) ys K=some z→a0j P B N o a w K z:=by
   rintro ys ⟨Y⟩ b
   obtain⟨v,w',Γ',σ',O,k2,H⟩:=z0j (ty:=o.type) he I D L J h S F Y b;refine⟨v,w',Γ',σ',.inl (r.trans ?_),by simp_all,H⟩;simp_all[builtin]
  split at b
  grind[a0e.str,B0v]
  ·split at b
   ·rename_i m Q ys f;have h5:=b;cases q with
    |true=>simp_all
    |false=>
     cases hel:e.isList with
     |false=>simp_all
     |true=>
      rw[hel]at f;have f:Γ.ownB e (Γ.opd y)=some (m,⟨Q,ys⟩):=f;have key:Γ.opd y=.sref m []∧Γ.look m=some ⟨false,.list true Q,ys⟩∧Q.sh=e:=by
       revert f
       cases Γ.opd y with
       |sref k p=>
        cases p with
        |cons=>simp_all[AE.ownB]
        |nil=>
         intro f;simp[AE.ownB]at f
         grind
       |_=>intro f;simp[AE.ownB]at f
      obtain⟨O,k2,H⟩:=key;obtain⟨v,w',Γ',σ',j1,j2,j3⟩:=z0w (ty:=o.type) H I D L J h S F (i y (by simp)) O k2 h5;exact⟨v,w',Γ',σ',.inl (r.trans (by simp_all[builtin])),by simp_all,j3⟩
   obtain⟨l,b,hE⟩:=h.elems he M b;exact R l hE.news b
 simp_all
end
theorem B0o(n:Nat)(av:AV):AV.kill n [] av=.dead∨(AV.kill n [] av=av∧∀k q,(av=.ptr k q∨av=.sref k q∨∃o l,av=.swin k q o l)→k=n→av=.ptr n []):=by
 cases av with
 |ptr m q=>
  simp only[AV.kill]
  by_cases hm:m=n
  ·subst hm;cases q with
   |nil=>simp
   |cons=>left;simp[d0d]
  simp_all
 |sref m q=>
  grind[AV.kill,d0d]
 |swin m q o k=>
  grind[AV.kill,d0d]
 |_=>exact .inr ⟨rfl,fun k q h _=>by rcases h with h|h|⟨_,_,h⟩<;>cases h⟩
section
variable {P:Program} {B:Base} {N:Nat} {ρ:Type} {Γ:AE} {a:Act} {w:World} {σ:Gh}
theorem v0p{o:Oper}{x:Operand}{d:Nat}{cx:Cx}{q:Bool}{K:AE→Rs ρ}{z:ρ}(J:o.op=.assign x)(hd:o.dst=some d)
  (h:Rel B Γ N (a0f a) w σ)(Q:a.tmps.size=N)(hf:fits N o=true)(m:aop cx q o Γ K=some z):a0j P B N o a w K z:=by
 have M:=h.opd (a0r hf x (by simp[J,Op.operands]));have y:(execOp a.eval o).run P w=.ok (.value (a.eval x)) w:=by simp[execOp,J]
 simp[aop,J,hd]at m;have same:∀av,Γ.opd x=av→K (Γ.set d av)=some z→a0j P B N o a w K z:=fun av u m=>a0j.set hd Q y h (u▸M) m
 split at m
 case h_2=>
  rename_i c vs hs;cases x with
  |tmp t=>
   have hs:Γ.sl t=.cmp c vs:=hs;have ht:t<N:=by have:=a0r hf (.tmp t) (by simp[J,Op.operands]);simpa[b0m]using this
   have T:=h.slots t ht;rw[hs]at T;exact⟨_,w,_,σ,.inl y,by rw[hd];exact h.putd Q (fun _=>T),m⟩
  |_=>cases hs
 rename_i vx F;have F:vx=Γ.opd x:=by
  cases x with
  |tmp t=>
   have F:Γ.sl t=.one vx:=F;simp_all[AE.opd,AE.get]
  |_=>exact(SV.one.inj F).symm
 subst F;unfold AE.asg at m
 split at m
 rename_i r u
 split at m
 rename_i t W R;obtain⟨D,O⟩:=a0q R;rcases a0b m with⟨-,m⟩|⟨L,m⟩;simp_all;rcases a0b m with⟨-,m⟩|⟨-,m⟩;simp_all;obtain⟨h6,m⟩:=(a0b m).elim id fun h=>by grind
 have h6:d<pinned:=by simp_all
 have g6:r≠d:=by
  simp_all
 have h1:=h.drop (n:=d) (by simp_all);have h8:((Γ.mapv (AV.drop d)).setRt d none).rt r=some ⟨false,t,W⟩:=by
  grind[AE.setRt,AE.mapv]
 have h2:=h1.rename h8 (d:=d) (g0m _) (fun i b e _=>by omega) (by simp_all[AE.setRt,AE.mapv]);have hΓ:((((Γ.mapv (AV.drop d)).setRt d none).mapv (AV.ren r d)).setRt r none).setRt d (some ⟨false,t,W⟩)=(((Γ.mapv (AV.drop d)).mapv (AV.ren r d)).setRt r none).setRt d (some ⟨false,t,W⟩):=by
  simp only[AE.setRt,AE.mapv]
  grind
 rw[hΓ]at h2;rw[u]at M;obtain⟨r',e',s',Y,g2,g3⟩:=M;rw[O]at Y;simp at Y;subst Y;simp[a0t]at g2;have C:loc (a0a w σ.ov) t (if d=d then σ.g r else σ.g d) []=some (.list true e',s'):=by
  show some (t,if d=d then σ.g r else _)=_
  simp_all
 have Z:=h2.putd (sv:=.one (.sref d [])) (v:=a.eval x) (d:=d) Q (fun _=>⟨⟨false,t,W⟩,e',s',g0m _,C,g3⟩);exact⟨_,w,_,_,.inl y,by rw[hd];exact Z,m⟩;simp_all
 ·rename_i r k u
  split at m
  ·rename_i e l R;obtain⟨D,O⟩:=a0q R;rcases a0b m with⟨L,m⟩|⟨-,m⟩
   ·simp only[bA,beq_iff_eq]at L;obtain⟨rfl,-⟩:=L;obtain⟨I,m⟩:=(a0b m).elim id fun h=>by grind
    simp at I;replace I:=I.symm;rw[u]at M;obtain⟨s,O',R',a0,n0,c,f1,f2,f3,f4,f5,f6,G,hv,f7,f8⟩:=h.window M O (show a0p (.list true e) l []=⟨.list true e,l⟩from rfl);rw[a07]at f6;rw[Nat.sub_zero]at hv;have g7:=h.ov_none D;simp[a0t]at f1;obtain⟨O1,R1,X,k2,k3,k4,k5,k6⟩:=h.sep O;rw[f1]at X;have h5:dec (a0a w σ.ov) (.list true e) (s.rd (a0a w σ.ov))=some (l,O',R'):=a0k _ f3 (fun j hj=>by
     have h7:j=0:=by simp_all[Ty.cells]
     subst h7;rw[f2];rfl) (fun _ _ _=>rfl)
    rw[h5]at X;simp at X;obtain⟨rfl,rfl⟩:=X;have key:∃O2 R2,dec (a0a w σ.ov) (.list true e) ((Src.one (.slice G k c)).rd (a0a w σ.ov))=some (a47 k l,O2,R2)∧(∀p∈O2,p∈O')∧(O2.map (·.1)).Nodup∧(∀c∈R2,c∈R'):=by
     rcases c0j f3 with⟨hs,g4,-,-⟩|⟨A,n1,c1,os,hs,hA,hn,V,J⟩
     ·simp[Src.rd]at hs;obtain⟨rfl,rfl,rfl⟩:=hs;have hk:k=0:=by omega
      subst hk;refine⟨[],[],?_,by simp,by simp,by simp⟩;show a0w (a0a w σ.ov) true e.cells (dec (a0a w σ.ov) e) (some (.slice G 0 0))=some (([]:List e.den),[],[]);cases G with
      |none=>rfl
      |some b=>rfl
     ·simp[Src.rd]at hs;obtain⟨rfl,rfl,rfl⟩:=hs;rw[show n0=k+(n0-k)from by omega]at V;obtain⟨h9,g0,g8,g9,j1,-,rfl,rfl⟩:=e0a k _ 0 V;have g5:=k3.nodup
      by_cases H:c=0
      ·subst H;have hk:k=0:=by omega
       subst hk;refine⟨[],[],?_,by simp,by simp,by simp⟩;show a0w (a0a w σ.ov) true e.cells (dec (a0a w σ.ov) e) (some (.slice G 0 0))=some (([]:List e.den),[],[]);cases G with
       |none=>rfl
       |some b=>rfl
      ·rcases J with⟨h0,-⟩|⟨-,J⟩;omega
       ·have h4:G=some ⟨A.block,A.off,none⟩:=by
         simp_all[d0i]
        subst h4;refine⟨(A.block,A.off+c*e.cells)::h9,g0,q0o (a:=⟨A.block,A.off,none⟩) rfl rfl (by omega) H j1,?_,?_,fun c H=>a27 _ H⟩
        all_goals grind
    obtain⟨O2,R2,j1,j2,j3,j4⟩:=key;have U:∀p∈O2,p∈σ.ow r:=fun p hp=>by
     simp_all
    have E:∀c∈O2.map (·.1),c∈(σ.ow r).map (·.1):=fun c H=>by
     grind
    have S:=h.top O I.2 D (w':=w) (v':=.slice G k c) (l':=a47 k l) j1 (fun _ _ _ _=>rfl) (fun c H=>.inl (E c H)) j3 (fun p hp=>h.live r p (U p hp)) (fun _ _ hf _=>hf) (a04 _) h.frame
     (fun c H=>by
      have hs:=f4 c (j4 c H);exact⟨hs.1,hs.2.1,hs.2.2,fun g=>hs.2.2 ⟨r,E c g⟩⟩) (f:=AV.kill r []) (B0o r)
    have C:loc (a0a w σ.ov) (.list true e) (if r=r then Src.one (.slice G k c)else σ.g r) []=some (.list true e,.one (.slice G k c)):=by
     show some (_,if r=r then Src.one _ else _)=_
     simp
    have Z:=S.putd (sv:=.one (.sref r [])) (v:=a.eval x) (d:=r) Q (fun _=>⟨⟨false,.list true e,a47 k l⟩,e,.one (.slice G k c),g0m _,C,by rw[hv];rfl⟩);exact⟨_,w,_,_,.inl y,by rw[hd];exact Z,m⟩
   exact same _ u m
  exact same _ u m
 rename_i u
 split at m
 rename_i t W R;obtain⟨D,O⟩:=a0q R;rcases a0b m with⟨-,m⟩|⟨-,m⟩;exact same _ u m;exact a0j.set hd Q y (h.drop (n:=d) (by simp[D])) (av:=.nils) (by rw[u]at M;exact M) m;exact same _ u m;exact same _ rfl m
end
theorem Rel.move{B Γ N tm w σ}(h:Rel B Γ N tm w σ){n r p ε b o y O1 R1}(hr:Γ.rt n=some r)(hl:loc (a0a w σ.ov) r.t (σ.g n) p=some ((.list true ε),.at b o))
  (hy:dec (a0a w σ.ov) (.list true ε) ((Src.at b o).rd (a0a w σ.ov))=some (y,O1,R1)){m0:Nat}{y':List ε.den}{v:Value}(b3:Γ.rt m0=some ⟨false,(.list true ε),y'⟩)(b1:σ.g m0=.one v)(K:m0≠n)(a4:Γ.pd=none)
  {f:AV→AV}(hf:∀a,f a=.dead∨(f a=a∧t0o n p (.list true ε) a∧∀k q,(a=.ptr k q∨a=.sref k q∨∃o l,a=.swin k q o l)→k≠m0)):
  ∃d,Rel B (((Γ.mapv f).setRt m0 none).setRt n (some ⟨r.bx,r.t,b0s r.t r.x p (.list true ε) y'⟩)) N tm (w.setCell ⟨b,o,none⟩ v) ⟨σ.g,d,none⟩:=by
 have b5:σ.ov=none:=h.ov_none a4;obtain⟨O2,R2,i1,i2,i3,i4,i5,i6⟩:=h.sep b3;have i6:σ.ow m0=O2:=by
  simp_all
 rw[b1]at i1;obtain⟨w',X⟩:∃w',w'=w.setCell ⟨b,o,none⟩ v:=⟨_,rfl⟩;rw[←X];have g8:b∈(σ.ow n).map (·.1):=h.place hr hl;have k8:=h.room hr hl;have a3:(Ty.list true ε).cells=1:=rfl;have k0:∀c j,a0a w' none c j=if c=b∧j=o then some v else a0a w σ.ov c j:=fun c j=>by
  rw[b5,X];simp[a0a]
  by_cases G:c=b∧j=o
  obtain⟨rfl,rfl⟩:=G
  have:=(k8.cell (o:=j) (by omega)).1
  grind[a48,World.cell?_setCell_same]
  rw[if_neg G,World.cell?_setCell_other]
  grind
 have b8:∀c j,a0a w' none c j=a0a w σ.ov c j∨(c=b∧o≤j∧j<o+(Ty.list true ε).cells)∨c∈O1.map (·.1)∨w.heap.size≤c:=fun c j=>by
  grind
 have b7:dec (a0a w' none) (.list true ε) ((Src.at b o).rd (a0a w' none))=some (y',O2,R2):=by
  refine a0k _ i1 (fun j hj=>?_) (fun c j z=>?_);simp_all[Src.rd];rw[k0,if_neg]
  rintro⟨rfl,-⟩
  rcases z with z|z;exact h.disj n m0 (Ne.symm K) c g8 (i4 c z);exact(i2 c z).2.2 ⟨n,g8⟩
 have T:∀c∈O2.map (·.1),c∈(σ.ow m0).map (·.1):=i4;have b4:(O2.map (·.1)).Nodup:=i3.nodup;have I:∀c k,b0c w c k→a0u σ c→b0c w' c k:=fun c k hf _=>by rw[X];exact hf.setCell _ _
 have b2:∀p∈O2,b0c w' p.1 p.2:=fun p hp=>by
  rw[←i6]at hp;exact I _ _ (h.live m0 p hp) ⟨m0,a00 hp⟩
 have a7:w.heap.size≤w'.heap.size:=by simp_all
 have a9:∀b,b<B.size→¬ B.F b→w'.heap[b]?=B.hp b:=fun c z hF=>by
  rw[X,g0a,if_neg];exact h.frame c z hF
  ·rintro rfl
   rcases h.mine c ⟨n,g8⟩with g|g
   all_goals grind
 obtain⟨O',R,h1,h2,h3,h4,h5,h6⟩:=h.sep hr;obtain⟨y1,c4,c5,A1,B1,c2,c3,hd,hg,G,e2⟩:=b0f p r.t _ h1 hl;rw[hy]at hd;simp at hd;obtain⟨rfl,rfl,rfl⟩:=hd;have c6:∀c,c∈O1.map (·.1)→c∈(σ.ow n).map (·.1):=fun c z=>h4 c (by grind);have hb:b∈(σ.ow n).map (·.1):=h.place hr hl;have a2:Chg (a0a w σ.ov) (a0a w' none) (σ.g n) O' R b o (Ty.list true ε).cells O1:=fun c j=>by
  grind
 obtain⟨A,B',R',e3,h7,h8⟩:=p0x p r.t (σ.g n) h1 hl hy b7 h3 a2

 have M:∀c j,c∉(σ.ow n).map (·.1)→c<w.heap.size→a0a w' none c j=a0a w σ.ov c j:=fun c j z c8=>by
  grind
 have L:∀m,m≠n→∀c j,c∈(σ.ow m).map (·.1)→a0a w' none c j=a0a w σ.ov c j:=fun m W c j z=>
  M c j (h.disj m n W c z) (h.lt ⟨m,z⟩)
 have a6:∀c j,Shr B w σ c→a0a w' none c j=a0a w σ.ov c j:=fun c j z=>M c j (fun g=>z.2.2 ⟨n,g⟩) z.1

 let on:b0k:=match r.bx with|true=>(match σ.g n with|.at b0 _=>[(b0,r.t.cells)]|_=>[])++(A++(O2++B'))|false=>A++(O2++B')
 let d:Nat→b0k:=fun m=>if m=n then on else if m=m0 then[]else σ.ow m
 have h0:d n=on:=by grind
 have E:∀m,m≠n→m≠m0→d m=σ.ow m:=fun m W c9=>by grind
 have c1:d m0=[]:=by grind
 have g0:∀c,c∈on.map (·.1)→c∈(σ.ow n).map (·.1)∨c∈O2.map (·.1):=by
  grind
 have J:∀c,(∃m,c∈(d m).map (·.1))→a0u σ c:=by
  rintro c ⟨m,W⟩
  by_cases e:m=n
  subst e;rw[h0]at W;rcases g0 c W with g|g;exact⟨m,g⟩;exact⟨m0,T c g⟩
  by_cases Q:m=m0
  grind
  rw[E m e Q]at W;exact⟨m,W⟩
 have k9:∀c,Shr B w σ c→Shr B w' ⟨σ.g,d,none⟩ c:=fun c ⟨g1,g2,g3⟩=>⟨a02 g1 a7,g2,fun g4=>g3 (J c g4)⟩;have b6:∀c∈R2,Shr B w' ⟨σ.g,d,none⟩ c:=fun c z=>k9 c (i2 c z)

 have h9:∀m q H tq s,Γ.rt m=some H→loc (a0a w σ.ov) H.t (σ.g m) q=some (tq,s)→(m=n→∀rest,q=p++rest→rest=[]∨(Ty.list true ε).shn=(Ty.list true ε))→
   loc (a0a w' none) H.t (σ.g m) q=some (tq,s)∧∀e,tq=.list true e→(m=n→∀rest,q=p++rest→(Ty.list true ε).shn=(Ty.list true ε))→s.rd (a0a w' none) 0=s.rd (a0a w σ.ov) 0:=by
  intro m q H tq s hrm D hq
  by_cases e:m=n
  subst e;rw[hr]at hrm;simp at hrm;subst hrm
  have:=i0h p q r.t (σ.g m) h1 hl hy h3 a2 (hq rfl) D
  refine⟨this.1,fun e ht Z=>this.2 e s (by grind) (fun rest Y=>?_)⟩;have hp:=Z rfl rest Y
  grind[Ty.shn]
  ·obtain⟨Om,Rm,g1,g2,g3,g4,g5,-⟩:=h.sep hrm;have V:∀j,j<H.t.cells→(σ.g m).rd (a0a w' none) j=(σ.g m).rd (a0a w σ.ov) j:=fun j _=>by
    cases es:σ.g m with
    |one v=>rfl
    |_=>rename_i b' o';exact L m e b' _ (g5 _ _ es)
   refine⟨c0s q H.t _ g1 D V (fun c j z=>L m e c j (g4 c z)),fun Q ht _=>?_⟩;rw[ht]at D;exact h0k g1 D V (fun c j z=>L m e c j (g4 c z))
 have g9:∀a v,a0e (a0a w σ.ov) σ.g Γ.rt (Shr B w σ) a v→a0e (a0a w' none) σ.g (fun j=>bif j==n then some ⟨r.bx,r.t,b0s r.t r.x p (Ty.list true ε) y'⟩else bif j==m0 then none else Γ.rt j) (Shr B w' ⟨σ.g,d,none⟩) (f a) v:=by
  intro a v ha;rcases hf a with g|⟨g,hk,c7⟩;rw[g];trivial
  ·rw[g];refine ha.frame a6 k9 fun m q H tq s U hrm D=>?_
   have hq:m=n→∀rest,q=p++rest→rest=[]∨(Ty.list true ε).shn=(Ty.list true ε):=by
    intro e rest Y;rcases U with rfl|rfl|⟨o',l',rfl⟩;exact hk e rest Y;exact .inr (hk e rest Y);exact .inr (hk e rest Y)
   have hp:=h9 m q H tq s hrm D hq;refine⟨if m=n then⟨r.bx,r.t,b0s r.t r.x p (Ty.list true ε) y'⟩else H,?_,?_,?_⟩
   grind
   ·by_cases e:m=n
    all_goals grind
   intro u Z hu;rcases U with rfl|rfl|⟨o',l',rfl⟩
   grind
   obtain⟨r0,e0,s0,k1,k2,k3⟩:=ha;rw[hrm]at k1;simp at k1;subst k1;rw[D]at k2;simp at k2;rw[hp.2 e0 k2.1 (fun e rest Y=>hk e rest Y)];omega;obtain⟨r0,e0,s0,a0,l0,c0,k1,k2,k3⟩:=ha;rw[hrm]at k1;simp at k1;subst k1;rw[D]at k2;simp at k2;rw[hp.2 e0 k2.1 (fun e rest Y=>hk e rest Y)];omega
 have k7:∀i b,B.pin i=some b→(bif pinned+i==n then some (Root.mk r.bx r.t (b0s r.t r.x p (Ty.list true ε) y'))else bif pinned+i==m0 then none else Γ.rt (pinned+i))≠none→σ.g (pinned+i)=b:=fun i b hb Z=>by
  refine h.pins i b hb fun e=>Z ?_
  by_cases Q:pinned+i=n
  grind
  have a8:(pinned+i==n)=false:=by grind
  rw[a8,e];simp
 refine⟨d,?_,?_,?_,?_,?_,?_,?_,a26 h.size a7,a9,?_,k7,by rw[X];exact h.still⟩
 ·intro m H hrm
  by_cases e:m=n
  subst e;simp[AE.setRt]at hrm;subst hrm;refine⟨_,R',h7,fun c z=>?_,?_⟩
  grind
  rcases h6 with⟨O,b0,hs,ho⟩|⟨O,hs,ht,ho⟩
  grind
  grind
  ·have G:m≠m0:=by
    rintro rfl
    have Q:(m==n)=false:=by grind
    simp[AE.setRt,Q,AE.mapv]at hrm
   have a5:Γ.rt m=some H:=by
    have Q:(m==n)=false:=by grind
    have g7:(m==m0)=false:=by grind
    simpa[AE.setRt,Q,g7,AE.mapv]using hrm
   obtain⟨Om,Rm,g1,g2,g3,g4,g5,g6⟩:=h.sep a5;refine⟨Om,Rm,a0k H.t g1 (fun j _=>?_) (fun c j z=>?_),fun c z=>k9 c (g2 c z),?_⟩
   ·cases es:σ.g m with
    |one v=>rfl
    |_=>rename_i b' o';exact L m e b' _ (g5 _ _ es)
   grind
   show(H.bx=true∧∃b,σ.g m=.at b 0∧d m=(b,H.t.cells)::Om)∨(H.bx=false∧(∃v,σ.g m=.one v)∧(∃e,H.t=.list true e)∧d m=Om);rw[E m e G];omega
 intro m W
 by_cases e:m=n
 grind[AE.setRt]
 by_cases G:m=m0
 grind
 have Q:(m==n)=false:=by grind
 have g7:(m==m0)=false:=by grind
 show d m=[];rw[E m e G];exact h.norm m (by simpa[AE.setRt,Q,g7,AE.mapv]using W);intro m;show((d m).map (·.1)).Nodup
 by_cases e:m=n
 subst e;rw[h0];have k6:=h.nodup m;have key:((A++(O2++B')).map (·.1)).Nodup:=by
  have S:=h3.nodup;rw[e3]at S;simp only[pA,a16,mA]at S⊢;obtain⟨k1,⟨k2,k3,k4⟩,k5⟩:=S;refine⟨k1,⟨b4,k3,fun a ha c z e=>?_⟩,fun a ha c z e=>?_⟩;subst e;exact h.disj m m0 (Ne.symm K) a (h4 a (by grind)) (T a ha);subst e;rcases z with z|z;exact h.disj m m0 (Ne.symm K) a (h4 a (by grind)) (T a z)
  grind
 rcases h6 with⟨O,b0,hs,ho⟩|⟨O,-,-,ho⟩;simp only[on,O,hs,List.singleton_append,a05,a14];refine⟨fun g=>?_,key⟩;rw[ho]at k6;simp only[a05,a14]at k6;simp only[pA,mA]at g;rcases g with g|g|g
 grind
 exact h.disj m m0 (Ne.symm K) b0 (by grind) (T b0 g);exact k6.1 (by rw[e3];simp only[pA,mA];grind)
 grind
 by_cases G:m=m0
 grind
 rw[E m e G];exact h.nodup m;have one:∀m m',m≠m'→m=n→∀c,c∈(d m).map (·.1)→c∉(d m').map (·.1):=by
  intro m m' P e c z C;subst e
  by_cases G:m'=m0
  grind
  rw[h0]at z;rw[E m' (Ne.symm P) G]at C;rcases g0 c z with g|g;exact h.disj m m' P c g C;exact h.disj m0 m' (Ne.symm G) c (T c g) C
 intro m m' P c z C
 by_cases e:m=n
 exact one m m' P e c z C
 by_cases Q:m'=n
 exact one m' m (Ne.symm P) Q c C z
 by_cases G:m=m0
 grind
 by_cases e2:m'=m0
 grind
 rw[show(Gh.mk σ.g d none).ow m=d m from rfl,E m e G]at z;rw[show(Gh.mk σ.g d none).ow m'=d m' from rfl,E m' Q e2]at C;exact h.disj m m' P c z C;intro m q hq;rw[show(Gh.mk σ.g d none).ow m=d m from rfl]at hq
 by_cases e:m=n
 subst e;rw[h0]at hq;have b9:q∈σ.ow m→b0c w' q.1 q.2:=fun g=>I _ _ (h.live m q g) ⟨m,a00 g⟩;have key:q∈A++(O2++B')→b0c w' q.1 q.2:=by
  grind
 rcases h6 with⟨O,b0,hs,ho⟩|⟨O,-,-,ho⟩
 grind
 grind
 by_cases G:m=m0
 grind
 rw[E m e G]at hq;exact I _ _ (h.live m q hq) ⟨m,a00 hq⟩;intro i hi;exact(h.slots i hi).mapv g9;show f0t _ _ _ Γ.pd none;rw[a4];trivial
 rintro c ⟨m,W⟩
 exact h.mine c (J c ⟨m,W⟩)
section
variable {P:Program} {B:Base} {N:Nat} {ρ:Type} {Γ:AE} {a:Act} {w:World} {σ:Gh}
theorem m0y{τ:Ty}{t:TypeId}{A:Option Addr}{n c b o k:Nat}(e:a0i P τ (.inl t)=true)(d:τ.cells=1)(hf:b0c w b k)(i:o+1≤k):
  (Instr.storeAt t (.pointer (some ⟨b,o,none⟩)) (.slice A n c)).run P w=.ok () (w.setCell ⟨b,o,none⟩ (.slice A n c)):=by
 obtain⟨I⟩:=a0m (a0s e);have h:(Value.slice A n c).cells=#[Value.slice A n c]:=rfl
 have:=run_storeCells_cells (P:=P) b o [Value.slice A n c] 0 w (fun j g=>(hf.cell (o:=o+0+j) (by simp at g;omega)).1) (fun j g=>(hf.cell (o:=o+0+j) (by simp at g;omega)).2) (fun u a=>by
  simp only[a43]at a;subst a;rfl)
 have f:(Value.slice A n c).cells.size=τ.cells:=by rw[h,d];rfl
 simp only[Instr.storeAt,Instr.sureAddr,storeVar,Sem.run_bind,Sem.run_pure,Result.andThen_ok,I.sizeOf,f,ne_eq,not_true_eq_false,if_false];rw[h];simp only[a40]at this;exact this
theorem o0g{b o k:Nat}(hf:b0c w b k)(g:o<k)(v:Value)(c j:Nat):a0a (w.setCell ⟨b,o,none⟩ v) none c j=if c=b∧j=o then some v else a0a w none c j:=by
 simp only[a0a]
 by_cases e1:c=b∧j=o
 obtain⟨rfl,rfl⟩:=e1;obtain⟨u,f⟩:=a48.1 (hf.cell g).1;rw[World.cell?_setCell_same _ _ _ f]
 simp
 rw[if_neg e1,World.cell?_setCell_other];intro h;simp only[Addr.mk.injEq,and_true]at h;exact e1 ⟨h.1.symm,h.2.symm⟩
theorem C0z(Γ:AE):Γ.mapv id=Γ:=by
 have:∀s:SV,s.mapv id=s:=fun s=>by cases s<;>simp[SV.mapv]
 simp only[AE.mapv,this]
theorem a0j.skip{o:Oper}{K:AE→Rs ρ}{z:ρ}{w':World}{Γ':AE}{σ':Gh}(k:a.tmps.size=N)(g:(execOp a.eval o).run P w=.ok .skip w')(h:Rel B Γ' N (a0f a) w' σ')(f:K (Γ'.setD o.dst .dead)=some z):a0j P B N o a w K z:=by
 cases hd:o.dst with
 |none=>exact⟨undef,w',Γ',σ',.inr ⟨g,rfl⟩,by rw[hd];exact h,by rw[hd]at f;exact f⟩
 |some d=>exact⟨undef,w',Γ'.set d .dead,σ',.inr ⟨g,rfl⟩,by rw[hd];exact h.putd k (fun _=>trivial),by rw[hd]at f;exact f⟩
theorem h0w{t:Ty}(h:t.isList=true):t.cells=1:=by cases t<;>first|rfl|cases h
theorem e0o:∀(p q:a0l),f0n p q=true→p=q
 | [],[],_=>rfl
 |.fst::p,.fst::q,h=>by rw[e0o p q h]
 |.snd::p,.snd::q,h=>by rw[e0o p q h]
 |.idx i::p,.idx j::q,h=>by
  simp only[f0n,bA,beq_iff_eq]at h;rw[h.1,e0o p q h.2]
 | [],_::_,h=>by cases h
 |.fst::_,[],h=>by cases h
 |.fst::_,.snd::_,h=>by cases h
 |.fst::_,.idx _::_,h=>by cases h
 |.snd::_,[],h=>by cases h
 |.snd::_,.fst::_,h=>by cases h
 |.snd::_,.idx _::_,h=>by cases h
 |.idx _::_,[],h=>by cases h
 |.idx _::_,.fst::_,h=>by cases h
 |.idx _::_,.snd::_,h=>by cases h
theorem v0n(n:Nat)(Γ:AE)(r g:Option Root):(((Γ.mapv (AV.deeps [n] [])).setRt n r).mapv (AV.deeps [n] [])).setRt n g=(Γ.mapv (AV.deeps [n] [])).setRt n g:=by
 have h:∀a:AV,(a.deeps [n] []).deeps [n] []=a.deeps [n] []:=fun a=>by
  cases a with
  |sref m q=>
   by_cases hm:m=n
   subst hm;cases q<;>simp[AV.deeps];simp[AV.deeps,hm]
  |swin m q o l=>
   by_cases hm:m=n
   subst hm;simp[AV.deeps];simp[AV.deeps,hm]
  |ptr m q=>
   by_cases hm:m=n
   subst hm;cases q<;>simp[AV.deeps];simp[AV.deeps,hm]
  |_=>rfl
 simp only[AE.setRt,AE.mapv];congr 1
 ·funext i;cases Γ.sl i with
  |one v=>simp[SV.mapv,h]
  |cmp c vs=>simp[SV.mapv,h]
 funext j;cases (j==n)<;>rfl
theorem Rel.setBox{tm:Nat→Value}(h:Rel B Γ N tm w σ){n b:Nat}{r:Root}(hr:Γ.rt n=some r)(hg:σ.g n=.at b 0)(ho:σ.ow n=[(b,r.t.cells)])(K:Γ.pd=none){t2:Ty}{z:t2.den}{R2}{w':World}(d:t2.cells=r.t.cells)
  (hd:dec (a0a w' none) t2 ((Src.at b 0).rd (a0a w' none))=some (z,[],R2))(hR:∀c∈R2,Shr B w σ c)(A:∀c,c≠b→w'.heap[c]?=w.heap[c]?)(I:∀c k,b0c w c k→b0c w' c k)(R:w.heap.size≤w'.heap.size)(hio:c0o w'=c0o w):
  Rel B ((Γ.mapv (AV.deeps [n] [])).setRt n (some ⟨true,t2,z⟩)) N tm w' σ:=by
 have Q:=h.ov_none K;have F:b∈(σ.ow n).map (·.1):=by rw[ho];simp
 have M:∀c,Shr B w σ c→Shr B w' σ c:=fun c d=>⟨a02 d.1 R,d.2⟩;have J:∀c j,c≠b→a0a w' σ.ov c j=a0a w σ.ov c j:=fun c j T=>b0q _ (A c T) j;have O:∀c j,Shr B w σ c→a0a w' σ.ov c j=a0a w σ.ov c j:=fun c j V=>J c j fun e=>V.2.2 ⟨n,e▸F⟩;have x:∀m c j,m≠n→c∈(σ.ow m).map (·.1)→a0a w' σ.ov c j=a0a w σ.ov c j:=fun m c j f U=>J c j fun e=>h.disj n m (Ne.symm f) c (e▸F) U;have E:∀k,k≠n→((Γ.mapv (AV.deeps [n] [])).setRt n (some ⟨true,t2,z⟩)).rt k=Γ.rt k:=fun k W=>m0w W _;have L:((Γ.mapv (AV.deeps [n] [])).setRt n (some ⟨true,t2,z⟩)).rt n=some ⟨true,t2,z⟩:=by simp[AE.setRt]
 have b0v:∀m:Nat,[n].contains m=(m==n):=fun m=>by simp only[List.contains,List.elem];cases (m==n)<;>rfl
 refine⟨fun m r' y=>?_,fun m J=>?_,h.nodup,h.disj,fun m p hp=>I _ _ (h.live m p hp),fun i hi=>(h.slots i hi).mapv fun a v ha=>?_,?_,a26 h.size R,fun c S hF=>?_,h.mine,fun i C hb P=>h.pins i C hb fun e=>?_,hio.trans h.still⟩
 ·by_cases f:m=n
  subst f;rw[L]at y;simp only[sj]at y;subst y;refine⟨[],R2,?_,fun c d=>M c (hR c d),.inl ⟨rfl,b,hg,by rw[ho,d]⟩⟩;rw[hg,Q];exact hd
  ·rw[E m f]at y;obtain⟨O1,R1,l1,l2,l3,X,Y,l6⟩:=h.sep y;refine⟨O1,R1,a0k _ l1 (fun j _=>?_) (fun c j d=>?_),fun c d=>M c (l2 c d),l6⟩
   ·cases es:σ.g m with
    |one v=>rfl
    |_=>rename_i C o;exact x m C _ f (Y _ _ es)
   rcases d with d|d;exact x m c j f (X c d);exact O c j (l2 c d)
 by_cases f:m=n
 subst f;rw[L]at J;cases J;rw[E m f]at J;exact h.norm m J
 ·have other:(∀k q,(a=.ptr k q∨a=.sref k q∨∃o l,a=.swin k q o l)→k≠n)→a0e (a0a w' σ.ov) σ.g ((Γ.mapv (AV.deeps [n] [])).setRt n (some ⟨true,t2,z⟩)).rt (Shr B w' σ) a v:=fun W=>by
   refine ha.frame O M fun k q rk t s G hrk hl=>?_
   have D:=W k q G;obtain⟨O1,R1,l1,l2,l3,X,Y,l6⟩:=h.sep hrk;have H:∀j,(σ.g k).rd (a0a w' σ.ov) j=(σ.g k).rd (a0a w σ.ov) j:=fun j=>by
    cases es:σ.g k with
    |one v=>rfl
    |_=>rename_i C o;exact x k C _ D (Y _ _ es)
   refine⟨rk,by rw[E k D];exact hrk,c0s q rk.t _ l1 hl (fun j _=>H j) (fun c j d=>x k c j D (X c d)),fun u _ hu=>?_⟩;rw[←hu];cases s with
   |one v=>rfl
   |_=>rename_i C o;exact x k C _ D (h.place hrk hl)
  cases a with
  |ptr m q=>
   simp only[AV.deeps,b0v];split
   ·rename_i f;have f:m=n:=by simpa using f
    subst f;cases q with
    |cons=>trivial
    |nil=>
     obtain⟨r',t',C,o',p1,p2,p3⟩:=ha;simp only[loc,a0t,sj,pJ]at p2;exact⟨⟨true,t2,z⟩,t2,C,o',L,by show some (t2,σ.g m)=_;rw[p2.2],p3⟩
   rename_i f;exact other (by rintro k Z (g|g|⟨o,l,g⟩)<;>cases g;simpa using f)
  |sref m q=>
   simp only[AV.deeps,b0v];split;cases q<;>exact True.intro;rename_i f;exact other (by rintro k Z (g|g|⟨o,l,g⟩)<;>cases g;simpa using f)
  |swin m q o l=>
   simp only[AV.deeps,b0v];split;trivial;rename_i f;exact other (by rintro k Z (g|g|⟨o,l,g⟩)<;>cases g;simpa using f)
  |_=>exact other (by rintro k Z (g|g|⟨o,l,g⟩)<;>cases g)
 have:=h.pend
 rw[K]at this;show f0t _ _ _ Γ.pd σ.ov;rw[K,Q];trivial;rw[A c fun e=>?_];exact h.frame c S hF;subst e;rcases h.mine c ⟨n,F⟩with g|g;exact hF g;omega
 by_cases hi:pinned+i=n
 rw[hi,hr]at e;cases e;rw[E _ hi]at P;exact P e
theorem Rel.overR{tm:Nat→Value}{ty:Ty}{t:TypeId}{n:Nat}{r:Root}{yv:AV}{vx vy:Value}{K:AE→Rs ρ}{z:ρ}(hty:a0i P ty (.inl t)=true)(h:Rel B Γ N tm w σ)(M:Γ.rt n=some r)
  (hx:a0e (a0a w σ.ov) σ.g Γ.rt (Shr B w σ) (.ptr n []) vx)(L:a0e (a0a w σ.ov) σ.g Γ.rt (Shr B w σ) yv vy)(i:Γ.over ty n r yv K=some z):
  ∃w' Γ' σ' b o,vx=.pointer (some ⟨b,o,none⟩)∧w'=w.setCells b o vy.cells.toList∧(Instr.storeAt t vx vy).run P w=.ok () w'∧Rel B Γ' N tm w' σ'∧K Γ'=some z:=by
 unfold AE.over at i
 split at i
 rename_i s y rr hl;obtain⟨E,-⟩:=a0q hl;have W:=h.ov_none E
 split at i
 rename_i Q;obtain⟨O,X,h1,q⟩:=Q;have L:VOk (a0a w σ.ov) (Shr B w σ) s y vy:=L;have D:s.cells=r.t.cells:=by rw[←Ty.cells_sh s,q,←X,Ty.cells_sh]
 obtain⟨b,G,U⟩:=h.frzBox M O E;obtain⟨r',t1,b1,o1,q1,q2,q3⟩:=hx;simp only[loc,a0t,G,sj,pJ,Src.at.injEq]at q2;obtain⟨-,rfl,rfl⟩:=q2;have d:b0c w b (0+r.t.cells):=by
  have:=h.room (p:=[]) (t:=r.t) (b:=b) (o:=0) M (by rw[G];rfl)
  exact this
 have I:a0i P s (.inl t)=true:=by rw[←d0g,q];exact hty
 have l:=p0k I L (b:=b) (o:=0) (by rw[D];exact d) (a04 _);rw[←q3]at l;obtain⟨h0,-⟩:=L.cells;have Z:vy.cells.toList.length=r.t.cells:=by rw[←D];simpa using h0
 obtain⟨-,-,R6,Y,J⟩:=id L;obtain⟨w',f⟩:∃w',w'=w.setCells b 0 vy.cells.toList:=⟨_,rfl⟩;have hm:∀c j,a0a w' none c j=if c=b∧0≤j∧j<0+r.t.cells then vy.cells.toList[j-0]? else a0a w none c j:=fun c j=>by
  have:=f0l b vy.cells.toList 0 w _ d (by omega) c j
  rw[Z]at this;rw[f];exact this
 have A:a0u σ b:=⟨n,h.place (p:=[]) (t:=r.t) (b:=b) (o:=0) M (by rw[G];rfl)⟩;have T:dec (a0a w' none) s ((Src.at b 0).rd (a0a w' none))=some (y,[],R6):=a0k s Y (fun j hj=>by
  show a0a w' none b (0+j)=_;rw[hm,if_pos ⟨rfl,by omega,by omega⟩,Nat.sub_zero,a07];simp) (fun c j a=>by
  rcases a with a|a;simp at a;rw[hm,if_neg,W]
  rintro⟨rfl,-⟩
  exact(J c a).2.2 A)
 have v:∀(t2:Ty)(u:t2.den),castTo s t2 y=some u→t2.cells=r.t.cells→K ((Γ.mapv (AV.deeps [n] [])).setRt n (some ⟨true,t2,u⟩))=some z→
   ∃w' Γ' σ' b o,vx=.pointer (some ⟨b,o,none⟩)∧w'=w.setCells b o vy.cells.toList∧(Instr.storeAt t vx vy).run P w=.ok () w'∧Rel B Γ' N tm w' σ'∧K Γ'=some z:=fun t2 u C R hK=>by
  have H:∀c,Shr B w σ c→Shr B w ⟨σ.g,fun m=>if m=n then[(b,r.t.cells)]else σ.ow m,σ.ov⟩ c:=fun c ⟨g1,g2,g3⟩=>⟨g1,g2,fun⟨m,V⟩=>g3 ⟨m,by
   have k:c∈(if m=n then[(b,r.t.cells)]else σ.ow m).map (·.1):=V
   split at k
   rename_i e;simp only[a05,a41,a43]at k;rw[e,k];exact h.place (p:=[]) (t:=r.t) (b:=b) (o:=0) M (by rw[G];rfl);exact k⟩⟩
  have:=U.setBox (w':=w') (b:=b) (r:=⟨true,r.t.shn,Ty.shnx r.t r.x⟩) (by simp[AE.setRt]) G (by simp[Ty.cells_shn]) (by simpa[AE.setRt,AE.mapv]using E) (t2:=t2) (z:=u) (R2:=R6) (by rw[R];exact(Ty.cells_shn _).symm) (m0i C T) (fun c Q=>H c (J c Q))
   (fun c S=>by rw[f];exact d0t _ _ _ _ _ S) (fun _ _ hf=>by rw[f];exact hf.setCells _ _ _) (by rw[f,e0w];exact a04 _) (by rw[f];exact f0m _ _ _ _)
  rw[v0n]at this;exact⟨w',_,_,b,0,q3,f,by rw[f];exact l,this,hK⟩
 split at i
 rename_i u F;exact v _ u F rfl i
 split at i
 rename_i u F;exact v _ u F (Ty.cells_shn _) i;exact v s y (l0c _ _) D i;cases i;cases i
theorem Rel.storR{tm:Nat→Value}{ty:Ty}{t:TypeId}{n:Nat}{p:a0l}{yv:AV}{vx vy:Value}{K:AE→Rs ρ}{z:ρ}(_hsh:ty.sh=ty)(hty:a0i P ty (.inl t)=true)(h:Rel B Γ N tm w σ)
  (hx:a0e (a0a w σ.ov) σ.g Γ.rt (Shr B w σ) (.ptr n p) vx)(O:a0e (a0a w σ.ov) σ.g Γ.rt (Shr B w σ) yv vy)(u:Γ.stor ty n p yv K=some z):
  ∃w' Γ' σ' b o,vx=.pointer (some ⟨b,o,none⟩)∧w'=w.setCells b o vy.cells.toList∧(Instr.storeAt t vx vy).run P w=.ok () w'∧Rel B Γ' N tm w' σ'∧K Γ'=some z:=by
 obtain⟨yw,g0⟩:∃f:AV→AV,f yv=yv:=⟨fun v=>v,rfl⟩;rw[←g0]at O u;clear g0;obtain⟨r,t0,b,off,X,hl,M⟩:=id hx;obtain⟨O1,R1,k1,k2,k3,k4,k5,k6⟩:=h.sep X;obtain⟨y0,O',R',A1,B1,a7,a9,hd,hg,e1,e2⟩:=b0f p r.t _ k1 hl;unfold AE.stor at u;rw[X]at u;simp only at u
 split at u
 ·rename_i e l h7
  split at u
  ·rename_i J;have k9:t0=.list true e:=by
    have:=hg.symm.trans h7
    exact congrArg Sigma.fst this
   subst k9;have d:=h.room X hl;have E:a0u σ b:=⟨n,h.place X hl⟩
   split at u
   
   rename_i h5;rw[h5]at O;have O:vy=.slice none 0 0:=O
   split at u
   cases u;rename_i r2 h0;obtain⟨C,-⟩:=a0q h0;have i:=h.ov_none C;have a:=m0y (A:=none) (n:=0) (c:=0) hty (h0w J) d (o:=off) (a04 _);rw[←M,←O]at a;have H:=o0g (v:=vy) d (o:=off) (Nat.lt_succ_self _);obtain⟨g3,-,D⟩:=h.chg X hl hd (w':=w.setCell ⟨b,off,none⟩ vy) (ov':=σ.ov) (pd':=Γ.pd) (y':=([]:List e.den)) (O2:=[]) (R2:=[]) (.same (by simp[C])) (by
     rw[i];show a0w _ true e.cells _ (a0a _ none b (off+0))=_;rw[H,if_pos ⟨rfl,rfl⟩,O];rfl) (fun c j=>by
     rw[i,H]
     by_cases e1:c=b∧j=off
     exact .inr (.inl ⟨e1.1,by omega,by simp only[Ty.cells];omega⟩);exact .inl (by rw[if_neg e1])) (by simp) (by simp) (by simp) (fun c k hf _=>hf.setCell _ _) (by simp) (fun c G hF=>by
     rw[g0a,if_neg];exact h.frame c G hF
     rintro rfl
     rcases h.mine _ E with g|g;exact hF g;omega) (by simp) (f:=AV.kill n p) (fun av=>m0q n p _ av)
   exact⟨_,_,_,b,off,M,by rw[O];rfl,a,D,u⟩
   ·
    rename_i m p' h5;rw[h5]at O;rcases a0b u with⟨G,y⟩|⟨-,y⟩<;>clear u
    ·simp only[bA,beq_iff_eq]at G;obtain⟨rfl,G⟩:=G;have h3:=e0o _ _ G;subst h3
     split at y
     ·rename_i Z p2 d2 C;rcases a0b y with⟨W,I⟩|⟨-,I⟩<;>clear y
      ·simp only[bA,beq_iff_eq]at W;obtain⟨rfl,W⟩:=W;have h3:=e0o _ _ W;subst h3;have hp:=h.pend;rw[C]at hp;cases i:σ.ov with
       |none=>rw[i]at hp;exact hp.elim
       |some ov=>
        obtain⟨b2,o2,v2⟩:=ov;rw[i]at hp;obtain⟨r2,e2,q1,S⟩:=hp;rw[X]at q1;simp only[sj]at q1;subst q1;rw[←i,hl]at S;simp only[sj,pJ,Src.at.injEq]at S;obtain⟨-,rfl,rfl⟩:=S;obtain⟨r3,e3,s3,T,q4,U⟩:=O;rw[X]at T;simp only[sj]at T;subst T;rw[hl]at q4;simp only[sj,pJ]at q4;obtain⟨-,rfl⟩:=q4;have hv:v2=vy:=by
         rw[i]at U;simpa[Src.rd,a0a]using U
        have F:∃A n' V,vy=.slice A n' V:=by
         rcases c0j hd with⟨g,-⟩|⟨A,n',V,os,g,-⟩;rw[U]at g;exact⟨_,_,_,Option.some.inj g⟩;rw[U]at g;exact⟨_,_,_,Option.some.inj g⟩
        obtain⟨A,n',V,F⟩:=F;have a:=m0y (A:=A) (n:=n') (c:=V) hty (h0w J) d (o:=off) (a04 _);rw[←M,←F,←hv]at a
        have:=h.done C i
        refine⟨_,_,_,b,off,M,?_,?_,this,I⟩;rw[hv,F];rfl;rw[←hv];exact a
      cases I
     cases y
    ·split at y
     ·rename_i r2 e' l' b1 k0
      split at y
      ·rename_i g6;subst g6;rcases a0b y with⟨-,I⟩|⟨h2,I⟩<;>clear y;cases I
       ·have h2:m≠n:=by simpa using h2
        obtain⟨C,h4⟩:=a0q k0;obtain⟨r3,e3,s3,T,q4,U⟩:=O;rw[h4]at T;simp only[sj]at T;subst T;simp only[loc,a0t,sj,pJ]at q4;obtain⟨q4,rfl⟩:=q4;obtain⟨O3,R3,i1,-,-,-,-,i6⟩:=h.sep h4;have g8:σ.g m=.one vy:=by
         rcases i6 with⟨g5,-⟩|⟨-,⟨v,hs⟩,-⟩;cases g5;rw[hs]at U⊢;simp only[Src.rd,if_true,sj]at U;rw[U]
        have F:∃A n' V,vy=.slice A n' V:=by
         rcases c0j i1 with⟨g,-⟩|⟨A,n',V,os,g,-⟩;rw[U]at g;exact⟨_,_,_,Option.some.inj g⟩;rw[U]at g;exact⟨_,_,_,Option.some.inj g⟩
        obtain⟨A,n',V,F⟩:=F;have a:=m0y (A:=A) (n:=n') (c:=V) hty (h0w J) d (o:=off) (a04 _);rw[←M,←F]at a;obtain⟨g3,D⟩:=h.move X hl hd h4 g8 h2 C (f:=fun av=>AV.drop m (AV.kill n p av)) (fun av=>by
         rcases m0q n p (.list true e') av with g|⟨g,g2⟩;left;rw[g];rfl
         ·rw[g];cases av with
          |ptr Z S=>
           simp only[AV.drop]
           by_cases H:Z=m
           left;simp[H]
           have:(Z==m)=false:=by simpa using H
           refine .inr ⟨by simp[this],g2,fun k q x=>?_⟩;rcases x with x|x|⟨_,_,x⟩<;>cases x;exact H
          |sref Z S=>
           simp only[AV.drop]
           by_cases H:Z=m
           left;simp[H]
           have:(Z==m)=false:=by simpa using H
           refine .inr ⟨by simp[this],g2,fun k q x=>?_⟩;rcases x with x|x|⟨_,_,x⟩<;>cases x;exact H
          |swin Z S o2 k2=>
           simp only[AV.drop]
           by_cases H:Z=m
           left;simp[H]
           have:(Z==m)=false:=by simpa using H
           refine .inr ⟨by simp[this],g2,fun k q x=>?_⟩;rcases x with x|x|⟨_,_,x⟩<;>cases x;exact H
          |_=>exact .inr ⟨rfl,g2,fun k q x=>by rcases x with x|x|⟨_,_,x⟩<;>cases x⟩)
        have k7:(Γ.mapv (AV.kill n p)).mapv (AV.drop m)=Γ.mapv fun av=>AV.drop m (AV.kill n p av):=by
         have:∀s:SV,(s.mapv (AV.kill n p)).mapv (AV.drop m)=s.mapv fun av=>AV.drop m (AV.kill n p av):=fun s=>by
          cases s<;>simp[SV.mapv]
         simp only[AE.mapv,this]
        rw[k7]at I;exact⟨_,_,_,b,off,M,by rw[F];rfl,a,D,I⟩
      cases y
     cases y
   cases u
  cases u
 ·rename_i t1 y1 b4 h7
  split at u
  rename_i k8;obtain⟨Q,h9⟩:=k8;have hty:a0i P t1 (.inl t)=true:=by rw[←d0g,h9];exact hty
  obtain⟨yv,Γ1,σ1,u,h1,hv,g7,-⟩:=h.asV (.inl O) u
  split at u
  rename_i r1 h0;obtain⟨C,L⟩:=a0q h0;have i:=h1.ov_none C
  split at u
  rename_i h8;have a6:a0e (a0a w σ1.ov) σ1.g Γ1.rt (Shr B w σ1) (.ptr n p) vx:=by
   rcases g7.live (.inl hx)with g|⟨k,q,g1,g2⟩;exact g;rcases g1 with g1|g1|⟨_,_,g1⟩<;>cases g1;rw[L]at g2;cases g2
  obtain⟨r3,t3,b3,R,q1,S,T⟩:=a6;rw[L]at q1;simp only[sj]at q1;subst q1;obtain⟨O4,R4,j1,j2,j3,j4,j5,j6⟩:=h1.sep L;obtain⟨y4,O5,R5,A5,B5,a8,b0,h6,g9,-,-⟩:=b0f p r1.t _ j1 S;have a2:t3=t1:=by
   rw[g9]at h8;exact h8
  subst a2;have g4:=h0c Q h6;subst g4;have d:=h1.room L S;have E:a0u σ1 b3:=⟨n,h1.place L S⟩;have a:=p0k hty hv d (o:=R) (a04 _);rw[←T]at a;obtain⟨a5,-⟩:=hv.cells;obtain⟨-,-,R6,a3,Y⟩:=id hv;have a4:vy.cells.toList.length=t3.cells:=by simpa using a5
  have H:∀c j,a0a (w.setCells b3 R vy.cells.toList) none c j=if c=b3∧R≤j∧j<R+t3.cells then vy.cells.toList[j-R]? else a0a w none c j:=fun c j=>by
   have:=f0l b3 vy.cells.toList R w _ d (by omega) c j
   rw[a4]at this;exact this
  obtain⟨g3,-,D⟩:=h1.chg L S h6 (w':=w.setCells b3 R vy.cells.toList) (ov':=σ1.ov) (pd':=Γ1.pd) (y':=yv) (O2:=[]) (R2:=R6) (.same (by simp[C])) (by
    rw[i];refine a0k t3 a3 (fun j hj=>?_) (fun c j G=>?_);show a0a _ none b3 (R+j)=_;rw[H,if_pos ⟨rfl,by omega,by omega⟩,a19];simp;rcases G with G|G;simp at G;rw[H,if_neg,i]
    rintro⟨rfl,-⟩
    exact(Y c G).2.2 E) (fun c j=>by
    rw[i,H]
    by_cases e1:c=b3∧R≤j∧j<R+t3.cells
    exact .inr (.inl e1);exact .inl (by rw[if_neg e1])) (by simp) (by simp) (by simp) (fun c k hf _=>hf.setCells _ _ _) (by rw[e0w];exact a04 _) (fun c G hF=>by
    rw[d0t];exact h1.frame c G hF
    rintro rfl
    rcases h1.mine _ E with g|g;exact hF g;omega) (fun c G=>⟨by rw[e0w];exact(Y c G).1,(Y c G).2.1,(Y c G).2.2,by simp⟩) (f:=id) (fun av=>.inr ⟨rfl,y0s n p Q av⟩) (hio:=f0m _ _ _ _)
  rw[C0z]at D;exact⟨_,_,_,b3,R,T,rfl,a,D,u⟩;cases u;cases u
  ·cases p with
   |nil=>exact h.overR (hty:=hty) X hx O u
   |cons=>cases u
theorem q0s{o:Oper}{t:TypeId}{x y:Operand}{cx:Cx}{q:Bool}{K:AE→Rs ρ}{z:ρ}(e:CxTy P cx)(c:o.op=.store t x y)(d:Γ.aggOf y=none)(i:Γ.nilAt cx x y=none)
  (h:Rel B Γ N (a0f a) w σ)(s:a.tmps.size=N)(hf:fits N o=true)(g:aop cx q o Γ K=some z):a0j P B N o a w K z:=by
 have m:=h.opd (a0r hf x (by simp[c,Op.operands]));have u:=h.opd (a0r hf y (by simp[c,Op.operands]));have g:(if q then none else match Γ.opd x with
  |.ptr n p=>match cx.T t with
   |some t=>Γ.stor t n p (Γ.opd y) fun Γ=>K (Γ.setD o.dst .dead)
   |none=>none
  |_=>none)=some z:=by
  simp only[aop,c,i,d]at g;exact g
 split at g
 cases g
 split at g
 rename_i n p l;rw[l]at m
 split at g
 rename_i ty hT;obtain⟨j,hty⟩:=e.T t _ hT;obtain⟨w',Γ',σ',b,off,-,-,k,f,r⟩:=Rel.storR j hty h m u g;exact a0j.skip s (by simp[execOp,c,k]) f r;cases g;cases g
theorem n0d(w:World)(cs:Array Value)(t:TypeId)(k:Nat)(u:Value):
  (w.alloc (.cells cs t)).setCell ⟨w.heap.size,k,none⟩ u=w.alloc (.cells (cs.setIfInBounds k u) t):=by
 have:(w.heap.push (.cells cs t)).modify w.heap.size (fun
   |.cells c elem frozen=>.cells (if(none:Option Nat).isSome then c else c.setIfInBounds k u) elem frozen
   |o=>o)=w.heap.push (.cells (cs.setIfInBounds k u) t):=by
  refine Array.ext (by simp) fun i a f=>?_
  rw[Array.getElem_modify]
  by_cases hi:i=w.heap.size
  subst hi;simp;have g:i<w.heap.size:=by simp at f;omega
  rw[if_neg (by omega),a53 g,a53 g]
 simp only[World.setCell,World.alloc];exact congrArg (fun h=>({ w with heap:=h }:World)) this
theorem sh_sh:∀τ:Ty,τ.sh.sh=τ.sh
 |.int _|.bool|.str|.unit|.fn _|.hd=>rfl
 |.list _ e=>by simp only[Ty.sh,sh_sh e]
 |.nl e=>by simp only[Ty.sh,sh_sh e]
 |.arr _ e=>by simp only[Ty.sh,sh_sh e]
 |.pair a b=>by simp only[Ty.sh,sh_sh a,sh_sh b]
def i0c:Nat→Ty→Option Ty
 |0,τ=>some τ
 |k+1,.pair a b=>if a.cells=1 then i0c k b else none
 |_+1,_=>none
theorem p0l:∀(k:Nat)(τ:Ty){a b:Ty},i0c k τ=some (.pair a b)→c0k τ k=true∧(a.cells=1→i0c (k+1) τ=some b)∧∀(m:Mem) bl o,loc m τ (.at bl o) (b0l k)=some (a,.at bl (o+k))
 |0,τ,a,b,h=>by
  simp only[i0c,sj]at h;subst h;exact⟨rfl,fun h=>by simp[i0c,h],fun m bl o=>rfl⟩
 |k+1,τ,a,b,h=>by
  cases τ with
  |pair u v=>
   simp only[i0c]at h
   split at h
   rename_i g;obtain⟨f,c,d⟩:=p0l k v h;refine⟨f,fun e=>by simp only[i0c,if_pos g];exact c e,fun m bl o=>?_⟩
   have:=d m bl (o+u.cells)
   rw[g]at this;show loc m v (.at bl (o+u.cells)) (b0l k)=_;rw[g,this];congr 3;omega;cases h
  |_=>simp[i0c]at h
theorem q0c{τ0:Ty}{t:TypeId}(hty:a0i P τ0 (.inl t)=true){i d b0:Nat}(hi:i<N)(s:d<N){us:Array Value}{tm:Nat→Value}(p:tm i=.agg us)(y:tm d=.pointer (some ⟨b0,0,none⟩)){z:ρ}{K:AE→Rs ρ}:
  ∀(τ:Ty)(k:Nat){Γ:AE}{σ:Gh}{w:World},Rel B Γ N tm w σ→i0c k τ0=some τ→
   AE.stors (.tmp i) d τ0 k τ Γ K=some z→us.size=k+τ.cells∧∃Γ' σ',Rel B Γ' N tm (w.setCells b0 k (us.toList.drop k)) σ'∧K Γ'=some z
 |.unit,k,Γ,σ,w,h,_,hz=>by
  simp only[AE.stors]at hz
  split at hz
  rename_i vs c;obtain⟨S,M⟩:=(a0b hz).elim id fun h=>by cases h.2
  have j:=h.slots i hi;simp only[AE.aggOf]at c
  split at c
  rename_i Q hs;simp only[sj]at c;subst c;rw[hs]at j;obtain⟨us',⟨E,A,F⟩,h4⟩:=j;rw[p]at A;cases A;have S:Q.length=k:=by simpa using S
  refine⟨by simp only[Ty.cells];omega,Γ,σ,?_,M⟩;rw[List.drop_of_length_le (by simp;omega)];exact h;cases c;cases hz
 |.pair a b,k,Γ,σ,w,h,htl,hz=>by
  simp only[AE.stors]at hz
  split at hz
  rename_i r n v T C hv
  split at hz
  rename_i hc;obtain⟨I,rfl,ha⟩:=hc;obtain⟨E,A,F⟩:=p0l k τ0 htl;have m:=h.slots n s;rw[y]at m;have H:a0e (a0a w σ.ov) σ.g Γ.rt (Shr B w σ) (.ptr n []) (.pointer (some ⟨b0,0,none⟩)):=by
   simp only[AE.get]at C
   split at C
   rename_i v' l;subst C;rw[l]at m;exact m;cases C
  obtain⟨r',t',b',o',O,D,U⟩:=H;rw[T]at O;simp only[sj]at O;subst O;simp only[loc,a0t,sj,pJ]at D;obtain⟨rfl,D⟩:=D;simp only[Value.pointer.injEq,sj,Addr.mk.injEq,and_true]at U;obtain⟨rfl,rfl⟩:=U;have hx:a0e (a0a w σ.ov) σ.g Γ.rt (Shr B w σ) (.ptr n (b0l k)) (.pointer (some ⟨b0,k,none⟩)):=by
   refine⟨r,a,b0,0+k,T,?_,by rw[a07]⟩;rw[D,I];exact F _ _ _
  have j:=h.slots i hi;have c:∃vs,Γ.sl i=.cmp .agg vs∧vs[k]?=some v:=by
   simp only[AE.aggOf]at hv
   split at hv
   rename_i vs hs;exact⟨vs,hs,hv⟩;cases hv
  obtain⟨vs,hs,L⟩:=c;rw[hs]at j;obtain⟨us',⟨g1,R,Z⟩,g4⟩:=j;rw[p]at R;cases R;obtain⟨u,q,hu⟩:=g4 k v L;obtain⟨fs,h0,l⟩:∃fs,P.underlying t=some (.struct fs)∧a0i P τ0 (.inr (fs.toList,0))=true:=by
   exact i0v (f:=k) hty E
  obtain⟨Y,τ',k',q1,q2,q3,q4,q5⟩:=j0n k τ0 _ 0 l E;have e:=(q5 (a0a w none) 0 0).symm.trans (F (a0a w none) 0 0);simp only[sj,pJ]at e;obtain⟨rfl,-⟩:=e;have J:a0i P τ'.sh (.inl Y.type)=true:=by rw[d0g];exact q3
  have o:τ'.sh.sh=τ'.sh:=sh_sh τ';obtain⟨w',Γ',σ',b2,o2,s1,V,s3,s4,s5⟩:=Rel.storR o J h hx hu hz;simp only[Value.pointer.injEq,sj,Addr.mk.injEq,and_true]at s1;obtain⟨rfl,rfl⟩:=s1;rw[o0j (Z k u q)]at V;subst V;obtain⟨c1,Γ2,σ2,W,X⟩:=q0c hty hi s p y b (k+1) s4 (A ha) s5;refine⟨by simp only[Ty.cells];omega,Γ2,σ2,?_,X⟩;have G:us.toList.drop k=u::us.toList.drop (k+1):=by
   have x:k<us.toList.length:=by
    have:=(a28.1 q).1
    simpa using this
   rw[a30 x];congr 1
   have:=q
   rw[←a09,lG x]at this;exact Option.some.inj this
  rw[G];exact W;cases hz;cases hz
 |.int _,k,Γ,σ,w,_,_,hz=>by simp[AE.stors]at hz
 |.bool,k,Γ,σ,w,_,_,hz=>by simp[AE.stors]at hz
 |.str,k,Γ,σ,w,_,_,hz=>by simp[AE.stors]at hz
 |.list _ _,k,Γ,σ,w,_,_,hz=>by simp[AE.stors]at hz
 |.arr _ _,k,Γ,σ,w,_,_,hz=>by simp[AE.stors]at hz
theorem l0s(w:World)(t:TypeId):∀(l:List Value)(k:Nat)(cs:Array Value),k+l.length=cs.size→
  (w.alloc (.cells cs t)).setCells w.heap.size k l=w.alloc (.cells (cs.toList.take k++l).toArray t)
 | [],k,cs,h=>by
  simp only[World.setCells,a50];rw[List.take_of_length_le (by simp at h⊢;omega)]
 |u::l,k,cs,h=>by
  simp only[World.setCells,lC]at h⊢;rw[n0d,l0s w t l (k+1) _ (by simp;omega)];congr 2;have g:k<cs.toList.length:=by simp;omega
  simp only[Array.toList_setIfInBounds];rw[a37 (by simpa using g)];simp[a56]
theorem v0q{o:Oper}{t:TypeId}{x:Operand}{d:Nat}{cx:Cx}{q:Bool}{K:AE→Rs ρ}{z:ρ}{vs:List AV}(n:CxTy P cx)(s:o.op=.box t x)(hd:o.dst=some d)(f:(bif q then none else Γ.aggOf x)=some vs)
  (h:Rel B Γ N (a0f a) w σ)(m:a.tmps.size=N)(hf:fits N o=true)(k:aop cx q o Γ K=some z):a0j P B N o a w K z:=by
 have g:Γ.aggOf x=some vs:=by
  cases q with
  |true=>cases f
  |false=>exact f
 have u:=a0r hf x (by simp[s,Op.operands]);have b:d<N:=by
  have:=hf
  simp only[fits,hd,bA,dT]at this;exact this.2
 simp only[aop,s,hd,f]at k
 ·split at k
  ·rename_i τ hrd hO
   split at k
   ·rename_i hT;have hty:a0i P τ (.inl t)=true:=by rw[←d0g];exact(n.T t _ hT).2
    obtain⟨I⟩:=a0m (a0s hty);cases x with
    |tmp i=>
     have hi:i<N:=by simpa[b0m]using u
     have j:=h.slots i hi;have hs:Γ.sl i=.cmp .agg vs:=by
      simp only[AE.aggOf]at g
      split at g
      rename_i H hs;simp only[sj]at g;rw[hs,g];cases g
     rw[hs]at j;obtain⟨us,⟨L,A,M⟩,h4⟩:=j;have p:a.eval (.tmp i)=.agg us:=A;have e:(execOp a.eval o).run P w=.ok (.value (.pointer (some ⟨w.heap.size,0,none⟩))) (w.alloc (.cells us t)):=by
      simp[execOp,s,p,Instr.box,newVar,newRow,Value.cells]
     obtain⟨Γ1,σ1,y,C,D⟩:=h.newBox k (fun c G=>b0x _ c G) (c0l _) (b0r (w:=w) (.cells I.z.cells t)) I.zsize (e0c _ I.zok) (by simp);have r:i≠d:=by
      rintro rfl
      cases τ<;>simp[AE.stors,AE.aggOf,AE.set,AE.put]at y
     have E:=C.putd (sv:=.one (.ptr d [])) (v:=.pointer (some ⟨w.heap.size,0,none⟩)) (d:=d) m (fun _=>D);obtain⟨J,Γ',σ',l,F⟩:=q0c hty hi b (us:=us) (tm:=a0f (a.put (some d) (.pointer (some ⟨w.heap.size,0,none⟩)))) (by rw[k0l i (by rw[m];exact hi),if_neg r];exact A) (by rw[k0l d (by rw[m];exact b),if_pos rfl]) τ 0 E rfl y;rw[a66,l0s w t us.toList 0 I.z.cells (by rw[I.zsize,a29];omega)]at l;simp only[List.take_zero,a31,a54]at l;exact⟨_,_,Γ',σ',.inl e,by rw[hd];exact l,F⟩
    |_=>simp[AE.aggOf]at g
   cases k
  cases k
theorem n0b{o:Oper}{t:TypeId}{x y:Operand}{cx:Cx}{q:Bool}{K:AE→Rs ρ}{z:ρ}{vs:List AV}(J:CxTy P cx)(I:o.op=.store t y x)(c:Γ.aggOf x=some vs)(M:Γ.nilAt cx y x=none)
  (h:Rel B Γ N (a0f a) w σ)(Z:a.tmps.size=N)(hf:fits N o=true)(f:aop cx q o Γ K=some z):a0j P B N o a w K z:=by
 have R:=a0r hf x (by simp[I,Op.operands]);have S:=a0r hf y (by simp[I,Op.operands]);have f:(if q then none else match y with
   |.tmp s=>match Γ.rt s with
    |some r=>if cx.T t=some r.t.sh∧0<r.t.cells then AE.stors x s r.t 0 r.t Γ fun Γ=>K (Γ.setD o.dst .dead)else none
    |none=>none
   |_=>none)=some z:=by
  simp only[aop,I,M,c]at f;exact f
 split at f
 cases f
 ·cases y with
  |tmp d=>
   simp only[]at f;have A:d<N:=by simpa[b0m]using S
   split at f
   ·rename_i r O
    split at f
    ·rename_i hT;obtain⟨hT,b⟩:=hT;have hty:a0i P r.t (.inl t)=true:=by rw[←d0g];exact(J.T t _ hT).2
     cases x with
     |tmp i=>
      have hi:i<N:=by simpa[b0m]using R
      have F:=h.slots i hi;have hs:Γ.sl i=.cmp .agg vs:=by
       simp only[AE.aggOf]at c
       split at c
       rename_i h6 hs;simp only[sj]at c;rw[hs,c];cases c
      rw[hs]at F;obtain⟨us,⟨h1,W,Y⟩,h4⟩:=F;have L:a.eval (.tmp i)=.agg us:=W

      have D:∃l,a0f a d=.pointer (some ⟨l,0,none⟩)∧loc (a0a w σ.ov) r.t (σ.g d) []=some (r.t,.at l 0):=by
       have e:Γ.get d=.ptr d []:=by
        revert f b
        cases r.t with
        |pair u v=>
         intro b f;simp only[AE.stors]at f
         split at f
         rename_i r' n v' h0 hg h5
         split at f
         rename_i hc;rw[hg,hc.2.1];cases f;cases f
        |unit=>intro b;simp[Ty.cells]at b
        |_=>intro b f;simp[AE.stors]at f
       have j:a0e (a0a w σ.ov) σ.g Γ.rt (Shr B w σ) (.ptr d []) (a0f a d):=by
        have j:=h.slots d A;simp only[AE.get]at e
        split at e
        rename_i v' Q;subst e;rw[Q]at j;exact j;cases e
       obtain⟨r',t',b',o',U,m,p3⟩:=j;rw[O]at U;simp only[sj]at U;subst U;simp only[loc,a0t,sj,pJ]at m;obtain⟨rfl,m⟩:=m;obtain⟨O',R',-,-,hb⟩:=(h.roots d r O).rd;rcases hb with⟨-,l,q1,-⟩|⟨-,⟨v,q1⟩,-⟩;rw[q1]at m;simp only[Src.at.injEq]at m;obtain⟨rfl,rfl⟩:=m;exact⟨l,p3,by simp only[loc,a0t,q1]⟩;rw[q1]at m;cases m
      obtain⟨l,G,C⟩:=D;have p:=h.room O C;obtain⟨g0,Γ',σ',V,X⟩:=q0c hty hi A (us:=us) W G r.t 0 h rfl f;rw[a66]at V;have E:(Instr.storeAt t (.pointer (some ⟨l,0,none⟩)) (.agg us)).run P w=.ok () (w.setCells l 0 us.toList):=
       o0e hty (by simp only[Value.cells];omega) (fun u hu=>by
        obtain⟨k,hk⟩:=a39.1 hu;exact Y k u (by rw[←a09];exact hk)) p (a04 _)
      have H:a.eval (.tmp d)=.pointer (some ⟨l,0,none⟩):=G;exact a0j.skip Z (by simp only[execOp,I,L,H];simp[E]) V X
     |_=>simp[AE.aggOf]at c
    cases f
   cases f
  |_=>cases f
end
theorem i0g:∀(p q:a0l)(t:Ty)(x:t.den),b0j (p++q) t x=b0j q (b0j p t x).1 (b0j p t x).2
 | [],_,_,_=>rfl
 |.fst::p,q,t,x=>by
  cases t with
  |pair a b=>exact i0g p q a x.1
  |_=>cases q with
   |nil=>rfl
   |cons s q=>cases s<;>rfl
 |.snd::p,q,t,x=>by
  cases t with
  |pair a b=>exact i0g p q b x.2
  |_=>cases q with
   |nil=>rfl
   |cons s q=>cases s<;>rfl
 |.idx i::p,q,t,x=>by
  cases t with
  |arr n e=>exact i0g p q e _
  |list o e=>cases o with
   |true=>exact i0g p q e _
   |false=>cases q with
    |nil=>rfl
    |cons s q=>cases s<;>rfl
  |_=>cases q with
   |nil=>rfl
   |cons s q=>cases s<;>rfl
theorem k0k(t:Ty)(x y:t.den):c0i [] t x t y=y:=q0a t x y
theorem k0j:∀(p q:a0l)(t:Ty)(x:t.den)(t':Ty)(y:t'.den),c0i (p++q) t x t' y=c0i p t x (b0j p t x).1 (c0i q (b0j p t x).1 (b0j p t x).2 t' y)
 | [],q,t,x,t',y=>(k0k t x (c0i q t x t' y)).symm
 |.fst::p,q,t,x,t',y=>by
  cases t with
  |pair a b=>
   show(c0i (p++q) a x.1 t' y,x.2)=(c0i p a x.1 (b0j p a x.1).1 (c0i q (b0j p a x.1).1 (b0j p a x.1).2 t' y),x.2);simp_all[k0j]
  |_=>rfl
 |.snd::p,q,t,x,t',y=>by
  cases t with
  |pair a b=>
   show(x.1,c0i (p++q) b x.2 t' y)=(x.1,c0i p b x.2 (b0j p b x.2).1 (c0i q (b0j p b x.2).1 (b0j p b x.2).2 t' y));simp_all[k0j]
  |_=>rfl
 |.idx i::p,q,t,x,t',y=>by
  cases t with
  |arr n e=>
   show a57 x i (c0i (p++q) e (a24 x i e.dflt) t' y)=a57 x i (c0i p e (a24 x i e.dflt) (b0j p e (a24 x i e.dflt)).1 (c0i q (b0j p e (a24 x i e.dflt)).1 (b0j p e (a24 x i e.dflt)).2 t' y));simp_all[k0j]
  |list o e=>cases o with
   |true=>
    show a57 x i (c0i (p++q) e (a24 x i e.dflt) t' y)=a57 x i (c0i p e (a24 x i e.dflt) (b0j p e (a24 x i e.dflt)).1 (c0i q (b0j p e (a24 x i e.dflt)).1 (b0j p e (a24 x i e.dflt)).2 t' y));simp_all[k0j]
   |false=>rfl
  |_=>rfl
theorem k0u:∀(p:a0l)(t:Ty)(x:t.den)(t':Ty)(y:t'.den),e0h p=true→(b0j p t x).1=t'→b0j p t (c0i p t x t' y)=⟨t',y⟩
 | [],t,x,t',y,_,h=>by
  have h:t=t':=h;subst h;exact congrArg (Sigma.mk t) (k0k t x y)
 |.fst::p,t,x,t',y,hp,h=>by
  cases t with
  |pair a b=>exact k0u p a x.1 t' y hp h
  |_=>
   have h:Ty.unit=t':=h;subst h;rfl
 |.snd::p,t,x,t',y,hp,h=>by
  cases t with
  |pair a b=>exact k0u p b x.2 t' y hp h
  |_=>
   have h:Ty.unit=t':=h;subst h;rfl
 |.idx _::_,_,_,_,_,hp,_=>by cases hp
theorem o0i:∀(p:a0l)(t:Ty)(x:t.den)(t':Ty)(y z:t'.den),e0h p=true→(b0j p t x).1=t'→c0i p t (c0i p t x t' y) t' z=c0i p t x t' z
 | [],t,x,t',y,z,_,h=>by
  have h:t=t':=h
  grind[k0k]
 |.fst::p,t,x,t',y,z,hp,h=>by
  cases t with
  |pair a b=>
   show(c0i p a (c0i p a x.1 t' y) t' z,x.2)=(c0i p a x.1 t' z,x.2);rw[o0i p a x.1 t' y z hp h]
  |_=>rfl
 |.snd::p,t,x,t',y,z,hp,h=>by
  cases t with
  |pair a b=>
   show(x.1,c0i p b (c0i p b x.2 t' y) t' z)=(x.1,c0i p b x.2 t' z);rw[o0i p b x.2 t' y z hp h]
  |_=>rfl
 |.idx _::_,_,_,_,_,_,hp,_=>by cases hp
theorem k0z:∀(p:a0l)(t:Ty)(x:t.den),e0h p=true→c0i p t x (b0j p t x).1 (b0j p t x).2=x
 | [],t,x,_=>k0k t x x
 |.fst::p,t,x,hp=>by
  cases t with
  |pair a b=>
   show(c0i p a x.1 (b0j p a x.1).1 (b0j p a x.1).2,x.2)=x;rw[k0z p a x.1 hp];rfl
  |_=>rfl
 |.snd::p,t,x,hp=>by
  cases t with
  |pair a b=>
   show(x.1,c0i p b x.2 (b0j p b x.2).1 (b0j p b x.2).2)=x;rw[k0z p b x.2 hp];rfl
  |_=>rfl
 |.idx _::_,_,_,hp=>by cases hp
section
variable {P:Program} {B:Base} {N:Nat} {ρ:Type} {Γ:AE} {a:Act} {w:World} {σ:Gh}
theorem s0m{tm:Nat→Value}(h:Rel B Γ N tm w σ){n p v r k}{l:List Int}(q:a0e (a0a w σ.ov) σ.g Γ.rt (Shr B w σ) (.sref n p) v)(i:Γ.rt n=some r)(y:a0p r.t r.x p=⟨.list true (.int k),l⟩):
  ∃A c,v=.slice A l.length c∧∀j,j<l.length→∃f,A=some f∧f.spot=none∧a0e (a0a w σ.ov) σ.g Γ.rt (Shr B w σ) (.ptr n (p++[.idx (0+j)])) (.pointer (some ⟨f.block,f.off+j,none⟩)):=by
 obtain⟨s,D,E,m,F,G,o,-,-⟩:=h.slice q i y;rcases c0j o with⟨hv,a⟩|⟨f,C,c,os,hv,b,z,u,-⟩;simp[Src.rd]at hv;obtain⟨a,-⟩:=a;subst a;exact⟨none,0,hv,fun j d=>absurd d (Nat.not_lt_zero j)⟩;simp[Src.rd]at hv;have e:l.length=C:=b0b _ _ u;refine⟨some f,c,by simp_all,fun j d=>⟨f,rfl,b.resolve_left (by omega),r,.int k,f.block,f.off+j,i,?_,rfl⟩⟩;rw[d0l p _ _ _ m];simp_all[a0t,Ty.cells]
theorem s0n{tm:Nat→Value}(h:Rel B Γ N tm w σ){n p v r k off len}{l:List Int}(y:a0e (a0a w σ.ov) σ.g Γ.rt (Shr B w σ) (.swin n p off len) v)(i:Γ.rt n=some r)(C:a0p r.t r.x p=⟨.list true (.int k),l⟩):
  off+len≤l.length∧∃A c,v=.slice A len c∧∀j,j<len→∃a,A=some a∧a.spot=none∧a0e (a0a w σ.ov) σ.g Γ.rt (Shr B w σ) (.ptr n (p++[.idx (off+j)])) (.pointer (some ⟨a.block,a.off+j,none⟩)):=by
 obtain⟨s,F,G,A,m,c,q,I,u,J,K,L,o,hv,M,b⟩:=h.window y i C;rcases c0j u with⟨f,P⟩|⟨a,Q,H,os,f,d,E,z,-⟩;simp[Src.rd]at f;simp_all;simp[Src.rd]at f;obtain⟨rfl,rfl,rfl⟩:=f;have e:l.length=m:=b0b _ _ z;refine⟨by omega,o,_,hv,fun j O=>?_⟩;rcases b with b|b;omega;simp[d0i (d.resolve_left (by omega))]at b;refine⟨_,b,rfl,r,.int k,a.block,a.off+off*1+j,i,?_,rfl⟩;rw[d0l p _ _ _ q];have D:off+j<m:=by omega
 simp_all[a0t,Ty.cells,Nat.add_assoc]
theorem r0h{Γ:AE}{n:Nat}{r:Root}(h:Γ.rt n=some r):Γ.setRt n (some r)=Γ:=by
 have:(fun j=>bif j==n then some r else Γ.rt j)=Γ.rt:=by
  grind
 simp_all[AE.setRt]
theorem w0c{Γ:AE}{n:Nat}{r r':Option Root}:(Γ.setRt n r).setRt n r'=Γ.setRt n r':=by
 simp only[AE.setRt]
 grind
theorem u0n{k:IntKind}(l:List Int)(i:Nat):b0j [.idx i] (.list true (.int k)) l=⟨.int k,l.getD i 0⟩:=rfl
theorem B0s{k:IntKind}(l:List Int)(i:Nat)(y:Int):c0i [.idx i] (.list true (.int k)) l (.int k) y=l.set i y:=by
 show l.set i (c0i [] (.int k) (l.getD i 0) (.int k) y)=_;exact congrArg _ (k0k (.int k) _ y)
theorem B0u{n:Nat}{p:a0l}{r:Root}{k:IntKind}{l:List Int}{i:Nat}{y:Int}(b:Γ.pd=none)(e:Γ.rt n=some r)(h:a0p r.t r.x p=⟨.list true (.int k),l⟩):
  Γ.stor (.int k) n (p++[.idx i]) (.val (.int k) y) some=some (Γ.setRt n (some ⟨r.bx,r.t,b0s r.t r.x p (.list true (.int k)) (l.set i y)⟩)):=by
 have h:b0j p r.t r.x=⟨.list true (.int k),l⟩:=h;have f:b0j (p++[.idx i]) r.t r.x=⟨.int k,l.getD i 0⟩:=by rw[i0g,h,u0n]
 have a:c0i (p++[.idx i]) r.t r.x (.int k) y=c0i p r.t r.x (.list true (.int k)) (l.set i y):=by
  have g:=k0j p [.idx i] r.t r.x (.int k) y;rw[h]at g;exact g.trans (congrArg (fun z:List Int=>c0i p r.t r.x (.list true (.int k)) z) (B0s l i y))
 have c:a0p r.t r.x (p++[.idx i])=⟨.int k,l.getD i 0⟩:=f;have d:b0s r.t r.x (p++[.idx i]) (.int k) y=b0s r.t r.x p (.list true (.int k)) (l.set i y):=a;simp_all[AE.stor,Ty.sh,Ty.shn,AE.asV,AE.look,castTo]
theorem z0o{n:Nat}{p:a0l}{k:IntKind}{t0:TypeId}{i:Nat}{av:AV}{tm:Nat→Value}{b o off m L:Nat}(hp:e0h p=true)(hty:a0i P (.int k) (.inl t0)=true)
  (f:∀{Γ:AE}{σ:Gh}{w:World}{r:Root}{l:List Int},Rel B Γ N tm w σ→Γ.sl i=.one av→Γ.rt n=some r→a0p r.t r.x p=⟨.list true (.int k),l⟩→l.length=L→∀j,j<m→
   a0e (a0a w σ.ov) σ.g Γ.rt (Shr B w σ) (.ptr n (p++[.idx (off+j)])) (.pointer (some ⟨b,o+j,none⟩)))(c:off+m≤L):
  ∀(ys:List Int)(s:Nat){Γ:AE}{σ:Gh}{w:World}{r:Root}{l:List Int},s+ys.length≤m→Rel B Γ N tm w σ→Γ.pd=none→Γ.sl i=.one av→Γ.rt n=some r→a0p r.t r.x p=⟨.list true (.int k),l⟩→l.length=L→
   ∃σ',Rel B (Γ.setRt n (some ⟨r.bx,r.t,b0s r.t r.x p (.list true (.int k)) (l.take (off+s)++(ys++l.drop (off+s+ys.length)))⟩)) N tm (w.setCells b (o+s) (ys.map (Value.int k))) σ'
 | [],s,Γ,σ,w,r,l,_,h,_,_,hr,a,_=>by
  refine⟨σ,?_⟩;have a:b0j p r.t r.x=⟨.list true (.int k),l⟩:=a;have e:b0s r.t r.x p (.list true (.int k)) (l.take (off+s)++([]++l.drop (off+s+([]:List Int).length)))=r.x:=by
   have A:=k0z p r.t r.x hp;rw[a]at A;have u:l.take (off+s)++([]++l.drop (off+s+([]:List Int).length))=l:=by
    simp
   exact(congrArg (fun z:List Int=>c0i p r.t r.x (.list true (.int k)) z) u).trans A
  have E:Rel B (Γ.setRt n (some ⟨r.bx,r.t,r.x⟩)) N tm w σ:=by
   rw[show(⟨r.bx,r.t,r.x⟩:Root)=r from rfl,r0h hr];omega
  exact(congrArg (fun z=>Rel B (Γ.setRt n (some ⟨r.bx,r.t,z⟩)) N tm w σ) e).mpr E
 |y::ys,s,Γ,σ,w,r,l,hs,h,hpd,hsl,hr,a,hl=>by
  simp at hs;have H:=f h hsl hr a hl s (by omega);have I:=B0u (i:=off+s) (y:=y) hpd hr a;obtain⟨w',Γ',σ',K,M,s1,v,-,J,C⟩:=Rel.storR rfl hty h H (a0e.mk_int (k:=k) y) I;simp at s1 C;obtain⟨rfl,rfl⟩:=s1;subst C;have v:w'=w.setCell ⟨b,o+s,none⟩ (.int k y):=v;subst v;have F:b0j p r.t r.x=⟨.list true (.int k),l⟩:=a;have q:=k0u p r.t r.x (.list true (.int k)) (l.set (off+s) y) hp (by grind);obtain⟨σ2,d⟩:=z0o hp hty f c ys (s+1) (r:=⟨r.bx,r.t,b0s r.t r.x p (.list true (.int k)) (l.set (off+s) y)⟩) (l:=l.set (off+s) y) (by omega) J hpd hsl (g0m _) q (by simp_all);refine⟨σ2,?_⟩;rw[w0c]at d;have D:b0s r.t (b0s r.t r.x p (.list true (.int k)) (l.set (off+s) y)) p (.list true (.int k)) ((l.set (off+s) y).take (off+(s+1))++(ys++(l.set (off+s) y).drop (off+(s+1)+ys.length))) =
    b0s r.t r.x p (.list true (.int k)) (l.take (off+s)++(y::ys++l.drop (off+s+(y::ys).length))):=by
   refine(o0i p r.t r.x (.list true (.int k)) _ _ hp (by grind)).trans (congrArg _ ?_);have G:off+s<l.length:=by omega
   rw[show off+(s+1)=off+s+1 from rfl,a37 (by simp_all)];rw[List.drop_set_of_lt (by omega)];simp only[List.getElem_set_self,a56 (a04 _),aA,lC,List.cons_append,a31]
   grind
  rw[D]at d;exact d
theorem B0e{n:Nat}{p:a0l}{k:IntKind}{t0:TypeId}{i:Nat}{av:AV}{A:Option Addr}{off Lc c:Nat}{r:Root}{l ys:List Int}{vy:Value}(hty:a0i P (.int k) (.inl t0)=true)
  (h:Rel B Γ N (a0f a) w σ)(h6:Γ.pd=none)(hp:e0h p=true)(F:Γ.sl i=.one av)(H:Γ.rt n=some r)(K:a0p r.t r.x p=⟨.list true (.int k),l⟩)(h8:off+Lc≤l.length)
  (D:∀{Γ:AE}{σ:Gh}{w:World}{r:Root}{l':List Int},Rel B Γ N (a0f a) w σ→Γ.sl i=.one av→Γ.rt n=some r→a0p r.t r.x p=⟨.list true (.int k),l'⟩→l'.length=l.length→∀j,j<Lc→
   ∃f,A=some f∧f.spot=none∧a0e (a0a w σ.ov) σ.g Γ.rt (Shr B w σ) (.ptr n (p++[.idx (off+j)])) (.pointer (some ⟨f.block,f.off+j,none⟩)))
  (hE:g0s w (a0a w σ.ov) (Shr B w σ) (.int k) ys vy){t t' ty:TypeId}{ts:Array TypeId}(h0:ts[0]?=some t)(S:P.underlying t=some (.slice t'))(I:Info P (.int k) t'):
  ∃w' σ',(Builtin.copy_ ts ty #[.slice A Lc c,vy]).run P w=.ok (goInt ((min Lc ys.length:Nat):Int)) w'∧
   Rel B (Γ.setRt n (some ⟨r.bx,r.t,b0s r.t r.x p (.list true (.int k)) (q0w l off Lc ys)⟩)) N (a0f a) w' σ':=by
 obtain⟨Y,ny,cy,cs,rfl,hn,hlen,hone,⟨R,J,hR⟩,hc,hnone,hsp⟩:=hE;have Z:cs=ys.map (Value.int k):=by
  have:=m0p ys ny 0 (by simp_all[Ty.cells]) J
  simp_all
 obtain⟨m,Q⟩:∃m,m=min Lc ys.length:=⟨_,rfl⟩;have h5:m≤ny:=by rw[hn,Q];exact Nat.min_le_right _ _
 have d:=h0n (P:=P) (w:=w) (w2:=w) (e:=.int k) rfl (fun _=>rfl) hlen hc hnone m h5 (c:=cy);simp[Ty.cells]at d;have G:cs.take m=(ys.take m).map (Value.int k):=by simp_all
 have M:q0w l off Lc ys=l.take (off+0)++(ys.take m++l.drop (off+0+(ys.take m).length)):=by
  simp_all[q0w]
 have C:Nat.min ny Lc=m:=by rw[Q,hn];exact Nat.min_comm _ _
 have v:(sizeOf t').run P w=.ok 1 w:=by have:=I.sizeOf (w:=w);simp_all[Ty.cells]
 by_cases hm0:m=0
 refine⟨w,σ,?_,?_⟩;rw[←Q];simp only[Builtin.copy_,h0];have h3:(Builtin.firstCells 1 0 (.slice Y ny cy)).run P w=.ok #[] w:=by
  simp_all
 simp[run_underlying S,Builtin.lenOf,C,hm0,v,h3];cases A<;>simp[storeCells];have e:q0w l off Lc ys=l:=by
  rw[M,hm0];simp
 have h1:=k0z p r.t r.x hp;have s:b0j p r.t r.x=⟨.list true (.int k),l⟩:=K;rw[s]at h1;have X:Rel B (Γ.setRt n (some ⟨r.bx,r.t,r.x⟩)) N (a0f a) w σ:=by
  rw[show(⟨r.bx,r.t,r.x⟩:Root)=r from rfl,r0h H];omega
 exact(congrArg (fun z:List Int=>Rel B (Γ.setRt n (some ⟨r.bx,r.t,b0s r.t r.x p (.list true (.int k)) z⟩)) N (a0f a) w σ) e).mpr ((congrArg (fun z=>Rel B (Γ.setRt n (some ⟨r.bx,r.t,z⟩)) N (a0f a) w σ) h1).mpr X);obtain⟨f,rfl,h9,-⟩:=D h F H K rfl 0 (by omega);obtain⟨σ',h2⟩:=z0o (b:=f.block) (o:=f.off) (off:=off) (m:=m) (L:=l.length) hp hty (fun hR hs h7 s h4 j hj=>by
   obtain⟨A1,V,-,g⟩:=D hR hs h7 s h4 j (by omega);simp_all) (by omega) (ys.take m) 0 (by simp_all) h h6 F H K rfl
 refine⟨_,σ',?_,(congrArg (fun z=>Rel B (Γ.setRt n (some ⟨r.bx,r.t,b0s r.t r.x p (.list true (.int k)) z⟩)) N (a0f a) (w.setCells f.block (f.off+0) ((ys.take m).map (Value.int k))) σ') M).mpr h2⟩;have q:∀j,j<m→∃T,b0c w f.block T∧f.off+j<T:=fun j hj=>by
  obtain⟨A1,V,-,r1,t1,b1,o1,q1,U,q3⟩:=D h F H K rfl j (by omega);simp at V;subst V;simp at q3;obtain⟨rfl,rfl⟩:=q3;have E:=h.room q1 U;refine⟨_,E,?_⟩;have g0:t1=.int k:=by
   rw[H]at q1;simp at q1;subst q1;obtain⟨O1,R1,k1,-⟩:=h.sep H;obtain⟨y,O',R',_,_,_,_,-,g4,-⟩:=b0f _ r.t _ k1 U;have g5:b0j (p++[.idx (off+j)]) r.t r.x=⟨t1,y⟩:=g4;have s:b0j p r.t r.x=⟨.list true (.int k),l⟩:=K;rw[i0g,s,u0n]at g5
   grind
  grind
 have O:=run_storeCells_cells (P:=P) f.block f.off (cs.take m) 0 w (fun j hj=>by
   obtain⟨T,q1,U⟩:=q j (by simp_all);exact(q1.cell (o:=f.off+0+j) (by omega)).1) (fun j hj=>by
   obtain⟨T,q1,U⟩:=q j (by simp_all);exact(q1.cell (o:=f.off+0+j) (by omega)).2) (fun u S=>f0s (hone u (List.mem_of_mem_take S)))
 have W:f=⟨f.block,f.off,none⟩:=by cases f;grind
 rw[←W,Z]at O;rw[←Q];simp only[Builtin.copy_,h0];simp only[a11]at *;simp[run_underlying S,Builtin.lenOf,C,v,d,O,G]
theorem z0q{o:Oper}{c:Call}{d:Nat}{cx:Cx}{q:Bool}{K:AE→Rs ρ}{z:ρ}(Z:CxTy P cx)(ho:o.op=.call c)(Y:c.callee=.builtin .copy)(hd:o.dst=some d)
  (h:Rel B Γ N (a0f a) w σ)(hN:a.tmps.size=N)(hf:fits N o=true)(F:aop cx q o Γ K=some z):a0j P B N o a w K z:=by
 obtain⟨cs,R⟩:=j0t (P:=P) (a:=a) (w:=w) ho Y;have hl:∃x y,c.args.toList=[x,y]:=by
  cases hl:c.args.toList with
  |nil=>simp_all[aop,AE.blt]
  |cons x l=>
   cases l with
   |nil=>simp_all[aop,AE.blt]
   |cons y l=>
    cases l with
    |nil=>simp
    |cons u l=>simp_all[aop,AE.blt]
 obtain⟨x,y,U⟩:=hl;have J:c.args=#[x,y]:=by grind
 have E:=k0s ho Y hf;rw[U]at E;have W:=h.opd (E x (by simp));have hy:=h.opd (E y (by simp));simp only[aop,ho,hd,Y,U,a05,a41,AE.blt]at F
 split at F
 grind
 ·split at F
  ·rename_i o' k hT;obtain⟨t,ht,hT⟩:=a33.1 hT;have h4:c.argTypes[0]?=some t:=by
    rw[←a09];cases hl:c.argTypes.toList with
    |nil=>simp_all
    |cons y l=>simp_all
   obtain⟨h9,hty⟩:=Z.T t _ hT;obtain⟨t',hu,S,h7⟩:=b0w hty;obtain⟨I⟩:=a0m (a0s S);obtain⟨ys,F,hE⟩:=h.elems rfl hy F;have h8:∀(n:Nat)(p:a0l)(off:Nat)(G:Option Nat),(Γ.opd x=.sref n p∧off=0∧G=none∨∃s,Γ.opd x=.swin n p off s∧G=some s)→
     Γ.copTo n p off G k ys (fun m Γ'=>K (Γ'.set d (.val (.int .i64) (m:Int))))=some z→a0j P B N o a w K z:=by
    intro n p off G C F;unfold AE.copTo at F
    split at F
    ·rename_i r h0;obtain⟨h2,hr⟩:=a0q h0
     split at F
     ·rename_i k' l hg;obtain⟨hc,V⟩:=(a0b F).elim id fun h=>by grind
      simp at hc;obtain⟨rfl,hp⟩:=hc;have h6:∃i,x=.tmp i∧Γ.sl i=.one (Γ.opd x):=by
       cases x with
       |tmp i=>
        refine⟨i,rfl,?_⟩
        grind[AE.opd,AE.get]
       |const v=>
        exfalso
        simp[AE.opd]at C;unfold i0e at C
        grind
       |global g=>rcases C with⟨O,-⟩|⟨_,O,-⟩<;>cases O
       |func f=>rcases C with⟨O,-⟩|⟨_,O,-⟩<;>cases O
      obtain⟨i,rfl,h3⟩:=h6;have hi:i<N:=by simp_all[b0m]
      have done:∀(A:Option Addr)(s H:Nat),a.eval (.tmp i)=.slice A s H→G.getD (a15 l)=s→off+s≤a15 l→
        (∀{Γ':AE}{σ:Gh}{w:World}{r:Root}{l':List Int},Rel B Γ' N (a0f a) w σ→Γ'.sl i=.one (Γ.opd (.tmp i))→Γ'.rt n=some r→a0p r.t r.x p=⟨.list true (.int k'),l'⟩→l'.length=a15 l→∀j,j<s→
         ∃A0,A=some A0∧A0.spot=none∧a0e (a0a w σ.ov) σ.g Γ'.rt (Shr B w σ) (.ptr n (p++[.idx (off+j)])) (.pointer (some ⟨A0.block,A0.off+j,none⟩)))→a0j P B N o a w K z:=by
       intro A s H hv X D L;obtain⟨w',σ',k1,k2⟩:=B0e (ty:=o.type) S h h2 hp h3 hr hg D L hE h4 hu I (c:=H);rw[X]at V;refine a0j.set hd hN (w':=w') (σ':=σ') (R.trans ?_) k2 (a0e.mk_int _) V;rw[J];have h5:a.eval (.tmp i)=.slice A s H:=hv;simp[builtin,h5,k1];rfl
      rcases C with⟨Q,rfl,rfl⟩|⟨s,Q,rfl⟩;rw[Q]at W;obtain⟨A,H,hv,-⟩:=s0m h W hr hg;refine done A (a15 l) H hv rfl (by omega) fun {Γ' σ w r l'} hR hs hr' hg' hl' j hj=>?_
      have b:=hR.slots i hi;rw[hs,Q]at b;obtain⟨A2,c2,M,L⟩:=s0m hR b hr' hg';have e:=M.symm.trans hv;simp_all;rw[Q]at W;obtain⟨D,A,H,hv,-⟩:=s0n h W hr hg;refine done A s H hv rfl D fun {Γ' σ w r l'} hR hs hr' hg' hl' j hj=>?_
      have b:=hR.slots i hi;rw[hs,Q]at b;obtain⟨-,A2,c2,M,L⟩:=s0n hR b hr' hg';have e:=M.symm.trans hv;simp_all
     simp_all
    simp_all
   unfold AE.copK at F
   grind
  simp_all
theorem t0i{o:Oper}{f:Nat}{first caps:Array Operand}{d:Nat}{cx:Cx}{q:Bool}{K:AE→Rs ρ}{z:ρ}(j:o.op=.makeFunc (.func f) first caps)(hd:o.dst=some d)
  (h:Rel B Γ N (a0f a) w σ)(l:a.tmps.size=N)(hf:fits N o=true)(i:aop cx q o Γ K=some z):a0j P B N o a w K z:=by
 have g:=a0r hf;rw[j]at g;simp[aop,j,hd]at i;obtain⟨b,i⟩:=(a0b i).elim id fun h=>by grind
 have b:first=#[]:=by simp_all
 subst b;have c:(execOp a.eval o).run P w=.ok (.value (.func (.func f) #[] (caps.map a.eval))) w:=by
  simp_all[execOp,Instr.makeFunc]
 refine⟨_,w,_,σ,.inl c,?_,i⟩;rw[hd];refine h.putd l (fun _=>⟨caps.map a.eval,⟨by simp,rfl⟩,fun k av e=>?_⟩);rw[a35]at e;cases hp:caps.toList[k]? with
 |none=>simp_all
 |some x=>
  rw[hp]at e;simp at e;subst e;refine⟨a.eval x,?_,h.opd (g x (by grind[Op.operands]))⟩;simp_all
end
section
variable {P:Program} {B:Base} {N:Nat} {ρ:Type} {Γ:AE} {a:Act} {w:World} {σ:Gh}
theorem t0h{o:Oper}{t:TypeId}{n:Nat}{ps:Array (Nat×Operand)}{d:Nat}{cx:Cx}{q:Bool}{K:AE→Rs ρ}{z:ρ}{o':Bool}{e t0:Ty}(Q:CxTy P cx)(X:o.op=.buildSlice t n ps)(hd:o.dst=some d)
  (hT:cx.T t=some (.list o' e))(hO:(bif q || !e.isList then none else cx.O d)=some t0)
  (h:Rel B Γ N (a0f a) w σ)(hN:a.tmps.size=N)(hf:fits N o=true)(H:aop cx q o Γ K=some z):a0j P B N o a w K z:=by
 have k:∀y∈(o.op.operands.toList),b0m N y=true:=a0r hf;rw[X]at k;simp[aop,X,hd,hT,hO]at H
 split at H
 ·rename_i f x hl
  split at H
  ·rename_i M;obtain⟨V,rfl⟩:=M;have U:e.isList=true:=by
    grind
   have Z:ps=#[(0,x)]:=by grind
   obtain⟨h6,hty⟩:=Q.T t _ hT;obtain⟨G,hu,E,h4⟩:=b0w hty;obtain⟨I⟩:=a0m (a0s E);have he:e.sh=e:=by
    simp_all[Ty.sh]
   have s:e.cells=1:=h0w U;have h3:f.cells=1:=by grind[Ty.cells_sh]
   have h2:b0m N x=true:=k x (by simp[Op.operands,Z]);obtain⟨z0,F⟩:∃z0,I.z.cells=#[z0]:=by
    have:=I.zsize
    rw[s]at this;obtain⟨z0,F⟩:=a51.1 (show I.z.cells.toList.length=1 by omega)
    grind
   have S:a0d (fun i=>dec (a0a w σ.ov) f fun j=>(#[z0]:Array Value)[i*f.cells+j]?) 1 0=some ([f.dflt],[],[]):=by
    have:=e0c (m:=a0a w σ.ov) f (rd:=fun j=>I.z.cells[j]?) (by rw[←v0g,V];exact I.zok)
    simp_all[a0d]
   obtain⟨Γ1,σ1,k1,J,k3,-,k5⟩:=h.newSlice (c:=1) H (fun c M=>b0x _ c M) (c0l _) (b0r (Obj.cells #[z0] G)) (.inl rfl) (by simp_all) (by simp) S (by simp);have C:Γ1.rt d=some ⟨false,.list true f,[f.dflt]⟩:=by
    grind[AE.newRt,AE.setRt]
   have h5:=J.top1 C rfl k3;have u:a0e (a0a (w.alloc (.cells #[z0] G)) σ1.ov) σ1.g Γ1.rt (Shr B (w.alloc (.cells #[z0] G)) σ1) (.ptr d [.idx 0]) (.pointer (some ⟨w.heap.size,0,none⟩)):=
    ⟨_,f,w.heap.size,0,C,by simp_all[a0t,Src.rd],rfl⟩
   have p:=J.opd h2
   split at k1
   ·rename_i m hy;rw[hy]at p;have h0:∃A n c,a.eval x=.slice A n c:=by
     obtain⟨r,e2,s2,q1,q2,q3⟩:=p;obtain⟨O',R,q4,-⟩:=(J.roots m r q1).rd;simp[a0t]at q2;obtain⟨bx,tr,xr⟩:=r;obtain⟨rfl,rfl⟩:tr=.list true e2∧_=s2:=q2;rcases c0j q4 with⟨q5,-⟩|⟨A,n,c,os,q5,-⟩
     all_goals grind
    obtain⟨A,nA,cA,hv⟩:=h0;have k6:=J.putd (sv:=.one (.sref d [])) (v:=.slice (some ⟨w.heap.size,0,none⟩) 1 1) (d:=d) hN (fun _=>k3);obtain⟨w',Γ',σ',b,off,j1,j2,-,j4,j5⟩:=k6.storR he E u p k1;simp at j1;obtain⟨rfl,rfl⟩:=j1;have h1:w'=w.alloc (.cells #[a.eval x] G):=by
     simp_all[Value.cells,World.setCells,n0d]
    have D:(execOp a.eval o).run P w=.ok (.value (.slice (some ⟨w.heap.size,0,none⟩) 1 1)) (w.alloc (.cells #[a.eval x] G)):=by
     have l:Instr.fill (fun i=>some (i*1,1)) ((a44 (1*1)).map (I.z.cells[·%I.z.cells.size]!)) [(0,a.eval x)]=some #[a.eval x]:=by
      have hr:(a44 (1*1)).map (I.z.cells[·%I.z.cells.size]!)=#[z0]:=by rw[F];simp[Array.range_succ,show a44 0=#[]from rfl]
      rw[hr,hv];rfl
     have W:¬ (1*1 > 2^24):=by simp
     have L:¬ (1*1=0):=by simp
     have Y:(ps.map fun(i,x)=>(i,a.eval x)).toList=[(0,a.eval x)]:=by simp_all
     simp only[execOp,X,Instr.buildSlice,Sem.run_bind,run_underlying hu,Result.andThen_ok,I.sizeOf,s,if_neg W,if_neg L,Sem.run_pure,I.zeroValue,Y,l,newRow]
     simp
    rw[h1]at j4;exact⟨_,_,Γ',σ',.inl D,by simp_all,j5⟩
   simp_all
  simp_all
 simp_all
end
end Go.Ab
namespace Go.Ab
open Go.MapKept
section
variable {P:Program} {B:Base} {N:Nat} {ρ:Type} {Γ:AE} {a:Act} {w:World} {σ:Gh}
theorem Info.vok{m:Mem}{Sh:Nat→Prop}{τ:Ty}{t:TypeId}(I:Info P τ t):VOk m Sh τ τ.dflt I.z:=by
 refine⟨fun h=>?_,fun h=>?_,[],e0c τ I.zok,by simp⟩
 ·cases hz:I.z with
  |agg cs=>exact⟨cs,rfl,by have:=I.zsize;rw[hz]at this;exact this⟩
  |_=>have:=I.znot (by rw[hz];intro cs e;cases e);rw[h]at this;cases this
 ·have g:=h0z h;obtain⟨v,hv,hs⟩:=e0b τ (e0c (m:=m) τ I.zok) 0 (by omega);cases hz:I.z with
  |agg cs=>have:=I.zagg cs hz;rw[h]at this;cases this
  |_=>rw[hz]at hv;simp[Value.cells]at hv;subst hv;exact hs
theorem Rel.calm{tm:Nat→Value}(h:Rel B Γ N tm w σ){c:Nat}(f:¬ a0u σ c)(j:Nat):a0a w σ.ov c j=a0a w none c j:=by
 cases hov:σ.ov with
 |none=>rfl
 |some ov=>
  obtain⟨b,o,u⟩:=ov;have hp:=h.pend;rw[hov]at hp;cases hpd:Γ.pd with
  |none=>rw[hpd]at hp;exact hp.elim
  |some p=>
   obtain⟨n,p,d⟩:=p;rw[hpd]at hp;obtain⟨r,e,q1,k⟩:=hp;rw[←hov]at k;have a:=h.place q1 k;have g:¬ (c=b∧j=o):=fun i=>f ⟨n,by rw[i.1];exact a⟩;simp only[a0a,if_neg g]
theorem Rel.strange{tm:Nat→Value}(h:Rel B Γ N tm w σ){c:Nat}(k:c<B.size)(g:¬ B.F c):¬ a0u σ c:=fun f=>by
 rcases h.mine _ f with q|q;exact g q;omega
theorem n0q{m:Mem}{Sh:Nat→Prop}{t:Ty}{k:Int}:∀{L:List (Int×t.den)} {es:List MapEntry} (i:Nat),d0s m Sh t L es→
  (g0l k L=none∧Instr.findNow (.int .i64) (.int .i64 k) es i=some none)∨∃x j v,g0l k L=some x∧Instr.findNow (.int .i64) (.int .i64 k) es i=some (some (j,v))∧VOk m Sh t x v
 | [],[],i,_=>.inl ⟨rfl,rfl⟩
 |p::L,e::es,i,⟨h1,h2,h3⟩=>by
  simp only[g0l,Instr.findNow,h1,Instr.sameNow,if_true]
  by_cases hk:p.1=k
  subst hk;exact .inr ⟨p.2,i,e.val,by simp,by simp,h2⟩;have f:(p.1==k)=false:=by simpa using hk
  have a:(k==p.1)=false:=by simpa using fun g=>hk g.symm
  rw[f,a];exact n0q (i+1) h3
 | [],_::_,_,h=>h.elim
 |_::_,[],_,h=>h.elim
theorem v0r{o:Oper}{t:TypeId}{x k:Operand}{d:Nat}{cx:Cx}{q:Bool}{K:AE→Rs ρ}{z:ρ}(O:CxTy P cx)(hG:GOk cx.G B)(D:o.op=.lookup t x k true)(hd:o.dst=some d)
  (h:Rel B Γ N (a0f a) w σ)(hN:a.tmps.size=N)(hf:fits N o=true)(p:aop cx q o Γ K=some z):a0j P B N o a w K z:=by
 have m:=a0r hf;have hx:=h.opd (m x (by simp[D,Op.operands]));have Y:=h.opd (m k (by simp[D,Op.operands]));simp only[aop,D,hd]at p
 split at p
 cases p
 ·split at p
  ·rename_i e b L b' l hm U Q;rw[U]at hx;rw[Q]at Y
   split at p
   ·rename_i hw;obtain⟨M,V⟩:=(a0b p).elim id fun h=>by cases h.2
    have M:b'=b:=by simpa using M
    subst M;obtain⟨n,hv,rfl⟩:=VOk.hd_eq hx;obtain⟨E,w0,J,H,Z,h1,h2,h3,h4⟩:=hG.2 _ _ _ hm;have Z:E=n:=by omega
    subst Z;have f:w.heap[E]?=some (.map J H):=(h.frame E h1 h2).trans h3;obtain⟨kt,et,u1,X,u3⟩:=O.W t e hw;obtain⟨I⟩:=a0m (a0s u3);have R:a.eval k=.int .i64 l:=a0e.int Y;have T:∀c,(c<B.size∧B.S c∧¬ B.F c∧w0.heap[c]?=B.hp c)→Shr B w σ c:=fun c ⟨g,r,s,_⟩=>⟨a02 g h.size,.inl r,h.strange g s⟩;have hE:d0s (a0a w σ.ov) (Shr B w σ) e L J.toList:=h4.frame (fun c j ⟨g,r,s,g4⟩=>(h.calm (h.strange g s) j).trans (b0q none ((h.frame c g s).trans g4.symm) j)) T;have key:∃v,(Instr.lookup t (.map (some E)) (.int .i64 l) true).run P w=.ok (.tuple #[v,.bool (g0l l L).isSome]) w∧VOk (a0a w σ.ov) (Shr B w σ) e ((g0l l L).getD e.dflt) v:=by
     have u:=run_checkKey (P:=P) (w:=w) (k:=.int .i64 l) X (by simp[IsKey]) J.isEmpty 9999;rcases n0q (k:=l) 0 hE with⟨g,r⟩|⟨y,j,v,g,r,s⟩;refine⟨I.z,?_,by rw[g];exact I.vok⟩;simp[Instr.lookup,run_underlying u1,MapKept.run_getObj_map f,u,run_findKey X r,I.zeroValue,Result.andThen,g];refine⟨v,?_,by rw[g];exact s⟩;simp[Instr.lookup,run_underlying u1,MapKept.run_getObj_map f,u,run_findKey X r,Result.andThen,g]
    obtain⟨v,A,C⟩:=key;refine⟨.tuple #[v,.bool (g0l l L).isSome],w,_,σ,.inl ?_,?_,V⟩;simp[execOp,D,hv,R,A]
    ·rw[hd];refine h.putd hN (sv:=.cmp .tup [.val e ((g0l l L).getD e.dflt),.val .bool (g0l l L).isSome]) fun _=>⟨#[v,.bool (g0l l L).isSome],rfl,fun i av hi=>?_⟩
     match i,hi with
     |0,hi=>cases hi;exact⟨v,rfl,C⟩
     | 1,hi=>cases hi;exact⟨_,rfl,a0e.mk_bool _⟩
   cases p
  cases p
end
end Go.Ab
namespace Go.Ab
theorem g0r:∀(p:a0l)(t:Ty)(x:t.den)(e:Ty)(y:List e.den),e0h p=true→(a0p t x p).1=.list false e→(d0e p t x (.nl e) y).1.cells=t.cells
 | [],t,x,e,y,_,h=>by
  have h:t=.list false e:=h;subst h;rfl
 |.fst::p,t,x,e,y,hf,h=>by
  cases t with
  |pair a b=>
   show(d0e p a x.1 (.nl e) y).1.cells+b.cells=a.cells+b.cells;rw[g0r p a x.1 e y hf h]
  |_=>rfl
 |.snd::p,t,x,e,y,hf,h=>by
  cases t with
  |pair a b=>
   show a.cells+(d0e p b x.2 (.nl e) y).1.cells=a.cells+b.cells;rw[g0r p b x.2 e y hf h]
  |_=>rfl
 |.idx _::_,_,_,_,_,hf,_=>by cases hf
theorem m0z:∀(p:a0l)(t:Ty)(x:t.den)(e:Ty)(l:List e.den)(y:List e.den),e0h p=true→d0e p t (c0i p t x (.list false e) l) (.nl e) y=d0e p t x (.nl e) y
 | [],_,_,_,_,_,_=>rfl
 |.fst::p,t,x,e,l,y,hf=>by
  cases t with
  |pair a b=>
   exact congrArg (fun r:(t:Ty)×t.den=>(⟨.pair r.1 b,(r.2,x.2)⟩:(t:Ty)×t.den)) (m0z p a x.1 e l y hf)
  |_=>rfl
 |.snd::p,t,x,e,l,y,hf=>by
  cases t with
  |pair a b=>
   exact congrArg (fun r:(t:Ty)×t.den=>(⟨.pair a r.1,(x.1,r.2)⟩:(t:Ty)×t.den)) (m0z p b x.2 e l y hf)
  |_=>rfl
 |.idx _::_,_,_,_,_,_,hf=>by cases hf
theorem m0k{m:Mem}:∀(p:a0l)(t:Ty)(s:Src){x O R b o e},e0h p=true→dec m t (s.rd m)=some (x,O,R)→loc m t s p=some (.list false e,.at b o)→m b o=some (.slice none 0 0)→
  ∃f,dec m (d0e p t x (.nl e) ([]:List e.den)).1 (s.rd m)=some ((d0e p t x (.nl e) ([]:List e.den)).2,O,f)∧∀c∈f,c∈R
 | [],t,s,x,O,R,b,o,e,_,h,g,hm=>by
  simp only[loc,a0t,sj,pJ]at g;obtain⟨rfl,rfl⟩:=g;have u:(Src.at b o).rd m 0=some (.slice none 0 0):=hm;have h:a0w m false e.cells (dec m e) ((Src.at b o).rd m 0)=some (x,O,R):=h;rw[u]at h;have h:some (([]:List e.den),([]:b0k),([]:List Nat))=some (x,O,R):=h;cases h;refine⟨[],?_,by simp⟩;show dec m (.nl e) ((Src.at b o).rd m)=_;simp only[dec,u];rfl
 |.fst::p,t,s,x,O,R,b,o,e,hf,h,g,hm=>by
  obtain⟨a,r,bl,so,rfl,rfl,g⟩:=d0v g;obtain⟨q,o1,v,z,o2,r2,i,j,rfl,rfl,rfl⟩:=c0h h;obtain⟨f,l,n⟩:=m0k p a (.at bl so) hf i g hm;have w:(a0p a q p).1=.list false e:=by
   obtain⟨y,A,R1,-,-,-,-,-,k,-⟩:=b0f p a (.at bl so) i g;rw[k]
  refine⟨f++r2,e0m l (by rw[g0r p a q e [] hf w];exact j),fun c d=>?_⟩;simp only[mA]at d⊢;exact d.imp (n c) id
 |.snd::p,t,s,x,O,R,b,o,e,hf,h,g,hm=>by
  obtain⟨a,r,bl,so,rfl,rfl,g⟩:=d0w g;obtain⟨q,o1,v,z,o2,r2,i,j,rfl,rfl,rfl⟩:=c0h h;rw[e0e]at j;obtain⟨f,l,n⟩:=m0k p r (.at bl (so+a.cells)) hf j g hm;rw[←e0e]at l;refine⟨v++f,e0m i l,fun c d=>?_⟩;simp only[mA]at d⊢;exact d.imp id (n c)
 |.idx _::_,_,_,_,_,_,_,_,_,hf,_,_,_=>by cases hf
theorem m0s{m:Mem}{e:Ty}{y:List e.den}:∀(p q:a0l)(t:Ty)(x:t.den)(s:Src){t1 s1},e0h p=true→(a0p t x p).1=.list false e→loc m t s q=some (t1,s1)→
  ∃t2,loc m (d0e p t x (.nl e) y).1 s q=some (t2,s1)∧∀c,t1=.list true c→t2=t1
 | [],q,t,x,s,t1,s1,_,f,g=>by
  have f:t=.list false e:=f;subst f
  match q,g with
  | [],g=>
   simp only[loc,a0t,sj,pJ]at g;obtain⟨rfl,rfl⟩:=g;exact⟨_,rfl,fun c h=>by cases h⟩
  |.fst::_,g=>simp[loc,a0t]at g
  |.snd::_,g=>simp[loc,a0t]at g
  |.idx _::_,g=>simp[loc,a0t]at g
 |.fst::p,q,t,x,s,t1,s1,hf,f,g=>by
  cases t with
  |pair a b=>
   have f:(a0p a x.1 p).1=.list false e:=f
   match q,g with
   | [],g=>
    simp only[loc,a0t,sj,pJ]at g;obtain⟨rfl,rfl⟩:=g;exact⟨_,rfl,fun c h=>by cases h⟩
   |.fst::q,g=>
    obtain⟨d,i,bl,o,k,rfl,g⟩:=d0v g;cases k;exact m0s p q a x.1 _ hf f g
   |.snd::q,g=>
    obtain⟨d,i,bl,o,k,rfl,g⟩:=d0w g;cases k;refine⟨t1,?_,fun _ _=>rfl⟩;show loc m b (.at bl (o+(d0e p a x.1 (.nl e) y).1.cells)) q=_;rw[g0r p a x.1 e y hf f];exact g
   |.idx _::_,g=>simp[loc,a0t]at g
  |_=>exact⟨t1,g,fun _ _=>rfl⟩
 |.snd::p,q,t,x,s,t1,s1,hf,f,g=>by
  cases t with
  |pair a b=>
   have f:(a0p b x.2 p).1=.list false e:=f
   match q,g with
   | [],g=>
    simp only[loc,a0t,sj,pJ]at g;obtain⟨rfl,rfl⟩:=g;exact⟨_,rfl,fun c h=>by cases h⟩
   |.fst::q,g=>
    obtain⟨d,i,bl,o,k,rfl,g⟩:=d0v g;cases k;exact⟨t1,g,fun _ _=>rfl⟩
   |.snd::q,g=>
    obtain⟨d,i,bl,o,k,rfl,g⟩:=d0w g;cases k;exact m0s p q b x.2 _ hf f g
   |.idx _::_,g=>simp[loc,a0t]at g
  |_=>exact⟨t1,g,fun _ _=>rfl⟩
 |.idx _::_,_,_,_,_,_,_,hf,_,_=>by cases hf
section
variable {P:Program} {B:Base} {N:Nat} {ρ:Type} {Γ:AE} {a:Act} {w:World} {σ:Gh}
theorem a0e.retype{m:Mem}{g:Nat→Src}{rt rt':Nat→Option Root}{Sh:Nat→Prop}{av:AV}{v:Value}(h:a0e m g rt Sh av v)
  (x:∀n q r t s,rt n=some r→loc m r.t (g n) q=some (t,s)→∃f t2,rt' n=some f∧loc m f.t (g n) q=some (t2,s)∧∀e',t=.list true e'→t2=t):a0e m g rt' Sh av v:=by
 cases av with
 |ptr n p=>
  obtain⟨r,t,b,o,d,i,j⟩:=h;obtain⟨f,t2,u,k,-⟩:=x n p r t _ d i;exact⟨f,t2,b,o,u,k,j⟩
 |sref n p=>
  obtain⟨r,e,s,d,i,j⟩:=h;obtain⟨f,t2,u,k,w⟩:=x n p r _ _ d i;rw[w e rfl]at k;exact⟨f,e,s,u,k,j⟩
 |swin n p o l=>
  obtain⟨r,e,s,a,l',c,d,i,j,u,k⟩:=h;obtain⟨f,t2,w,y,z⟩:=x n p r _ _ d i;rw[z e rfl]at y;exact⟨f,e,s,a,l',c,w,y,j,u,k⟩
 |_=>exact h
theorem Rel.retype{tm:Nat→Value}(h:Rel B Γ N tm w σ)(u:Γ.pd=none){n:Nat}{r:Root}(C:Γ.rt n=some r)(A:r.bx=true){p:a0l}(hf:e0h p=true){e:Ty}{b o:Nat}(K:loc (a0a w σ.ov) r.t (σ.g n) p=some (.list false e,.at b o))(V:a0a w σ.ov b o=some (.slice none 0 0)):
  Rel B (Γ.setRt n (some ⟨true,(d0e p r.t r.x (.nl e) ([]:List e.den)).1,(d0e p r.t r.x (.nl e) ([]:List e.den)).2⟩)) N tm w σ:=by
 obtain⟨L,R,H,Q,S⟩:=(h.roots n r C).rd;have J:(a0p r.t r.x p).1=.list false e:=by
  obtain⟨y,W,R1,-,-,-,-,-,k,-⟩:=b0f p r.t _ H K;rw[k]
 have a:∀m,(Γ.setRt n (some ⟨true,(d0e p r.t r.x (.nl e) ([]:List e.den)).1,(d0e p r.t r.x (.nl e) ([]:List e.den)).2⟩)).rt m=if m=n then some ⟨true,(d0e p r.t r.x (.nl e) ([]:List e.den)).1,(d0e p r.t r.x (.nl e) ([]:List e.den)).2⟩else Γ.rt m:=fun m=>by
  simp only[AE.setRt]
  by_cases e1:m=n
  subst e1;simp
  have:(m==n)=false:=by simpa using e1
  rw[this,if_neg e1];rfl
 refine⟨fun m F f=>?_,fun m d=>?_,h.nodup,h.disj,h.live,fun i hi=>?_,?_,h.size,h.frame,h.mine,fun i G I j=>?_,h.still⟩;rw[a]at f
 by_cases e1:m=n
 subst e1;rw[if_pos rfl]at f;cases f;obtain⟨M,D,E⟩:=m0k p r.t _ hf H K V;refine⟨L,M,D,fun c U=>Q c (E c U),?_⟩;rcases S with⟨-,O,z,P⟩|⟨z,-⟩;exact .inl ⟨rfl,O,z,by rw[P];simp only[g0r p r.t r.x e [] hf J]⟩;rw[A]at z;cases z;rw[if_neg e1]at f;exact h.roots m F f;rw[a]at d
 by_cases e1:m=n
 rw[if_pos e1]at d;cases d;rw[if_neg e1]at d;exact h.norm m d;refine(h.slots i hi).frame fun av v T=>T.retype fun m q F t s f l=>?_
 by_cases e1:m=n
 subst e1;rw[C]at f;cases f;obtain⟨t2,D,E⟩:=m0s p q r.t r.x _ (y:=[]) hf J l;exact⟨_,t2,by rw[a,if_pos rfl],D,E⟩;exact⟨F,t,by rw[a,if_neg e1];exact f,l,fun _ _=>rfl⟩;show f0t _ _ _ Γ.pd σ.ov;rw[u,h.ov_none u];trivial;rw[a]at j
 by_cases e1:pinned+i=n
 exact h.pins i G I (by rw[e1,C];simp);rw[if_neg e1]at j;exact h.pins i G I j
theorem q0r{o:Oper}{t:TypeId}{x y:Operand}{cx:Cx}{q:Bool}{K:AE→Rs ρ}{z:ρ}{n:Nat}{p:a0l}(U:CxTy P cx)(J:o.op=.store t x y)(i:Γ.nilAt cx x y=some (n,p))
  (h:Rel B Γ N (a0f a) w σ)(hN:a.tmps.size=N)(hf:fits N o=true)(f:aop cx q o Γ K=some z):a0j P B N o a w K z:=by
 have hx:=h.opd (a0r hf x (by simp[J,Op.operands]));have hy:=h.opd (a0r hf y (by simp[J,Op.operands]));have f:(if q then none else match cx.T t with
   |some t=>Γ.nilSt t n p fun Γ=>K (Γ.setD o.dst .dead)
   |none=>none)=some z:=by
  simp only[aop,J,i]at f;exact f
 have F:Γ.opd x=.ptr n p∧Γ.opd y=.nils:=by
  unfold AE.nilAt at i
  split at i
  rcases a0b i with⟨-,i⟩|⟨-,i⟩
  split at i
  rename_i s m p' hs;cases i;exact⟨hs,rfl⟩;cases i;cases i;cases i
 rw[F.1]at hx;rw[F.2]at hy
 split at f
 cases f
 split at f
 rename_i ty hT;obtain⟨Y,hty⟩:=U.T t _ hT;unfold AE.nilSt at f
 split at f
 rename_i r H;obtain⟨X,Q⟩:=a0q H
 split at f
 rename_i e l O
 split at f
 rename_i h1;obtain⟨rfl,G⟩:=h1;obtain⟨hc,h5⟩:=(a0b f).elim id fun h=>by cases h.2
 simp only[bA]at hc;obtain⟨S,v⟩:=hc
 let Γ1:AE:=Γ.setRt n (some ⟨r.bx,r.t,b0s r.t r.x p (.list false e) ([]:List e.den)⟩)
 have Z:Γ.stor (.list false e) n p .nils some=some Γ1:=by
  unfold AE.stor;simp only[Q,O];rw[if_pos ⟨by simp[Ty.shn,G],by simp[Ty.sh,G]⟩];simp only[AE.asV,H,O,if_true,Γ1]
 obtain⟨w',Γ',σ',b,off,M,h2,L,c,hK⟩:=Rel.storR Y hty h hx hy Z;cases hK;obtain⟨r0,t0,b0,o0,k1,k2,k3⟩:=id hx;rw[Q]at k1;cases k1;rw[M]at k3;cases k3;have E:=h.room Q k2;have h4:a.eval y=.slice none 0 0:=hy;have D:Γ1.rt n=some ⟨r.bx,r.t,b0s r.t r.x p (.list false e) ([]:List e.den)⟩:=by simp[Γ1,AE.setRt]
 have h3:a0e (a0a w' σ'.ov) σ'.g Γ1.rt (Shr B w' σ') (.ptr n p) (a.eval x):=by
  have:=c.opd (a0r hf x (by simp[J,Op.operands]))
  have e1:Γ1.opd x=.ptr n p:=by rw[←F.1];cases x<;>rfl
  rw[e1]at this;exact this
 obtain⟨r1,t1,b1,o1,g1,g2,g3⟩:=h3;rw[D]at g1;cases g1;rw[M]at g3;cases g3;have u:Γ1.pd=none:=X;have W:=c.ov_none u;obtain⟨O',R,d1,-,-⟩:=(c.roots n _ D).rd;have V:(a0p r.t (b0s r.t r.x p (.list false e) ([]:List e.den)) p)=⟨.list false e,[]⟩:=k0u p r.t r.x _ _ v (by rw[show b0j p r.t r.x=a0p r.t r.x p from rfl,O]);have h0:t1=.list false e:=by
  obtain⟨y',O1,R1,-,-,-,-,-,k,-⟩:=b0f p _ _ d1 g2
  have:=k.symm.trans V
  exact congrArg Sigma.fst this
 subst h0;have I:a0a w' σ'.ov b off=some (.slice none 0 0):=by
  have e2:w'=w.setCell ⟨b,off,none⟩ (.slice none 0 0):=by rw[h2,h4];rfl
  have h6:0<t0.cells:=by
   obtain⟨O2,R2,d2,-⟩:=(h.roots n r Q).rd;obtain⟨y',O1,R1,-,-,-,-,-,k,-⟩:=b0f p _ _ d2 k2
   have:t0=.list false e:=congrArg Sigma.fst (k.symm.trans O)
   subst this;exact Nat.one_pos
  rw[W,e2,o0g E (by omega),if_pos ⟨rfl,rfl⟩]
 have d:=c.retype u D S v g2 I;refine a0j.skip (w':=w') hN (by simp[execOp,J,L]) (Γ':=Γ.setRt n (some ⟨true,(d0e p r.t r.x (.nl e) ([]:List e.den)).1,(d0e p r.t r.x (.nl e) ([]:List e.den)).2⟩)) (σ':=σ') ?_ h5;have e3:∀(A C:Option Root),((Γ.setRt n A).setRt n C)=Γ.setRt n C:=fun A C=>by
  simp only[AE.setRt];congr 1;funext j;cases (j==n)<;>rfl
 have e4:=m0z p r.t r.x e [] [] v;simp only[Γ1,e3]at d;have e5:d0e p r.t (b0s r.t r.x p (.list false e) ([]:List e.den)) (.nl e) ([]:List e.den)=d0e p r.t r.x (.nl e) []:=e4;rw[e5]at d;exact d;cases f;cases f;cases f;cases f
end
section
variable {P:Program} {B:Base} {N:Nat} {ρ:Type} {Γ:AE} {a:Act} {w:World} {σ:Gh}
theorem z0i{o:Oper}{cx:Cx}{q:Bool}{K:AE→Rs ρ}{z:ρ}(l:CxTy P cx)(H:GOk cx.G B)(D:∀c v,o.op=.call c→c.callee≠.value v)
  (h:Rel B Γ N (a0f a) w σ)(A:a.tmps.size=N)(hf:fits N o=true)(j:aop cx q o Γ K=some z):a0j P B N o a w K z:=by
 cases hd:o.dst with
 |none=>
  cases ho:o.op
  case store t x y=>
   cases hnk:Γ.nilAt cx x y with
   |some np=>exact q0r (n:=np.1) (p:=np.2) l ho hnk h A hf j
   |none=>
    cases hag:Γ.aggOf y with
    |none=>exact q0s l ho hag hnk h A hf j
    |some vs=>exact n0b l ho hag hnk h A hf j
  case call c=>
   cases hc:c.callee with
   |value v=>exact absurd hc (D c v ho)
   |builtin b=>simp only[aop,ho,hd,hc]at j;cases j
   |invoke r n=>simp only[aop,ho,hd,hc]at j;cases j
  all_goals (simp only[aop,ho,hd]at j;cases j)
 |some d=>
  cases ho:o.op
  case store t x y=>
   cases hnk:Γ.nilAt cx x y with
   |some np=>exact q0r (n:=np.1) (p:=np.2) l ho hnk h A hf j
   |none=>
    cases hag:Γ.aggOf y with
    |none=>exact q0s l ho hag hnk h A hf j
    |some vs=>exact n0b l ho hag hnk h A hf j
  case call c=>
   cases hc:c.callee with
   |value v=>exact absurd hc (D c v ho)
   |builtin b=>
    cases b
    case len=>exact B0i l ho hc hd h A hf j
    case cap=>exact B0h l ho hc hd h A hf j
    case max=>exact B0j ho hc hd h A hf j
    case min=>exact B0k ho hc hd h A hf j
    case append=>exact v0o l ho hc hd h A hf j
    case copy=>exact z0q l ho hc hd h A hf j
    all_goals (simp only[aop,ho,hd,hc]at j;unfold AE.blt at j;first|(cases j;done)|(split at j<;>first|(cases j;done)|(rename_i C;cases C;done)|(rename_i C _;cases C;done)))
   |invoke r n=>simp only[aop,ho,hd,hc]at j;cases j
  case move x=>exact z0s ho hd h A hf j
  case assign x=>exact v0p ho hd h A hf j
  case pick x y u=>exact z0t ho hd h A hf j
  case alloc t=>exact x0s l ho hd h A j
  case box t x=>
   cases hag:(bif q then none else Γ.aggOf x)with
   |none=>exact B0g ho hd hag h A hf j
   |some vs=>exact v0q l ho hd hag h A hf j
  case build t x=>
   cases hnl:cx.nlT d t with
   |some τ=>exact q0p l ho hd (fun g=>by rw[hnl]at g;cases g) h A hf j
   |none=>
    cases hO:cx.O d with
    |none=>exact q0p l ho hd (fun _=>hO) h A hf j
    |some τ=>exact t0g l ho hd hO hnl h A hf j
  case makeFunc fn first caps=>
   cases fn with
   |func f=>exact t0i ho hd h A hf j
   |_=>simp only[aop,ho,hd]at j;cases j
  case buildSlice t n x=>
   by_cases hO:∃E e F,cx.T t=some (.list E e)∧(bif q || !e.isList then none else cx.O d)=some F
   obtain⟨E,e,F,C,I⟩:=hO;exact t0h l ho hd C I h A hf j
   ·refine q0q l ho hd (fun E e hT=>?_) h A hf j;cases C:(bif q || !e.isList then none else cx.O d)with
    |none=>rfl
    |some F=>exact absurd ⟨E,e,F,hT,C⟩ hO
  case load t x=>exact z0r l H ho hd h A hf j
  case nilCheck x=>exact t0j ho hd h A hf j
  case binOp op t x y s=>exact x0t l ho hd h A hf j
  case unOp op t x=>exact z0u ho hd h A hf j
  case convert s t x=>exact u0h l ho hd h A hf j
  case makeSlice t x y=>exact r0s l ho hd h A hf j
  case slice t x u v m=>exact x0w l ho hd h A hf j
  case fieldAddr s x f=>exact r0q l ho hd h A hf j
  case field s x f=>exact x0u l ho hd h A hf j
  case indexAddr t x i=>exact r0r l H ho hd h A hf j
  case index t x i=>exact x0v l ho hd h A hf j
  case lookup t x k ok=>
   cases ok with
   |true=>exact v0r l H ho hd h A hf j
   |false=>simp only[aop,ho,hd]at j;cases j
  case extract x i=>
   cases x with
   |tmp t=>exact u0i ho hd h A hf j
   |_=>simp only[aop,ho,hd]at j;cases j
  all_goals (simp only[aop,ho,hd]at j;cases j)
end
def cells(w:World):Mem:=fun b o=>w.cell? ⟨b,o,none⟩
structure Ent1 where
 r:Root
 s:Src
 O:b0k
def g0e(Γ:AE)(f:AV→AV)(E:Nat→Option Ent1):AE:=
 ⟨(Γ.mapv f).sl,fun n=>match E n with|some e=>some e.r|none=>Γ.rt n,none⟩
def d0x(σ:Gh)(E:Nat→Option Ent1):Gh:=
 ⟨fun n=>match E n with|some e=>e.s|none=>σ.g n,fun n=>match E n with|some e=>e.O|none=>σ.ow n,none⟩
theorem g0k{Γ f E n}(h:E n=none):(g0e Γ f E).rt n=Γ.rt n:=by simp[g0e,h]
theorem e0r{Γ f E n e}(h:E n=some e):(g0e Γ f E).rt n=some e.r:=by simp[g0e,h]
theorem i0k{σ E n}(h:E n=none):(d0x σ E).g n=σ.g n:=by simp[d0x,h]
theorem e0q{σ E n e}(h:E n=some e):(d0x σ E).g n=e.s:=by simp[d0x,h]
theorem c0y{σ E n}(h:E n=none):(d0x σ E).ow n=σ.ow n:=by simp[d0x,h]
theorem d0m{σ E n e}(h:E n=some e):(d0x σ E).ow n=e.O:=by simp[d0x,h]
structure Work (w w':World) (σ:Gh) (F':Nat→Prop) (E:Nat→Option Ent1):Prop where
 own:∀c,F' c→∃n e,E n=some e∧c∈(σ.ow n).map (·.1)
 size:w.heap.size≤w'.heap.size
 same:∀b,b<w.heap.size→¬ F' b→w'.heap[b]?=w.heap[b]?
 mine:∀n e c,E n=some e→c∈e.O.map (·.1)→(F' c∨c∈(σ.ow n).map (·.1))∨w.heap.size≤c
 nodup:∀n e,E n=some e→(e.O.map (·.1)).Nodup
 disj:∀n e n' e',E n=some e→E n'=some e'→n≠n'→∀c,c∈e.O.map (·.1)→c∉e'.O.map (·.1)
 live:∀n e p,E n=some e→p∈e.O→b0c w' p.1 p.2
 still:c0o w'=c0o w
theorem Rel.merge{B Γ N tm w σ}(h:Rel B Γ N tm w σ)(h4:σ.ov=none){w':World}{F':Nat→Prop}{E:Nat→Option Ent1}(W:Work w w' σ F' E)
  (Q:∀n e,E n=some e→RootOk (cells w') (fun c=>c<w'.heap.size∧(Shr B w σ c∨F' c∨w.heap.size≤c)∧∀n e,E n=some e→c∉e.O.map (·.1)) e.r e.s e.O)
  (h6:∀i b e,B.pin i=some b→E (pinned+i)=some e→e.s=b){f:AV→AV}
  (hf:∀a v,a0e (a0a w σ.ov) σ.g Γ.rt (Shr B w σ) a v→f a=.dead∨(f a=a∧∀k q,(a=.ptr k q∨a=.sref k q∨∃o l,a=.swin k q o l)→E k=none∨(a=.ptr k []∧∃e b,E k=some e∧e.s=.at b 0∧σ.g k=.at b 0)∨
   (a=.sref k []∧∃e v ε,E k=some e∧e.s=.one v∧σ.g k=.one v∧e.r.t=.list true ε))):
  Rel B (g0e Γ f E) N tm w' (d0x σ E)∧
   (∀c,c<w'.heap.size∧(Shr B w σ c∨F' c∨w.heap.size≤c)∧(∀n e,E n=some e→c∉e.O.map (·.1))→Shr B w' (d0x σ E) c):=by
 have D:∀c,F' c→a0u σ c:=fun c m=>by obtain⟨n,e,-,z⟩:=W.own c m;exact⟨n,z⟩
 have h5:∀c,F' c→c<w.heap.size:=fun c m=>h.lt (D c m)

 have K:∀n c,E n=none→c∈(σ.ow n).map (·.1)→¬ F' c:=fun n c z m M=>by
  obtain⟨G,H,T,x⟩:=W.own c M;have A:n≠G:=by grind
  exact h.disj n G A c m x
 have U:∀c,a0u (d0x σ E) c→(∃n,E n=none∧c∈(σ.ow n).map (·.1))∨∃n e,E n=some e∧c∈e.O.map (·.1):=by
  rintro c ⟨n,z⟩
  cases d:E n with
  |none=>grind[c0y]
  |some e=>grind[d0m]
 have R:∀c,c<w'.heap.size∧(Shr B w σ c∨F' c∨w.heap.size≤c)∧(∀n e,E n=some e→c∉e.O.map (·.1))→Shr B w' (d0x σ E) c:=by
  rintro c ⟨T,x,S⟩
  refine⟨T,?_,fun ho=>?_⟩;rcases x with x|x|x;exact x.2.1;exact .inr (h.mine c (D c x));exact .inr (.inr (a26 h.size x));rcases U c ho with⟨n,d,z⟩|⟨n,e,d,z⟩;rcases x with x|x|x;exact x.2.2 ⟨n,z⟩
  grind
  have:=h.lt ⟨n,z⟩;omega
  grind
 have L:∀c,Shr B w σ c→Shr B w' (d0x σ E) c:=fun c m=>R c ⟨a02 m.1 W.size,.inl m,fun n e d z=>by
  rcases W.mine n e c d z with(g|g)|g;exact m.2.2 (D c g);exact m.2.2 ⟨n,g⟩
  have:=m.1;omega⟩
 have J:∀c j,c<w.heap.size→¬ F' c→a0a w' none c j=a0a w σ.ov c j:=fun c j m M=>by
  rw[h4];exact b0q none (W.same c m M) j
 have y:∀n c j,E n=none→c∈(σ.ow n).map (·.1)→a0a w' none c j=a0a w σ.ov c j:=fun n c j z m=>J c j (h.lt ⟨n,m⟩) (K n c z m);have P:∀c j,Shr B w σ c→a0a w' none c j=a0a w σ.ov c j:=fun c j m=>J c j m.1 fun M=>m.2.2 (D c M);have I:∀n q r t s,E n=none→Γ.rt n=some r→loc (a0a w σ.ov) r.t (σ.g n) q=some (t,s)→loc (a0a w' none) r.t (σ.g n) q=some (t,s)∧s.rd (a0a w' none) 0=s.rd (a0a w σ.ov) 0:=by
  intro n q r t s d hr Y;obtain⟨O1,R1,l1,l2,l3,l4,l5,l6⟩:=h.sep hr;refine⟨c0s q r.t _ l1 Y (fun j _=>?_) (fun c j m=>y n c j d (l4 c m)),?_⟩
  ·cases es:σ.g n with
   |one v=>rfl
   |_=>rename_i b o;exact y n b _ d (l5 _ _ es)
  ·cases s with
   |one v=>rfl
   |_=>rename_i b o;exact y n b _ d (h.place hr Y)
 refine⟨⟨fun n r hr=>?_,fun n z=>?_,fun n=>?_,fun n G A c m F=>?_,fun n p hp=>?_,fun i hi=>?_,trivial,a26 h.size W.size,fun b X M=>?_,fun c m=>?_,fun i b X A=>?_,W.still.trans h.still⟩,R⟩
 ·cases d:E n with
  |none=>
   rw[g0k d]at hr;rw[i0k d,c0y d];obtain⟨O1,R1,l1,l2,l3,l4,l5,l6⟩:=h.sep hr;refine⟨O1,R1,?_,fun c m=>L c (l2 c m),l6⟩;show dec (a0a w' none) r.t ((σ.g n).rd (a0a w' none))=_;refine a0k r.t l1 (fun j _=>?_) (fun c j m=>?_)
   ·cases es:σ.g n with
    |one v=>rfl
    |_=>rename_i b o;exact y n b _ d (l5 _ _ es)
   grind
  |some e=>
   rw[e0r d]at hr;rw[e0q d,d0m d];simp at hr;subst hr;exact(Q n e d).mono R
 ·cases d:E n with
  |none=>rw[g0k d]at z;rw[c0y d];exact h.norm n z
  |some e=>grind[e0r]
 ·cases d:E n with
  |none=>rw[c0y d];exact h.nodup n
  |some e=>rw[d0m d];exact W.nodup n e d
 ·have Z:∀n G,E n=none→∀H,E G=some H→c∈(σ.ow n).map (·.1)→c∈H.O.map (·.1)→False:=fun n G d H C m F=>by
   rcases W.mine G H c C F with(g|g)|g
   grind
   exact h.disj n G (by grind) c m g
   have:=h.lt ⟨n,m⟩;omega
  cases d:E n with
  |none=>
   rw[c0y d]at m;cases C:E G with
   |none=>rw[c0y C]at F;exact h.disj n G A c m F
   |some H=>grind[d0m]
  |some e=>
   rw[d0m d]at m;cases C:E G with
   |none=>grind[c0y]
   |some H=>rw[d0m C]at F;exact W.disj n e G H d C A c m F
 ·cases d:E n with
  |none=>
   rw[c0y d]at hp;obtain⟨c,e,lo,hi,T,x,S⟩:=h.live n p hp;have m:=a00 (f:=(·.1)) hp;exact⟨c,e,lo,hi,by rw[W.same p.1 (h.lt ⟨n,m⟩) (K n p.1 d m)];omega,x,S⟩
  |some e=>rw[d0m d]at hp;exact W.live n e p d hp
 refine(h.slots i hi).mapv fun a v V=>?_
 rcases hf a v V with g|⟨g,hk⟩;rw[g];trivial;rw[g]
 by_cases hz:∃k e b,a=.ptr k []∧E k=some e∧e.s=.at b 0∧σ.g k=.at b 0
 obtain⟨k,e,b,rfl,d,hs,hg⟩:=hz;obtain⟨r,t,b',o,T,x,S⟩:=V;simp[a0t,hg]at x;obtain⟨rfl,rfl,rfl⟩:=x;refine⟨e.r,e.r.t,b,0,e0r d,?_,S⟩;rw[e0q d,hs];rfl
 by_cases hy:∃k e u ε,a=.sref k []∧E k=some e∧e.s=.one u∧σ.g k=.one u∧e.r.t=.list true ε
 obtain⟨k,e,u,ε,rfl,d,hs,hg,ht⟩:=hy;obtain⟨r,H,s,T,x,S⟩:=V;simp[a0t,hg]at x;obtain⟨-,rfl⟩:=x;refine⟨e.r,ε,.one u,e0r d,?_,S⟩;rw[e0q d,hs,ht];rfl;refine V.frame P L fun k q r t s h0 hr Y=>?_
 have d:E k=none:=by
  grind
 have hp:=I k q r t s d hr Y;refine⟨r,by grind[g0k],by rw[i0k d];exact hp.1,fun u _ hu=>by rw[←hu];exact hp.2⟩
 ·rw[W.same b (a02 X h.size) ?_];exact h.frame b X M
  ·intro g;rcases h.mine b (D b g)with g|g
   all_goals grind
 rcases U c m with⟨n,d,z⟩|⟨n,e,d,z⟩;exact h.mine c ⟨n,z⟩;rcases W.mine n e c d z with(g|g)|g;exact h.mine c (D c g);exact h.mine c ⟨n,g⟩;exact .inr (a26 h.size g)
 ·cases d:E (pinned+i)with
  |none=>rw[g0k d]at A;rw[i0k d];exact h.pins i b X A
  |some e=>grind[e0q]
def n0h:Src→Value→Prop
 |.at b o,v=>o=0∧v=.pointer (some ⟨b,0,none⟩)
 |.one u,v=>v=u
theorem n0h.uniq:∀{s:Src}{u v:Value},n0h s u→n0h s v→u=v
 |.at _ _,_,_,h,h'=>h.2.trans h'.2.symm
 |.one _,_,_,h,h'=>h.trans (show _=_ from h').symm
def lg(w:World)(σ:Gh)(n:Nat)(bx:Bool):Src:=match bx,σ.g n with
 |false,.at b _=>.one ((w.cell? ⟨b,0,none⟩).getD undef)
 |_,s=>s
def lo(σ:Gh)(n:Nat)(bx:Bool):b0k:=match bx,σ.g n with
 |false,.at _ _=>(σ.ow n).tail
 |_,_=>σ.ow n
theorem A0i{σ:Gh}{n:Nat}{bx:Bool}{p}(h:p∈lo σ n bx):p∈σ.ow n:=by
 unfold lo at h
 grind[List.mem_of_mem_tail]
def n0f(w:World)(Γ:AE)(σ:Gh)(n:Nat)(r:Root)(v:Value):Prop:=
 (Γ.rt n=some r∧n0h (σ.g n) v)∨∃b,(r.bx=false∧∃e,r.t=.list true e)∧Γ.rt n=some ⟨true,r.t,r.x⟩∧σ.g n=.at b 0∧w.cell? ⟨b,0,none⟩=some v
theorem n0f.keep{w:World}{Γ Γ':AE}{σ σ':Gh}{n:Nat}{r:Root}{v:Value}(h:n0f w Γ σ n r v)(c:∀r,Γ.rt n=some r→Γ'.rt n=some r∧σ'.g n=σ.g n):n0f w Γ' σ' n r v:=by
 rcases h with⟨f,a⟩|⟨b,f,a,e,i⟩;obtain⟨k,d⟩:=c _ f;exact .inl ⟨k,by simp_all⟩;obtain⟨k,d⟩:=c _ a;exact .inr ⟨b,f,k,d.trans e,i⟩
structure ArgsOk (fz:Bool) (B:Base) (w:World) (Γ':AE) (σ':Gh) (ps:List PA) (x:(c0m (ps.map PA.ty)).den) (vs:List Value) (used us:List Nat) (i0:Nat):Prop where
 vals:∀(i:Nat)(t:Ty)(y:t.den)(v:Value),(a0z ps x)[i]?=some ⟨.v t,y⟩→vs[i]?=some v→
  VOk (a0a w σ'.ov) (fun c=>Shr B w σ' c∨(fz=false∧∃n,n∉used∧n∉us∧c∈(σ'.ow n).map (·.1))) t y v
 refs:∀(k n:Nat),us[k]?=some n→∃(i:Nat)(c:Bool)(a:RA)(y:a.ty.den)(v:Value)(r:Root),(a0o ps i0)[k]?=some (i0+i)∧(a0z ps x)[i]?=some ⟨.r c a,y⟩∧vs[i]?=some v∧
  a0v ⟨a,y⟩=some r∧n0f w Γ' σ' n r v∧(c=true→Γ'.rt n=some r∧r.bx=false∧n<pinned)
 len:us.length=(a0o ps i0).length
 nodup:us.Nodup
 apart:∀n∈us,n∉used
section
variable {B:Base} {N:Nat} {tm:Nat→Value} {w:World} {Γ:AE} {σ:Gh}
theorem Rel.src_of{n:Nat}{r:Root}(h:Rel B Γ N tm w σ)(f:Γ.rt n=some r):(r.bx=true∧∃b,σ.g n=.at b 0)∨(r.bx=false∧∃v e,σ.g n=.one v∧r.t=.list true e):=by
 obtain⟨k,R,-,-,a⟩:=(h.roots n r f).rd
 grind
theorem Rel.lent(h:Rel B Γ N tm w σ)(s:σ.ov=none){n:Nat}{r:Root}{v:Value}(q:n0f w Γ σ n r v):
  RootOk (a0a w σ.ov) (Shr B w σ) r (lg w σ n r.bx) (lo σ n r.bx)∧n0h (lg w σ n r.bx) v∧(∀p∈lo σ n r.bx,p∈σ.ow n)∧((lo σ n r.bx).map (·.1)).Nodup∧
   ((r.bx=true∧∃b,lg w σ n r.bx=.at b 0)∨(r.bx=false∧∃u e,lg w σ n r.bx=.one u∧r.t=.list true e)):=by
 rcases q with⟨f,i⟩|⟨b,f,i,C,D⟩
 ·have k:lg w σ n r.bx=σ.g n∧lo σ n r.bx=σ.ow n:=by
   rcases h.src_of f with⟨d,b,c⟩|⟨d,u,e,c,-⟩
   all_goals simp_all[lg,lo]
  rw[k.1,k.2];exact⟨h.roots n r f,i,fun _ g=>g,h.nodup n,h.src_of f⟩
 obtain⟨f,l⟩:=f;obtain⟨o,R,x,y,z⟩:=(h.roots n _ i).rd;have k:lg w σ n r.bx=.one v∧lo σ n r.bx=(σ.ow n).tail:=by simp_all[lg,lo]
 rcases z with⟨-,A,d,c⟩|⟨d,-⟩;rw[k.1,k.2,c];have a:=h.nodup n;rw[c,a05]at a;obtain⟨e,m⟩:=l;refine⟨⟨o,R,?_,y,.inr ⟨f,⟨v,rfl⟩,⟨e,m⟩,rfl⟩⟩,rfl,fun p hp=>a13 _ hp,(a14.1 a).2,.inr ⟨f,v,e,rfl,m⟩⟩;refine a0k r.t x (fun j E=>?_) (fun _ _ _=>rfl);simp_all[Ty.cells,Src.rd,a0a];simp_all
end
section
variable {ρ:Type} {B:Base} {N:Nat} {tm:Nat→Value} {w:World}
theorem Rel.arg{Γ:AE}{σ:Gh}(h:Rel B Γ N tm w σ){fz q:Bool}{used seen:List Nat}{p:PA}{a:AV}{v:Value}{K:p.ty.den→AE→List Nat→List Nat→Rs ρ}{z:ρ}
  (l:a0e (a0a w σ.ov) σ.g Γ.rt (Shr B w σ) a v∨h0o Γ a)(f:Γ.arg fz q used seen p a K=some z):
  ∃x Γ' σ' used' seen',K x Γ' used' seen'=some z∧Rel B Γ' N tm w σ'∧Ev B w Γ σ Γ' σ'∧d0h (·∉used) Γ σ Γ' σ'∧(fz=false∨q=true→Γ'=Γ∧σ'=σ)∧(∀n∈seen,n∈seen')∧
   match p,x with
   |.v t,x=>used'=used∧VOk (a0a w σ'.ov) (fun c=>Shr B w σ' c∨(fz=false∧∃n,n∉used∧n∈seen'∧c∈(σ'.ow n).map (·.1))) t x v
   |.r c b,x=>∃n r,used'=n::used∧n∉used∧n∉seen∧seen'=seen∧a0v ⟨b,x⟩=some r∧n0f w Γ' σ' n r v∧(c=true→Γ'.rt n=some r∧r.bx=false∧n<pinned):=by
 cases p with
 |v t=>
  simp only[AE.arg]at f;obtain⟨hv,f⟩:(a.viewed.any fun n=>used.contains n)=false∧_:=by
   rcases a0b f with⟨-,g⟩|⟨s,j⟩;cases g;exact⟨s,j⟩
  have y:∀n∈a.viewed,n∉used:=fun n F Y=>by
   simp_all
  cases fz with
  |true=>
   simp at f;obtain⟨x,Γ',σ',C,D,I,J,L,M⟩:=h.asVB l f;exact⟨x,Γ',σ',used,seen,C,D,J,M.mono y,fun g=>L (g.resolve_left (by simp)),fun _ g=>g,rfl,I.frame (fun _ _ _=>rfl) (fun c d=>.inl d)⟩
  |false=>
   simp at f;obtain⟨x,C,D⟩:=h.viewR l f;exact⟨x,Γ,σ,used,a.viewed++seen,C,h,Ev.refl,d0h.refl,fun _=>⟨rfl,rfl⟩,fun _ g=>a38 _ g,rfl,
    D.frame (fun _ _ _=>rfl) (fun c d=>d.imp id fun⟨n,F,d⟩=>⟨rfl,n,y n F,a27 _ F,d⟩)⟩
 |r c b=>
  cases b with
  |v t=>cases a<;>simp only[AE.arg]at f<;>cases f
  |b t=>
   cases a with
   |ptr n p=>
    cases p with
    |cons=>simp only[AE.arg]at f;cases f
    |nil=>
     simp only[AE.arg]at f
     split at f
     grind
     rename_i m;simp at m
     split at f
     rename_i t' x E;obtain⟨u,i⟩:=a0q E
     split at f
     rename_i G;subst G;rcases l with⟨S,t1,b,o,s,j,A⟩|⟨k,Q,d,P⟩;rw[i]at s;simp at s;subst s;obtain⟨T,R,-,-,d⟩:=(h.roots n _ i).rd;rcases d with⟨-,U,hs,-⟩|⟨X,-⟩;simp[a0t,hs]at j;obtain⟨-,rfl,rfl⟩:=j;exact⟨x,Γ,σ,n::used,seen,f,h,Ev.refl,d0h.refl,fun _=>⟨rfl,rfl⟩,fun _ g=>g,n,_,rfl,m.1.2,m.2,rfl,rfl,.inl ⟨i,by rw[hs];exact⟨rfl,A⟩⟩,fun g=>by simp_all⟩;simp_all;simp_all;simp_all;simp_all
   |_=>simp only[AE.arg]at f;cases f
  |o e=>
   cases a with
   |sref n p=>
    cases p with
    |cons=>simp only[AE.arg]at f;cases f
    |nil=>
     simp only[AE.arg]at f
     split at f
     grind
     ·rename_i m;simp only[Bool.or_eq_true,bA,List.contains_iff_mem,not_or,a63,dT,not_and]at m
      split at f
      ·rename_i H V x E;obtain⟨u,i⟩:=a0q E
       split at f
       ·rename_i G;subst G;rcases l with l|⟨k,Q,d,P⟩
        ·obtain⟨O,f⟩:=(a0b f).elim (fun h=>by grind) id;refine⟨x,Γ,σ,n::used,seen,f,h,Ev.refl,d0h.refl,fun _=>⟨rfl,rfl⟩,fun _ g=>g,n,_,rfl,m.1.2,m.2,rfl,rfl,?_,fun g=>⟨?_,rfl,by simp_all⟩⟩
         ·cases H with
          |false=>exact .inl ⟨i,by rw[h.top1 i rfl l];rfl⟩
          |true=>
           rcases h.src_of i with⟨-,b,hs⟩|⟨g,-⟩;refine .inr ⟨b,⟨rfl,_,rfl⟩,i,hs,?_⟩;obtain⟨S,W,Z,s,j,A⟩:=l;simp[a0t]at j;rw[←j.2,hs,h.ov_none u]at A;exact A;simp_all
         simp_all
        simp_all
       simp_all
      simp_all
   |_=>simp only[AE.arg]at f;cases f
theorem Rel.args:∀(ps:List PA) (as:List AV)(vs:List Value){Γ:AE}{σ:Gh}(_:Rel B Γ N tm w σ){fz q:Bool}{used seen:List Nat}{i0:Nat}{K:(c0m (ps.map PA.ty)).den→AE→List Nat→Rs ρ} {z:ρ}
  (_:∀(i:Nat)(a:AV)(v:Value),as[i]?=some a→vs[i]?=some v→a0e (a0a w σ.ov) σ.g Γ.rt (Shr B w σ) a v∨h0o Γ a) (_:vs.length=as.length) (_:Γ.args fz q used seen ps as K=some z),
  ps.length=as.length∧∃x Γ' σ' us,K x Γ' (us.reverse++used)=some z∧Rel B Γ' N tm w σ'∧Ev B w Γ σ Γ' σ'∧d0h (·∉used) Γ σ Γ' σ'∧(fz=false∨q=true→Γ'=Γ∧σ'=σ)∧(∀n∈seen,n∉us)∧
   ArgsOk fz B w Γ' σ' ps x vs used us i0
 | [],as,vs,Γ,σ,h,fz,q,used,seen,i0,K,z,has,hlen,hK=>by
  cases as with
  |nil=>exact⟨rfl,(),Γ,σ,[],hK,h,Ev.refl,d0h.refl,fun _=>⟨rfl,rfl⟩,by simp,⟨fun i t y v hi=>by simp_all,by simp,rfl,by simp,by simp⟩⟩
  |cons=>simp_all[AE.args]
 | [p],as,vs,Γ,σ,h,fz,q,used,seen,i0,K,z,has,hlen,hK=>by
  match as,vs,hlen with
  | [a],[v],_=>
   simp[AE.args]at hK;obtain⟨x,Γ',σ',Y,W,L,M,A,E,F,h6,d⟩:=h.arg (has 0 a v rfl rfl) hK;cases p with
   |v t=>
    obtain⟨rfl,d⟩:=d;refine⟨rfl,x,Γ',σ',[],L,M,A,E,F,by simp,⟨fun i H y v' hi hv=>?_,by simp,rfl,by simp,by simp⟩⟩;cases i with
    |zero=>
     simp[a0z]at hi hv;cases hi;cases hv;exact d.frame (fun _ _ _=>rfl) (fun c l=>l.imp id fun⟨e,n,j,D,u⟩=>⟨e,n,j,by simp,u⟩)
    |succ i=>simp_all
   |r c b=>
    obtain⟨n,r,rfl,j,D,u,Q,R,I⟩:=d;refine⟨rfl,x,Γ',σ',[n],L,M,A,E,F,fun m s=>by grind,⟨fun i H y v' hi hv=>?_,fun k m o=>?_,rfl,by simp,by simp_all⟩⟩
    grind[a0z]
    ·cases k with
     |zero=>
      simp at o;subst o;exact⟨0,c,b,x,v,r,rfl,rfl,rfl,Q,R,I⟩
     |succ k=>simp_all
  | [],_,_=>simp_all[AE.args]
  |_::_::_,_,_=>simp_all[AE.args]
 |p::p'::ps,as,vs,Γ,σ,h,fz,q,used,seen,i0,K,z,has,hlen,hK=>by
  match as,vs,hlen with
  | [],_,_=>simp_all[AE.args]
  |a::as,v::vs,hlen=>
   simp[AE.args]at hK;obtain⟨x,Γ1,σ1,Z,X,L,M,A,E,F,h6,d⟩:=h.arg (has 0 a v rfl rfl) hK;have ⟨hl,y,Γ',σ',us,k1,k2,k3,k4,k5,k6,k7⟩:=Rel.args (p'::ps) as vs (i0:=i0+1) M (fun i C v' hi hv=>A.live (has (i+1) C v' (by simp_all) (by simp_all))) (by simp_all) L;refine⟨by simp_all,?_⟩;have f:fz=false∨q=true→Γ'=Γ∧σ'=σ:=fun g=>⟨(k5 g).1.trans (F g).1,(k5 g).2.trans (F g).2⟩;cases p with
   |v t=>
    obtain⟨rfl,d⟩:=d;refine⟨(x,y),Γ',σ',us,k1,k2,A.trans k3,E.trans k4,f,fun n G=>k6 n (h6 n G),⟨fun i H y' v' hi hv=>?_,fun k n o=>?_,k7.len,k7.nodup,k7.apart⟩⟩
    ·cases i with
     |zero=>
      simp[a0z]at hi hv;cases hi;cases hv;cases fz with
      |false=>
       obtain⟨rfl,rfl⟩:=k5 (.inl rfl);exact d.frame (fun _ _ _=>rfl) (fun c l=>l.imp id fun⟨e,n,j,D,u⟩=>⟨e,n,j,k6 n D,u⟩)
      |true=>
       have S:VOk (a0a w σ1.ov) (Shr B w σ1) t x v:=d.frame (fun _ _ _=>rfl) (fun c l=>l.resolve_right (by simp));have h8:=k3.vok S;simp_all
     |succ i=>exact k7.vals i H y' v' (by simpa[a0z]using hi) (by simp_all)
    obtain⟨i,P,C,y',v',V,j1,T,j3,U⟩:=k7.refs k n o;exact⟨i+1,P,C,y',v',V,by grind[a0o],by simpa[a0z]using T,by simp_all,U⟩
   |r c b=>
    obtain⟨n,r,rfl,j,D,rfl,Q,R,I⟩:=d;have G:=fun O J=>k4.1 n O (.inr (by simp)) J;refine⟨(x,y),Γ',σ',n::us,by simp_all,k2,A.trans k3,E.trans (k4.mono fun m s g=>s (a13 _ g)),f,fun m s=>?_,⟨fun i H y' v' hi hv=>?_,fun k m o=>?_,by simp[a0o,k7.len],?_,?_⟩⟩
    grind
    ·cases i with
     |zero=>grind[a0z]
     |succ i=>
      exact(k7.vals i H y' v' (by simpa[a0z]using hi) (by simp_all)).frame (fun _ _ _=>rfl) (fun c l=>l.imp id fun⟨e,m,j,D,u⟩=>
       ⟨e,m,fun g=>j (a13 _ g),by simp_all,u⟩)
    ·cases k with
     |zero=>
      simp at o;subst o;exact⟨0,c,b,x,v,r,rfl,rfl,rfl,Q,R.keep fun O J=>⟨(G O J).1,(G O J).2.1⟩,fun g=>⟨(G r (I g).1).1,(I g).2⟩⟩
     |succ k=>
      obtain⟨i,P,C,y',v',V,j1,T,j3,U⟩:=k7.refs k m (by simp_all);exact⟨i+1,P,C,y',v',V,by grind[a0o],by simpa[a0z]using T,by simp_all,U⟩
    simp
    exact⟨fun g=>k7.apart n g (by simp),k7.nodup⟩;intro m s;rcases mC.1 s with rfl|s;omega;exact fun g=>k7.apart m s (a13 _ g)
end
def q0f(m:Mem)(Sh:Nat→Prop):((r:RA)×r.ty.den)→Value→Src×b0k→Prop
 |⟨.v t,x⟩,v,L=>VOk m Sh t x v∧L.2=[]
 |⟨.o e,x⟩,v,L=>L.1=.one v∧RootOk m Sh ⟨false,.list true e,x⟩ L.1 L.2
 |⟨.b t,x⟩,v,L=>RootOk m Sh ⟨true,t,x⟩ L.1 L.2∧∃b,L.1=.at b 0∧v=.pointer (some ⟨b,0,none⟩)
structure Back (B:Base) (w':World) (its:List ((r:RA)×r.ty.den)) (vs:List Value) (Ls:List (Src×b0k)):Prop where
 lv:vs.length=its.length
 ll:Ls.length=its.length
 ok:∀(k:Nat)(it:(r:RA)×r.ty.den) (v:Value) (L:Src×b0k),its[k]?=some it→vs[k]?=some v→Ls[k]?=some L→
  q0f (cells w') (fun c=>c<w'.heap.size∧(B.S c∨B.F c∨B.size≤c)∧∀L∈Ls,c∉L.2.map (·.1)) it v L
 nodup:∀L∈Ls,(L.2.map (·.1)).Nodup
 disj:∀(k k':Nat)(L L':Src×b0k),Ls[k]?=some L→Ls[k']?=some L'→k≠k'→∀c,c∈L.2.map (·.1)→c∉L'.2.map (·.1)
 live:∀L∈Ls,∀p∈L.2,b0c w' p.1 p.2
 mine:∀L∈Ls,∀c∈L.2.map (·.1),B.F c∨B.size≤c
 size:B.size≤w'.heap.size
 frame:∀b,b<B.size→¬ B.F b→w'.heap[b]?=B.hp b
 still:c0o w'=B.io
def m0t:List Value→Value
 | [v]=>v
 |vs=>.tuple vs.toArray
def e0d(ps:List PA)(args:Array Value)(i:Nat):Value:=match j0g ps i with
 |some true=>.slice none 0 0
 |_=>args.getD i undef
def t0q(B:Base)(ps:List PA)(args:Array Value):Prop:=∀i∈a0o ps 0,j0g ps i=some false→∃s,B.pin i=some s∧n0h s (args.getD i undef)
def A0y(C:Array Value→World→(Ending→World→Prop)→Prop)(G:GTab)(s:FSem):Prop:=
 ∀(w:World)(B:Base)(σ:Gh)(args:Array Value) x y,GOk G B→s.F x=some y→B.size=w.heap.size→(∀b,B.hp b=w.heap[b]?)→σ.ov=none→args.size=s.ps.length→
  Rel B (ini s.ps x) s.ps.length (fun i=>args.getD i undef) w σ→t0q B s.ps args→
  C args w fun e w'=>∃vr Ls,e=.returned (m0t vr)∧vr.length=s.rs.length∧Back B w' (c0r (RA.all s.ps s.rs) y) (vr++(a0o s.ps 0).map (e0d s.ps args)) Ls
def h0p(P:Program)(G:GTab)(f:FuncId)(s:FSem):Prop:=A0y (Calls P f) G s
def E0z(P:Program)(G:GTab)(f:FuncId)(s:FSem):Prop:=A0y (fun args w R=>∃v w',(callFunc f args).run P w=.ok (.value v) w'∧R (.returned v) w') G s
def n0e (P : Program) (f : FuncId) : Prop := ∃ fn c, P.funcs[f]? = some fn ∧ fn.body = some c ∧ (fn.name == "runtime.NumGoroutine") = false
def FOk(P:Program)(G:GTab)(f:FuncId)(s:FSem):Prop:=(h0p P G f s∧n0e P f)∨E0z P G f s
theorem g0b:∀(rs:List RA)(x:(c0m (rs.map RA.ty)).den),(c0r rs x).length=rs.length
 | [],_=>rfl
 | [_],_=>rfl
 |_::r'::rs,x=>by simp only[c0r,lC];rw[g0b (r'::rs) x.2];rfl
theorem i0z:∀(rs:List RA)(x:(c0m (rs.map RA.ty)).den) (k:Nat) it,(c0r rs x)[k]?=some it→rs[k]?=some it.1
 | [],_,k,it,h=>by simp[c0r]at h
 | [r],x,0,it,h=>by grind[c0r]
 | [r],x,k+1,it,h=>by simp[c0r]at h
 |r::r'::rs,x,0,it,h=>by grind[c0r]
 |r::r'::rs,x,k+1,it,h=>by simpa using i0z (r'::rs) x.2 k it (by simpa[c0r]using h)
theorem e0f:∀(ps:List PA)(x:(c0m (ps.map PA.ty)).den),(a0z ps x).length=ps.length
 | [],_=>rfl
 | [_],_=>rfl
 |_::p'::ps,x=>by simp only[a0z,lC];rw[e0f (p'::ps) x.2];rfl
theorem e0x:∀(ps:List PA)(x:(c0m (ps.map PA.ty)).den) (k:Nat) it,(a0z ps x)[k]?=some it→ps[k]?=some it.1
 | [],_,k,it,h=>by simp[a0z]at h
 | [r],x,0,it,h=>by grind[a0z]
 | [r],x,k+1,it,h=>by simp[a0z]at h
 |r::r'::ps,x,0,it,h=>by grind[a0z]
 |r::r'::ps,x,k+1,it,h=>by simpa using e0x (r'::ps) x.2 k it (by simpa[a0z]using h)
theorem o0a:∀(ps:List PA)(i0 i:Nat){c a},ps[i]?=some (.r c a)→∃k:Nat,(a0o ps i0)[k]?=some (i0+i)∧(e0i ps)[k]?=some a
 | [],_,i,c,a,h=>by grind
 |p::ps,i0,0,c,a,h=>by
  simp at h;subst h;exact⟨0,rfl,rfl⟩
 |p::ps,i0,i+1,c,a,h=>by
  obtain⟨k,g,f⟩:=o0a ps (i0+1) i (by simpa using h);have g:(a0o ps (i0+1))[k]?=some (i0+(i+1)):=by rw[g];congr 1;omega
  cases p with
  |v t'=>exact⟨k,g,f⟩
  |r c t'=>exact⟨k+1,by simpa[a0o]using g,by simpa[e0i]using f⟩
theorem j0c:∀(ps:List PA)(i0:Nat),(a0o ps i0).Pairwise (·<·)∧∀i∈a0o ps i0,i0≤i
 | [],_=>⟨List.Pairwise.nil,by simp[a0o]⟩
 |.v _::ps,i0=>by
  obtain⟨h,g⟩:=j0c ps (i0+1);exact⟨h,fun i hi=>by have:=g i hi;omega⟩
 |.r _ _::ps,i0=>by
  obtain⟨h,g⟩:=j0c ps (i0+1);refine⟨List.Pairwise.cons (fun i hi=>by grind) h,fun i hi=>?_⟩;rcases mC.1 hi with rfl|hi
  all_goals grind
theorem r0f(g:List PA){i0 k k' i:Nat}(h:(a0o g i0)[k]?=some i)(f:(a0o g i0)[k']?=some i):k=k':=by
 have hp:=(j0c g i0).1;obtain⟨a,rfl⟩:=lS.1 h
 grind[a22]
theorem g0v(h:List PA):∀i0,(a0o h i0).length=(e0i h).length:=by
 induction h with
 |nil=>intro i0;rfl
 |cons p h ih=>intro i0;cases p<;>simp[a0o,e0i,ih]
def f0b:List Nat→List Nat→Nat→Option Nat
 |i::is,n::ns,j=>if j=i then some n else f0b is ns j
 |_,_,_=>none
theorem h0m:∀(is ns:List Nat)(j n:Nat),f0b is ns j=some n→∃k:Nat,is[k]?=some j∧ns[k]?=some n
 | [],ns,j,n,h=>by simp[f0b]at h
 |i::is,[],j,n,h=>by simp[f0b]at h
 |i::is,m::ns,j,n,h=>by
  simp only[f0b]at h
  split at h
  rename_i e;simp only[sj]at h;exact⟨0,by simp[e],by simp[h]⟩;obtain⟨k,g,f⟩:=h0m is ns j n h;exact⟨k+1,by simpa using g,by simpa using f⟩
theorem s0a:∀(is ns:List Nat)(k j n:Nat),is[k]?=some j→ns[k]?=some n→(∀k',is[k']?=some j→k'=k)→f0b is ns j=some n
 | [],ns,k,j,n,h,_,_=>by grind
 |i::is,[],k,j,n,_,h,_=>by grind
 |i::is,m::ns,0,j,n,h,h',_=>by
  simp_all[f0b]
 |i::is,m::ns,k+1,j,n,h,h',hu=>by
  have g:j≠i:=fun e=>by have:=hu 0 (by grind);omega
  simp[f0b,if_neg g];exact s0a is ns k j n (by simp_all) (by simp_all) (fun k' f=>by have:=hu (k'+1) (by simp_all);omega)
section
variable {B:Base} {N:Nat} {tm:Nat→Value} {w:World} {Γ:AE} {σ:Gh}
def f0u(ps:List PA)(i:Nat):Bool:=match ps[i]? with
 |some (.r _ (.b _))=>true
 |_=>false
def b0h(fz:Bool)(B:Base)(w:World)(σ:Gh)(ps:List PA)(us:List Nat):Base where
 size:=w.heap.size
 hp:=fun b=>w.heap[b]?
 F:=fun c=>∃i n,f0b (a0o ps 0) us i=some n∧c∈(lo σ n (f0u ps i)).map (·.1)
 S:=fun c=>Shr B w σ c∨(fz=false∧a0u σ c)
 io:=c0o w
 pin:=fun i=>match j0g ps i with
  |some false=>(f0b (a0o ps 0) us i).map fun n=>lg w σ n (f0u ps i)
  |_=>none
def d0u(w:World)(σ:Gh)(ps:List PA)(us:List Nat):Gh where
 g:=fun m=>match i0l ps m with
  |some i=>(match f0b (a0o ps 0) us i with
   |some n=>lg w σ n (f0u ps i)
   |none=>.one undef)
  |none=>.one undef
 ow:=fun m=>match i0l ps m with
  |some i=>(match f0b (a0o ps 0) us i with
   |some n=>lo σ n (f0u ps i)
   |none=>[])
  |none=>[]
 ov:=none
theorem t0d{ps:List PA}{m i:Nat}(h:i0l ps m=some i):∃c,j0g ps i=some c∧m=rnm c i∧(c=true→i<pinned):=by
 unfold i0l at h;rcases a0b h with⟨a,h⟩|⟨a,h⟩
 split at h
 rename_i f;cases h;exact⟨true,f,rfl,fun _=>by simp_all⟩;simp_all;obtain⟨k,rfl⟩:=Nat.exists_eq_add_of_le (show pinned≤m by simp_all);rw[a19]at h
 split at h
 rename_i f;obtain rfl:=Option.some.inj h;exact⟨false,f,rfl,fun g=>by grind⟩;simp_all
theorem w0x{ps:List PA}{c:Bool}{i:Nat}(h:j0g ps i=some c)(hi:c=true→i<pinned):i0l ps (rnm c i)=some i:=by
 unfold i0l;cases c with
 |true=>
  have:decide (rnm true i<pinned)=true:=decide_eq_true (show rnm true i<pinned from hi rfl)
  simp_all[rnm]
 |false=>
  have:decide (rnm false i<pinned)=false:=decide_eq_false (by show ¬ pinned+i<pinned;omega)
  simp_all[rnm]
theorem h0l{ps:List PA}{i:Nat}{c a}(h:ps[i]?=some (.r c a)):j0g ps i=some c:=by simp[j0g,h]
theorem A0d{ps:List PA}{x:(c0m (ps.map PA.ty)).den}{m:Nat}{r:Root}(h:(ini ps x).rt m=some r):∃i c a y,i0l ps m=some i∧(a0z ps x)[i]?=some ⟨.r c a,y⟩∧a0v ⟨a,y⟩=some r:=by
 simp[ini]at h;rcases a0b h with⟨g,h⟩|⟨g,h⟩
 grind[h0l,e0x,i0l]
 split at h
 rename_i a y hi;have f:=h0l (e0x _ _ _ _ hi);exact⟨m-pinned,false,a,y,by simp[i0l,g,f],hi,h⟩;simp_all
theorem A0c{ps:List PA}{x:(c0m (ps.map PA.ty)).den}{i:Nat}{c a y}(h:(a0z ps x)[i]?=some ⟨.r c a,y⟩)(hi:c=true→i<pinned):(ini ps x).rt (rnm c i)=a0v ⟨a,y⟩:=by
 cases c with
 |true=>
  have:decide (rnm true i<pinned)=true:=decide_eq_true (show rnm true i<pinned from hi rfl)
  simp[ini,this];show(match (a0z ps x)[i]? with|some ⟨.r true a,y⟩=>a0v ⟨a,y⟩|_=>none)=_;rw[h]
 |false=>
  have:decide (rnm false i<pinned)=false:=decide_eq_false (by show ¬ pinned+i<pinned;omega)
  have e:rnm false i-pinned=i:=by simp[rnm]
  simp only[ini,this,cF,e,h]
theorem k0q{ps:List PA}{x:(c0m (ps.map PA.ty)).den}{i:Nat}{c a y r}(h:(a0z ps x)[i]?=some ⟨.r c a,y⟩)(g:a0v ⟨a,y⟩=some r):f0u ps i=r.bx:=by
 have h:=e0x _ _ _ _ h;cases a with
 |v t=>simp[a0v]at g
 |o e=>grind[a0v,f0u]
 |b t=>grind[a0v,f0u]
theorem Rel.enter(h:Rel B Γ N tm w σ)(z:σ.ov=none){fz:Bool}{ps:List PA}{x:(c0m (ps.map PA.ty)).den}{vs:List Value}{us:List Nat}(R:ArgsOk fz B w Γ σ ps x vs [] us 0)(hl:vs.length=ps.length):
  Rel (b0h fz B w σ ps us) (ini ps x) ps.length (fun i=>vs.toArray.getD i undef) w (d0u w σ ps us)∧t0q (b0h fz B w σ ps us) ps vs.toArray:=by
 have g3:∀k i,(a0o ps 0)[k]?=some i→∀k',(a0o ps 0)[k']?=some i→k'=k:=fun k i f k' d=>r0f ps d f;have O:∀(i:Nat) v,vs[i]?=some v→vs.toArray.getD i undef=v:=fun i v hv=>by simp_all

 have Q:∀(i:Nat) c a y,(a0z ps x)[i]?=some ⟨.r c a,y⟩→∃n v r,f0b (a0o ps 0) us i=some n∧n∈us∧vs[i]?=some v∧a0v ⟨a,y⟩=some r∧n0f w Γ σ n r v∧f0u ps i=r.bx:=by
  intro i c a y hi;obtain⟨k,P,-⟩:=o0a ps 0 i (e0x _ _ _ _ hi);rw[a07]at P;have D:k<us.length:=by rw[R.len];grind
  have G:us[k]?=some us[k]:=lG D;obtain⟨T,c',a',y',v,r,U,j2,j3,j4,j5,-⟩:=R.refs k _ G;rw[P]at U;simp at U
  grind[s0a,k0q]
 have L:∀i n,f0b (a0o ps 0) us i=some n→n∈us∧∃c a y v r,(a0z ps x)[i]?=some ⟨.r c a,y⟩∧vs[i]?=some v∧a0v ⟨a,y⟩=some r∧n0f w Γ σ n r v∧f0u ps i=r.bx:=by
  intro i n hi;obtain⟨k,f,d⟩:=h0m _ _ _ _ hi;obtain⟨T,c,a,y,v,r,U,j2,j3,j4,j5,-⟩:=R.refs k n d
  grind
 have g5:∀i T n,f0b (a0o ps 0) us i=some n→f0b (a0o ps 0) us T=some n→i=T:=by
  intro i T n f d;obtain⟨k,f,J⟩:=h0m _ _ _ _ f;obtain⟨k',d,A⟩:=h0m _ _ _ _ d;obtain⟨a1,b1⟩:=lS.1 J;obtain⟨a2,b2⟩:=lS.1 A
  have:k=k':=by
   have hp:=a22.1 R.nodup
   grind
  grind
 have H:∀m p,p∈(d0u w σ ps us).ow m→∃i n,i0l ps m=some i∧f0b (a0o ps 0) us i=some n∧p∈lo σ n (f0u ps i)∧p∈σ.ow n:=by
  intro m p hp;cases hi:i0l ps m with
  |none=>grind[d0u]
  |some i=>
   cases G:f0b (a0o ps 0) us i with
   |none=>grind[d0u]
   |some n=>
    have e:(d0u w σ ps us).ow m=lo σ n (f0u ps i):=by simp[d0u,hi,G]
    rw[e]at hp;obtain⟨-,c,a,y,v,r,-,-,-,hL,K⟩:=L _ _ G;exact⟨i,n,rfl,G,hp,(h.lent z hL).2.2.1 p (K▸hp)⟩
 have I:∀c,a0u (d0u w σ ps us) c→(b0h fz B w σ ps us).F c∧∃n∈us,c∈(σ.ow n).map (·.1):=by
  rintro c ⟨m,hm⟩
  obtain⟨p,hp,rfl⟩:=a03.1 hm;obtain⟨i,n,-,f,d,J⟩:=H m p hp;exact⟨⟨i,n,f,a00 d⟩,n,(L _ _ f).1,a00 J⟩
 have g2:∀c,Shr B w σ c→Shr (b0h fz B w σ ps us) w (d0u w σ ps us) c:=fun c s=>⟨s.1,.inl (.inl s),fun g=>by
  obtain⟨-,n,-,d⟩:=I c g;exact s.2.2 ⟨n,d⟩⟩
 have E:a0a w σ.ov=a0a w (d0u w σ ps us).ov:=by rw[z];rfl
 have C:∀m i n,i0l ps m=some i→f0b (a0o ps 0) us i=some n→(d0u w σ ps us).g m=lg w σ n (f0u ps i)∧(d0u w σ ps us).ow m=lo σ n (f0u ps i):=fun m i n f d=>by
  simp[d0u,f,d]
 have W:∀i b,(b0h fz B w σ ps us).pin i=some b→j0g ps i=some false∧∃n,f0b (a0o ps 0) us i=some n∧b=lg w σ n (f0u ps i):=fun i b K=>by
  simp[b0h]at K
  split at K
  rename_i P;obtain⟨n,G,rfl⟩:=a36.1 K
  grind
  grind
 refine⟨⟨fun m r hr=>?_,fun m hm=>?_,fun m=>?_,fun m m' g9 c s h9=>?_,fun m p hp=>?_,fun i hi=>?_,trivial,a04 _,fun b _ _=>rfl,fun c s=>.inl (I c s).1,fun i b K _=>?_,rfl⟩,fun i hi P=>?_⟩;obtain⟨i,c,a,y,f,d,J⟩:=A0d hr;obtain⟨n,v,r',k1,k2,k3,k4,k5,k6⟩:=Q i c a y d;rw[J]at k4;cases k4;rw[←E,(C m i n f k1).1,(C m i n f k1).2,k6];exact(h.lent z k5).1.mono g2
 ·cases ho:(d0u w σ ps us).ow m with
  |nil=>rfl
  |cons p l=>
   obtain⟨i,n,f,d,-⟩:=H m p (by grind);obtain⟨-,c,a,y,v,r,Z,-,M,-⟩:=L _ _ d;obtain⟨c',X,rfl,h8⟩:=t0d f
   have:=h0l (e0x _ _ _ _ Z)
   grind[A0c]
 ·cases hi:i0l ps m with
  |none=>grind
  |some i=>
   cases G:f0b (a0o ps 0) us i with
   |none=>grind
   |some n=>
    obtain⟨-,c,a,y,v,r,-,-,-,hL,K⟩:=L _ _ G;rw[(C m i n hi G).2,K];exact(h.lent z hL).2.2.2.1
 obtain⟨p,hp,rfl⟩:=a03.1 s;obtain⟨p',g1,e'⟩:=a03.1 h9;obtain⟨i,n,f,d,-,A⟩:=H m p hp;obtain⟨T,Y,g6,g7,-,g8⟩:=H m' p' g1
 by_cases e:n=Y
 grind[t0d]
 exact h.disj n Y e p.1 (a00 A) (by grind);obtain⟨i,n,f,d,J,A⟩:=H m p hp;exact h.live n p A
 ·have D:i<(a0z ps x).length:=by grind[e0f]
  have g4:i<vs.length:=by omega
  have hv:vs[i]?=some vs[i]:=lG g4;have q:(a0z ps x)[i]?=some (a0z ps x)[i]:=lG D;show h0a _ _ _ _ ((ini ps x).sl i) (vs.toArray.getD i undef);rw[O i _ hv]
  revert q
  generalize (a0z ps x)[i]=it;intro q;obtain⟨p,y⟩:=it;cases p with
  |v t=>
   have e:(ini ps x).sl i=.one (valAV t y):=by simp only[ini,q]
   rw[e]
   have:=R.vals i t y _ q hv
   refine VOk.valAV (this.frame (fun c j _=>by rw[E]) (fun c s=>?_));rcases s with s|⟨hf,n,-,G,s⟩
   grind
   refine⟨h.lt ⟨n,s⟩,.inl (.inr ⟨hf,n,s⟩),fun g=>?_⟩;obtain⟨-,Y,f,d⟩:=I c g;exact h.disj n Y (fun e=>G (e▸f)) c s d
  |r c b=>
   have e:(ini ps x).sl i=bif c&&decide (pinned≤i)then .one .dead else .one (r0m (rnm c i) ⟨b,y⟩):=by simp only[ini,q]
   rw[e];cases hcp:c&&decide (pinned≤i)with
   |true=>trivial
   |false=>
    have V:c=true→i<pinned:=fun g=>by
     grind
    obtain⟨n,v,r,f,d,J,A,Z,h0⟩:=Q i c b y q;rw[hv]at J;simp at J;rw[J];have P:=h0l (e0x _ _ _ _ q);have S:=A0c q V;rw[A]at S;obtain⟨hg,-⟩:=C _ i n (w0x P V) f;obtain⟨-,M,-,-,X⟩:=h.lent z Z;rw[←h0]at M X;show a0e _ _ _ _ (r0m (rnm c i) ⟨b,y⟩) v;cases b with
    |v t=>simp[a0v]at A
    |o e0=>
     simp[a0v]at A;subst A;rcases X with⟨g,-⟩|⟨-,u,e2,g,-⟩
     grind
     rw[g]at M;have M:v=u:=M;refine⟨_,e0,.one u,S,?_,by rw[M];rfl⟩;rw[hg,g];rfl
    |b t=>
     simp[a0v]at A;subst A;rcases X with⟨-,bb,g⟩|⟨g,-⟩;rw[g]at M;refine⟨_,t,bb,0,S,?_,M.2⟩;rw[hg,g];rfl
     grind
 obtain⟨P,n,f,rfl⟩:=W i b K;exact(C _ i n (w0x (c:=false) P (fun g=>by grind)) f).1;obtain⟨k,g0⟩:=a39.1 hi;have D:k<us.length:=by rw[R.len];grind
 obtain⟨T,c',a',y',v,r,U,j2,j3,j4,j5,-⟩:=R.refs k _ (lG D);rw[g0]at U;simp at U;subst U;refine⟨lg w σ us[k] (f0u ps i),?_,by rw[O _ _ j3,k0q j2 j4];exact(h.lent z j5).2.1⟩
 grind[b0h,s0a]
end
theorem l0d{α:Type}{f:Nat→Option (α×b0k×List Nat)}:∀(n i:Nat){xs os rs},a0d f n i=some (xs,os,rs)→(∀j x o r,f j=some (x,o,r)→o=[]∧r=[])→os=[]∧rs=[]
 |0,i,xs,os,rs,h,_=>by simp[a0d]at h;simp[h]
 |n+1,i,xs,os,rs,h,hf=>by
  simp only[a0d]at h
  split at h
  cases h;rename_i x o r g
  split at h
  cases h;rename_i c a b k;simp only[sj,pJ]at h;obtain⟨rfl,rfl,rfl⟩:=h;obtain⟨rfl,rfl⟩:=hf _ _ _ _ g;obtain⟨rfl,rfl⟩:=l0d n (i+1) k hf;exact⟨rfl,rfl⟩
theorem g0i{m:Mem}:∀(t:Ty){rd:Nat→Option Value}{x O R},t.hasList=false→dec m t rd=some (x,O,R)→O=[]∧R=[]
 |.int k,rd,x,O,R,_,h=>by
  simp only[dec]at h
  split at h
  split at h
  cases h;exact⟨rfl,rfl⟩;cases h;cases h
 |.bool,rd,x,O,R,_,h=>by
  simp only[dec]at h
  split at h
  cases h;exact⟨rfl,rfl⟩;cases h
 |.str,rd,x,O,R,_,h=>by
  simp only[dec]at h
  split at h
  cases h;exact⟨rfl,rfl⟩;cases h
 |.unit,rd,x,O,R,_,h=>by
  simp only[dec]at h;cases h;exact⟨rfl,rfl⟩
 |.fn f,rd,x,O,R,_,h=>(q0m h).2
 |.hd,rd,x,O,R,_,h=>by
  obtain⟨b,-,-,g,c⟩:=q0n h;exact⟨g,c⟩
 |.pair a b,rd,x,O,R,ht,h=>by
  simp only[Ty.hasList,a55]at ht;obtain⟨p,o1,l,q,o2,r2,d,e,-,rfl,rfl⟩:=c0h h;obtain⟨rfl,rfl⟩:=g0i a ht.1 d;obtain⟨rfl,rfl⟩:=g0i b ht.2 e;exact⟨rfl,rfl⟩
 |.arr n t,rd,x,O,R,ht,h=>l0d n 0 h fun j x o r i=>g0i t ht i
 |.list o t,rd,x,O,R,ht,h=>by simp[Ty.hasList]at ht
 |.nl t,rd,x,O,R,ht,h=>by
  obtain⟨-,-,g,c⟩:=n0n h;exact⟨g,c⟩
theorem v0m{m:Mem}{e:Ty}{rd:Nat→Option Value}{x O R}(g:e.hasList=false)(h:dec m (.list true e) rd=some (x,O,R)):R=[]:=by
 rcases c0j h with⟨-,-,-,k⟩|⟨A,n,c,os,hs,b,d,a,i⟩;exact k;exact(l0d n 0 a fun j x o r f=>g0i e g f).2
theorem RootOk.anySh{m:Mem}{Sh Sh':Nat→Prop}{r:Root}{s O}(h:RootOk m Sh r s O)(g:(r.bx=true∧r.t.hasList=false)∨∃e,r.t=.list true e∧e.hasList=false):RootOk m Sh' r s O:=by
 obtain⟨k,R,f,i,a⟩:=h.rd;have b:R=[]:=by
  rcases g with⟨-,g⟩|⟨e,c,g⟩;exact(g0i _ g f).2;obtain⟨d,t,x⟩:=r;obtain rfl:t=.list true e:=c;exact v0m g f
 subst b;exact⟨k,[],f,by simp,a⟩
theorem VOk.anySh{m:Mem}{Sh Sh':Nat→Prop}{t:Ty}{x:t.den}{v:Value}(h:VOk m Sh t x v)(a:t.hasList=false):VOk m Sh' t x v:=by
 obtain⟨f,k,R,g,b⟩:=h;obtain⟨-,rfl⟩:=g0i t a g;exact⟨f,k,[],g,by simp⟩
theorem o0b:∀(rs:List RA)(n k m:Nat),(b0o rs n)[k]?=some m→m=n+1000*k∧k<rs.length
 | [],_,k,m,h=>by simp[b0o]at h
 |_::rs,n,0,m,h=>by simp only[b0o,a10,sj]at h;simp[h]
 |_::rs,n,k+1,m,h=>by
  obtain⟨f,g⟩:=o0b rs (n+1000) k m (by simpa[b0o]using h);exact⟨by omega,by simpa using g⟩
theorem i0b:∀(rs:List RA)(n:Nat),(b0o rs n).length=rs.length
 | [],_=>rfl
 |_::rs,n=>by simp[b0o,i0b rs]
theorem o0c:∀(rs:List RA)(n k m:Nat)(r:RA),(b0o rs n)[k]?=some m→rs[k]?=some r→(∀t,r≠.v t)→m∈c0v rs n
 | [],_,k,m,r,h,_,_=>by simp[b0o]at h
 |r'::rs,n,0,m,r,h,hr,hv=>by
  simp only[b0o,a10,sj]at h hr;subst h;subst hr;cases r' with
  |v t=>exact absurd rfl (hv t)
  |o e=>simp[c0v]
  |b t=>simp[c0v]
 |r'::rs,n,k+1,m,r,h,hr,hv=>by
  have:=o0c rs (n+1000) k m r (by simpa[b0o]using h) (by simpa using hr) hv
  cases r'<;>simp[c0v,this]
section
variable {ρ:Type} {B:Base} {N:Nat} {tm:Nat→Value} {w:World}
theorem Rel.dropAll:∀(ns:List Nat) {Γ:AE}{σ:Gh}(_:Rel B Γ N tm w σ)(_:Γ.pd=none){q:Bool}{us:List Nat}{K:AE→Rs ρ}{z:ρ}(_:Γ.dropAll q us ns K=some z),
  (∀n∈ns,n<pinned∧n∉us)∧∃Γ' σ',K Γ'=some z∧Rel B Γ' N tm w σ'∧Γ'.pd=none∧σ'.ov=σ.ov∧(∀c,Shr B w σ c→Shr B w σ' c)∧(∀n∈ns,Γ'.rt n=none)∧
   ((∀n,n∉ns→Γ'.rt n=Γ.rt n∧σ'.ow n=σ.ow n)∧σ'.g=σ.g)∧(∀n,Γ.rt n=none→Γ'.rt n=none)
 | [],Γ,σ,h,hpd,q,us,K,z,k=>⟨by simp,Γ,σ,k,h,hpd,rfl,fun _ g=>g,by simp,⟨fun _ _=>⟨rfl,rfl⟩,rfl⟩,fun _ g=>g⟩
 |n::ns,Γ,σ,h,hpd,q,us,K,z,k=>by
  simp only[AE.dropAll]at k;obtain⟨i,k⟩:=(a0b k).elim id fun h=>by cases h.2
  simp only[bA,dT,a34,List.contains_eq_mem,decide_eq_false_iff_not]at i
  split at k
  rename_i j;have ⟨k1,Γ',σ',h1,h2,h3,h4,h5,h6,⟨h7,h8⟩,h9⟩:=Rel.dropAll ns h hpd k;refine⟨fun m f=>?_,Γ',σ',h1,h2,h3,h4,h5,fun m f=>?_,⟨fun m f=>h7 m fun g=>f (a13 _ g),h8⟩,h9⟩;rcases mC.1 f with rfl|f;exact i;exact k1 m f;rcases mC.1 f with rfl|f;exact h9 m j;exact h6 m f;rename_i r j;rcases a0b k with⟨-,g⟩|⟨-,k⟩;cases g;have hd:=h.drop (n:=n) (by simp[hpd]);have ⟨k1,Γ',σ',h1,h2,h3,h4,h5,h6,⟨h7,h8⟩,h9⟩:=Rel.dropAll ns hd (by simpa[AE.setRt,AE.mapv]using hpd) k;have a:((Γ.mapv (AV.drop n)).setRt n none).rt n=none:=by simp[AE.setRt]
  refine⟨fun m f=>?_,Γ',σ',h1,h2,h3,h4,fun c o=>h5 c (Rel.shr_gone c o),fun m f=>?_,⟨fun m f=>?_,h8⟩,fun m f=>h9 m ?_⟩;rcases mC.1 f with rfl|f;exact i;exact k1 m f;rcases mC.1 f with rfl|f;exact h9 m a;exact h6 m f;have b:m≠n:=fun e=>f (by simp[e]);have d:m∉ns:=fun g=>f (a13 _ g);obtain⟨a1,l⟩:=h7 m d;have e:(m==n)=false:=by simpa using b
  exact⟨a1.trans (by simp[AE.setRt,AE.mapv,e]),l.trans (by simp[b])⟩;simp only[AE.setRt,AE.mapv];rw[f];simp
end
def f0y:List Nat→List ((r:RA)×r.ty.den)→List (Src×b0k)→Nat→Option Ent1
 |k::ns,it::its,L::Ls,n=>match a0v it with
  |some r=>bif n==k then some ⟨r,L.1,L.2⟩else f0y ns its Ls n
  |none=>f0y ns its Ls n
 |_,_,_,_=>none
theorem s0o:∀(ns:List Nat) its (Ls:List (Src×b0k)) (n:Nat) (e:Ent1),f0y ns its Ls n=some e→
  ∃(k:Nat)(it:(r:RA)×r.ty.den) (L:Src×b0k),ns[k]?=some n∧its[k]?=some it∧Ls[k]?=some L∧a0v it=some e.r∧e.s=L.1∧e.O=L.2
 | [],its,Ls,n,e,h=>by simp[f0y]at h
 |k::ns,[],Ls,n,e,h=>by simp[f0y]at h
 |k::ns,it::its,[],n,e,h=>by simp[f0y]at h
 |k::ns,it::its,L::Ls,n,e,h=>by
  have rest:f0y ns its Ls n=some e→∃(j:Nat)(g:(r:RA)×r.ty.den) (f:Src×b0k),(k::ns)[j]?=some n∧(it::its)[j]?=some g∧(L::Ls)[j]?=some f∧a0v g=some e.r∧e.s=f.1∧e.O=f.2:=fun h=>by
   obtain⟨j,g,f,a,b,c,d⟩:=s0o ns its Ls n e h;exact⟨j+1,g,f,by simpa using a,by simpa using b,by simpa using c,d⟩
  simp only[f0y]at h
  split at h
  rename_i r l;rcases a0b h with⟨i,h⟩|⟨-,h⟩;simp only[sj]at h;subst h;exact⟨0,it,L,by simpa using(beq_iff_eq.1 i).symm,rfl,rfl,l,rfl,rfl⟩;exact rest h;exact rest h
theorem r0t:∀(ns:List Nat) its (Ls:List (Src×b0k)) (k n:Nat) it L r,ns[k]?=some n→its[k]?=some it→Ls[k]?=some L→a0v it=some r→
  (∀(k':Nat) it',ns[k']?=some n→its[k']?=some it'→a0v it'≠none→k'=k)→f0y ns its Ls n=some ⟨r,L.1,L.2⟩
 | [],its,Ls,k,n,it,L,r,h,_,_,_,_=>by simp at h
 |m::ns,[],Ls,k,n,it,L,r,_,h,_,_,_=>by simp at h
 |m::ns,it'::its,[],k,n,it,L,r,_,_,h,_,_=>by simp at h
 |m::ns,it'::its,L'::Ls,0,n,it,L,r,h1,h2,h3,h4,_=>by
  simp only[a10,sj]at h1 h2 h3;subst h1;subst h2;subst h3;simp[f0y,h4]
 |m::ns,it'::its,L'::Ls,k+1,n,it,L,r,h1,h2,h3,h4,hu=>by
  simp only[a20]at h1 h2 h3;have a:=r0t ns its Ls k n it L r h1 h2 h3 h4 fun k' f b c d=>by
   have:=hu (k'+1) f (by simpa using b) (by simpa using c) d
   omega
  simp only[f0y];cases hr:a0v it' with
  |none=>exact a
  |some r'=>
   have g:n≠m:=fun e=>by
    have:=hu 0 it' (by simp[e]) rfl (by rw[hr];simp)
    omega
   have e:(n==m)=false:=by simpa using g
   simp only[e,cF];exact a
theorem n0c:∀(ns:List Nat) its (Ls:List (Src×b0k)) (n:Nat),Ls.length=its.length→b0y ns its n=(f0y ns its Ls n).map (·.r)
 | [],its,Ls,n,h=>by simp[b0y,f0y]
 |k::ns,[],Ls,n,h=>by simp[b0y,f0y]
 |k::ns,it::its,[],n,h=>by simp at h
 |k::ns,it::its,L::Ls,n,h=>by
  have g:=n0c ns its Ls n (by simpa using h);simp only[b0y,f0y];cases a0v it with
  |none=>exact g
  |some r=>cases hk:(n==k)<;>simp[g]
theorem s0f:∀(ns:List Nat) its (k:Nat) av,(d0q ns its)[k]?=some av→∃(n:Nat)(it:(r:RA)×r.ty.den),ns[k]?=some n∧its[k]?=some it∧av=r0m n it
 | [],its,k,av,h=>by simp[d0q]at h
 |_::_,[],k,av,h=>by simp[d0q]at h
 |n::ns,it::its,0,av,h=>by simp only[d0q,a10,sj]at h;exact⟨n,it,rfl,rfl,h.symm⟩
 |n::ns,it::its,k+1,av,h=>by
  obtain⟨m,g,f,a,b⟩:=s0f ns its k av (by simpa[d0q]using h);exact⟨m,g,by simpa using f,by simpa using a,b⟩
theorem n0k:∀(ns:List Nat)(its:List ((r:RA)×r.ty.den)),ns.length≤its.length→(d0q ns its).length=ns.length
 | [],its,h=>by simp[d0q]
 |_::_,[],h=>by simp at h
 |_::ns,_::its,h=>by simp only[d0q,lC];rw[n0k ns its (by simpa using h)]
theorem v0z:∀{it:(r:RA)×r.ty.den} {r:Root},a0v it=some r→it.1.hasList=false→(r.bx=true∧r.t.hasList=false)∨∃e,r.t=.list true e∧e.hasList=false
 |⟨.v t,x⟩,r,h,_=>by simp[a0v]at h
 |⟨.o e,x⟩,r,h,hl=>by simp only[a0v,sj]at h;subst h;exact .inr ⟨e,rfl,hl⟩
 |⟨.b t,x⟩,r,h,hl=>by simp only[a0v,sj]at h;subst h;exact .inl ⟨rfl,hl⟩
theorem q0f.root{m Sh}:∀{it:(r:RA)×r.ty.den} {v L r},q0f m Sh it v L→a0v it=some r→RootOk m Sh r L.1 L.2
 |⟨.v t,x⟩,v,L,r,h,hr=>by simp[a0v]at hr
 |⟨.o e,x⟩,v,L,r,h,hr=>by simp only[a0v,sj]at hr;subst hr;exact h.2
 |⟨.b t,x⟩,v,L,r,h,hr=>by simp only[a0v,sj]at hr;subst hr;exact h.1
@[reducible] def Fr(ro:Option Nat):Fence:={ fn:=fun _=>True,depth:=none,alive:=false,round:=ro }
theorem u0f{ro:Option Nat}{n:Nat}{P:Program}{f:FuncId}{args:Array Value}{w:World}{R:Ending→World→Prop}(h:Calls P f args w R):CallsIn (Fr ro) n P f args w R:=
 (callsIn_wide (n:=n)).2 h
theorem m0a{ro:Option Nat}{P:Program}{o:Oper}{a:Act}{w:World}{next:Act→World→Prop}{Q:Exit→Act→World→Prop}(g:∀c,o.op≠.defer c)(h:o.uponIn (Fr ro) 0 P a next Q ((execOp a.eval o).run P w)):
  o.wpIn (Fr ro) 0 P a w next Q:=
 ⟨fun _ _=>trivial,by rw[Oper.semAt_eq _ _ _ g];exact h⟩
theorem u0y {P:Program} {f:FuncId} (hb:n0e P f) {o:Oper} {c:Call} (ho:o.op=.call c) (hc:c.callee=.value (.func f)) (a:Act) (w:World):
  (execOp a.eval o).run P w=.ok (.enter f (c.args.map a.eval)) w:=by
 obtain ⟨fn,c',h1,h2,h3⟩:=hb;have h4 : ¬ fn.name = "runtime.NumGoroutine" := by simpa using h3
 simp [execOp,ho,resolve,hc,Act.eval,Deferred.ofValue,invoke,callFunc,program,Sem.run,h1,h2,h4,Result.andThen]
theorem w0a {P:Program} {f:FuncId} (hb:n0e P f) {o:Oper} {c:Call} {t:Nat} (ho:o.op=.call c) (hc:c.callee=.value (.tmp t)) (a:Act) (w:World) {us:Array Value} (hv:a.eval (.tmp t)=.func (.func f) #[] us):
  (execOp a.eval o).run P w=.ok (.enter f (c.args.map a.eval++us)) w:=by
 obtain ⟨fn,c',h1,h2,h3⟩:=hb;have h4 : ¬ fn.name = "runtime.NumGoroutine" := by simpa using h3
 simp [execOp,ho,resolve,hc,hv,Deferred.ofValue,invoke,callFunc,program,Sem.run,h1,h2,h4,Result.andThen]
section
variable {P:Program} {B:Base} {N:Nat} {ρ:Type} {Γ:AE} {a:Act} {w:World} {σ:Gh} {ro:Option Nat}
theorem GOk.callee{G:GTab}(v:GOk G B){tm:Nat→Value}(h:Rel B Γ N tm w σ)(fz:Bool)(y:List PA)(us:List Nat):GOk G (b0h fz B w σ y us):=by
 have f:=h.size;have key:∀g,g<B.size→¬ B.F g→¬ a0u σ g:=fun g a j I=>by
  rcases h.mine _ I with q|q;exact j q;omega
 have e:∀g,¬ a0u σ g→¬ (b0h fz B w σ y us).F g:=fun g d ⟨i,n,_,s⟩=>by obtain⟨p,hp,rfl⟩:=a03.1 s;exact d ⟨n,a00 (A0i hp)⟩
 refine⟨fun g t x E=>?_,fun t b L H=>?_⟩;rotate_left
 ·obtain⟨n,u,z,k,rfl,a,m,j,r⟩:=v.2 t b L H;exact⟨n,u,z,k,rfl,a02 a f,e n (key n a m),(h.frame n a m).trans j,r.frame (fun _ _ _=>rfl) fun c ⟨l,A,o,C⟩=>
   ⟨a02 l f,.inl ⟨a02 l f,.inl A,key c l o⟩,e c (key c l o),C.trans (h.frame c l o).symm⟩⟩
 obtain⟨a,m,j,u,r,D⟩:=v.1 g t x E;have d:=key g a j;exact⟨a02 a f,.inl ⟨a02 a f,.inl m,d⟩,fun⟨i,n,_,s⟩=>by obtain⟨p,hp,rfl⟩:=a03.1 s;exact d ⟨n,a00 (A0i hp)⟩,u,r.trans (h.frame g a j).symm,D⟩
theorem o0p:∀(ps:List PA)(us:List Nat)(i0 n:Nat),n∈brw ps us→∃(k i:Nat)(e:Ty),us[k]?=some n∧(a0o ps i0)[k]?=some (i0+i)∧ps[i]?=some (.r false (.o e))
 | [],us,i0,n,h=>by simp[brw]at h
 |.v _::ps,us,i0,n,h=>by
  obtain⟨k,i,e,g,f,b⟩:=o0p ps us (i0+1) n (by simpa[brw]using h);exact⟨k,i+1,e,g,by simp only[a0o];rw[f];congr 1;omega,by simpa using b⟩
 |.r c a::ps,[],i0,n,h=>by cases c<;>cases a<;>simp[brw]at h
 |.r c a::ps,u::us,i0,n,h=>by
  have rest:n∈brw ps us→∃(k i:Nat)(e:Ty),(u::us)[k]?=some n∧(a0o (.r c a::ps) i0)[k]?=some (i0+i)∧(PA.r c a::ps)[i]?=some (.r false (.o e)):=fun h=>by
   obtain⟨k,i,e,g,f,b⟩:=o0p ps us (i0+1) n h;exact⟨k+1,i+1,e,by simpa using g,by simp only[a0o,a20];rw[f];congr 1;omega,by simpa using b⟩
  cases c with
  |true=>exact rest (by cases a<;>simpa[brw]using h)
  |false=>
   cases a with
   |o e=>
    rcases mC.1 (show n∈u::brw ps us from h)with rfl|h;exact⟨0,0,e,rfl,rfl,rfl⟩;exact rest h
   |_=>exact rest (by simpa[brw]using h)
def k0h(o:Option Root)(s:Src)(e:Ent1):Ent1:=match o,s with
 |some ⟨true,_,_⟩,.at b _=>if e.r.bx=true then e else⟨⟨true,e.r.t,e.r.x⟩,s,(b,1)::e.O⟩
 |_,_=>e
theorem k0r{C:Array Value→World→(Ending→World→Prop)→Prop}{o:Oper}{avs:List AV}{vals:List Value}{s:FSem}{q:Bool}{K:AE→Rs ρ}{z:ρ}{next:Act→World→Prop}{Q:Exit→Act→World→Prop}{G:GTab}
  (m0:∀R,C vals.toArray w R→(∀e w',R e w'→∃v,e=.returned v∧next (a.put o.dst v) w')→o.wpIn (Fr ro) 0 P a w next Q)(g7:avs.length=vals.length)(f6:∀(i:Nat) av v,avs[i]?=some av→vals[i]?=some v→a0e (a0a w σ.ov) σ.g Γ.rt (Shr B w σ) av v)(hG:GOk G B)(hF:A0y C G s)
  (h:Rel B Γ N (a0f a) w σ)(hN:a.tmps.size=N)(hz:Γ.call q o.dst s avs K=some z)
  (h9:∀v w' Γ' σ',Rel B Γ' N (a0f (a.put o.dst v)) w' σ'→K Γ'=some z→next (a.put o.dst v) w'):o.wpIn (Fr ro) 0 P a w next Q:=by
 unfold AE.call at hz
 split at hz
 cases hz;rename_i l0;have m5:=h.ov_none l0;obtain⟨hl,x,Γ',σ',us,l6,h',ev,bx,k4,-,ha⟩:=Rel.args s.ps avs vals (i0:=0) h (fun i av v h1 h2=>.inl (f6 i av v h1 h2)) (by omega) hz;clear hz;obtain⟨fz,f9⟩:∃fz,(s.rs.any RA.hasList || (e0i s.ps).any RA.hasList)=fz:=⟨_,rfl⟩;rw[f9]at ha k4;have l1:Γ'.pd=none:=ev.pd.trans l0;have a7:σ'.ov=none:=ev.ov.trans m5;obtain⟨hnames,Γ1,σ1,hz2,h1,hpd1,hov1,hshr,hnone,⟨c6,d5⟩,hnone'⟩:=Rel.dropAll _ h' l1 l6;clear l6;obtain⟨y,hy,l7⟩:=a33.1 hz2;clear hz2;obtain⟨f1,d7⟩:=h'.enter a7 ha (by omega);obtain⟨ns,c8⟩:∃ns,b0o s.rs (o.dst.getD 0+1000)=ns:=⟨_,rfl⟩;have m7:(us.reverse++[]).reverse=us:=by simp
 obtain⟨rn,l3⟩:∃rn,c0v s.rs (o.dst.getD 0+1000)=rn:=⟨_,rfl⟩;rw[l3]at hnames hnone c6;refine m0 _ (hF w _ _ _ x y (hG.callee h' _ _ _) hy rfl (fun _=>rfl) rfl (by rw[a46];omega) f1 d7) ?_
 rintro e w' ⟨vr,Ls,rfl,f3,bk⟩
 refine⟨_,rfl,?_⟩;obtain⟨J,g6⟩:∃J,c0r (RA.all s.ps s.rs) y=J:=⟨_,rfl⟩;obtain⟨vs,f4⟩:∃vs,vr++(a0o s.ps 0).map (e0d s.ps vals.toArray)=vs:=⟨_,rfl⟩;rw[g6,f4]at bk;have m9:J.length=s.rs.length+us.length:=by
  rw[←g6,g0b,RA.all,lN,ha.len,g0v]
 have a6:ns.length=s.rs.length:=by rw[←c8,i0b]
 have X:∀n∈rn,n<pinned∧n∉us:=fun n Z=>by
  have:=hnames n Z
  simpa using this

 have T:∀(k n:Nat) it,(ns++us)[k]?=some n→J[k]?=some it→a0v it≠none→(k<ns.length∧n∈rn∧n=o.dst.getD 0+1000+1000*k)∨(ns.length≤k∧us[k-ns.length]?=some n):=by
  intro k n it h1 h2 h3
  by_cases W:k<ns.length
  rw[a06 W]at h1;have hf:=i0z (RA.all s.ps s.rs) y k it (by rw[g6];exact h2);rw[RA.all,a06 (by omega)]at hf;refine .inl ⟨W,?_,?_⟩;rw[←l3];exact o0c s.rs _ k n it.1 (by rw[c8];exact h1) hf fun t ht=>h3 (by
   obtain⟨r,xx⟩:=it;obtain rfl:r=.v t:=ht;rfl)
  exact(o0b s.rs _ k n (by rw[c8];exact h1)).1;rw[a12 (by omega)]at h1;exact .inr ⟨by omega,h1⟩
 have d0:∀(k k' n:Nat) it g0,(ns++us)[k]?=some n→J[k]?=some it→a0v it≠none→(ns++us)[k']?=some n→J[k']?=some g0→a0v g0≠none→k'=k:=by
  intro k k' n it g0 h1 h2 h3 h4 h5 h6;rcases T k n it h1 h2 h3 with⟨a1,a2,a3⟩|⟨a1,a2⟩;rcases T k' n g0 h4 h5 h6 with⟨b1,b2,b3⟩|⟨b1,b2⟩;omega;exact absurd (a08 b2) (X n a2).2;rcases T k' n g0 h4 h5 h6 with⟨b1,b2,b3⟩|⟨b1,b2⟩;exact absurd (a08 a2) (X n b2).2;obtain⟨c1,c2⟩:=lS.1 a2;obtain⟨c3,c4⟩:=lS.1 b2;have hp:=a22.1 ha.nodup;rcases a61 (k-ns.length) (k'-ns.length)with g|g|g;exact absurd (c2.trans c4.symm) (hp _ _ c1 c3 g);omega;exact absurd (c4.trans c2.symm) (hp _ _ c3 c1 g)
 let E0:Nat→Option Ent1:=f0y (ns++us) J Ls
 have g8:∀n∈us,Γ1.rt n=Γ'.rt n∧σ1.ow n=σ'.ow n:=fun n Z=>c6 n fun g=>(X n g).2 Z;have e7:∀c,(b0h fz B w σ' s.ps us).F c→∃n∈us,c∈(σ'.ow n).map (·.1):=by
  rintro c ⟨i,n,h1,h2⟩
  obtain⟨k,q1,q2⟩:=h0m _ _ _ _ h1;obtain⟨i',c',ra,y',v,r,j1,j2,j3,j4,j5,-⟩:=ha.refs k n q2;rw[q1]at j1;simp only[a07,sj]at j1;subst j1;obtain⟨p,hp,rfl⟩:=a03.1 h2;rw[k0q j2 j4]at hp;exact⟨n,a08 q2,a00 ((h'.lent a7 j5).2.2.1 p hp)⟩
 have e4:∀n∈us,∃A r0,E0 n=some A∧Γ'.rt n=some r0∧
   ((A.r.bx=r0.bx∧(A.s=σ'.g n∨(r0.bx=false∧n<pinned∧n∉brw s.ps us))∧(r0.bx=false→∃ε,A.r.t=.list true ε))∨
    ∃b v ε,r0.bx=true∧A.r.bx=false∧A.r.t=.list true ε∧σ'.g n=.at b 0∧w.cell? ⟨b,0,none⟩=some v∧A.s=.one v∧b∈(σ'.ow n).map (·.1)∧b0c w b 1∧¬ (b0h fz B w σ' s.ps us).F b):=by
  intro n Z;obtain⟨k,W⟩:=a39.1 Z;obtain⟨i,c,ra,y',v,r,j1,j2,j3,j4,j5,j7⟩:=ha.refs k n W;rw[a07]at j1;have b5:=e0x _ _ _ _ j2;have n0:k<us.length:=(lS.1 W).1;have i8:(ns.length+k)<J.length:=by omega
  have g5:=lG i8;have e9:ns.length+k<Ls.length:=by rw[bk.ll];exact i8
  have b7:=lG e9;have k5:=i0z (RA.all s.ps s.rs) y (ns.length+k) _ (by rw[g6];exact g5);have b4:(ns++us)[ns.length+k]?=some n:=by rw[a12 (by omega)];simpa using W
  have f5:(RA.all s.ps s.rs)[ns.length+k]?=some ra:=by
   rw[RA.all,a12 (by omega),a6,a19];obtain⟨k2,q1,q2⟩:=o0a s.ps 0 i b5;rw[a07]at q1;rw[r0f s.ps j1 q1];exact q2
  rw[f5]at k5;simp only[sj]at k5;have d8:vs[ns.length+k]?=some (e0d s.ps vals.toArray i):=by
   rw[←f4,a12 (by omega),f3,a6,a19,a35,j1];rfl
  have d1:vals.toArray.getD i undef=v:=by simp only[Array.getD_eq_getD_getElem?,a11,j3,Option.getD_some]
  have k4:∀k3,us[k3]?=some n→k=k3:=fun k3 q1=>by
   obtain⟨c1,c2⟩:=lS.1 W;obtain⟨c3,c4⟩:=lS.1 q1;have hp:=a22.1 ha.nodup;rcases a61 k k3 with g|g|g;exact absurd (c2.trans c4.symm) (hp _ _ c1 c3 g);exact g;exact absurd (c4.trans c2.symm) (hp _ _ c3 c1 g)
  have h7:=bk.ok _ _ _ _ g5 d8 b7
  revert k5 h7 g5
  generalize J[ns.length+k]=it;obtain⟨r0,xx⟩:=it;intro g5 k5 h7;obtain rfl:ra=r0:=k5;have e6:∀r',a0v ⟨ra,xx⟩=some r'→E0 n=some ⟨r',Ls[ns.length+k].1,Ls[ns.length+k].2⟩:=fun r' l2=>
   r0t (ns++us) J Ls (ns.length+k) n _ _ _ b4 g5 b7 l2 (fun k' g0 g1 M g3=>d0 _ k' n _ g0 b4 g5 (by rw[l2];simp) g1 M g3)
  cases ra with
  |v t=>simp[a0v]at j4
  |b t=>
   simp only[a0v,sj]at j4;subst j4;cases c with
   |true=>have:=(j7 rfl).2.1;cases this
   |false=>
    have b8:e0d s.ps vals.toArray i=v:=by simp only[e0d,h0l b5,d1]
    rw[b8]at h7;obtain⟨hr,b',hs,hv⟩:=h7;rcases j5 with⟨j5,j6⟩|⟨_,⟨g,-⟩,-⟩;refine⟨_,_,e6 _ rfl,j5,.inl ⟨rfl,.inl ?_,fun g=>by cases g⟩⟩;rcases h'.src_of j5 with⟨-,b,g⟩|⟨g,-⟩;rw[g]at j6⊢
    have:=j6.2.symm.trans hv
    simp only[Value.pointer.injEq,sj,Addr.mk.injEq,and_true]at this;rw[this];exact hs;cases g;cases g
  |o A=>
   simp only[a0v,sj]at j4;subst j4;obtain⟨hs,hr⟩:=h7;have g4:f0u s.ps i=false:=by simp[f0u,b5]
   rcases j5 with⟨j5,j6⟩|⟨b,-,j5,hg,e8⟩
   ·refine⟨_,_,e6 _ rfl,j5,.inl ⟨rfl,?_,fun _=>⟨A,rfl⟩⟩⟩;cases c with
    |true=>
     refine .inr ⟨rfl,(j7 rfl).2.2,fun hb=>?_⟩;obtain⟨k3,i3,e3,q1,q2,Y⟩:=o0p s.ps us 0 n hb;obtain rfl:=k4 k3 q1;rw[j1]at q2;simp only[a07,sj]at q2;subst q2;rw[b5]at Y;cases Y
    |false=>
     have b8:e0d s.ps vals.toArray i=v:=by simp only[e0d,h0l b5,d1]
     rw[b8]at hs;left;rcases h'.src_of j5 with⟨g,-⟩|⟨-,u,e2,g,-⟩;cases g;rw[g]at j6⊢;have j6:v=u:=j6;rw[←j6];exact hs
   ·have l9:c=false:=by
     cases c with
     |false=>rfl
     |true=>have:=(j7 rfl).1;rw[j5]at this;cases this
    subst l9;have b8:e0d s.ps vals.toArray i=v:=by simp only[e0d,h0l b5,d1]
    rw[b8]at hs;have f0:σ'.ow n=(b,1)::(σ'.ow n).tail∧b∉((σ'.ow n).tail).map (·.1):=by
     obtain⟨O',R,-,-,Y⟩:=(h'.roots n _ j5).rd;rcases Y with⟨-,b',q4,q5⟩|⟨q4,-⟩;rw[hg]at q4;simp only[Src.at.injEq,and_true]at q4;subst q4;have j8:=h'.nodup n;rw[q5,a05]at j8;rw[q5];exact⟨rfl,(a14.1 j8).1⟩;cases q4
    have f7:b∈(σ'.ow n).map (·.1):=by rw[f0.1];simp
    refine⟨_,_,e6 _ rfl,j5,.inr ⟨b,v,A,rfl,rfl,rfl,hg,e8,hs,f7,h'.live n (b,1) (by rw[f0.1];simp),?_⟩⟩
    rintro⟨i',n',q1,q2⟩
    obtain⟨k',Y,q4⟩:=h0m _ _ _ _ q1
    by_cases hnn:n'=n
    subst hnn;obtain rfl:=k4 k' q4;rw[j1]at Y;simp only[sj]at Y;subst Y;rw[g4]at q2;simp only[lo,hg]at q2;exact f0.2 q2;obtain⟨i2,c2,a2,y2,v2,r2,z1,z2,z3,z4,z5,-⟩:=ha.refs k' n' q4;rw[Y]at z1;simp only[a07,sj]at z1;subst z1;obtain⟨p,hp,m6⟩:=a03.1 q2;rw[k0q z2 z4]at hp;exact h'.disj n n' (Ne.symm hnn) b f7 (by rw[←m6];exact a00 ((h'.lent a7 z5).2.2.1 p hp))
 let E:Nat→Option Ent1:=fun n=>(E0 n).map fun e=>bif us.contains n then k0h (Γ1.rt n) (σ1.g n) e else e
 have g9:∀n e,E n=some e→∃A,E0 n=some A∧(e=A∨(n∈us∧∃b v ε,A.r.bx=false∧A.r.t=.list true ε∧σ'.g n=.at b 0∧w.cell? ⟨b,0,none⟩=some v∧A.s=.one v∧b∈(σ'.ow n).map (·.1)∧b0c w b 1∧
   ¬ (b0h fz B w σ' s.ps us).F b∧e=⟨⟨true,A.r.t,A.r.x⟩,.at b 0,(b,1)::A.O⟩)):=by
  intro n e D;obtain⟨A,I,rfl⟩:=a36.1 D;refine⟨A,I,?_⟩;cases U:us.contains n with
  |false=>exact .inl rfl
  |true=>
   have Z:n∈us:=by simpa using U
   obtain⟨e1,r0,q1,q2,Y⟩:=e4 n Z;rw[I]at q1;cases q1;simp only[cT];rw[(g8 n Z).1,q2,d5];obtain⟨bx,t0,x0⟩:=r0;rcases Y with⟨Y,-⟩|⟨b,v,ε,Y,q4,q5,q6,q7⟩
   ·left;cases bx with
    |false=>rfl
    |true=>
     rcases σ'.g n with⟨b,o⟩|u;simp only[k0h];rw[if_pos Y];rfl
   right;have Y:bx=true:=Y;subst Y;refine⟨Z,b,v,ε,q4,q5,q6,q7.1,q7.2.1,q7.2.2.1,q7.2.2.2.1,q7.2.2.2.2,?_⟩;rw[q6];simp only[k0h];rw[if_neg (by rw[q4];simp)]
 have d2:∀n∈us,∃e r,E n=some e∧Γ'.rt n=some r∧(e.s=σ'.g n∨(r.bx=false∧n<pinned∧n∉brw s.ps us))∧(r.bx=false→∃ε,e.r.t=.list true ε):=by
  intro n Z;obtain⟨A,r0,q1,q2,Y⟩:=e4 n Z;have hE:∃e,E n=some e:=⟨_,by simp only[E,q1,a32];rfl⟩;obtain⟨e,D⟩:=hE;obtain⟨e1,z1,z2⟩:=g9 n e D;rw[q1]at z1;cases z1;refine⟨e,r0,D,q2,?_⟩;rcases Y with⟨Y,q4,q5⟩|⟨b,v,ε,Y,q4,q5,q6,q7⟩;rcases z2 with rfl|⟨-,b,v,ε,z3,z4,z5,z6,z7,z8,z9,h8,rfl⟩;exact⟨q4,q5⟩;rw[z3]at Y;rcases h'.src_of q2 with⟨g,-⟩|⟨-,u,_,g,-⟩;rw[g]at Y;cases Y;rw[g]at z5;cases z5;refine⟨.inl ?_,fun g=>by rw[Y]at g;cases g⟩;rcases z2 with rfl|⟨-,b',v',ε',z3,z4,z5,z6,z7,z8,z9,h8,rfl⟩
  exfalso
  obtain⟨e2,f8,b0⟩:=a36.1 D;rw[q1]at f8;cases f8;have U:us.contains n=true:=by simpa using Z
  rw[U]at b0;simp only[cT]at b0;rw[(g8 n Z).1,q2,d5,q6]at b0;obtain⟨bx,t0,x0⟩:=r0;have Y:bx=true:=Y;subst Y;simp only[k0h]at b0;rw[if_neg (by rw[q4];simp)]at b0
  have:=congrArg (fun e=>e.r.bx) b0
  rw[q4]at this;cases this;exact z5.symm
 have H:∀n e,E0 n=some e→∃(k:Nat)(it:(r:RA)×r.ty.den) (v:Value) (L:Src×b0k),(ns++us)[k]?=some n∧J[k]?=some it∧vs[k]?=some v∧Ls[k]?=some L∧a0v it=some e.r∧e.s=L.1∧e.O=L.2∧
   q0f (cells w') (fun c=>c<w'.heap.size∧((b0h fz B w σ' s.ps us).S c∨(b0h fz B w σ' s.ps us).F c∨(b0h fz B w σ' s.ps us).size≤c)∧∀L∈Ls,c∉L.2.map (·.1)) it v L:=by
  intro n e D;obtain⟨k,it,L,j1,j2,j3,j4⟩:=s0o _ _ _ _ _ D;have m3:k<vs.length:=by rw[bk.lv];exact(lS.1 j2).1
  have hv:=lG m3;exact⟨k,it,vs[k],L,j1,j2,hv,j3,j4.1,j4.2.1,j4.2.2,bk.ok _ _ _ _ j2 hv j3⟩
 have k8:∀n A c,E0 n=some A→c∈A.O.map (·.1)→(b0h fz B w σ' s.ps us).F c∨w.heap.size≤c:=fun n A c D U=>by
  obtain⟨k,it,v,L,j1,j2,jv,j3,j4,j5,j6,j7⟩:=H n A D;rw[j6]at U;exact bk.mine L (a08 j3) c U
 have c7:∀n e,E n=some e→n∈rn∨n∈us:=fun n e D=>by
  obtain⟨A,I,-⟩:=g9 n e D;obtain⟨k,it,v,L,j1,j2,-,-,j4,-⟩:=H n A I;rcases T k n it j1 j2 (by rw[j4];simp)with⟨-,g,-⟩|⟨-,g⟩;exact .inl g;exact .inr (a08 g)
 have k7:∀n b,b∈(σ'.ow n).map (·.1)→¬ (b0h fz B w σ' s.ps us).F b→∀n' A,E0 n'=some A→b∉A.O.map (·.1):=fun n b hb hF n' A D U=>by
  rcases k8 n' A b D U with g|g;exact hF g
  have:=h'.lt ⟨n,hb⟩;omega
 have hW:Work w w' σ1 (b0h fz B w σ' s.ps us).F E:={
  own:=fun c hF=>by
   obtain⟨n,Z,U⟩:=e7 c hF;obtain⟨e,r,D,-⟩:=d2 n Z;exact⟨n,e,D,by rw[(g8 n Z).2];exact U⟩
  size:=bk.size
  still:=bk.still
  same:=fun b hb l8=>bk.frame b hb l8
  mine:=fun n e c D U=>by
   obtain⟨A,I,z⟩:=g9 n e D;rcases z with rfl|⟨Z,b,v,ε,z3,z4,z5,z6,z7,z8,z9,h8,rfl⟩;exact(k8 n e c I U).imp .inl id;rcases mC.1 (show c∈b::A.O.map (·.1)from U)with rfl|U;exact .inl (.inr (by rw[(g8 n Z).2];exact z8));exact(k8 n A c I U).imp .inl id
  nodup:=fun n e D=>by
   obtain⟨A,I,z⟩:=g9 n e D;have h0:(A.O.map (·.1)).Nodup:=by
    obtain⟨k,it,v,L,j1,j2,jv,j3,j4,j5,j6,j7⟩:=H n A I;rw[j6];exact bk.nodup L (a08 j3)
   rcases z with rfl|⟨Z,b,v,ε,z3,z4,z5,z6,z7,z8,z9,h8,rfl⟩;exact h0;exact a14.2 ⟨k7 n b z8 h8 n A I,h0⟩
  disj:=fun n e n' e' D b9 d6 c U V=>by
   obtain⟨A,I,z⟩:=g9 n e D;obtain⟨a8,c0,z'⟩:=g9 n' e' b9;have a4:c∈A.O.map (·.1)→c∈a8.O.map (·.1)→False:=fun U V=>by
    obtain⟨k,it,v,L,j1,j2,jv,j3,j4,j5,j6,j7⟩:=H n A I;obtain⟨k',g0,v',L',i1,i2,iv,i3,i4,i5,i6,i7⟩:=H n' a8 c0;rw[j6]at U;rw[i6]at V;exact bk.disj k k' L L' j3 i3 (fun g=>by subst g;rw[j1]at i1;exact d6 (Option.some.inj i1)) c U V
   rcases z with rfl|⟨Z,b,v,ε,z3,z4,z5,z6,z7,z8,z9,h8,rfl⟩;rcases z' with rfl|⟨j0,b',v',ε',y3,y4,y5,y6,y7,y8,y9,d9,rfl⟩;exact a4 U V;rcases mC.1 (show c∈b'::a8.O.map (·.1)from V)with rfl|V;exact k7 n' c y8 d9 n e I U;exact a4 U V;rcases mC.1 (show c∈b::A.O.map (·.1)from U)with rfl|U;rcases z' with rfl|⟨j0,b',v',ε',y3,y4,y5,y6,y7,y8,y9,d9,rfl⟩;exact k7 n c z8 h8 n' e' c0 V;rcases mC.1 (show c∈b'::a8.O.map (·.1)from V)with rfl|V;exact h'.disj n n' d6 c z8 y8;exact k7 n c z8 h8 n' a8 c0 V;rcases z' with rfl|⟨j0,b',v',ε',y3,y4,y5,y6,y7,y8,y9,d9,rfl⟩;exact a4 U V;rcases mC.1 (show c∈b'::a8.O.map (·.1)from V)with rfl|V;exact k7 n' c y8 d9 n A I U;exact a4 U V
  live:=fun n e p D hp=>by
   obtain⟨A,I,z⟩:=g9 n e D;have h0:p∈A.O→b0c w' p.1 p.2:=fun hp=>by
    obtain⟨k,it,v,L,j1,j2,jv,j3,j4,j5,j6,j7⟩:=H n A I;rw[j6]at hp;exact bk.live L (a08 j3) p hp
   rcases z with rfl|⟨Z,b,v,ε,z3,z4,z5,z6,z7,z8,z9,h8,rfl⟩;exact h0 hp;rcases mC.1 hp with rfl|hp;obtain⟨c,e,lo,hi,q1,q2⟩:=z9;exact⟨c,e,lo,hi,by rw[bk.frame b (h'.lt ⟨n,z8⟩) h8];exact q1,q2⟩;exact h0 hp }

 have a5:∀c,(c<w'.heap.size∧((b0h fz B w σ' s.ps us).S c∨(b0h fz B w σ' s.ps us).F c∨(b0h fz B w σ' s.ps us).size≤c)∧∀L∈Ls,c∉L.2.map (·.1))→fz=true→
   (c<w'.heap.size∧(Shr B w σ1 c∨(b0h fz B w σ' s.ps us).F c∨w.heap.size≤c)∧∀n e,E n=some e→c∉e.O.map (·.1)):=by
  rintro c ⟨g1,M,g3⟩ hfzt
  refine⟨g1,?_,fun n e D d3=>?_⟩;rcases M with(M|⟨M,-⟩)|M|M;exact .inl (hshr c M);rw[hfzt]at M;cases M;exact .inr (.inl M);exact .inr (.inr M);obtain⟨A,I,z⟩:=g9 n e D;have h0:c∉A.O.map (·.1):=by
   obtain⟨k,it,v,L,j1,j2,jv,j3,j4,j5,j6,j7⟩:=H n A I;rw[j6];exact g3 L (a08 j3)
  rcases z with rfl|⟨Z,b,v,ε,z3,z4,z5,z6,z7,z8,z9,h8,rfl⟩;exact h0 d3;rcases mC.1 (show c∈b::A.O.map (·.1)from d3)with rfl|d3;rcases M with(M|⟨M,-⟩)|M|M;exact M.2.2 ⟨n,z8⟩;rw[hfzt]at M;cases M;exact h8 M
  have:=h'.lt ⟨n,z8⟩
  have M:w.heap.size≤c:=M;omega;exact h0 d3
 have k6:fz=false→∀(k:Nat) it,J[k]?=some it→it.1.hasList=false:=by
  intro d4 k it W;have h1:=i0z (RA.all s.ps s.rs) y k it (by rw[g6];exact W);rw[←f9]at d4;simp only[a55,List.any_eq_false,a63]at d4;have hm:=a08 h1;simp only[RA.all,mA]at hm;rcases hm with hm|hm;exact d4.1 _ hm;exact d4.2 _ hm
 have f2:∀n e,E n=some e→RootOk (cells w') (fun c=>c<w'.heap.size∧(Shr B w σ1 c∨(b0h fz B w σ' s.ps us).F c∨w.heap.size≤c)∧∀n e,E n=some e→c∉e.O.map (·.1)) e.r e.s e.O:=by
  intro n e D;obtain⟨A,I,z⟩:=g9 n e D;have h0:RootOk (cells w') (fun c=>c<w'.heap.size∧(Shr B w σ1 c∨(b0h fz B w σ' s.ps us).F c∨w.heap.size≤c)∧∀n e,E n=some e→c∉e.O.map (·.1)) A.r A.s A.O:=by
   obtain⟨k,it,v,L,j1,j2,jv,j3,j4,j5,j6,j7⟩:=H n A I;have hr:=j7.root j4;rw[j5,j6];cases hfz':fz with
   |true=>
    rw[hfz']at hr a5;exact hr.mono fun c U=>a5 c U rfl
   |false=>exact hr.anySh (v0z j4 (k6 hfz' k it j2))
  rcases z with rfl|⟨Z,b,v,ε,z3,z4,z5,z6,z7,z8,z9,h8,rfl⟩;exact h0;obtain⟨O',R,k1,k2,k3⟩:=h0.rd;rcases k3 with⟨k3,-⟩|⟨-,-,-,k3⟩;rw[z3]at k3;cases k3;refine⟨O',R,a0k _ k1 (fun j hj=>?_) (fun _ _ _=>rfl),k2,.inl ⟨rfl,b,rfl,?_⟩⟩;have hj:j<A.r.t.cells:=hj;rw[z4]at hj;have m1:j=0:=by simp only[Ty.cells]at hj;omega
  subst m1;rw[z7];show cells w' b (0+0)=some v
  have:=b0q (w':=w') (w:=w) (c:=b) none (bk.frame b (h'.lt ⟨n,z8⟩) h8) 0
  exact this.trans z6;show(b,1)::A.O=(b,A.r.t.cells)::O';rw[z4,k3];rfl
 obtain⟨hM,e5⟩:=h1.merge (hov1.trans a7) hW f2 (fun i b e hb D=>by
   rcases c7 _ e D with g|g;exact absurd (X _ g).1 (by omega);obtain⟨e',r',b9,k9,hs,-⟩:=d2 _ g;rw[D]at b9;simp only[sj]at b9;subst b9;rcases hs with hs|⟨-,hs,-⟩;rw[hs];exact h'.pins i b hb (by rw[k9];simp);omega) (f:=AV.deeps us (Γ1.unbx (brw s.ps us))) (fun av v k0=>by
   have key:∀k q,(av=.ptr k q∨av=.sref k q∨∃o l,av=.swin k q o l)→k∉us→E k=none:=fun k q W m2=>by
    cases D:E k with
    |none=>rfl
    |some e=>
     rcases c7 k e D with g|g;have Z:=hnone k g;rcases W with rfl|rfl|⟨o,l,rfl⟩;obtain⟨r,t,b,o,g1,-⟩:=k0;rw[Z]at g1;cases g1;obtain⟨r,e,s,g1,-⟩:=k0;rw[Z]at g1;cases g1;obtain⟨r,e,s,_,_,_,g1,-⟩:=k0;rw[Z]at g1;cases g1;exact absurd g m2
   cases av with
   |sref m p=>
    simp only[AV.deeps];split
    ·rename_i hm;cases p with
     |cons=>exact .inl rfl
     |nil=>
      simp only[];split;rename_i hb;refine .inr ⟨rfl,fun k p' W=>.inr (.inr ?_)⟩;rcases W with g|g|⟨o,l,g⟩<;>cases g;obtain⟨e,r,D,k9,hs,ht⟩:=d2 m (by simpa using hm);have b6:=(g8 m (by simpa using hm)).1.trans k9;have hb:m∈Γ1.unbx (brw s.ps us):=by simpa using hb
      simp only[AE.unbx,List.mem_filter,a34]at hb;obtain⟨hb,g4⟩:=hb;rcases hs with hs|⟨-,-,hs⟩;obtain⟨r2,e2,s2,g1,M,g3⟩:=k0;rw[b6]at g1;cases g1;simp only[loc,a0t,sj,pJ]at M;rcases h1.src_of b6 with⟨a9,b,hg⟩|⟨a9,u,e3,hg,-⟩;rw[b6]at g4;simp only[n0v]at g4;rw[a9]at g4;cases g4;obtain⟨ε,ht⟩:=ht a9;exact⟨rfl,e,u,ε,D,by rw[hs,←d5];exact hg,hg,ht⟩;exact absurd hb hs;exact .inl rfl
    rename_i hm;refine .inr ⟨rfl,fun k p' W=>.inl (key k p' W ?_)⟩;rcases W with g|g|⟨o,l,g⟩<;>cases g;simpa using hm
   |swin m p o l=>
    simp only[AV.deeps];split;exact .inl rfl;rename_i hm;refine .inr ⟨rfl,fun k p' W=>.inl (key k p' W ?_)⟩;rcases W with g|g|⟨o,l,g⟩<;>cases g;simpa using hm
   |ptr m p=>
    simp only[AV.deeps];split
    ·rename_i hm;cases p with
     |cons=>exact .inl rfl
     |nil=>
      refine .inr ⟨rfl,fun k p' W=>.inr (.inl ?_)⟩;rcases W with g|g|⟨o,l,g⟩<;>cases g;obtain⟨e,r,D,k9,hs,ht⟩:=d2 m (by simpa using hm);have b6:=(g8 m (by simpa using hm)).1.trans k9;obtain⟨r2,t2,b2,o2,g1,M,-⟩:=k0;rw[b6]at g1;cases g1;simp only[loc,a0t,sj,pJ]at M;rcases h1.src_of b6 with⟨a9,b,hg⟩|⟨a9,u,e3,hg,-⟩;rcases hs with hs|⟨hs,-⟩;exact⟨rfl,e,b,D,by rw[hs,←d5];exact hg,hg⟩;rw[a9]at hs;cases hs;rw[hg]at M;cases M.2
    rename_i hm;refine .inr ⟨rfl,fun k p' W=>.inl (key k p' W ?_)⟩;rcases W with g|g|⟨o,l,g⟩<;>cases g;simpa using hm
   |_=>exact .inr ⟨rfl,fun k p' W=>by rcases W with g|g|⟨o,l,g⟩<;>cases g⟩)

 have c9:∀(k:Nat) av,(d0q ns J)[k]?=some av→∃u,vr[k]?=some u∧a0e (a0a w' none) (d0x σ1 E).g (g0e Γ1 (AV.deeps us (Γ1.unbx (brw s.ps us))) E).rt (Shr B w' (d0x σ1 E)) av u:=by
  intro k av W;obtain⟨n,it,g1,M,rfl⟩:=s0f _ _ _ _ W;have i9:k<vr.length:=by rw[f3,←a6];exact(lS.1 g1).1
  have d8:=lG i9;have l5:vs[k]?=some vr[k]:=by rw[←f4,a06 i9];exact d8
  have e9:k<Ls.length:=by rw[bk.ll];exact(lS.1 M).1
  have b7:=lG e9;have h7:=bk.ok _ _ _ _ M l5 b7;have b4:(ns++us)[k]?=some n:=by rw[a06 (by omega)];exact g1
  refine⟨vr[k],d8,?_⟩;have c5:∀r,a0v it=some r→E n=some ⟨r,Ls[k].1,Ls[k].2⟩:=fun r hr=>by
   have h0:E0 n=some ⟨r,Ls[k].1,Ls[k].2⟩:=r0t (ns++us) J Ls k n it _ r b4 M b7 hr (fun k' g0 a1 a2 a3=>d0 _ k' n _ g0 b4 M (by rw[hr];simp) a1 a2 a3);have m4:us.contains n=false:=by
    rcases T k n it b4 M (by rw[hr];simp)with⟨-,g,-⟩|⟨g,-⟩;simpa using(X n g).2
    have:=(lS.1 g1).1
    omega
   simp only[E,h0,a32,m4,cF]
  obtain⟨r,xx⟩:=it;cases r with
  |v t=>
   obtain⟨hv,-⟩:=h7;cases hfz':fz with
   |true=>
    rw[hfz']at hv a5 e5;exact hv.frame (fun _ _ _=>rfl) fun c U=>e5 c (a5 c U rfl)
   |false=>exact hv.anySh (k6 hfz' k _ M)
  |o e=>
   obtain⟨hs,-⟩:=h7;have D:=c5 _ rfl;refine⟨_,e,.one vr[k],e0r D,?_,rfl⟩;rw[e0q D];show some (_,Ls[k].1)=_;rw[hs]
  |b t=>
   obtain⟨-,b,hs,hv⟩:=h7;have D:=c5 _ rfl;refine⟨_,t,b,0,e0r D,?_,hv⟩;rw[e0q D];show some (_,Ls[k].1)=_;rw[hs]
 have m8:(⟨fun i=>(Γ1.sl i).mapv (AV.deeps (us.reverse++[]) (Γ1.unbx (brw s.ps us))),fun n=>match b0y (ns++us) J n with
    |some r=>some (bif (us.reverse++[]).contains n then i0a (Γ1.rt n) r else r)
    |none=>Γ1.rt n,none⟩:AE)=g0e Γ1 (AV.deeps us (Γ1.unbx (brw s.ps us))) E:=by
  have e1:AV.deeps (us.reverse++[]) (Γ1.unbx (brw s.ps us))=AV.deeps us (Γ1.unbx (brw s.ps us)):=by
   funext av;cases av<;>simp[AV.deeps]
  have e2:∀n,(us.reverse++[]).contains n=us.contains n:=fun n=>by simp
  rw[e1];simp only[g0e,AE.mapv,E,E0,e2];congr 1;funext n;rw[n0c _ _ Ls n bk.ll];cases f0y (ns++us) J Ls n with
  |none=>rfl
  |some e=>
   simp only[a32];cases us.contains n with
   |false=>rfl
   |true=>
    simp only[cT,sj];cases k9:Γ1.rt n with
    |none=>simp[i0a,k0h]
    |some r0=>
     rcases h1.src_of k9 with⟨hb,b,hg⟩|⟨hb,u,A,hg,-⟩;obtain⟨bx,t0,x0⟩:=r0;have hb:bx=true:=hb;subst hb;rw[hg];simp only[i0a,k0h];split;rename_i D;obtain⟨⟨bx,t1,x1⟩,s1,O1⟩:=e;have D:bx=true:=D;subst D;rfl;rfl;obtain⟨bx,t0,x0⟩:=r0;have hb:bx=false:=hb;subst hb;simp[i0a,k0h]
 have hz:(match o.dst with
   |none=>K (g0e Γ1 (AV.deeps us (Γ1.unbx (brw s.ps us))) E)
   |some d=>match d0q (b0o s.rs (d+1000)) J with
    | [v]=>K ((g0e Γ1 (AV.deeps us (Γ1.unbx (brw s.ps us))) E).set d v)
    |vs=>K ((g0e Γ1 (AV.deeps us (Γ1.unbx (brw s.ps us))) E).put d (.cmp .tup vs)))=some z:=by
  rw[m7,c8,g6]at l7;rw[←m8];exact l7
 cases hd:o.dst with
 |none=>
  rw[hd]at hz h9;simp only[]at hz;exact h9 _ w' _ _ hM hz
 |some d=>
  have j9:b0o s.rs (d+1000)=ns:=by rw[←c8,hd];rfl
  rw[hd]at hz h9;simp only[j9]at hz;have g7:(d0q ns J).length=vr.length:=by rw[n0k _ _ (by omega),a6,f3]
  split at hz
  ·rename_i av k0;rw[k0]at g7 c9;obtain⟨u,hu,h7⟩:=c9 0 av rfl;have l4:vr=[u]:=by
    match vr,g7,hu with
    | [u'],_,hu=>simp only[a10,sj]at hu;rw[hu]
   refine h9 _ w' _ _ (hM.putd (sv:=.one av) (v:=m0t vr) (d:=d) hN (fun _=>?_)) hz;rw[l4];exact h7
  ·rename_i d6;refine h9 _ w' _ _ (hM.putd (sv:=.cmp .tup (d0q ns J)) (v:=m0t vr) (d:=d) hN (fun _=>?_)) hz;refine⟨vr.toArray,?_,fun k av W=>?_⟩
   ·match vr,g7 with
    | [],_=>rfl
    | [u],g7=>
     obtain⟨av,k0⟩:=a51.1 (g7.trans rfl);exact absurd k0 (d6 av)
    |_::_::_,_=>rfl
   obtain⟨u,hu,h7⟩:=c9 k av W;exact⟨u,by simpa using hu,h7⟩
theorem D0d{f:FuncId}{o:Oper}{c:Call}(g:o.op=.call c)(h:c.callee=.value (.func f)):(execOp a.eval o).run P w=(callFunc f (c.args.map a.eval)).run P w:=by
 simp[execOp,g,resolve,h,Act.eval,Deferred.ofValue,invoke]
theorem y0w{f:FuncId}{o:Oper}{c:Call}{t:Nat}(g:o.op=.call c)(h:c.callee=.value (.tmp t)){us:Array Value}(hv:a.eval (.tmp t)=.func (.func f) #[] us):(execOp a.eval o).run P w=(callFunc f (c.args.map a.eval++us)).run P w:=by
 simp[execOp,g,resolve,h,hv,Deferred.ofValue,invoke]
theorem w0m{o:Oper}{f:FuncId}{vs:Array Value}{next:Act→World→Prop}{Q:Exit→Act→World→Prop}(k:∀c,o.op≠.defer c)(g:(execOp a.eval o).run P w=.ok (.enter f vs) w)(R:Ending→World→Prop)(d:Calls P f vs w R)
  (b:∀e w',R e w'→∃v,e=.returned v∧next (a.put o.dst v) w'):o.wpIn (Fr ro) 0 P a w next Q:=by
 refine m0a k ?_
 rw[g,Oper.uponIn_enter];refine⟨fun h=>(by cases h),u0f (d.mono fun e w' h=>?_)⟩;obtain⟨v,rfl,i⟩:=b e w' h;exact i
theorem z0y{o:Oper}{f:FuncId}{vs:Array Value}{next:Act→World→Prop}{Q:Exit→Act→World→Prop}(g:∀c,o.op≠.defer c)(h:(execOp a.eval o).run P w=(callFunc f vs).run P w)(R:Ending→World→Prop)(i:∃v w',(callFunc f vs).run P w=.ok (.value v) w'∧R (.returned v) w')
  (d:∀e w',R e w'→∃v,e=.returned v∧next (a.put o.dst v) w'):o.wpIn (Fr ro) 0 P a w next Q:=by
 refine m0a g ?_
 obtain⟨v,w',k,b⟩:=i;rw[h,k,Oper.uponIn_value];obtain⟨v',e,j⟩:=d _ w' b;cases e;exact j
theorem x0n{o:Oper}{c:Call}{f:FuncId}{s:FSem}{q:Bool}{K:AE→Rs ρ}{z:ρ}{next:Act→World→Prop}{Q:Exit→Act→World→Prop}{G:GTab}(m:o.op=.call c)(n:c.callee=.value (.func f))(y:GOk G B)(d:FOk P G f s)
  (h:Rel B Γ N (a0f a) w σ)(A:a.tmps.size=N)(hf:fits N o=true)(D:Γ.call q o.dst s (c.args.toList.map Γ.opd) K=some z)
  (k:∀v w' Γ' σ',Rel B Γ' N (a0f (a.put o.dst v)) w' σ'→K Γ'=some z→next (a.put o.dst v) w'):o.wpIn (Fr ro) 0 P a w next Q:=by
 have j:∀x∈c.args.toList,b0m N x=true:=fun x F=>a0r hf x (by simp only[m,Op.operands,Call.operands,n];simp;exact .inr (by simpa using F));have e:∀p,o.op≠.defer p:=fun p t=>by rw[m]at t;cases t
 have r:(c.args.toList.map a.eval).toArray=c.args.map a.eval:=by rw[←Array.toList_map]
 have u:∀(i:Nat) av v,(c.args.toList.map Γ.opd)[i]?=some av→(c.args.toList.map a.eval)[i]?=some v→a0e (a0a w σ.ov) σ.g Γ.rt (Shr B w σ) av v:=by
  intro i av v b l;rw[a35]at b l;cases hi:c.args.toList[i]? with
  |none=>rw[hi]at b;cases b
  |some o'=>
   rw[hi]at b l;simp only[a32,sj]at b l;subst b;subst l;exact h.opd (j o' (a08 hi))
 rcases d with⟨d,E⟩|d;exact k0r (C:=Calls P f) (vals:=c.args.toList.map a.eval) (w0m e (by rw[u0y E m n,r])) (by simp) u y d h A D k;exact k0r (vals:=c.args.toList.map a.eval) (z0y e (by rw[D0d m n,r])) (by simp) u y d h A D k
theorem s0k{o:Oper}{c:Call}{t:Nat}{vs:List AV}{f:FuncId}{s:FSem}{q:Bool}{K:AE→Rs ρ}{z:ρ}{next:Act→World→Prop}{Q:Exit→Act→World→Prop}{G:GTab}(n:o.op=.call c)(A:c.callee=.value (.tmp t))(hs:Γ.sl t=.cmp (.clo f) vs∨vs=[]∧∃x,Γ.sl t=.one (.val (.fn f) x))
  (I:GOk G B)(l:FOk P G f s)
  (h:Rel B Γ N (a0f a) w σ)(J:a.tmps.size=N)(hf:fits N o=true)(L:Γ.call q o.dst s (c.args.toList.map Γ.opd++vs) K=some z)
  (b:∀v w' Γ' σ',Rel B Γ' N (a0f (a.put o.dst v)) w' σ'→K Γ'=some z→next (a.put o.dst v) w'):o.wpIn (Fr ro) 0 P a w next Q:=by
 have p:∀x∈c.args.toList,b0m N x=true:=fun x U=>a0r hf x (by simp only[n,Op.operands,Call.operands,A];simp;exact .inr (by simpa using U));have T:t<N:=by
  have:=a0r hf (.tmp t) (by simp only[n,Op.operands,Call.operands,A];simp)
  simpa[b0m]using this
 have d:=h.slots t T;obtain⟨us,r,y,D⟩:∃us:Array Value,us.size=vs.length∧a.eval (.tmp t)=.func (.func f) #[] us∧∀(k:Nat) v,vs[k]?=some v→∃u,us[k]?=some u∧a0e (a0a w σ.ov) σ.g Γ.rt (Shr B w σ) v u:=by
  rcases hs with hs|⟨rfl,x,hs⟩;rw[hs]at d;obtain⟨us,⟨r,y⟩,D⟩:=d;exact⟨us,r,y,D⟩;rw[hs]at d;exact⟨#[],rfl,VOk.fn_eq d,fun k v S=>by simp at S⟩
 have m:∀E,o.op≠.defer E:=fun E F=>by rw[n]at F;cases F
 have H:∀(i:Nat) av v,(c.args.toList.map Γ.opd++vs)[i]?=some av→(c.args.toList.map a.eval++us.toList)[i]?=some v→a0e (a0a w σ.ov) σ.g Γ.rt (Shr B w σ) av v:=by
  intro i av v e j
  by_cases hi:i<c.args.toList.length
  ·rw[a06 (by simpa using hi),a35]at e j;cases hi':c.args.toList[i]? with
   |none=>rw[hi']at e;cases e
   |some o'=>
    rw[hi']at e j;simp only[a32,sj]at e j;subst e;subst j;exact h.opd (p o' (a08 hi'))
  rw[a12 (by simpa using hi),a65]at e j;obtain⟨u,M,O⟩:=D _ av e;rw[a09,M]at j;simp only[sj]at j;subst j;exact O
 rcases l with⟨l,R⟩|l;exact k0r (C:=Calls P f) (vals:=c.args.toList.map a.eval++us.toList) (w0m m (by rw[w0a R n A a w y];simp)) (by simp[r]) H I l h J L b;exact k0r (vals:=c.args.toList.map a.eval++us.toList) (z0y m (by rw[y0w n A y,show(c.args.toList.map a.eval++us.toList).toArray=c.args.map a.eval++us from by simp])) (by simp[r]) H I l h J L b
end
end Go.Ab
