/- Part of the proof: LibP, LibQ, LibR, LibS, LibT, LibU, LibV, LibW, LibX, LibY, LibZ, LibZA, LibZAA, LibZB, LibZC, LibZD, LibZE, LibZF, LibZG, LibZH. Conditions: as each statement tells. -/
import Derived.Laws.BytesString
import Derived.Laws.IdiomStrings
import Derived.Laws.Append
import Derived.Laws.MakeOwn
import Derived.Great.FillDense
import Derived.Laws.AppendOwn
import Derived.CallsIn
import Derived.Test.YtoklkmdhpjocgaaGreatDoorMA
noncomputable section
namespace Go.Ab
theorem RootOk.mono {m:Mem} {Sh Sh':Nat→Prop} {r s O} (h:RootOk m Sh r s O) (hs:∀ c,Sh c→Sh' c):RootOk m Sh' r s O:=by
 obtain ⟨O',R,h1,h2,h3⟩:=h.rd
 exact ⟨O',R,h1,fun c hc=>hs c (h2 c hc),h3⟩
theorem Rel.fresh {ρ:Type} {B Γ N tm w σ} {q:Bool} {n:Nat} {r:Root} {K:AE→Rs ρ} {z:ρ} (h:Rel B Γ N tm w σ) (hz:Γ.fresh q n r K=some z) {w':World}
  (hext:∀ c,c<w.heap.size→w'.heap[c]?=w.heap[c]?) (hsz:w.heap.size≤w'.heap.size) {s:Src} {O:Owns} (hO:∀ c∈O.map (·.1),w.heap.size≤c) (hOn:(O.map (·.1)).Nodup)
  (hOl:∀ p∈O,Free w' p.1 p.2) (hok:RootOk (memo w' σ.ov) (Shr B w σ) r s O) (hio:ioOf w'=ioOf w:=by first|rfl|assumption):∃ Γ' σ',K Γ'=some z∧Rel B Γ' N tm w' σ'∧Γ'.rt n=some r∧σ'.g n=s∧σ'.ov=σ.ov∧Γ'=Γ.newRt n r:=by
 unfold AE.fresh at hz
 obtain ⟨hnp,hz⟩:=(bif_some hz).elim id fun h=>by cases h.2
 have hnp:n<pinned:=by simpa using hnp
 split at hz
 ·rename_i hn
  have e:Γ.newRt n r=Γ.setRt n (some r):=by unfold AE.newRt;rw [hn]
  refine ⟨_,⟨fun m=>if m=n then s else σ.g m,fun m=>if m=n then O else σ.ow m,σ.ov⟩,hz,by rw [e];exact h.add hn hnp hext hsz hO hOn hOl hok,by rw [e];simp [AE.setRt],by simp,rfl,rfl⟩
 ·rename_i r0 hn
  rcases bif_some hz with ⟨-,hz⟩|⟨-,hz⟩
  ·cases hz
  ·split at hz
   ·cases hz
   ·rename_i r1 hl
    obtain ⟨hpd,-⟩:=look_some hl
    have e:Γ.newRt n r=((Γ.mapv (AV.drop n)).setRt n none).setRt n (some r):=by
     unfold AE.newRt
     rw [hn]
     simp only [AE.setRt,AE.mapv]
     congr 1
     funext j
     by_cases hj:j=n
     ·subst hj;simp
     ·rw [rt_ne' hj,rt_ne' hj,rt_ne' hj]
    have hd:=h.drop (n:=n) (by simp [hpd])
    refine ⟨_,⟨fun m=>if m=n then s else σ.g m,fun m=>if m=n then O else (if m=n then [] else σ.ow m),σ.ov⟩,hz,by rw [e];exact hd.add (n:=n) (by simp [AE.setRt]) hnp hext hsz hO hOn hOl (hok.mono fun c hc=>Rel.shr_gone c hc),by rw [e];simp [AE.setRt],?_,rfl,rfl⟩
    show (if n=n then s else _)=s
    rw [if_pos rfl]
where
 rt_ne' {n k:Nat} {x y:Option Root} (h:k≠n):(bif k==n then x else y)=y:=by
  have:(k==n)=false:=by simpa using h
  simp [this]
theorem heap_push (w:World) (o:Obj) (c:Nat) (h:c<w.heap.size):(w.alloc o).heap[c]?=w.heap[c]?:=by
 simp only [World.alloc,Array.getElem?_push]
 rw [if_neg (by omega)]
theorem tyOk_fieldD {P:Program}:∀ (f:Nat) (τ:Ty) (fs:List Field) (off:Nat),tyOk P τ (.inr (fs,off))=true→okField τ f=true→
  ∃ fl τ' k,fs[f]?=some fl∧fl.offset=off+k∧tyOk P τ' (.inl fl.type)=true∧k+τ'.cells≤τ.cells∧
   ∀ (m:Mem) rd x O R,dec m τ rd=some (x,O,R)→∃ y O' R',dec m τ' (fun j=>rd (k+j))=some (y,O',R')∧getP τ x (fieldPath f)=⟨τ',y⟩∧(O=[]→O'=[])∧∀ c∈R',c∈R
 |0,τ,fs,off,h,hf=>by
  cases τ with
  |pair a b=>
   cases fs with
   |nil=>simp [tyOk] at h
   |cons fl r=>
    simp only [tyOk,Bool.and_eq_true,beq_iff_eq,decide_eq_true_eq] at h
    refine ⟨fl,a,0,rfl,by omega,h.1.1.2,by simp [Ty.cells],fun m rd x O R hd=>?_⟩
    obtain ⟨x1,o1,r1,x2,o2,r2,h1,h2,rfl,rfl,rfl⟩:=dec_pair hd
    exact ⟨x1,o1,r1,by simpa using h1,rfl,fun e=>(List.append_eq_nil_iff.1 e).1,fun c hc=>List.mem_append_left _ hc⟩
  |_=>simp [okField] at hf
 |f+1,τ,fs,off,h,hf=>by
  cases τ with
  |pair a b=>
   cases fs with
   |nil=>simp [tyOk] at h
   |cons fl r=>
    simp only [tyOk,Bool.and_eq_true] at h
    obtain ⟨fl',τ',k,h1,h2,h3,h4,h5⟩:=tyOk_fieldD f b r (off+a.cells) h.2 hf
    refine ⟨fl',τ',a.cells+k,by simpa using h1,by omega,h3,by simp only [Ty.cells];omega,fun m rd x O R hd=>?_⟩
    obtain ⟨x1,o1,r1,x2,o2,r2,g1,g2,rfl,rfl,rfl⟩:=dec_pair hd
    obtain ⟨y,O',R',g3,g4,g5,g6⟩:=h5 m _ x2 o2 r2 g2
    refine ⟨y,O',R',?_,g4,fun e=>g5 (List.append_eq_nil_iff.1 e).2,fun c hc=>List.mem_append_right _ (g6 c hc)⟩
    rw [←g3];congr 1;funext j;rw [Nat.add_assoc]
  |_=>simp [okField] at hf
theorem run_part {P:Program} {w:World} {m Sh} {τ':Ty} {t:TypeId} {cs:Array Value} {off:Nat} {y R} (ht:tyOk P τ' (.inl t)=true) (hd:dec m τ' (fun j=>cs[off+j]?)=some (y,[],R)) (hR:∀ c∈R,Sh c)
  (hsz:off+τ'.cells≤cs.size):∃ v,(part t cs off).run P w=.ok v w∧VOk m Sh τ' y v:=by
 obtain ⟨I⟩:=baseOk_info (tyOk_base ht)
 cases hagg:τ'.isAgg with
 |true=>
  refine ⟨.agg (cs.extract off (off+τ'.cells)),by simp [part,tyOk_isAgg ht,hagg,I.sizeOf],fun _=>⟨_,rfl,by simp;omega⟩,fun g=>(by rw [hagg] at g;cases g),R,?_,hR⟩
  refine dec_frame τ' hd (fun j hj=>?_) (fun _ _ _=>rfl)
  simp only [Value.cells,Array.getElem?_extract]
  rw [if_pos (by omega)]
 |false=>
  have h1:=nonAgg_cells hagg
  obtain ⟨v,hv,hs⟩:=dec_cells τ' hd 0 (by omega)
  simp only [Nat.add_zero] at hv
  refine ⟨v,by simp [part,tyOk_isAgg ht,hagg,hv],VOk.one hagg hs (dec_frame τ' hd (fun j hj=>?_) (fun _ _ _=>rfl)) hR h1⟩
  have hj0:j=0:=by omega
  subst hj0
  simp [Src.rd,hv]
section
variable {P:Program} {B:Base} {N:Nat} {ρ:Type} {Γ:AE} {a:Act} {w:World} {σ:Gh}
theorem does_field {o:Oper} {t:TypeId} {x:Operand} {f d:Nat} {cx:Cx} {q:Bool} {K:AE→Rs ρ} {z:ρ} (hcx:CxTy P cx) (ho:o.op=.field t x f) (hd:o.dst=some d)
  (h:Rel B Γ N (tmOf a) w σ) (hN:a.tmps.size=N) (hf:fits N o=true) (hz:aop cx q o Γ K=some z):Does P B N o a w K z:=by
 have hops:∀ y∈(o.op.operands.toList),opdOk N y=true:=fits_op hf
 rw [ho] at hops
 have hx:=h.opd (hops x (by simp [Op.operands]))
 simp only [aop,ho,hd] at hz
 split at hz
 ·rename_i tt y he
  rw [he] at hx
  split at hz
  ·rename_i hc
   obtain ⟨hsh,hty⟩:=hcx.T t _ hc.2
   obtain ⟨fs,hu,hs⟩:=tyOk_struct hty hc.1
   obtain ⟨fl,τ',k,h1,h2,h3,h4,h5⟩:=tyOk_fieldD f tt _ 0 hs hc.1
   obtain ⟨g1,g2,R,g3,g4⟩:=hx
   have hagg:tt.isAgg=true:=by cases tt<;>first|rfl|(cases f<;>simp [okField] at hc)
   obtain ⟨cs,hv,hcs⟩:=g1 hagg
   rw [hv] at g3
   obtain ⟨y',O',R',k1,k2,k3,k4⟩:=h5 _ _ _ _ _ g3
   have ho':=k3 rfl
   subst ho'
   generalize hg:getQ (fieldPath f) tt y=gg at hz
   obtain ⟨t2,y2⟩:=gg
   simp only at hz
   have k2:=hg.symm.trans k2
   have htt:t2=τ':=congrArg Sigma.fst k2
   subst htt
   have hyy:=eq_of_heq (Sigma.mk.inj k2).2
   subst hyy
   obtain ⟨v,hrun,hvok⟩:=run_part (P:=P) (w:=w) (cs:=cs) (off:=k) h3 k1 (fun c hc=>g4 c (k4 c hc)) (by rw [hcs];exact h4)
   have h1':fs[f]?=some fl:=by simpa using h1
   refine Does.set hd hN (v:=v) ?_ h (av:=.val t2 y2) hvok hz
   have hk:fl.offset=k:=by omega
   simp only [execOp,ho,Instr.field,hv]
   simp [run_underlying hu,h1',asAgg,hk,hrun]
  ·cases hz
 ·cases hz
theorem does_index {o:Oper} {t:TypeId} {x i:Operand} {d:Nat} {cx:Cx} {q:Bool} {K:AE→Rs ρ} {z:ρ} (hcx:CxTy P cx) (ho:o.op=.index t x i) (hd:o.dst=some d)
  (h:Rel B Γ N (tmOf a) w σ) (hN:a.tmps.size=N) (hf:fits N o=true) (hz:aop cx q o Γ K=some z):Does P B N o a w K z:=by
 have hops:∀ y∈(o.op.operands.toList),opdOk N y=true:=fits_op hf
 rw [ho] at hops
 have hx:=h.opd (hops x (by simp [Op.operands]))
 have hi:=h.opd (hops i (by simp [Op.operands]))
 have run:∀ v,(Instr.index t (a.eval x) (a.eval i)).run P w=.ok v w→(execOp a.eval o).run P w=.ok (.value v) w:=fun v hv=>by simp [execOp,ho,hv]
 simp only [aop,ho,hd] at hz
 split at hz
 ·rename_i n e l k j hxe hie
  rw [hxe] at hx
  rw [hie] at hi
  have hiv:=AVOk.int hi
  rw [hiv] at run
  split at hz
  ·rename_i hT
   obtain ⟨hsh,hty⟩:=hcx.T t _ hT
   obtain ⟨t',hu,hte,-⟩:=tyOk_arr hty
   obtain ⟨I⟩:=baseOk_info (tyOk_base hte)
   obtain ⟨y,hg,hz⟩:=Option.bind_eq_some_iff.1 hz
   obtain ⟨h0,h1,h2⟩:=gidx_some hg
   obtain ⟨g1,g2,R,g3,g4⟩:=hx
   obtain ⟨cs,hv,hcs⟩:=g1 rfl
   rw [hv] at g3
   have g3:collect (fun i=>dec (memo w σ.ov) e fun j=>cs[i*e.cells+j]?) n 0=some (l,[],R):=g3
   have hlen:=collect_length n 0 g3
   obtain ⟨y',o',r',A,B',A',B'',hf',hy,e1,e2⟩:=collect_at n 0 j.toNat g3 (by omega)
   rw [h2] at hy
   simp only [sj] at hy
   subst hy
   have ho':o'=[]:=by
    have:=congrArg List.length e1
    simp at this
    exact List.length_eq_zero_iff.1 (by omega)
   subst ho'
   simp only [Nat.zero_add] at hf'
   have hsz:j.toNat*e.cells+e.cells≤cs.size:=by
    rw [hcs]
    simp only [Ty.cells]
    rw [←Nat.succ_mul]
    exact Nat.mul_le_mul_right _ (by omega)
   obtain ⟨v,hrun,hvok⟩:=run_part (P:=P) (w:=w) (cs:=cs) hte hf' (fun c hc=>g4 c (by rw [e2];simp [hc])) hsz
   have hc:0≤j∧j<(n:Int):=⟨h0,by omega⟩
   refine Does.set hd hN (v:=v) (run _ ?_) h (av:=.val e y) hvok hz
   rw [hv]
   simp [Instr.index,asIntOf,run_underlying hu,hc,I.sizeOf,hrun]
  ·cases hz
 ·rename_i l k j hxe hie
  rw [hxe] at hx
  rw [hie] at hi
  have hiv:=AVOk.int hi
  rw [hiv] at run
  split at hz
  ·rename_i hT
   have hty:=(hcx.T t _ hT).2
   have hu:P.underlying t=some .string:=by
    simp only [tyOk,Bool.and_eq_true] at hty
    obtain ⟨-,hty⟩:=hty
    split at hty
    ·assumption
    ·cases hty
   obtain ⟨y,hg,hz⟩:=Option.bind_eq_some_iff.1 hz
   obtain ⟨h0,h1,h2⟩:=gidx_some hg
   obtain ⟨s,hv,hl⟩:=AVOk.str hx
   rw [hl,List.getElem?_map] at h2
   cases hb:s.data.toList[j.toNat]? with
   |none=>rw [hb] at h2;cases h2
   |some b=>
    rw [hb] at h2
    simp only [Option.map_some,sj] at h2
    have hs:s[j.toNat]?=some b:=by
     have hlt:j.toNat<s.data.toList.length:=(List.getElem?_eq_some_iff.1 hb).1
     have hlt':j.toNat<s.size:=by simpa using hlt
     rw [getElem?_pos s j.toNat hlt']
     have:=(List.getElem?_eq_some_iff.1 hb).2
     rw [←this];rfl
    refine Does.set hd hN (v:=.int .u8 b.toNat) (run _ ?_) h (av:=.val (.int .u8) y) (by rw [←h2];exact AVOk.mk_int _) hz
    rw [hv]
    simp [Instr.index,asIntOf,run_underlying hu,h0,hs]
  ·cases hz
 ·cases hz
theorem mins_some {f:Int→Int→Int} {g:Value→Value→Sem Value} {k:IntKind} (hg:∀ x y w,(g (.int k x) (.int k y)).run P w=.ok (.int k (f x y)) w):
  ∀ (l:List Operand) (x:Int) {K:AV→Rs ρ} {z:ρ},Rel B Γ N (tmOf a) w σ→(∀ y∈l,opdOk N y=true)→AE.mins f k (l.map Γ.opd) x K=some z→
   ∃ r,K (.val (.int k) r)=some z∧((l.map a.eval).foldlM g (.int k x)).run P w=.ok (.int k r) w
 | [],x,K,z,h,hl,hz=>⟨x,hz,rfl⟩
 |y::l,x,K,z,h,hl,hz=>by
  simp only [List.map_cons] at hz
  unfold AE.mins at hz
  split at hz
  ·rename_i he;cases he
  ·rename_i x k' y' l' he
   simp only [List.cons.injEq] at he
   obtain ⟨he,rfl⟩:=he
   split at hz
   ·rename_i hk
    subst hk
    have hy:=h.opd (hl y (by simp))
    rw [he] at hy
    have hv:=AVOk.int hy
    obtain ⟨r,h1,h2⟩:=mins_some hg l _ h (fun u hu=>hl u (by simp [hu])) hz
    refine ⟨r,h1,?_⟩
    have h3:=fun z=>hg z y' w
    simp only [List.map_cons,List.foldlM_cons,hv,Sem.run_bind,h3]
    exact h2
   ·cases hz
  ·cases hz
theorem lenK_some {t:TypeId} {x:Operand} {cx:Cx} {K:Nat→Rs ρ} {z:ρ} (hcx:CxTy P cx) (h:Rel B Γ N (tmOf a) w σ) (hx:opdOk N x=true) (hz:Γ.lenK (cx.T t) (Γ.opd x) K=some z) (ty:TypeId):
  ∃ n,K n=some z∧(Builtin.len_ #[t] ty #[a.eval x]).run P w=.ok (.int .i64 (n:Int)) w:=by
 have hx:=h.opd hx
 have hsl:∀ o e,cx.T t=some (.list o e)→∀ A n c,a.eval x=.slice A n c→(Builtin.len_ #[t] ty #[a.eval x]).run P w=.ok (.int .i64 (n:Int)) w:=by
  intro o e hT A n c hv
  obtain ⟨hsh,hty⟩:=hcx.T t _ hT
  obtain ⟨t',hu,hte,-⟩:=tyOk_elem hty
  rw [hv]
  simp [Builtin.len_,run_underlying hu,goInt]
 unfold AE.lenK at hz
 split at hz
 ·rename_i o e o' e' l hT he
  rw [he] at hx
  obtain ⟨R,h1,h2⟩:=VOk.rd (t:=.list o' e') hx rfl rfl
  have h1:decL (memo w σ.ov) o' e'.cells (dec (memo w σ.ov) e') (some (a.eval x))=some (l,[],R):=h1
  unfold decL at h1
  split at h1
  ·rename_i n c hv
   simp only [sj] at hv
   split at h1
   ·rename_i hc
    have e1:([]:List e'.den)=l:=congrArg (·.1) (Option.some.inj h1)
    refine ⟨_,hz,?_⟩
    rw [←e1]
    have:=hsl _ _ hT _ _ _ hv
    rw [hc.1] at this
    exact this
   ·cases h1
  ·rename_i A n c hv
   simp only [sj] at hv
   split at h1
   ·split at h1
    ·cases h1
    ·rename_i xs os rs h3
     have hn:=collect_length n 0 h3
     have hxl:l=xs:=by
      split at h1
      ·split at h1
       ·exact (congrArg (·.1) (Option.some.inj h1)).symm
       ·exact (congrArg (·.1) (Option.some.inj h1)).symm
      ·split at h1
       ·exact (congrArg (·.1) (Option.some.inj h1)).symm
       ·exact (congrArg (·.1) (Option.some.inj h1)).symm
     refine ⟨_,hz,?_⟩
     rw [hxl,hn]
     exact hsl _ _ hT _ _ _ hv
   ·cases h1
  ·cases h1
 ·rename_i n e n' e' l hT he
  obtain ⟨hsh,hty⟩:=hcx.T t _ hT
  obtain ⟨t',hu,hte,-⟩:=tyOk_arr hty
  exact ⟨n,hz,by simp [Builtin.len_,run_underlying hu,goInt]⟩
 ·rename_i l hT he
  rw [he] at hx
  obtain ⟨s,hv,hl⟩:=AVOk.str hx
  have hty:=(hcx.T t _ hT).2
  have hu:P.underlying t=some .string:=by
   simp only [tyOk,Bool.and_eq_true] at hty
   obtain ⟨-,hty⟩:=hty
   split at hty
   ·assumption
   ·cases hty
  refine ⟨_,hz,?_⟩
  rw [hv,hl]
  simp [Builtin.len_,run_underlying hu,goInt]
 ·rename_i hT he
  rw [he] at hx
  exact ⟨0,hz,hsl _ _ hT _ _ _ hx⟩
 ·rename_i hT he
  rw [he] at hx
  obtain ⟨A,hv,-⟩:=hx
  exact ⟨0,hz,hsl _ _ hT _ _ _ hv⟩
 ·rename_i n p hT he
  rw [he] at hx
  split at hz
  ·rename_i r hr
   split at hz
   ·rename_i e' l hg
    obtain ⟨s,A,c,-,-,hv,-⟩:=h.sref_head hx (look_some hr).2 hg
    exact ⟨_,hz,hsl _ _ hT _ _ _ hv⟩
   ·cases hz
  ·cases hz
 ·rename_i n p off k hT he
  rw [he] at hx
  obtain ⟨r,e,s,a0,l0,c0,h1,h2,h3,h4,a',hv,hA,-⟩:=hx
  exact ⟨k,hz,hsl _ _ hT _ _ _ hv⟩
 ·cases hz
end
end Go.Ab
namespace Go.Ab
theorem Rel.ov_lt {B Γ N tm w σ} (h:Rel B Γ N tm w σ) {b o v} (hov:σ.ov=some (b,o,v)):b<w.heap.size:=by
 have hp:=h.pend
 rw [hov] at hp
 cases hpd:Γ.pd with
 |none=>rw [hpd] at hp;exact hp.elim
 |some x=>
  obtain ⟨n,p,d⟩:=x
  rw [hpd] at hp
  obtain ⟨r,e,hr,hl⟩:=hp
  rw [←hov] at hl
  exact h.lt ⟨n,h.place hr hl⟩
theorem Rel.memo_new {B Γ N tm w σ} (h:Rel B Γ N tm w σ) {w':World} {cs:Array Value} {e fr} (hnew:w'.heap[w.heap.size]?=some (.cells cs e fr)) (j:Nat):memo w' σ.ov w.heap.size j=cs[j]?:=by
 have hc:w'.cell? ⟨w.heap.size,j,none⟩=cs[j]?:=by simp only [World.cell?,hnew];simp
 unfold memo
 split
 ·rename_i b o v hov
  have:=h.ov_lt hov
  rw [if_neg (by omega),hc]
 ·exact hc
theorem Rel.memo_old {B Γ N tm w σ} (_:Rel B Γ N tm w σ) {w':World} (hext:∀ c,c<w.heap.size→w'.heap[c]?=w.heap[c]?) {c j:Nat} (hc:c<w.heap.size):memo w' σ.ov c j=memo w σ.ov c j:=
 memo_heap _ (hext c hc) j
theorem Rel.newBox {ρ:Type} {B Γ N tm w σ} {q:Bool} {n:Nat} {t:Ty} {x:t.den} {K:AE→Rs ρ} {z:ρ} (h:Rel B Γ N tm w σ) (hz:Γ.fresh q n ⟨true,t,x⟩ K=some z) {w':World}
  (hext:∀ c,c<w.heap.size→w'.heap[c]?=w.heap[c]?) (hsz:w.heap.size≤w'.heap.size) {cs:Array Value} {e:TypeId} (hnew:w'.heap[w.heap.size]?=some (.cells cs e (0,0))) (hcs:cs.size=t.cells) {R}
  (hx:dec (memo w σ.ov) t (fun j=>cs[j]?)=some (x,[],R)) (hR:∀ c∈R,Shr B w σ c) (hio:ioOf w'=ioOf w:=by first|rfl|assumption):
  ∃ Γ' σ',K Γ'=some z∧Rel B Γ' N tm w' σ'∧AVOk (memo w' σ'.ov) σ'.g Γ'.rt (Shr B w' σ') (.ptr n []) (.pointer (some ⟨w.heap.size,0,none⟩)):=by
 have hd:dec (memo w' σ.ov) t ((Src.at w.heap.size 0).rd (memo w' σ.ov))=some (x,[],R):=dec_frame t hx (fun j _=>by simp only [Src.rd,Nat.zero_add];exact h.memo_new hnew j)
  (fun b j hb=>by
   rcases hb with hb|hb
   ·simp at hb
   ·exact h.memo_old hext (hR b hb).1)
 obtain ⟨Γ',σ',g1,g2,g3,g4,g5,g6⟩:=h.fresh hz hext hsz (s:=.at w.heap.size 0) (O:=[(w.heap.size,t.cells)]) (by simp) (by simp)
  (by simp only [List.mem_singleton,forall_eq];exact ⟨cs,e,0,0,hnew,by omega,.inl rfl⟩) ⟨[],R,hd,hR,.inl ⟨rfl,_,rfl,rfl⟩⟩
 exact ⟨Γ',σ',g1,g2,_,t,w.heap.size,0,g3,by rw [g4];rfl,rfl⟩
theorem Rel.newSlice {ρ:Type} {B Γ N tm w σ} {q:Bool} {n:Nat} {e:Ty} {l:List e.den} {K:AE→Rs ρ} {z:ρ} (h:Rel B Γ N tm w σ) (hz:Γ.fresh q n ⟨false,.list true e,l⟩ K=some z) {w':World}
  (hext:∀ c,c<w.heap.size→w'.heap[c]?=w.heap[c]?) (hsz:w.heap.size≤w'.heap.size) {cs:Array Value} {t:TypeId} {fr} (hnew:w'.heap[w.heap.size]?=some (.cells cs t fr)) {c:Nat} (hfr:fr.2=fr.1∨c*e.cells≤fr.1) (hcs:c*e.cells≤cs.size) (hlc:l.length≤c) {R}
  (hx:collect (fun i=>dec (memo w σ.ov) e fun j=>cs[i*e.cells+j]?) l.length 0=some (l,[],R)) (hR:∀ c∈R,Shr B w σ c) (hio:ioOf w'=ioOf w:=by first|rfl|assumption):
  ∃ Γ' σ',K Γ'=some z∧Rel B Γ' N tm w' σ'∧AVOk (memo w' σ'.ov) σ'.g Γ'.rt (Shr B w' σ') (.sref n []) (.slice (some ⟨w.heap.size,0,none⟩) l.length c)∧σ'.ov=σ.ov∧Γ'=Γ.newRt n ⟨false,.list true e,l⟩:=by
 have hx':collect (fun i=>dec (memo w' σ.ov) e fun j=>memo w' σ.ov w.heap.size (0+(i*e.cells+j))) l.length 0=some (l,[],R):=by
  have h1:dec (memo w σ.ov) (.arr l.length e) (fun j=>cs[j]?)=some (l,[],R):=hx
  refine dec_frame (.arr l.length e) h1 (rd':=fun j=>memo w' σ.ov w.heap.size (0+j)) (fun j _=>?_) (fun b j hb=>?_)
  ·show memo w' σ.ov w.heap.size (0+j)=_
   rw [Nat.zero_add];exact h.memo_new hnew j
  ·rcases hb with hb|hb
   ·simp at hb
   ·exact h.memo_old hext (hR b hb).1
 have hfree:Free w' w.heap.size (c*e.cells):=⟨cs,t,fr.1,fr.2,hnew,hcs,hfr⟩
 let O:Owns:=if c=0 then [] else [(w.heap.size,0+c*e.cells)]
 have hO:∀ p∈O,p=(w.heap.size,0+c*e.cells):=by
  intro p hp
  simp only [O] at hp
  split at hp
  ·cases hp
  ·simpa using hp
 have hd:dec (memo w' σ.ov) (.list true e) ((Src.one (.slice (some ⟨w.heap.size,0,none⟩) l.length c)).rd (memo w' σ.ov))=some (l,O,R):=by
  show decL (memo w' σ.ov) true e.cells (dec (memo w' σ.ov) e) (some (.slice (some ⟨w.heap.size,0,none⟩) l.length c))=_
  simp only [decL]
  rw [if_pos ⟨trivial,hlc⟩,hx']
  simp only [if_true,O]
  split<;>rfl
 obtain ⟨Γ',σ',g1,g2,g3,g4,g5,g6⟩:=h.fresh hz hext hsz (s:=.one (.slice (some ⟨w.heap.size,0,none⟩) l.length c)) (O:=O) (by
   intro b hb
   obtain ⟨p,hp,rfl⟩:=List.mem_map.1 hb
   rw [hO p hp];exact Nat.le_refl _) (by simp only [O];split<;>simp)
  (fun p hp=>by rw [hO p hp];simpa using hfree) ⟨O,R,hd,hR,.inr ⟨rfl,⟨_,rfl⟩,⟨e,rfl⟩,rfl⟩⟩
 exact ⟨Γ',σ',g1,g2,⟨_,e,_,g3,by rw [g4];rfl,rfl⟩,g5,g6⟩
theorem own_some {P:Program} {cx:Cx} {d t:Nat} {τ:Ty} (hcx:CxTy P cx) (h:cx.own d t=some τ):tyOk P τ (.inl t)=true:=by
 unfold Cx.own at h
 split at h
 ·split at h
  ·rename_i hT
   simp only [sj] at h
   subst h
   rw [←tyOk_sh]
   exact (hcx.T t _ hT).2
  ·cases h
 ·exact (hcx.T t _ h).2
theorem made_dec {m:Mem} {e:Ty} {z:Array Value} (hz:zeroR e (fun j=>z[j]?)=true) (hs:z.size=e.cells) (n:Nat):collect (fun i=>dec m e fun j=>(madeCells z (n*e.cells))[i*e.cells+j]?) n 0=some (List.replicate n e.dflt,[],[]):=by
 refine collect_all n 0 fun i _ hi=>dec_frame e (zeroR_dec (m:=m) e hz) (fun j hj=>?_) (fun _ _ _=>rfl)
 have hlt:i*e.cells+j<n*e.cells:=by
  have:(i+1)*e.cells≤n*e.cells:=Nat.mul_le_mul_right _ (by omega)
  rw [Nat.succ_mul] at this
  omega
 have hm:(i*e.cells+j)%e.cells=j:=by rw [Nat.mul_comm,Nat.mul_add_mod,Nat.mod_eq_of_lt hj]
 have hj':j<z.size:=by omega
 simp only [madeCells,Array.getElem?_map,Array.getElem?_range,if_pos hlt,Option.map_some,hs,hm]
 rw [getElem!_pos z j hj',Array.getElem?_eq_getElem hj']
section
variable {P:Program} {B:Base} {N:Nat} {ρ:Type} {Γ:AE} {a:Act} {w:World} {σ:Gh}
theorem heap_alloc_old (o:Obj) (c:Nat) (h:c<w.heap.size):(w.alloc o).heap[c]?=w.heap[c]?:=heap_push w o c h
theorem heap_alloc_new (o:Obj):(w.alloc o).heap[w.heap.size]?=some o:=by
 show (w.heap.push o)[w.heap.size]?=_
 simp
theorem size_alloc_le (o:Obj):w.heap.size≤(w.alloc o).heap.size:=by
 show w.heap.size≤(w.heap.push o).size
 simp
theorem Does.sets {o:Oper} {K:AE→Rs ρ} {z:ρ} {d:Nat} {v:Value} {w':World} {av:AV} (hd:o.dst=some d) (hN:a.tmps.size=N) (hrun:(execOp a.eval o).run P w=.ok (.value v) w')
  (h:∃ Γ' σ',K (Γ'.set d av)=some z∧Rel B Γ' N (tmOf a) w' σ'∧AVOk (memo w' σ'.ov) σ'.g Γ'.rt (Shr B w' σ') av v):Does P B N o a w K z:=by
 obtain ⟨Γ',σ',h1,h2,h3⟩:=h
 exact Does.set hd hN hrun h2 h3 h1
theorem does_alloc {o:Oper} {t:TypeId} {d:Nat} {cx:Cx} {q:Bool} {K:AE→Rs ρ} {z:ρ} (hcx:CxTy P cx) (ho:o.op=.alloc t) (hd:o.dst=some d)
  (h:Rel B Γ N (tmOf a) w σ) (hN:a.tmps.size=N) (hz:aop cx q o Γ K=some z):Does P B N o a w K z:=by
 simp only [aop,ho,hd] at hz
 split at hz
 ·rename_i τ hT
  have hty:=own_some hcx hT
  obtain ⟨I⟩:=baseOk_info (tyOk_base hty)
  have hrun:(execOp a.eval o).run P w=.ok (.value (.pointer (some ⟨w.heap.size,0,none⟩))) (w.alloc (.cells I.z.cells t)):=by
   simp [execOp,ho,Instr.alloc,I.zeroValue,newVar,newRow]
  exact Does.sets hd hN hrun (h.newBox hz (fun c hc=>heap_alloc_old _ c hc) (size_alloc_le _) (heap_alloc_new _) I.zsize (zeroR_dec _ I.zok) (by simp))
 ·cases hz
theorem does_box {o:Oper} {t:TypeId} {x:Operand} {d:Nat} {cx:Cx} {q:Bool} {K:AE→Rs ρ} {z:ρ} (ho:o.op=.box t x) (hd:o.dst=some d) (hag:(bif q then none else Γ.aggOf x)=none)
  (h:Rel B Γ N (tmOf a) w σ) (hN:a.tmps.size=N) (hf:fits N o=true) (hz:aop cx q o Γ K=some z):Does P B N o a w K z:=by
 have hx:=h.opd (fits_op hf x (by simp [ho,Op.operands]))
 simp only [aop,ho,hd,hag] at hz
 split at hz
 ·rename_i τ hT
  obtain ⟨y,Γ1,σ1,hz,h1,hv,-,-⟩:=h.asV (.inl hx) hz
  have hrun:(execOp a.eval o).run P w=.ok (.value (.pointer (some ⟨w.heap.size,0,none⟩))) (w.alloc (.cells (a.eval x).cells t)):=by
   simp [execOp,ho,Instr.box,newVar,newRow]
  obtain ⟨-,-,R,h3,h4⟩:=id hv
  split at hz
  ·
   have hnew:=heap_alloc_new (w:=w) (.cells (a.eval x).cells t)
   have hext:∀ c,c<w.heap.size→(w.alloc (.cells (a.eval x).cells t)).heap[c]?=w.heap[c]?:=fun c hc=>heap_alloc_old _ c hc
   have hsz:=size_alloc_le (w:=w) (.cells (a.eval x).cells t)
   have hlt:w.heap.size<(w.alloc (.cells (a.eval x).cells t)).heap.size:=by show w.heap.size<(w.heap.push _).size;rw [Array.size_push];omega
   have h2:=h1.ext hext hsz
   have hdec:dec (memo (w.alloc (.cells (a.eval x).cells t)) σ1.ov) τ ((Src.at w.heap.size 0).rd (memo (w.alloc (.cells (a.eval x).cells t)) σ1.ov))=some (y,[],R):=
    dec_frame τ h3 (fun j _=>by simp only [Src.rd,Nat.zero_add];exact h1.memo_new hnew j) (fun b j hb=>by
     rcases hb with hb|hb
     ·simp at hb
     ·exact h1.memo_old hext (h4 b hb).1)
   have hSh:∀ c,Shr B w σ1 c→Shr B (w.alloc (.cells (a.eval x).cells t)) σ1 c:=fun c hc=>⟨Nat.lt_of_lt_of_le hc.1 hsz,hc.2⟩
   exact Does.set hd hN hrun h2 (av:=.vptr τ y) ⟨w.heap.size,0,R,rfl,hdec,⟨hlt,.inr (.inr h1.size),fun g=>by have:=h1.lt g;omega⟩,fun c hc=>hSh c (h4 c hc)⟩ hz
  exact Does.sets hd hN hrun (h1.newBox hz (fun c hc=>heap_alloc_old _ c hc) (size_alloc_le _) (heap_alloc_new _) hv.cells.1 h3 h4)
 ·cases hz
theorem isVal_some {av:AV} {t:Ty} {K:t.den→Rs ρ} {z:ρ} (h:av.isVal t K=some z):∃ x,av=.val t x∧K x=some z:=by
 cases av with
 |val t' x=>
  simp only [AV.isVal] at h
  split at h
  ·rename_i e;subst e;exact ⟨x,rfl,h⟩
  ·cases h
 |_=>cases h
theorem isInt_some {av:AV} {k:IntKind} {K:Int→Rs ρ} {z:ρ} (h:av.isVal (.int k) K=some z):∃ x:Int,av=.val (.int k) x∧K x=some z:=isVal_some h
theorem does_makeSlice {o:Oper} {t:TypeId} {x y:Operand} {d:Nat} {cx:Cx} {q:Bool} {K:AE→Rs ρ} {z:ρ} (hcx:CxTy P cx) (ho:o.op=.makeSlice t x y) (hd:o.dst=some d)
  (h:Rel B Γ N (tmOf a) w σ) (hN:a.tmps.size=N) (hf:fits N o=true) (hz:aop cx q o Γ K=some z):Does P B N o a w K z:=by
 have hx:=h.opd (fits_op hf x (by simp [ho,Op.operands]))
 have hy:=h.opd (fits_op hf y (by simp [ho,Op.operands]))
 simp only [aop,ho,hd] at hz
 split at hz
 ·rename_i o' e hT
  obtain ⟨l,hxv,hz⟩:=isInt_some hz
  obtain ⟨c,hyv,hz⟩:=isInt_some hz
  rw [hxv] at hx
  rw [hyv] at hy
  rcases bif_some hz with ⟨hc,hz⟩|⟨-,hz⟩
  ·simp only [Bool.and_eq_true,decide_eq_true_eq,lim] at hc
   obtain ⟨c1,c2,c3⟩:=hc
   have hty:=own_some hcx hT
   obtain ⟨t',hu,hte,hpos⟩:=tyOk_elem hty
   obtain ⟨I⟩:=baseOk_info (tyOk_base hte)
   have hrun:=run_make (P:=P) w t t' I.i I.z hu I.info I.zero .i64 .i64 l c c1 c2 (by
    have:=I.bytes
    have h1:((I.i.bytes*c.toNat:Nat):Int)≤((32768*2147483648:Nat):Int):=Int.ofNat_le.2 (Nat.mul_le_mul this (by omega))
    have h2:((c.toNat:Nat):Int)=c:=Int.toNat_of_nonneg (by omega)
    rw [Int.natCast_mul,h2] at h1
    have h3:((32768*2147483648:Nat):Int)=70368744177664:=by decide
    rw [h3] at h1
    exact Int.le_trans h1 (by decide)) (by omega)
   rw [I.size] at hrun
   have hrun':(execOp a.eval o).run P w=.ok (.value (.slice (some ⟨w.heap.size,0,none⟩) l.toNat c.toNat)) (w.alloc (.cells (madeCells I.z.cells (c.toNat*e.cells)) t')):=by
    simp only [execOp,ho,AVOk.int hx,AVOk.int hy,Sem.run_bind]
    erw [hrun];rfl
   have hmd:=made_dec (m:=memo w σ.ov) I.zok I.zsize c.toNat
   obtain ⟨Γ',σ',g1,g2,g3,-,-⟩:=h.newSlice (c:=c.toNat) hz (fun c hc=>heap_alloc_old _ c hc) (size_alloc_le _) (heap_alloc_new (Obj.cells (madeCells I.z.cells (c.toNat*e.cells)) t')) (.inl rfl) (by rw [size_madeCells];exact Nat.le_refl _)
    (by rw [List.length_replicate];omega) (R:=[]) (by
     rw [List.length_replicate]
     refine collect_all _ 0 fun i _ hi=>?_
     obtain ⟨x',o',r',A,B',A',B'',k1,k2,k3,k4⟩:=collect_at _ 0 i hmd (by omega)
     rw [Nat.zero_add] at k1
     rw [k1]
     rw [List.getElem?_replicate,if_pos (by omega)] at k2
     simp only [sj] at k2
     subst k2
     have e1:o'=[]:=by
      have:=congrArg List.length k3
      simp at this
      exact List.length_eq_zero_iff.1 (by omega)
     have e2:r'=[]:=by
      have:=congrArg List.length k4
      simp at this
      exact List.length_eq_zero_iff.1 (by omega)
     rw [e1,e2]) (by simp)
   rw [List.length_replicate] at g3
   exact Does.set hd hN hrun' g2 g3 g1
  ·cases hz
 ·cases hz
theorem fold_cells (off:Nat) (l:List Value) (i:Nat) (cs:Array Value):((l.zipIdx i).foldl (fun cs (c:Value×Nat)=>cs.setIfInBounds (off+c.2) c.1) cs).size=cs.size∧
  ∀ k,((l.zipIdx i).foldl (fun cs (c:Value×Nat)=>cs.setIfInBounds (off+c.2) c.1) cs)[k]?=if off+i≤k∧k<off+i+l.length∧k<cs.size then l[k-(off+i)]? else cs[k]?:=by
 induction l generalizing i cs with
 |nil=>exact ⟨rfl,fun k=>by rw [if_neg (by simp only [List.length_nil];omega)];rfl⟩
 |cons v l ih=>
  obtain ⟨h1,h2⟩:=ih (i+1) (cs.setIfInBounds (off+i) v)
  refine ⟨by simpa using h1,fun k=>?_⟩
  simp only [List.zipIdx_cons,List.foldl_cons]
  rw [h2]
  simp only [Array.size_setIfInBounds,List.length_cons,Array.getElem?_setIfInBounds]
  by_cases hk:off+i=k
  ·subst hk
   rw [if_neg (by omega),if_pos rfl]
   by_cases hs:off+i<cs.size
   ·rw [if_pos hs,if_pos ⟨Nat.le_refl _,by omega,hs⟩];simp
   ·rw [if_neg hs,if_neg (by omega)]
    simp;omega
  ·rw [if_neg hk]
   by_cases hs:off+(i+1)≤k∧k<off+(i+1)+l.length∧k<cs.size
   ·rw [if_pos hs,if_pos (by omega),show k-(off+i)=(k-(off+(i+1)))+1 from by omega,List.getElem?_cons_succ]
   ·rw [if_neg hs,if_neg (by omega)]
end
end Go.Ab
namespace Go.Ab
def Places (t:Ty) (place:Nat→Option (Nat×Nat)):Prop:=∀ i,AE.pathOk t i=true→∃ τ' k,place i=some (k,τ'.cells)∧k+τ'.cells≤t.cells∧∀ (m:Mem) b o,loc m t (.at b o) (AE.pathOf t i)=some (τ',.at b (o+k))
theorem places_arr (n:Nat) (e:Ty):Places (.arr n e) fun i=>some (i*e.cells,e.cells):=by
 intro i hi
 simp only [AE.pathOk,decide_eq_true_eq] at hi
 refine ⟨e,i*e.cells,rfl,?_,fun m b o=>?_⟩
 ·have:(i+1)*e.cells≤n*e.cells:=Nat.mul_le_mul_right _ (by omega)
  rw [Nat.succ_mul] at this
  exact this
 ·show (if i<n then locQ m [] e (.at b (o+i*e.cells)) else none)=_
  rw [if_pos hi];rfl
theorem part_laid {m:Mem} {Sh:Nat→Prop} {sz:Nat} (hSh:∀ c,Sh c→c<sz) {t τ':Ty} {cs:Array Value} {x:t.den} {R i k} (hd:dec m t (fun j=>cs[j]?)=some (x,[],R)) (hR:∀ c∈R,Sh c)
  (hl:∀ (m:Mem) b o,loc m t (.at b o) (AE.pathOf t i)=some (τ',.at b (o+k))) (hk:k+τ'.cells≤cs.size) {y:τ'.den} {v:Value} (hv:VOk m Sh τ' y v):
  ∃ R',dec m t (fun j=>(v.cells.zipIdx.foldl (fun cs (c,j)=>cs.setIfInBounds (k+j) c) cs)[j]?)=some (setP t x (AE.pathOf t i) τ' y,[],R')∧∀ c∈R',Sh c:=by
 obtain ⟨hvs,-⟩:=hv.cells
 obtain ⟨-,-,R2,hv3,hv4⟩:=hv
 have hfold:v.cells.zipIdx.foldl (fun cs (c,j)=>cs.setIfInBounds (k+j) c) cs=(v.cells.toList.zipIdx 0).foldl (fun cs (c:Value×Nat)=>cs.setIfInBounds (k+c.2) c.1) cs:=by
  rw [←Array.foldl_toList];simp
 obtain ⟨-,hcell⟩:=fold_cells k v.cells.toList 0 cs
 rw [hfold]
 generalize (v.cells.toList.zipIdx 0).foldl (fun cs (c:Value×Nat)=>cs.setIfInBounds (k+c.2) c.1) cs=cs' at hcell
 let m0:Mem:=fun c j=>if c=sz then cs[j]? else m c j
 let m1:Mem:=fun c j=>if c=sz then cs'[j]? else m c j
 have hne:∀ c,Sh c→c≠sz:=fun c hc e=>by have:=hSh c hc;omega
 have hm0:∀ c j,Sh c→m0 c j=m c j:=fun c j hc=>by simp only [m0];rw [if_neg (hne c hc)]
 have hm1:∀ c j,Sh c→m1 c j=m c j:=fun c j hc=>by simp only [m1];rw [if_neg (hne c hc)]
 have h0:dec m0 t ((Src.at sz 0).rd m0)=some (x,[],R):=dec_frame t hd (fun j _=>by simp [Src.rd,m0]) (fun b j hb=>by
  rcases hb with hb|hb
  ·simp at hb
  ·exact hm0 b j (hR b hb))
 have hl0:=hl m0 sz 0
 obtain ⟨y0,O1,R1,A1,B1,A1',B1',hd1,-,e1,-⟩:=dec_loc _ t _ h0 hl0
 have hO1:O1=[]:=by
  have:=congrArg List.length e1
  simp at this
  exact List.length_eq_zero_iff.1 (by omega)
 subst hO1
 have h1:dec m1 τ' ((Src.at sz (0+k)).rd m1)=some (y,[],R2):=dec_frame τ' hv3 (fun j hj=>by
   simp only [Src.rd,m1,if_true,Nat.zero_add,hcell,Nat.add_zero]
   rw [if_pos ⟨by omega,by simp;omega,by omega⟩,Nat.add_sub_cancel_left];simp) (fun b j hb=>by
  rcases hb with hb|hb
  ·simp at hb
  ·exact hm1 b j (hv4 b hb))
 have hsep:Sep (Src.at sz 0) [] R:=⟨by simp,by simp,fun c hc=>⟨by simp,fun e=>hne c (hR c hc) e⟩⟩
 have hchg:Chg m0 m1 (Src.at sz 0) [] R sz (0+k) τ'.cells []:=fun c j=>by
  by_cases hc:c=sz
  ·by_cases hj:k≤j∧j<k+τ'.cells
   ·exact .inr (.inl ⟨hc,by omega,by omega⟩)
   ·refine .inl ?_
    simp only [m0,m1,if_pos hc,hcell]
    rw [if_neg (by simp only [Array.length_toList];omega)]
  ·exact .inl (by simp only [m0,m1,if_neg hc])
 obtain ⟨A,B',R3,e3,h7,h8⟩:=repl _ t _ h0 hl0 hd1 h1 hsep hchg
 have hAB:A=[]∧B'=[]:=by
  have:=congrArg List.length e3
  simp at this
  exact ⟨List.length_eq_zero_iff.1 (by omega),List.length_eq_zero_iff.1 (by omega)⟩
 rw [hAB.1,hAB.2] at h7
 have hR3:∀ c∈R3,Sh c:=fun c hc=>(h8 c hc).elim (hR c) (hv4 c)
 exact ⟨R3,dec_frame t h7 (fun j _=>by simp [Src.rd,m1]) (fun b j hb=>by
  rcases hb with hb|hb
  ·simp at hb
  ·exact (hm1 b j (hR3 b hb)).symm),hR3⟩
section
variable {P:Program} {B:Base} {N:Nat} {ρ:Type} {Γ:AE} {a:Act} {w:World} {σ:Gh}
theorem fills_some {q:Bool} {t:Ty} {place:Nat→Option (Nat×Nat)} (hp:Places t place):∀ (l:List (Nat×Operand)) {Γ:AE} {σ:Gh} {x:t.den} {cs:Array Value} {R} {K:t.den→AE→Rs ρ} {z:ρ},Rel B Γ N (tmOf a) w σ→
  (∀ y∈l,opdOk N y.2=true)→cs.size=t.cells→dec (memo w σ.ov) t (fun j=>cs[j]?)=some (x,[],R)→(∀ c∈R,Shr B w σ c)→Γ.fills q t l x K=some z→
  ∃ y cs' Γ' σ' R',K y Γ'=some z∧Rel B Γ' N (tmOf a) w σ'∧Instr.fill place cs (l.map fun (i,x)=>(i,a.eval x))=some cs'∧cs'.size=t.cells∧dec (memo w σ'.ov) t (fun j=>cs'[j]?)=some (y,[],R')∧(∀ c∈R',Shr B w σ' c)
 | [],Γ,σ,x,cs,R,K,z,h,_,hs,hd,hR,hz=>⟨x,cs,Γ,σ,R,hz,h,rfl,hs,hd,hR⟩
 |(i,o)::l,Γ,σ,x,cs,R,K,z,h,hl,hs,hd,hR,hz=>by
  unfold AE.fills at hz
  rcases bif_some hz with ⟨hi,hz⟩|⟨-,hz⟩
  ·obtain ⟨τ',k,h1,h2,h3⟩:=hp i hi
   have hg:(getP t x (AE.pathOf t i)).1=τ':=by
    have h0:dec (fun c j=>if c=w.heap.size then cs[j]? else memo w σ.ov c j) t ((Src.at w.heap.size 0).rd fun c j=>if c=w.heap.size then cs[j]? else memo w σ.ov c j)=some (x,[],R):=
     dec_frame t hd (fun j _=>by simp [Src.rd]) (fun b j hb=>by
      rcases hb with hb|hb
      ·simp at hb
      ·have:=(hR b hb).1
       exact if_neg (by omega))
    obtain ⟨y0,O1,R1,A1,B1,A1',B1',hd1,hg,-⟩:=dec_loc _ t _ h0 (h3 _ _ _)
    rw [hg]
   generalize hgg:getP t x (AE.pathOf t i)=gg at hz hg
   obtain ⟨t2,y2⟩:=gg
   simp only at hg
   subst hg
   simp only at hz
   obtain ⟨y,Γ1,σ1,hz,h4,hv,hev,-⟩:=h.asV (.inl (h.opd (hl _ (List.mem_cons_self ..)))) hz
   have hd':dec (memo w σ1.ov) t (fun j=>cs[j]?)=some (x,[],R):=by rw [hev.ov];exact hd
   obtain ⟨R',h5,h6⟩:=part_laid (sz:=w.heap.size) (fun c hc=>hc.1) hd' (fun c hc=>hev.shr c (hR c hc)) h3 (by omega) hv
   obtain ⟨y',cs',Γ',σ',R'',g1,g2,g3,g4,g5,g6⟩:=fills_some hp l h4 (fun u hu=>hl u (List.mem_cons_of_mem _ hu)) (cs:=(a.eval o).cells.zipIdx.foldl (fun cs (c,j)=>cs.setIfInBounds (k+j) c) cs) (by
    have hfold:(a.eval o).cells.zipIdx.foldl (fun cs (c,j)=>cs.setIfInBounds (k+j) c) cs=((a.eval o).cells.toList.zipIdx 0).foldl (fun cs (c:Value×Nat)=>cs.setIfInBounds (k+c.2) c.1) cs:=by
     rw [←Array.foldl_toList];simp
    rw [hfold,(fold_cells k _ 0 cs).1];exact hs) h5 h6 hz
   refine ⟨y',cs',Γ',σ',R'',g1,g2,?_,g4,g5,g6⟩
   have hvc:=hv.cells.1
   simp only [List.map_cons,Instr.fill,h1]
   have hvc:(a.eval o).cells.size=t2.cells:=hvc
   rw [if_neg (by simp;omega)]
   exact g3
  ·cases hz
theorem lit_fills {q:Bool} {e:Ty} {n:Nat}:∀ (l:List (Nat×Operand)) (Γ:AE) (x:List e.den) (K:List e.den→AE→Rs ρ),Γ.lit q e n l x K=Γ.fills q (.arr n e) l x K
 | [],_,_,_=>rfl
 |(i,o)::l,Γ,x,K=>by
  show (bif decide (i<n) then Γ.asV q e (Γ.opd o) (fun y Γ'=>Γ'.lit q e n l (x.set i y) K) else none) =
   (bif decide (i<n) then Γ.asV q e (Γ.opd o) (fun y Γ'=>Γ'.fills q (.arr n e) l (setP (.arr n e) x [.idx i] e y) K) else none)
  congr 2
  funext y Γ'
  rw [lit_fills l]
  congr 1
  show x.set i y=List.set x i (if h:e=e then h▸y else _)
  rw [dif_pos rfl]
theorem does_buildSlice {o:Oper} {t:TypeId} {n:Nat} {ps:Array (Nat×Operand)} {d:Nat} {cx:Cx} {q:Bool} {K:AE→Rs ρ} {z:ρ} (hcx:CxTy P cx) (ho:o.op=.buildSlice t n ps) (hd:o.dst=some d)
  (h:Rel B Γ N (tmOf a) w σ) (hN:a.tmps.size=N) (hf:fits N o=true) (hz:aop cx q o Γ K=some z):Does P B N o a w K z:=by
 have hops:∀ y∈(o.op.operands.toList),opdOk N y=true:=fits_op hf
 rw [ho] at hops
 simp only [aop,ho,hd] at hz
 split at hz
 ·rename_i o' e hT
  rcases bif_some hz with ⟨hc,hz⟩|⟨-,hz⟩
  ·simp only [Bool.and_eq_true,decide_eq_true_eq,lim] at hc
   rw [lit_fills] at hz
   obtain ⟨hsh,hty⟩:=hcx.T t _ hT
   obtain ⟨t',hu,hte,hpos⟩:=tyOk_elem hty
   obtain ⟨I⟩:=baseOk_info (tyOk_base hte)
   obtain ⟨y,cs',Γ',σ',R',g1,g2,g3,g4,g5,g6⟩:=fills_some (places_arr n e) ps.toList h (fun y hy=>hops y.2 (by
     simp only [Op.operands]
     exact List.mem_map.2 ⟨y,hy,rfl⟩)) (cs:=madeCells I.z.cells (n*e.cells)) (size_madeCells _ _) (made_dec (m:=memo w σ.ov) I.zok I.zsize n) (by simp) hz
   have g5:collect (fun i=>dec (memo w σ'.ov) e fun j=>cs'[i*e.cells+j]?) n 0=some (y,[],R'):=g5
   have hlen:=collect_length n 0 g5
   have hn2:n*e.cells=0→n=0:=fun e0=>by
    rcases Nat.mul_eq_zero.1 e0 with e1|e1
    ·exact e1
    ·omega
   have hrun:(execOp a.eval o).run P w=.ok (.value (.slice (some ⟨w.heap.size,0,none⟩) n n)) (w.alloc (.cells cs' t')):=by
    have hle:¬ (n*e.cells > 2^24):=by omega
    have hpm:(ps.map fun (i,x)=>(i,a.eval x)).toList=ps.toList.map fun (i,x)=>(i,a.eval x):=by simp
    by_cases h0:n*e.cells=0
    ·have:(Array.range (n*e.cells)).map (fun i=>(#[]:Array Value)[i%(#[]:Array Value).size]!)=madeCells I.z.cells (n*e.cells):=by
      rw [h0];simp [madeCells]
     have g3':=g3
     rw [←this] at g3'
     simp only [execOp,ho,Instr.buildSlice,Sem.run_bind,run_underlying hu,Result.andThen_ok,I.sizeOf,if_neg hle,if_pos h0,Sem.run_pure,hpm,g3',newRow]
     simp
    ·have g3':Instr.fill (fun i=>some (i*e.cells,e.cells)) ((Array.range (n*e.cells)).map (I.z.cells[·%I.z.cells.size]!)) (ps.toList.map fun (i,x)=>(i,a.eval x))=some cs':=g3
     simp only [execOp,ho,Instr.buildSlice,Sem.run_bind,run_underlying hu,Result.andThen_ok,I.sizeOf,if_neg hle,if_neg h0,Sem.run_pure,I.zeroValue,hpm,g3',newRow]
     simp
   have hyl:List.length (show List e.den from y)=n:=hlen
   obtain ⟨Γ2,σ2,k1,k2,k3,-,-⟩:=g2.newSlice (c:=n) g1 (fun c hc=>heap_alloc_old _ c hc) (size_alloc_le _) (heap_alloc_new (Obj.cells cs' t')) (.inl rfl) (Nat.le_of_eq g4.symm) (Nat.le_of_eq hyl) (by rw [hyl];exact g5) g6
   rw [hyl] at k3
   exact Does.set hd hN hrun k2 k3 k1
  ·cases hz
 ·cases hz
theorem mapM_places {P:Program} {w:World}:∀ (fs:List Field),(∀ f∈fs,∃ i,P.info? f.type=some i)→
  ∃ l:List (Nat×Nat),(fs.mapM fun f=>do pure (f.offset,←sizeOf f.type):Sem (List (Nat×Nat))).run P w=.ok l w∧l.length=fs.length∧∀ (k:Nat) f,fs[k]?=some f→∃ i,P.info? f.type=some i∧l[k]?=some (f.offset,i.size)
 | [],_=>⟨[],rfl,rfl,by simp⟩
 |f::fs,h=>by
  obtain ⟨i,hi⟩:=h f (by simp)
  obtain ⟨l,h1,h2,h3⟩:=mapM_places (w:=w) fs (fun g hg=>h g (by simp [hg]))
  refine ⟨(f.offset,i.size)::l,?_,by simp [h2],fun k g hg=>?_⟩
  ·have e:(do pure (f.offset,←sizeOf f.type):Sem (Nat×Nat)).run P w=.ok (f.offset,i.size) w:=by simp [sizeOf,typeInfo,hi]
   rw [List.mapM_cons,Sem.run_bind,e]
   simp only [Result.andThen_ok,Sem.run_bind,h1]
   rfl
  ·cases k with
   |zero=>simp only [List.getElem?_cons_zero,sj] at hg;subst hg;exact ⟨i,hi,rfl⟩
   |succ k=>simp only [List.getElem?_cons_succ] at hg ⊢;exact h3 k g hg
theorem tyOk_fields_info {P:Program}:∀ (τ:Ty) (fs:List Field) (off:Nat),tyOk P τ (.inr (fs,off))=true→∀ f∈fs,∃ i,P.info? f.type=some i
 |.pair a b,f::r,off,h=>by
  simp only [tyOk,Bool.and_eq_true] at h
  obtain ⟨I⟩:=baseOk_info (tyOk_base h.1.1.2)
  intro g hg
  rcases List.mem_cons.1 hg with rfl|hg
  ·exact ⟨_,I.info⟩
  ·exact tyOk_fields_info b r _ h.2 g hg
 |.unit,[],_,_=>by simp
 |.unit,_::_,_,h=>by simp [tyOk] at h
 |.pair _ _,[],_,h=>by simp [tyOk] at h
 |.int _,_,_,h=>by simp [tyOk] at h
 |.bool,_,_,h=>by simp [tyOk] at h
 |.str,_,_,h=>by simp [tyOk] at h
 |.list _ _,_,_,h=>by simp [tyOk] at h
 |.arr _ _,_,_,h=>by simp [tyOk] at h
theorem does_build {o:Oper} {t:TypeId} {ps:Array (Nat×Operand)} {d:Nat} {cx:Cx} {q:Bool} {K:AE→Rs ρ} {z:ρ} (hcx:CxTy P cx) (ho:o.op=.build t ps) (hd:o.dst=some d) (hO:(bif q then none else cx.O d)=none)
  (h:Rel B Γ N (tmOf a) w σ) (hN:a.tmps.size=N) (hf:fits N o=true) (hz:aop cx q o Γ K=some z):Does P B N o a w K z:=by
 have hops:∀ y∈(o.op.operands.toList),opdOk N y=true:=fits_op hf
 rw [ho] at hops
 simp only [aop,ho,hd,hO] at hz
 split at hz
 ·rename_i τ hT
  obtain ⟨hsh,hty⟩:=hcx.T t _ hT
  obtain ⟨I⟩:=baseOk_info (tyOk_base hty)
  obtain ⟨hagg,hz⟩:τ.isAgg=true∧_:=(bif_some hz).elim id fun h=>by cases h.2
  have hops':∀ y∈ps.toList,opdOk N y.2=true:=fun y hy=>hops y.2 (by
     simp only [Op.operands]
     exact List.mem_map.2 ⟨y,hy,rfl⟩)
  have hpm:(ps.map fun (i,x)=>(i,a.eval x)).toList=ps.toList.map fun (i,x)=>(i,a.eval x):=by simp
  have fin:∀ place,Places τ place→(∀ cs',Instr.fill place I.z.cells (ps.toList.map fun (i,x)=>(i,a.eval x))=some cs'→(execOp a.eval o).run P w=.ok (.value (.agg cs')) w)→τ.isAgg=true→Does P B N o a w K z:=by
   intro place hp hrun hagg
   obtain ⟨y,cs',Γ',σ',R',g1,g2,g3,g4,g5,g6⟩:=fills_some hp ps.toList h hops' I.zsize (zeroR_dec τ I.zok) (by simp) hz
   exact Does.set hd hN (hrun cs' g3) g2 (av:=.val τ y) ⟨fun _=>⟨cs',rfl,g4⟩,fun e=>(by rw [hagg] at e;cases e),R',g5,g6⟩ g1
  have str:∀ fs:Array Field,P.underlying t=some (.struct fs)→tyOk P τ (.inr (fs.toList,0))=true→(∀ i,AE.pathOk τ i=okField τ i∧AE.pathOf τ i=fieldPath i)→τ.isAgg=true→Does P B N o a w K z:=by
   intro fs hu hs hpath hagg
   obtain ⟨l,h1,h2,h3⟩:=mapM_places (P:=P) (w:=w) fs.toList (tyOk_fields_info τ _ _ hs)
   refine fin (fun i=>l.toArray[i]?) (fun i hi=>?_) (fun cs' hc=>?_) hagg
   ·rw [(hpath i).1] at hi
    rw [(hpath i).2]
    obtain ⟨fl,τ',k,k1,k2,k3,k4,k5⟩:=tyOk_field i τ _ 0 hs hi
    obtain ⟨fl2,τ2,k',j1,j2,j3,j4,-⟩:=tyOk_fieldD i τ _ 0 hs hi
    rw [k1] at j1
    simp only [sj] at j1
    subst j1
    obtain ⟨i',hi',hl⟩:=h3 i fl k1
    obtain ⟨I1⟩:=baseOk_info (tyOk_base k3)
    obtain ⟨I2⟩:=baseOk_info (tyOk_base j3)
    have e1:i'=I1.i:=by have:=hi'.symm.trans I1.info;simpa using this
    have e2:I1.i=I2.i:=by have:=I1.info.symm.trans I2.info;simpa using this
    refine ⟨τ',k,?_,?_,k5⟩
    ·have hk:fl.offset=k:=by omega
     simp only [List.getElem?_toArray]
     rw [hl,e1,I1.size,hk]
    ·have s1:=I1.size
     have s2:=I2.size
     rw [←e2] at s2
     omega
   ·have hm:(fs.mapM fun f=>do pure (f.offset,←sizeOf f.type):Sem (Array (Nat×Nat))).run P w=.ok l.toArray w:=by
     rw [Array.mapM_eq_mapM_toList]
     show ((fs.toList.mapM fun f=>do pure (f.offset,←sizeOf f.type)) >>= fun l=>pure l.toArray:Sem (Array (Nat×Nat))).run P w=_
     rw [Sem.run_bind,h1]
     rfl
    simp only [execOp,ho,Instr.build,Sem.run_bind,I.zeroValue,Result.andThen_ok,run_underlying hu,hm,hpm,hc]
    simp
  have arr:∀ n t' e,P.underlying t=some (.array n t')→tyOk P e (.inl t')=true→Places τ (fun i=>some (i*e.cells,e.cells))→τ.isAgg=true→Does P B N o a w K z:=by
   intro n t' e hu hte hp hagg
   obtain ⟨I'⟩:=baseOk_info (tyOk_base hte)
   refine fin _ hp (fun cs' hc=>?_) hagg
   simp only [execOp,ho,Instr.build,Sem.run_bind,I.zeroValue,Result.andThen_ok,run_underlying hu,I'.sizeOf,hpm,hc]
   simp
  clear fin
  cases τ with
  |pair u v=>
   simp only [tyOk,Bool.and_eq_true] at hty
   obtain ⟨-,hty⟩:=hty
   split at hty
   ·rename_i fs hu
    split at hty
    ·rename_i fl r hl
     refine str fs hu ?_ (fun i=>⟨rfl,rfl⟩) rfl
     rw [hl]
     simp only [tyOk]
     simpa using hty
    ·cases hty
   ·cases hty
  |unit=>
   simp only [tyOk,Bool.and_eq_true] at hty
   obtain ⟨-,hty⟩:=hty
   split at hty
   ·rename_i fs hu
    refine str fs hu ?_ (fun i=>⟨rfl,rfl⟩) rfl
    have:fs.toList=[]:=by simpa using hty
    rw [this];rfl
   ·cases hty
  |arr n e=>
   obtain ⟨t',hu,hte,-⟩:=tyOk_arr hty
   exact arr n t' e hu hte (places_arr n e) rfl
  |_=>cases hagg
 ·cases hz
theorem single_cells {u:Value} (h:single u=true):u.cells=#[u]:=by
 cases u<;>first|rfl|(simp [single] at h)
theorem fits1_single (h:Rel B Γ N (tmOf a) w σ) {v:AV} {τ:Ty} {u:Value} (hv:AVOk (memo w σ.ov) σ.g Γ.rt (Shr B w σ) v u) (hf:v.fits1 τ=true):single u=true:=by
 unfold AV.fits1 at hf
 split at hf
 ·rename_i t x
  simp only [Bool.and_eq_true,Bool.not_eq_true'] at hf
  exact hv.2.1 hf.1
 ·rename_i n e
  obtain ⟨r,e',s,h1,h2,h3⟩:=hv
  obtain ⟨O',R,g1,g2,-⟩:=h.sep h1
  obtain ⟨y,O1,R1,_,_,_,_,g3,g4,-⟩:=dec_loc _ r.t _ g1 h2
  obtain ⟨s',A,c,-,-,hv,-,hA,-⟩:=h.sref_head ⟨r,e',s,h1,h2,h3⟩ h1 g4
  rw [hv];rfl
 ·have hv:u=.slice none 0 0:=hv
  rw [hv];rfl
 ·cases hf
theorem fill_step {place:Nat→Option (Nat×Nat)} {k:Nat} {u:Value} {l:List (Nat×Value)} {pre zs:List Value} {c:Value} (hp:place k=some (k,1)) (hu:single u=true) (hk:pre.length=k):
  Instr.fill place (pre++c::zs).toArray ((k,u)::l)=Instr.fill place (pre++[u]++zs).toArray l:=by
 have hu:=single_cells hu
 simp only [Instr.fill,hp]
 have hc:(decide (u.cells.size≠1) || decide (k+u.cells.size > (pre++c::zs).toArray.size))=false:=by
  rw [hu];simp;omega
 rw [hc]
 simp only [Bool.false_eq_true,if_false]
 have hfold:(u.cells.zipIdx.foldl (fun cs (x:Value×Nat)=>cs.setIfInBounds (k+x.2) x.1) (pre++c::zs).toArray)=(pre++[u]++zs).toArray:=by
  rw [hu]
  subst hk
  simp
 rw [←hfold]
theorem zeroAV_ok {m:Mem} {g:Nat→Src} {rt:Nat→Option Root} {Sh:Nat→Prop} {τ:Ty} {v:AV} {u:Value} {rd:Nat→Option Value} (h:zeroAV τ=some v) (hz:zeroR τ rd=true) (hu:rd 0=some u):τ.cells=1∧single u=true∧AVOk m g rt Sh v u:=by
 have val:τ.isAgg=false→single u=true→τ.cells=1→zeroR τ (fun j=>u.cells[j]?)=true→VOk m Sh τ τ.dflt u:=fun h1 h2 h3 h4=>
  ⟨fun g=>(by rw [h1] at g;cases g),fun _=>h2,[],zeroR_dec τ h4,by simp⟩
 cases τ with
 |int k=>
  simp only [zeroAV,sj] at h
  simp only [zeroR,hu] at hz
  cases u with
  |int k' n=>
   subst h
   exact ⟨rfl,rfl,val rfl rfl rfl (by simpa [zeroR,Value.cells] using hz)⟩
  |_=>cases hz
 |bool=>
  simp only [zeroAV,sj] at h
  simp only [zeroR,hu] at hz
  cases u with
  |bool b=>
   subst h
   exact ⟨rfl,rfl,val rfl rfl rfl (by simpa [zeroR,Value.cells] using hz)⟩
  |_=>cases hz
 |str=>
  simp only [zeroAV,sj] at h
  simp only [zeroR,hu] at hz
  cases u with
  |string b=>
   subst h
   exact ⟨rfl,rfl,val rfl rfl rfl (by simpa [zeroR,Value.cells] using hz)⟩
  |_=>cases hz
 |list o e=>
  simp only [zeroAV,sj] at h
  simp only [zeroR,hu] at hz
  subst h
  split at hz
  ·rename_i heq
   simp only [sj] at heq
   subst heq
   exact ⟨rfl,rfl,rfl⟩
  ·cases hz
 |_=>cases h
theorem aggV_fill {place:Nat→Option (Nat×Nat)} (h:Rel B Γ N (tmOf a) w σ):∀ (τ:Ty) (k:Nat) (ps:List (Nat×Operand)) (vs:List AV),Γ.aggV k τ ps=some vs→(∀ p∈ps,opdOk N p.2=true)→
  (∀ j,j<τ.cells→place (k+j)=some (k+j,1))→∀ (pre zs:List Value),pre.length=k→zs.length=τ.cells→zeroR τ (fun j=>zs[j]?)=true→
  ∃ us:List Value,us.length=τ.cells∧vs.length=τ.cells∧Instr.fill place (pre++zs).toArray (ps.map fun p=>(p.1,a.eval p.2))=some (pre++us).toArray∧
   ∀ (j:Nat) v,vs[j]?=some v→∃ u,us[j]?=some u∧single u=true∧AVOk (memo w σ.ov) σ.g Γ.rt (Shr B w σ) v u
 |.unit,k,[],vs,hv,_,_,pre,zs,hp,hz,_=>by
  simp only [AE.aggV,sj] at hv
  subst hv
  have:zs=[]:=List.eq_nil_of_length_eq_zero hz
  subst this
  exact ⟨[],rfl,rfl,rfl,fun j v hj=>by simp at hj⟩
 |.pair u v,k,ps,vs,hv,hops,hpl,pre,zs,hp,hz,hzr=>by
  have zero:((zeroAV u).bind fun x=>(Γ.aggV (k+1) v ps).map (x::·))=some vs→∃ us:List Value,us.length=(Ty.pair u v).cells∧vs.length=(Ty.pair u v).cells∧Instr.fill place (pre++zs).toArray (ps.map fun p=>(p.1,a.eval p.2))=some (pre++us).toArray∧
    ∀ (j:Nat) v,vs[j]?=some v→∃ u,us[j]?=some u∧single u=true∧AVOk (memo w σ.ov) σ.g Γ.rt (Shr B w σ) v u:=fun hb=>by
   cases hx:zeroAV u with
   |none=>rw [hx] at hb;cases hb
   |some x=>
    rw [hx] at hb
    cases hr:Γ.aggV (k+1) v ps with
    |none=>rw [hr] at hb;cases hb
    |some vs'=>
     rw [hr] at hb
     cases hb
     simp only [zeroR,Bool.and_eq_true] at hzr
     have hpos:0<u.cells:=by
      cases u<;>first|(cases hx;done)|exact Nat.one_pos
     cases zs with
     |nil=>simp only [Ty.cells,List.length_nil] at hz;omega
     |cons z0 zs=>
      obtain ⟨c1,c2,c3⟩:=zeroAV_ok (m:=memo w σ.ov) (g:=σ.g) (rt:=Γ.rt) (Sh:=Shr B w σ) hx hzr.1 (by simp:(z0::zs)[0]?=some z0)
      have hz':zs.length=v.cells:=by simp only [Ty.cells,List.length_cons] at hz;omega
      obtain ⟨us,k1,k2,k3,k4⟩:=aggV_fill h v (k+1) ps vs' hr hops (fun j hj=>by
       have:=hpl (j+1) (by simp only [Ty.cells];omega)
       rwa [show k+(j+1)=k+1+j from by omega] at this) (pre++[z0]) zs (by simp [hp]) hz' (by
       have:=hzr.2
       rw [c1] at this
       simpa [Nat.add_comm 1] using this)
      refine ⟨z0::us,by simp only [List.length_cons,Ty.cells];omega,by simp only [List.length_cons,Ty.cells];omega,?_,fun j y hj=>?_⟩
      ·rw [show pre++z0::zs=pre++[z0]++zs from by simp,k3]
       simp
      ·cases j with
       |zero=>
        simp only [List.getElem?_cons_zero,sj] at hj
        subst hj
        exact ⟨z0,by simp,c2,c3⟩
       |succ j=>
        simp only [List.getElem?_cons_succ] at hj ⊢
        exact k4 j y hj
  cases ps with
  |nil=>exact zero hv
  |cons p r=>
   obtain ⟨i,o⟩:=p
   simp only [AE.aggV] at hv
   rcases bif_some hv with ⟨hi,hv'⟩|⟨-,hv'⟩
   ·have hi:i=k:=by simpa using hi
    subst hi
    obtain ⟨hc,hv'⟩:=(bif_some hv').elim id fun h=>by cases h.2
    simp only [Bool.and_eq_true,decide_eq_true_eq] at hc
    obtain ⟨h1,h2⟩:=hc
    cases hr:Γ.aggV (i+1) v r with
    |none=>rw [hr] at hv';cases hv'
    |some vs'=>
     rw [hr] at hv'
     cases hv'
     have hav:=h.opd (hops (i,o) (by simp))
     have hsg:=fits1_single h hav h2
     cases zs with
     |nil=>simp only [Ty.cells,List.length_nil] at hz;omega
     |cons z0 zs=>
      have hz':zs.length=v.cells:=by simp only [Ty.cells,List.length_cons] at hz;omega
      simp only [zeroR,Bool.and_eq_true] at hzr
      obtain ⟨us,k1,k2,k3,k4⟩:=aggV_fill h v (i+1) r vs' hr (fun p hp=>hops p (by simp [hp])) (fun j hj=>by
       have:=hpl (j+1) (by simp only [Ty.cells];omega)
       rwa [show i+(j+1)=i+1+j from by omega] at this) (pre++[a.eval o]) zs (by simp [hp]) hz' (by
       have:=hzr.2
       rw [h1] at this
       simpa [Nat.add_comm 1] using this)
      refine ⟨a.eval o::us,by simp only [List.length_cons,Ty.cells];omega,by simp only [List.length_cons,Ty.cells];omega,?_,fun j y hj=>?_⟩
      ·rw [List.map_cons]
       have hp0:=hpl 0 (by simp only [Ty.cells];omega)
       rw [Nat.add_zero] at hp0
       rw [fill_step hp0 hsg hp,k3]
       simp
      ·cases j with
       |zero=>
        simp only [List.getElem?_cons_zero,sj] at hj
        subst hj
        exact ⟨a.eval o,by simp,hsg,hav⟩
       |succ j=>
        simp only [List.getElem?_cons_succ] at hj ⊢
        exact k4 j y hj
   ·exact zero hv'
 |.unit,_,_::_,_,hv,_,_,_,_,_,_,_=>by simp [AE.aggV] at hv
 |.int _,_,_,_,hv,_,_,_,_,_,_,_=>by simp [AE.aggV] at hv
 |.bool,_,_,_,hv,_,_,_,_,_,_,_=>by simp [AE.aggV] at hv
 |.str,_,_,_,hv,_,_,_,_,_,_,_=>by simp [AE.aggV] at hv
 |.list _ _,_,_,_,hv,_,_,_,_,_,_,_=>by simp [AE.aggV] at hv
 |.arr _ _,_,_,_,hv,_,_,_,_,_,_,_=>by simp [AE.aggV] at hv
theorem aggV_one:∀ (τ:Ty) (k:Nat) (ps:List (Nat×Operand)) (vs:List AV),Γ.aggV k τ ps=some vs→vs.length=τ.cells∧
  ∀ {P:Program} fs,tyOk P τ (.inr (fs,k))=true→fs.length=vs.length∧∀ (j:Nat) f,fs[j]?=some f→f.offset=k+j∧∃ τ',tyOk P τ' (.inl f.type)=true∧τ'.cells=1
 |.unit,k,[],vs,hv=>by
  simp only [AE.aggV,sj] at hv
  subst hv
  exact ⟨rfl,fun fs h=>by
   cases fs with
   |nil=>exact ⟨rfl,by simp⟩
   |cons f r=>simp [tyOk] at h⟩
 |.pair u v,k,ps,vs,hv=>by
  have step:∀ x ps' vs',u.cells=1→Γ.aggV (k+1) v ps'=some vs'→vs=x::vs'→vs.length=(Ty.pair u v).cells∧
    ∀ {P:Program} fs,tyOk P (.pair u v) (.inr (fs,k))=true→fs.length=vs.length∧∀ (j:Nat) f,fs[j]?=some f→f.offset=k+j∧∃ τ',tyOk P τ' (.inl f.type)=true∧τ'.cells=1:=fun x ps' vs' h1 hr e=>by
   subst e
   obtain ⟨g1,g2⟩:=aggV_one v (k+1) ps' vs' hr
   refine ⟨by simp only [List.length_cons,Ty.cells];omega,fun fs h=>?_⟩
   cases fs with
   |nil=>simp [tyOk] at h
   |cons f fs=>
    simp only [tyOk,Bool.and_eq_true,beq_iff_eq,decide_eq_true_eq] at h
    obtain ⟨⟨⟨j1,j2⟩,j3⟩,j4⟩:=h
    rw [h1] at j4
    obtain ⟨q1,q2⟩:=g2 fs j4
    refine ⟨by simp [q1],fun j f' hf=>?_⟩
    cases j with
    |zero=>
     simp only [List.getElem?_cons_zero,sj] at hf
     subst hf
     exact ⟨j1,u,j2,h1⟩
    |succ j=>
     obtain ⟨e1,e2⟩:=q2 j f' (by simpa using hf)
     exact ⟨by omega,e2⟩
  have zero:((zeroAV u).bind fun x=>(Γ.aggV (k+1) v ps).map (x::·))=some vs→vs.length=(Ty.pair u v).cells∧
    ∀ {P:Program} fs,tyOk P (.pair u v) (.inr (fs,k))=true→fs.length=vs.length∧∀ (j:Nat) f,fs[j]?=some f→f.offset=k+j∧∃ τ',tyOk P τ' (.inl f.type)=true∧τ'.cells=1:=fun hb=>by
   cases hx:zeroAV u with
   |none=>rw [hx] at hb;cases hb
   |some x=>
    rw [hx] at hb
    cases hr:Γ.aggV (k+1) v ps with
    |none=>rw [hr] at hb;cases hb
    |some vs'=>
     rw [hr] at hb
     cases hb
     exact step x ps vs' (by cases u<;>first|(cases hx;done)|rfl) hr rfl
  cases ps with
  |nil=>exact zero hv
  |cons p r=>
   obtain ⟨i,o⟩:=p
   simp only [AE.aggV] at hv
   rcases bif_some hv with ⟨-,hv'⟩|⟨-,hv'⟩
   ·obtain ⟨hc,hv'⟩:=(bif_some hv').elim id fun h=>by cases h.2
    simp only [Bool.and_eq_true,decide_eq_true_eq] at hc
    cases hr:Γ.aggV (k+1) v r with
    |none=>rw [hr] at hv';cases hv'
    |some vs'=>
     rw [hr] at hv'
     cases hv'
     exact step _ r vs' hc.1 hr rfl
   ·exact zero hv'
 |.unit,_,_::_,_,hv=>by simp [AE.aggV] at hv
 |.int _,_,_,_,hv=>by simp [AE.aggV] at hv
 |.bool,_,_,_,hv=>by simp [AE.aggV] at hv
 |.str,_,_,_,hv=>by simp [AE.aggV] at hv
 |.list _ _,_,_,_,hv=>by simp [AE.aggV] at hv
 |.arr _ _,_,_,_,hv=>by simp [AE.aggV] at hv
theorem does_buildAgg {o:Oper} {t:TypeId} {ps:Array (Nat×Operand)} {d:Nat} {cx:Cx} {q:Bool} {K:AE→Rs ρ} {z:ρ} {τ:Ty} (hcx:CxTy P cx) (ho:o.op=.build t ps) (hd:o.dst=some d) (hO:(bif q then none else cx.O d)=some τ)
  (h:Rel B Γ N (tmOf a) w σ) (hN:a.tmps.size=N) (hf:fits N o=true) (hz:aop cx q o Γ K=some z):Does P B N o a w K z:=by
 have hops:∀ y∈(o.op.operands.toList),opdOk N y=true:=fits_op hf
 rw [ho] at hops
 have hops':∀ y∈ps.toList,opdOk N y.2=true:=fun y hy=>hops y.2 (by
  simp only [Op.operands]
  exact List.mem_map.2 ⟨y,hy,rfl⟩)
 simp only [aop,ho,hd,hO] at hz
 ·split at hz
  ·rename_i hT
   split at hz
   ·rename_i vs hag
    obtain ⟨hpos,hz'⟩:=(bif_some hz).elim id fun h=>by cases h.2
    have hpos:0<τ.cells:=by simpa using hpos
    have hty:tyOk P τ (.inl t)=true:=by rw [←tyOk_sh];exact (hcx.T t _ hT).2
    obtain ⟨hvl,g4⟩:=aggV_one τ 0 ps.toList vs hag
    cases τ with
    |pair u v=>
     obtain ⟨I⟩:=baseOk_info (tyOk_base hty)
     obtain ⟨fs,hu,hs⟩:=tyOk_struct (f:=0) hty rfl
     obtain ⟨g5,g6⟩:=g4 _ hs
     obtain ⟨l,h1,h2,h3⟩:=mapM_places (P:=P) (w:=w) fs.toList (tyOk_fields_info _ _ _ hs)
     have hm:(fs.mapM fun f=>do pure (f.offset,←sizeOf f.type):Sem (Array (Nat×Nat))).run P w=.ok l.toArray w:=by
      rw [Array.mapM_eq_mapM_toList]
      show ((fs.toList.mapM fun f=>do pure (f.offset,←sizeOf f.type)) >>= fun l=>pure l.toArray:Sem (Array (Nat×Nat))).run P w=_
      rw [Sem.run_bind,h1]
      rfl
     have hpl:∀ j,j<(Ty.pair u v).cells→(fun i=>l.toArray[i]?) (0+j)=some (0+j,1):=fun j hj=>by
      have hj':j<fs.toList.length:=by rw [g5,hvl];exact hj
      have hf':=List.getElem?_eq_getElem hj'
      obtain ⟨i,hi,hl⟩:=h3 j _ hf'
      obtain ⟨e1,τ',e2,e3⟩:=g6 j _ hf'
      obtain ⟨I1⟩:=baseOk_info (tyOk_base e2)
      have e4:i=I1.i:=by have:=hi.symm.trans I1.info;simpa using this
      simp only [List.getElem?_toArray,Nat.zero_add]
      rw [hl,e1,e4,I1.size,e3,Nat.zero_add]
     obtain ⟨us,k1,-,hfill,k4⟩:=aggV_fill h (Ty.pair u v) 0 ps.toList vs hag hops' hpl [] I.z.cells.toList rfl (by simpa using I.zsize) (by simpa using I.zok)
     simp only [List.nil_append,Array.toArray_toList] at hfill
     have hpm:(ps.map fun (i,x)=>(i,a.eval x)).toList=ps.toList.map fun p=>(p.1,a.eval p.2):=by simp
     have hrun:(execOp a.eval o).run P w=.ok (.value (.agg us.toArray)) w:=by
      simp only [execOp,ho,Instr.build,Sem.run_bind,I.zeroValue,Result.andThen_ok,run_underlying hu,hm,hpm,hfill]
      simp
     refine ⟨_,w,_,σ,.inl hrun,?_,hz'⟩
     rw [hd]
     refine h.putd hN (fun _=>⟨_,⟨by simp only [List.size_toArray];omega,rfl,fun k x hx=>?_⟩,fun k av hk=>?_⟩)
     ·rw [List.getElem?_toArray] at hx
      have hlt:k<vs.length:=by
       have:=(List.getElem?_eq_some_iff.1 hx).1
       omega
      obtain ⟨u',q1,q2,-⟩:=k4 k _ (List.getElem?_eq_getElem hlt)
      rw [hx] at q1
      cases q1
      exact q2
     ·obtain ⟨u',q1,-,q3⟩:=k4 k av hk
      exact ⟨u',by rw [List.getElem?_toArray];exact q1,q3⟩
    |unit=>simp [Ty.cells] at hpos
    |int k=>simp [AE.aggV] at hag
    |bool=>simp [AE.aggV] at hag
    |str=>simp [AE.aggV] at hag
    |list o' e=>simp [AE.aggV] at hag
    |arr n e=>simp [AE.aggV] at hag
    |nl e=>simp [AE.aggV] at hag
   ·cases hz
  ·cases hz
end
end Go.Ab
namespace Go.Ab
theorem row_cells {m:Mem} {e:Ty} {b o n:Nat} {l:List e.den} {R} (h:collect (fun i=>dec m e fun j=>m b (o+(i*e.cells+j))) n 0=some (l,[],R)):
  ∃ cs:List Value,cs.length=n*e.cells∧(∀ j u,cs[j]?=some u→m b (o+j)=some u)∧(∀ u∈cs,single u=true)∧collect (fun i=>dec m e fun j=>cs[i*e.cells+j]?) n 0=some (l,[],R):=by
 have h1:dec m (.arr n e) (fun j=>m b (o+j))=some (l,[],R):=h
 have hc:∀ j,j<n*e.cells→∃ u,m b (o+j)=some u∧single u=true:=dec_cells (.arr n e) h1
 let cs:List Value:=(List.range (n*e.cells)).map fun j=>(m b (o+j)).getD undef
 have hcs:∀ j,j<n*e.cells→cs[j]?=m b (o+j):=fun j hj=>by
  obtain ⟨u,hu,-⟩:=hc j hj
  simp only [cs,List.getElem?_map,List.getElem?_range hj,Option.map_some,hu,Option.getD_some]
 have hlen:cs.length=n*e.cells:=by simp [cs]
 refine ⟨cs,hlen,fun j u hu=>?_,fun u hu=>?_,?_⟩
 ·have hj:j<n*e.cells:=by
   have:=(List.getElem?_eq_some_iff.1 hu).1
   omega
  rw [←hcs j hj];exact hu
 ·obtain ⟨j,hj,rfl⟩:=List.mem_map.1 hu
  rw [List.mem_range] at hj
  obtain ⟨u,hu,hs⟩:=hc j hj
  rw [hu];exact hs
 ·exact dec_frame (.arr n e) h1 (rd':=fun j=>cs[j]?) (fun j hj=>hcs j hj) (fun _ _ _=>rfl)
theorem dec_row {m:Mem} {o:Bool} {e:Ty} (he:e.sh=e) {v:Value} {l:List e.den} {O R} (h:dec m (.list o e) ((Src.one v).rd m)=some (l,O,R)):
  (v=.slice none 0 0∧l=[])∨∃ a n c rs,v=.slice (some a) n c∧a.spot=none∧n≤c∧n=l.length∧collect (fun i=>dec m e fun j=>m a.block (a.off+(i*e.cells+j))) n 0=some (l,[],rs)∧
   (∀ x∈rs,x∈R)∧(o=false→0<n→a.block∈R):=by
 have h:decL m o e.cells (dec m e) (some v)=some (l,O,R):=h
 unfold decL at h
 split at h
 ·rename_i n c hv
  simp only [sj] at hv
  split at h
  ·rename_i hc
   refine .inl ⟨by rw [hv,hc.1,hc.2],(congrArg (·.1) (Option.some.inj h)).symm⟩
  ·cases h
 ·rename_i a n c hv
  simp only [sj] at hv
  split at h
  ·rename_i hc
   split at h
   ·cases h
   ·rename_i xs os rs hx
    have hos:os=[]:=by
     have h1:dec m (.arr n e) (fun j=>m a.block (a.off+j))=some (xs,os,rs):=hx
     exact dec_pure (by simp only [Ty.shn,Ty.sh,he]) h1
    subst hos
    have hxl:xs=l∧(∀ x∈rs,x∈R)∧(o=false→0<n→a.block∈R):=by
     split at h
     ·rename_i ho
      split at h
      ·have h:=Option.some.inj h
       exact ⟨congrArg (·.1) h,fun x hx=>(show rs=R from congrArg (·.2.2) h)▸hx,fun e=>(by rw [ho] at e;cases e)⟩
      ·have h:=Option.some.inj h
       exact ⟨congrArg (·.1) h,fun x hx=>(show rs=R from congrArg (·.2.2) h)▸hx,fun e=>(by rw [ho] at e;cases e)⟩
     ·split at h
      ·rename_i hn
       subst hn
       simp [collect] at hx
       have h:=Option.some.inj h
       refine ⟨congrArg (·.1) h,fun x hx'=>?_,fun _ hn=>absurd hn (by omega)⟩
       rw [hx.2] at hx';cases hx'
      ·have h:=Option.some.inj h
       have hR:a.block::(([]:Owns).map (·.1)++rs)=R:=congrArg (·.2.2) h
       rw [←hR]
       exact ⟨congrArg (·.1) h,fun x hx=>by simp [hx],fun _ _=>by simp⟩
    obtain ⟨rfl,h2,h3⟩:=hxl
    exact .inr ⟨a,n,c,rs,hv,hc.1,hc.2,(collect_length n 0 hx).symm,hx,h2,h3⟩
  ·cases h
 ·cases h
def Elems (w:World) (m:Mem) (Sh:Nat→Prop) (e:Ty) (l:List e.den) (v:Value):Prop:=
 ∃ A n c,∃ cs:List Value,v=.slice A n c∧n=l.length∧cs.length=n*e.cells∧(∀ u∈cs,single u=true)∧(∃ R,collect (fun i=>dec m e fun j=>cs[i*e.cells+j]?) n 0=some (l,[],R)∧∀ c∈R,Sh c)∧
  (∀ b,A=some b→∀ j u,cs[j]?=some u→w.cell? (b.add j)=some u)∧(A=none→n=0)∧(∀ b,A=some b→b.spot=none)
theorem Elems.nil {w m Sh e} {A:Option Addr} {c:Nat} (hA:∀ b,A=some b→b.spot=none):Elems w m Sh e [] (.slice A 0 c):=
 ⟨A,0,c,[],rfl,rfl,by simp,by simp,⟨[],rfl,by simp⟩,by simp,fun _=>rfl,hA⟩
section
variable {P:Program} {B:Base} {N:Nat} {ρ:Type} {Γ:AE} {a:Act} {w:World} {σ:Gh}
theorem Rel.ov_none {tm} (h:Rel B Γ N tm w σ) (hp:Γ.pd=none):σ.ov=none:=by
 have:=h.pend
 rw [hp] at this
 cases hov:σ.ov with
 |none=>rfl
 |some x=>rw [hov] at this;exact this.elim
theorem Rel.memo_shr {tm} (h:Rel B Γ N tm w σ) {c j:Nat} (hc:Shr B w σ c):memo w σ.ov c j=w.cell? ⟨c,j,none⟩:=by
 unfold memo
 split
 ·rename_i b o v hov
  have hp:=h.pend
  rw [hov] at hp
  cases hpd:Γ.pd with
  |none=>rw [hpd] at hp;exact hp.elim
  |some x=>
   obtain ⟨n,p,d⟩:=x
   rw [hpd] at hp
   obtain ⟨r,e,hr,hl⟩:=hp
   rw [←hov] at hl
   have hb:=h.place hr hl
   rw [if_neg]
   rintro ⟨rfl,-⟩
   exact hc.2.2 ⟨n,hb⟩
 ·rfl
theorem add_cell {A:Addr} (h:A.spot=none) (j:Nat):w.cell? (A.add j)=w.cell? ⟨A.block,A.off+j,none⟩:=by rw [add_none h]
theorem Rel.elems {tm} {e:Ty} (he:e.sh=e) (h:Rel B Γ N tm w σ) {av v} {K:List e.den→Rs ρ} {z:ρ} (ha:AVOk (memo w σ.ov) σ.g Γ.rt (Shr B w σ) av v) (hK:Γ.elems e av K=some z):
  ∃ l,K l=some z∧Elems w (memo w σ.ov) (Shr B w σ) e l v:=by
 unfold AE.elems at hK
 split at hK
 ·rename_i t' x
  split at hK
  ·rename_i ht
   subst ht
   refine ⟨_,hK,?_⟩
   obtain ⟨R,h1,h2⟩:=VOk.rd (t:=.list false t') ha rfl rfl
   rcases dec_row he h1 with ⟨rfl,h3⟩|⟨A,n,c,rs,rfl,g1,g2,g3,g4,g5,g6⟩
   ·show Elems _ _ _ _ x _
    rw [h3];exact Elems.nil (by simp)
   ·obtain ⟨cs,k1,k2,k3,k4⟩:=row_cells g4
    refine ⟨some A,n,c,cs,rfl,g3,k1,k3,⟨rs,k4,fun b hb=>h2 b (g5 b hb)⟩,fun b hb j u hu=>?_,by simp,fun b hb=>by simp only [sj] at hb;rw [←hb];exact g1⟩
    simp only [sj] at hb
    subst hb
    rw [add_cell g1,←h.memo_shr (h2 _ (g6 rfl ?_))]
    ·exact k2 j u hu
    ·have:=(List.getElem?_eq_some_iff.1 hu).1
     rw [k1] at this
     exact Nat.pos_of_ne_zero fun e0=>by rw [e0,Nat.zero_mul] at this;omega
  ·cases hK
 ·refine ⟨[],hK,?_⟩
  have ha:v=.slice none 0 0:=ha
  rw [ha];exact Elems.nil (by simp)
 ·refine ⟨[],hK,?_⟩
  obtain ⟨A,hv,hA⟩:=ha
  rw [hv];exact Elems.nil hA
 ·rename_i n p
  split at hK
  ·rename_i r hr
   obtain ⟨hpd,hr⟩:=look_some hr
   split at hK
   ·rename_i e' l hg
    split at hK
    ·rename_i hee
     subst hee
     obtain ⟨s,O',R',g1,g2,g3,g4,g5,g6⟩:=h.slice ha hr hg
     refine ⟨l,hK,?_⟩
     have hov:=h.ov_none hpd
     rcases dec_row he g4 with ⟨rfl,h3⟩|⟨A,n,c,rs,rfl,f1,f2,f3,f4,f5,-⟩
     ·rw [h3];exact Elems.nil (by simp)
     ·obtain ⟨cs,k1,k2,k3,k4⟩:=row_cells f4
      refine ⟨some A,n,c,cs,rfl,f3,k1,k3,⟨rs,k4,fun b hb=>g5 b (f5 b hb)⟩,fun b hb j u hu=>?_,by simp,fun b hb=>by simp only [sj] at hb;rw [←hb];exact f1⟩
      simp only [sj] at hb
      subst hb
      rw [add_cell f1]
      have:=k2 j u hu
      rw [hov] at this
      exact this
    ·cases hK
   ·cases hK
  ·cases hK
 ·rename_i n p o k
  split at hK
  ·rename_i r hr
   obtain ⟨hpd,hr⟩:=look_some hr
   split at hK
   ·rename_i e' l hg
    split at hK
    ·rename_i hee
     subst hee
     obtain ⟨s,O',R',A0,n0,c,g1,g2,g3,g4,g5,g6,a',rfl,g7,g8⟩:=h.window ha hr hg
     refine ⟨_,hK,?_⟩
     show Elems _ _ _ _ (List.take k (List.drop o l)) _
     have hov:=h.ov_none hpd
     rcases dec_row he g3 with ⟨hv,h3⟩|⟨A,n,c',rs,hv,f1,f2,f3,f4,f5,-⟩
     ·simp only [Value.slice.injEq] at hv
      have hk:k=0:=by omega
      subst hk
      exact Elems.nil g7
     ·simp only [Value.slice.injEq] at hv
      obtain ⟨rfl,rfl,rfl⟩:=hv
      rw [show n0=o+(k+(n0-o-k)) from by omega] at f4
      obtain ⟨os1,rs1,os2,rs2,j1,j2,e1,rfl⟩:=collect_take o _ 0 f4
      obtain ⟨os3,rs3,os4,rs4,j3,j4,rfl,rfl⟩:=collect_take k _ (0+o) j2
      have hos:os3=[]:=by
       have:=congrArg List.length e1
       simp at this
       exact List.length_eq_zero_iff.1 (by omega)
      subst hos
      have hshift:∀ (q i:Nat),collect (fun i=>dec (memo w σ.ov) e' fun j=>memo w σ.ov A.block (A.off+o*e'.cells+(i*e'.cells+j))) q i=collect (fun i=>dec (memo w σ.ov) e' fun j=>memo w σ.ov A.block (A.off+(i*e'.cells+j))) q (o+i):=by
       intro q
       induction q with
       |zero=>intro i;rfl
       |succ q ih=>
        intro i
        have hf:(fun j=>memo w σ.ov A.block (A.off+o*e'.cells+(i*e'.cells+j)))=fun j=>memo w σ.ov A.block (A.off+((o+i)*e'.cells+j)):=by
         funext j
         rw [Nat.add_mul];congr 1;omega
        simp only [collect]
        rw [ih (i+1),hf,show o+(i+1)=o+i+1 from by omega]
      have hc:collect (fun i=>dec (memo w σ.ov) e' fun j=>memo w σ.ov A.block (A.off+o*e'.cells+(i*e'.cells+j))) k 0=some (List.take k (List.drop o l),[],rs3):=by
       rw [hshift,Nat.add_zero]
       rw [Nat.zero_add] at j3
       exact j3
      obtain ⟨cs,k1,k2,k3,k4⟩:=row_cells hc
      refine ⟨a',k,c-o,cs,rfl,?_,k1,k3,⟨rs3,k4,fun b hb=>g4 b (f5 b (by simp [hb]))⟩,fun b hb j u hu=>?_,fun hn=>?_,g7⟩
      ·have e0:n0=l.length:=f3
       have e1:(List.take k (List.drop o l)).length=min k (l.length-o):=List.length_take.trans (congrArg (min k) List.length_drop)
       rw [e1];omega
      ·have hjk:=(List.getElem?_eq_some_iff.1 hu).1
       rw [k1] at hjk
       have hk0:0<k:=Nat.pos_of_ne_zero fun e0=>by rw [e0,Nat.zero_mul] at hjk;omega
       rcases g8 with g8|g8
       ·omega
       ·rw [g8] at hb
        simp only [Option.map_some,sj] at hb
        rw [←hb,add_none f1,add_cell rfl]
        have:=k2 j u hu
        rw [hov] at this
        exact this
      ·rcases g8 with g8|g8
       ·omega
       ·rw [g8] at hn;simp at hn
    ·cases hK
   ·cases hK
  ·cases hK
 ·cases hK
theorem run_first {w w2:World} {e:Ty} {v:Value} {A:Option Addr} {n c:Nat} {cs:List Value} (hv:v=.slice A n c) (hw:∀ x,w2.cell? x=w.cell? x) (hlen:cs.length=n*e.cells)
  (hc:∀ b,A=some b→∀ j u,cs[j]?=some u→w.cell? (b.add j)=some u) (hn:A=none→n=0) (k:Nat) (hk:k≤n):
  (Builtin.firstCells e.cells k v).run P w2=.ok (cs.take (k*e.cells)).toArray w2:=by
 subst hv
 cases A with
 |none=>
  have:k=0:=by have:=hn rfl;omega
  subst this
  simp [Builtin.firstCells]
 |some b=>
  refine run_firstCells_some w2 e.cells k b n c _ ?_ fun j u hu=>?_
  ·have:k*e.cells≤n*e.cells:=Nat.mul_le_mul_right _ hk
   rw [List.length_take];omega
  ·rw [hw]
   refine hc b rfl j u ?_
   rw [List.getElem?_take] at hu
   split at hu
   ·exact hu
   ·cases hu
end
end Go.Ab
namespace Go.Ab
theorem tyOk_und {P:Program} {τ:Ty} {t:TypeId} (h:tyOk P τ (.inl t)=true):∃ d,P.underlying t=some d:=by
 cases hu:P.underlying t with
 |some d=>exact ⟨d,rfl⟩
 |none=>cases τ<;>simp [tyOk,hu] at h
theorem tyOk_int {P:Program} {k:IntKind} {t:TypeId} (h:tyOk P (.int k) (.inl t)=true):P.underlying t=some (.int k):=by
 simp only [tyOk,Bool.and_eq_true] at h
 obtain ⟨-,h⟩:=h
 split at h
 ·rename_i k' hk
  rw [hk]
  simp only [decide_eq_true_eq] at h
  rw [h]
 ·cases h
theorem tyOk_str {P:Program} {t:TypeId} (h:tyOk P .str (.inl t)=true):P.underlying t=some .string:=by
 simp only [tyOk,Bool.and_eq_true] at h
 obtain ⟨-,h⟩:=h
 split at h
 ·assumption
 ·cases h
theorem ints_cells {m:Mem} {k:IntKind}:∀ (l:List Int) (n i:Nat) {cs:List Value} {R},cs.length=i+n→collect (fun i=>dec m (.int k) fun j=>cs[i*1+j]?) n i=some (l,[],R)→cs.drop i=l.map (Value.int k)
 |l,0,i,cs,R,hl,h=>by
  have h1:[]=l:=congrArg (·.1) (Option.some.inj h)
  have:cs.drop i=[]:=List.drop_eq_nil_iff.2 (by omega)
  rw [this,←h1];rfl
 |l,n+1,i,cs,R,hl,h=>by
  simp only [collect] at h
  split at h
  ·cases h
  ·rename_i x o r hx
   split at h
   ·cases h
   ·rename_i xs os rs h2
    have hi:i<cs.length:=by omega
    simp only [dec,Nat.mul_one,Nat.add_zero,List.getElem?_eq_getElem hi] at hx
    split at hx
    ·rename_i k' n' hv
     split at hx
     ·rename_i hk
      subst hk
      have hxv:n'=x:=congrArg (·.1) (Option.some.inj hx)
      have hl':x::xs=l:=congrArg (·.1) (Option.some.inj h)
      have ho:o=[]:=by
       have:o++os=[]:=congrArg (·.2.1) (Option.some.inj h)
       exact (List.append_eq_nil_iff.1 this).1
      have hos:os=[]:=by
       have:o++os=[]:=congrArg (·.2.1) (Option.some.inj h)
       exact (List.append_eq_nil_iff.1 this).2
      subst hos
      rw [List.drop_eq_getElem_cons hi,ints_cells xs n (i+1) (by omega) h2,←hl']
      simp only [sj] at hv
      rw [hv,hxv];rfl
     ·cases hx
    ·cases hx
section
variable {P:Program} {B:Base} {N:Nat} {ρ:Type} {Γ:AE} {a:Act} {w:World} {σ:Gh}
theorem push_bytes (ns:List Int):∀ (s:ByteArray),((ns.foldl (fun r n=>r.push (UInt8.ofNat n.toNat)) s).data.toList.map fun b=>(b.toNat:Int))=(s.data.toList.map fun b=>(b.toNat:Int))++b2s ns:=by
 induction ns with
 |nil=>intro s;simp [b2s]
 |cons n ns ih=>
  intro s
  rw [List.foldl_cons,ih]
  simp [b2s,ByteArray.push]
theorem heap_freeze (w:World) (a:Addr) (c:Nat):(w.freeze a 1).heap[c]?=if c=a.block then (w.heap[c]?).map (fun|.cells cs elem (lo,hi)=>.cells cs elem (if lo==hi then (a.off,a.off+1) else (min lo a.off,max hi (a.off+1)))|o=>o) else w.heap[c]?:=by
 unfold World.freeze
 rw [if_neg (by decide)]
 simp only [Array.getElem?_modify]
 by_cases e:a.block=c
 ·rw [if_pos e,if_pos e.symm]
  cases w.heap[c]? with
  |none=>rfl
  |some o=>cases o<;>rfl
 ·rw [if_neg e,if_neg (Ne.symm e)]
theorem cell_freeze (w:World) (a p:Addr):(w.freeze a 1).cell? p=w.cell? p:=by
 unfold World.cell?
 rw [heap_freeze]
 by_cases e:p.block=a.block
 ·rw [if_pos e]
  cases w.heap[p.block]? with
  |none=>rfl
  |some o=>cases o<;>rfl
 ·rw [if_neg e]
theorem memo_freeze (w:World) (a:Addr) (ov):memo (w.freeze a 1) ov=memo w ov:=by
 funext b o
 cases ov with
 |none=>exact cell_freeze w a _
 |some y=>
  obtain ⟨b',o',v⟩:=y
  simp only [memo]
  split
  ·rfl
  ·exact cell_freeze w a _
theorem Rel.frozen {Γ:AE} {w:World} {σ:Gh} {tm:Nat→Value} (h:Rel B Γ N tm w σ) {b:Nat} (ho:Owned σ b) {cs:Array Value} {el:TypeId} {lo hi:Nat} (hh:w.heap[b]?=some (.cells cs el (lo,hi))):
  Rel B Γ N tm (w.freeze { block:=b,off:=cs.size } 1) σ:=by
 have hsz:(w.freeze { block:=b,off:=cs.size } 1).heap.size=w.heap.size:=by
  unfold World.freeze;rw [if_neg (by decide)];simp
 refine h.mem (fun c j _=>by rw [memo_freeze]) (fun n p hp=>?_) (Nat.le_of_eq hsz.symm) (fun c hc hF=>?_)
 ·obtain ⟨c,e,lo',hi',g1,g2,g3⟩:=h.live n p hp
  unfold Free
  rw [heap_freeze]
  by_cases e1:p.1=b
  ·rw [if_pos e1,g1]
   rw [e1,hh] at g1
   simp only [sj,Obj.cells.injEq,Prod.mk.injEq] at g1
   obtain ⟨rfl,rfl,rfl,rfl⟩:=g1
   have key:∃ lo2 hi2,(if (lo==hi)=true then (cs.size,cs.size+1) else (min lo cs.size,max hi (cs.size+1)))=(lo2,hi2)∧p.2≤lo2:=by
    by_cases e2:lo=hi
    ·exact ⟨_,_,if_pos (by simpa using e2),g2⟩
    ·refine ⟨_,_,if_neg (by simpa using e2),?_⟩
     rcases g3 with g3|g3
     ·exact absurd g3.symm e2
     ·omega
   obtain ⟨lo2,hi2,k1,k2⟩:=key
   exact ⟨cs,el,lo2,hi2,by simp only [Option.map_some,k1],g2,.inr k2⟩
  ·rw [if_neg e1];exact ⟨c,e,lo',hi',g1,g2,g3⟩
 ·rw [heap_freeze,if_neg (fun e=>?_)]
  ·exact h.frame c hc hF
  ·rcases h.mine b ho with g|g
   ·exact hF (e▸g)
   ·have:c=b:=e
    omega
theorem does_convert {o:Oper} {t t2:TypeId} {x:Operand} {d:Nat} {cx:Cx} {q:Bool} {K:AE→Rs ρ} {z:ρ} (hcx:CxTy P cx) (ho:o.op=.convert t t2 x) (hd:o.dst=some d)
  (h:Rel B Γ N (tmOf a) w σ) (hN:a.tmps.size=N) (hf:fits N o=true) (hz:aop cx q o Γ K=some z):Does P B N o a w K z:=by
 have hx:=h.opd (fits_op hf x (by simp [ho,Op.operands]))
 simp only [aop,ho,hd] at hz
 have hrun:∀ v w',(convert t t2 (a.eval x)).run P w=.ok v w'→(execOp a.eval o).run P w=.ok (.value v) w':=fun v w' hv=>by simp [execOp,ho,hv]
 unfold AE.conv AE.convK at hz
 split at hz
 ·rename_i τ k k' n hT hT2 he
  rw [he] at hx
  have hv:=AVOk.int hx
  obtain ⟨u,hu⟩:=tyOk_und (hcx.T _ _ hT).2
  have hu2:=tyOk_int (hcx.T _ _ hT2).2
  refine Does.set hd hN (hrun (.int k (k.wrap n)) w ?_) h (AVOk.mk_int _) hz
  rw [hv]
  simp [convert,run_underlying hu,run_underlying hu2,Conv.intToInt]
 ·rename_i o' l hT hT2 he
  suffices main:∀ l:List Int,Γ.opd x=.val .str l→(bif lim (List.length l) then Γ.fresh q d ⟨false,.list true (.int .u8),l⟩ fun Γ=>K (Γ.set d (.sref d [])) else none)=some z→Does P B N o a w K z from main l he hz
  clear he hz
  intro l he hz
  rw [he] at hx
  obtain ⟨s,hv,hl⟩:=AVOk.str hx
  have hu:=tyOk_str (hcx.T _ _ hT).2
  obtain ⟨hsh,hty2⟩:=hcx.T _ _ hT2
  obtain ⟨e,hu2,hte,-⟩:=tyOk_elem hty2
  have hue:=tyOk_int hte
  rcases bif_some hz with ⟨-,hz⟩|⟨-,hz⟩
  ·have hr:=run_bytes_of_string (P:=P) w t t2 e s hu hu2 hue
   rw [←hv] at hr
   have hg:=grownCap_ge w s.size 0 e
   have hsize:(bytesRow s (grownCap w s.size 0 e)).size=grownCap w s.size 0 e:=by
    have:s.data.size=s.size:=rfl
    simp only [bytesRow,Array.size_append,Array.size_map,Array.size_replicate]
    omega
   have hll:List.length l=s.size:=by rw [hl,List.length_map];rfl
   have hll':@List.length (Ty.int .u8).den l=s.size:=hll
   have hcol:collect (fun i=>dec (memo w σ.ov) (.int .u8) fun j=>(bytesRow s (grownCap w s.size 0 e))[i*(Ty.int .u8).cells+j]?) (List.length l) 0=some (l,[],[]):=by
    have key:∀ (n i:Nat) (l':List Int),l'=l.drop i→l'.length=n→i+n=s.size→collect (fun i=>dec (memo w σ.ov) (.int .u8) fun j=>(bytesRow s (grownCap w s.size 0 e))[i*(Ty.int .u8).cells+j]?) n i=some (l',[],[]):=by
     intro n
     induction n with
     |zero=>intro i l' _ h2 _;rw [List.length_eq_zero_iff.1 h2];rfl
     |succ n ih=>
      intro i l' h1 h2 h3
      have hi:i<s.data.toList.length:=by
       have:s.data.toList.length=s.size:=rfl
       omega
      have hi':i<(List.map (fun b:UInt8=>(b.toNat:Int)) s.data.toList).length:=by simpa using hi
      have hcell:(bytesRow s (grownCap w s.size 0 e))[i]?=some (.int .u8 ((s.data.toList[i]).toNat:Int)):=by
       have hi2:i<s.data.size:=by simpa using hi
       simp only [bytesRow]
       rw [Array.getElem?_append_left (by simpa using hi2),Array.getElem?_map,Array.getElem?_eq_getElem hi2]
       simp
      have hl':l'=((s.data.toList[i]).toNat:Int)::l.drop (i+1):=by
       rw [h1,hl,List.drop_eq_getElem_cons hi',List.getElem_map]
      subst hl'
      have h4:=ih (i+1) (l.drop (i+1)) rfl (by simpa using h2) (by omega)
      simp only [collect]
      rw [h4]
      simp only [dec,Ty.cells,Nat.mul_one,Nat.add_zero,hcell,if_true]
      rfl
    exact key _ 0 l rfl rfl (by omega)
   obtain ⟨Γ',σ',g1,g2,g3,-,-⟩:=h.newSlice (c:=grownCap w s.size 0 e) hz (w':=w.drew.alloc (.cells (bytesRow s (grownCap w s.size 0 e)) e ((bytesRow s (grownCap w s.size 0 e)).size,(bytesRow s (grownCap w s.size 0 e)).size+1)))
    (fun c hc=>heap_alloc_old (w:=w.drew) _ c hc) (size_alloc_le (w:=w.drew) _) (heap_alloc_new (w:=w.drew) _) (.inr (by simp [hsize,Ty.cells])) (by simp [hsize,Ty.cells]) (Nat.le_trans (Nat.le_of_eq hll') hg) hcol (by simp)
   rw [hll'] at g3
   exact Does.set hd hN (hrun _ _ hr) g2 g3 g1
  ·cases hz
 ·rename_i l hT hT2 he
  rw [he] at hx
  obtain ⟨s,hv,hl⟩:=AVOk.str hx
  have hu:=tyOk_str (hcx.T _ _ hT).2
  have hu2:=tyOk_str (hcx.T _ _ hT2).2
  refine Does.set hd hN (hrun (.string s) w ?_) h (hl▸AVOk.mk_str s) hz
  rw [hv]
  simp [convert,run_underlying hu,run_underlying hu2]
 ·rename_i o1 o2 n hT hT2 he
  split at hz
  ·rename_i htt
   subst htt
   split at hz
   ·rename_i l hl
    obtain ⟨hlen,hz⟩:=(bif_some hz).elim id fun h=>by cases h.2
    have hlen:0<List.length l:=by simpa using hlen
    obtain ⟨hpd,hr⟩:=look_some hl
    rw [he] at hx
    obtain ⟨hsh,hty⟩:=hcx.T _ _ hT
    obtain ⟨e,hu,hte,-⟩:=tyOk_elem hty
    have hue:=tyOk_int hte
    obtain ⟨s,O',R',f1,f2,f3,f4,f5,f6⟩:=h.slice hx hr (show getP (.list true (.int .u8)) l []=⟨.list true (.int .u8),l⟩ from rfl)
    obtain ⟨b,n1,c1,hval,hb,hnc,hc0,hbow⟩:∃ (b:Addr) (n1 c1:Nat),a.eval x=.slice (some b) n1 c1∧b.spot=none∧n1≤c1∧c1≠0∧b.block∈(σ.ow n).map (·.1):=by
     rcases dec_own f4 with ⟨hs,hl0,-,-⟩|⟨b,n1,c1,os,hs,hA,hn,hcol,ho⟩
     ·rw [hl0] at hlen;simp at hlen
     ·simp only [Src.rd,if_true,sj] at hs
      have hn1:List.length l=n1:=collect_length _ _ hcol
      have hc1:c1≠0:=by omega
      refine ⟨b,n1,c1,hs,hA,hn,hc1,f6 _ ?_⟩
      rcases ho with ⟨h0,-⟩|⟨-,ho⟩
      ·exact absurd h0 hc1
      ·rw [ho];simp
    have hown:Owned σ b.block:=⟨n,hbow⟩
    obtain ⟨p0,hp0,hp1⟩:=List.mem_map.1 hbow
    obtain ⟨cs,el,lo,hi,hheap,-,-⟩:=h.live n p0 hp0
    rw [hp1] at hheap
    have hrun1:(convert t t (a.eval x)).run P w=.ok (a.eval x) (w.freeze { block:=b.block,off:=cs.size } 1):=by
     have hshp:w.shape? b.block=some (el,cs.size):=by unfold World.shape?;rw [hheap]
     rw [hval]
     simp [convert,run_underlying hu,run_underlying hue,markStringish,hshp]
    exact Does.set hd hN (hrun _ _ hrun1) (h.frozen hown hheap) (av:=.sref n []) (by
     obtain ⟨r,e',s',k1,k2,k3⟩:=hx
     exact ⟨r,e',s',k1,by rw [memo_freeze];exact k2,by rw [memo_freeze];exact k3⟩) hz
   ·cases hz
  ·cases hz
 ·rename_i o' hT hT2
  obtain ⟨hsh,hty⟩:=hcx.T _ _ hT
  obtain ⟨e,hu,hte,-⟩:=tyOk_elem hty
  have hue:=tyOk_int hte
  have hu2:=tyOk_str (hcx.T _ _ hT2).2
  obtain ⟨l,hz,A,n,c,cs,hv,hn,hlen,-,⟨R,hcol,-⟩,hc,hnil,-⟩:=h.elems rfl hx hz
  have hlen':cs.length=n:=by simpa [Ty.cells] using hlen
  have hcs:cs=l.map (Value.int .u8):=by
   have:=ints_cells (k:=.u8) l n 0 (cs:=cs) (by omega) hcol
   rwa [List.drop_zero] at this
  cases A with
  |none=>
   have h0:l=[]:=by
    have:=hnil rfl
    exact List.length_eq_zero_iff.1 (by omega)
   refine Does.set hd hN (hrun (.string .empty) w ?_) h (av:=.val .str (b2s l)) (by rw [h0];exact AVOk.mk_str .empty) hz
   rw [hv,run_convert_bytes_string w t t2 e none n c hu hue hu2]
   simp [Conv.bytesToString]
  |some b=>
   refine Does.set hd hN (hrun (.string (l.foldl (fun r n=>r.push (UInt8.ofNat n.toNat)) ByteArray.empty)) w ?_) h (av:=.val .str (b2s l)) ?_ hz
   ·rw [hv,run_convert_bytes_string w t t2 e _ n c hu hue hu2]
    refine run_bytesToString w b n c l ?_
    rw [←hcs,←hlen']
    exact run_loadCells_list w b cs (hc b rfl)
   ·have:=push_bytes l ByteArray.empty
    have e1:b2s l=((l.foldl (fun r n=>r.push (UInt8.ofNat n.toNat)) ByteArray.empty).data.toList.map fun b=>(b.toNat:Int)):=by
     exact (this.trans (List.nil_append _)).symm
    rw [e1]
    exact AVOk.mk_str _
 ·cases hz
theorem run_blt {o:Oper} {c:Call} {b:Builtin} (ho:o.op=.call c) (hb:c.callee=.builtin b):
  ∃ cs,(execOp a.eval o).run P w=(builtin b c.argTypes o.type cs (c.args.map a.eval)).run P w:=by
 exact ⟨_,by simp [execOp,ho,resolve,hb,invoke];rfl⟩
theorem does_len {o:Oper} {c:Call} {d:Nat} {cx:Cx} {q:Bool} {K:AE→Rs ρ} {z:ρ} (hcx:CxTy P cx) (ho:o.op=.call c) (hb:c.callee=.builtin .len) (hd:o.dst=some d)
  (h:Rel B Γ N (tmOf a) w σ) (hN:a.tmps.size=N) (hf:fits N o=true) (hz:aop cx q o Γ K=some z):Does P B N o a w K z:=by
 obtain ⟨cs,hrun⟩:=run_blt (P:=P) (a:=a) (w:=w) ho hb
 have hops:=fits_op hf
 have hl:∃ x,c.args.toList=[x]:=by
  cases hl:c.args.toList with
  |nil=>simp only [aop,ho,hd,hb,hl,List.map_nil,AE.blt] at hz;cases hz
  |cons x l=>
   cases l with
   |nil=>exact ⟨x,rfl⟩
   |cons y l=>simp only [aop,ho,hd,hb,hl,List.map_cons,AE.blt] at hz;cases hz
 obtain ⟨x,hx⟩:=hl
 have hargs:c.args=#[x]:=by rw [←Array.toList_inj];simpa using hx
 have hxo:opdOk N x=true:=hops x (by simp [ho,Op.operands,hb,hargs,Call.operands])
 simp only [aop,ho,hd,hb,hx,List.map_cons,List.map_nil,AE.blt] at hz
 cases ht:c.argTypes.toList.head? with
  |none=>
   rw [ht] at hz
   simp only [Option.bind_none] at hz
   unfold AE.lenK at hz
   split at hz<;>first|(rename_i h1 _;cases h1;done)|(rename_i h1;cases h1;done)|(cases hz;done)
  |some t=>
   rw [ht] at hz
   simp only [Option.bind_some] at hz
   obtain ⟨n,hz,hn⟩:=lenK_some hcx h hxo hz o.type
   have ht0:c.argTypes[0]?=some t:=by
    rw [←Array.getElem?_toList]
    cases hl:c.argTypes.toList with
    |nil=>rw [hl] at ht;cases ht
    |cons y l=>rw [hl] at ht;simpa using ht
   refine Does.set hd hN (hrun.trans ?_) h (AVOk.mk_int _) hz
   have hsame:Builtin.len_ c.argTypes o.type #[a.eval x]=Builtin.len_ #[t] o.type #[a.eval x]:=by
    simp [Builtin.len_,ht0]
   simp [builtin,hargs,hsame,hn]
theorem call_opds {o:Oper} {c:Call} {b:Builtin} (ho:o.op=.call c) (hb:c.callee=.builtin b) (hf:fits N o=true):∀ y∈c.args.toList,opdOk N y=true:=fun y hy=>
 fits_op hf y (by simp only [ho,Op.operands,Call.operands,hb];simpa using hy)
theorem does_max {o:Oper} {c:Call} {d:Nat} {cx:Cx} {q:Bool} {K:AE→Rs ρ} {z:ρ} (ho:o.op=.call c) (hb:c.callee=.builtin .max) (hd:o.dst=some d)
  (h:Rel B Γ N (tmOf a) w σ) (hN:a.tmps.size=N) (hf:fits N o=true) (hz:aop cx q o Γ K=some z):Does P B N o a w K z:=by
 obtain ⟨cs,hrun⟩:=run_blt (P:=P) (a:=a) (w:=w) ho hb
 have hops:=call_opds ho hb hf
 cases hl:c.args.toList with
 |nil=>simp only [aop,ho,hd,hb,hl,List.map_nil,AE.blt] at hz;cases hz
 |cons x l=>
  simp only [aop,ho,hd,hb,hl,List.map_cons,AE.blt] at hz
  split at hz
  all_goals first|(rename_i h1;cases h1;done)|(rename_i h1 _;cases h1;done)|(cases hz;done)|skip
  ·rename_i k n r h1 h2
   have hx:=h.opd (hops x (by rw [hl];simp))
   obtain ⟨e1,rfl⟩:=List.cons.inj h2
   rw [e1] at hx
   obtain ⟨r,hz,hr⟩:=mins_some (P:=P) (f:=imax) (g:=Builtin.max2) (k:=k) (fun x y w=>by simp [Builtin.max2,imax]) l n h (fun y hy=>hops y (by rw [hl];simp [hy])) hz
   refine Does.set hd hN (hrun.trans ?_) h (AVOk.mk_int _) hz
   have hm:(c.args.map a.eval).toList=a.eval x::l.map a.eval:=by rw [Array.toList_map,hl];rfl
   simp only [builtin,Builtin.max_,hm,AVOk.int hx,Sem.run_bind]
   erw [hr];rfl
theorem does_min {o:Oper} {c:Call} {d:Nat} {cx:Cx} {q:Bool} {K:AE→Rs ρ} {z:ρ} (ho:o.op=.call c) (hb:c.callee=.builtin .min) (hd:o.dst=some d)
  (h:Rel B Γ N (tmOf a) w σ) (hN:a.tmps.size=N) (hf:fits N o=true) (hz:aop cx q o Γ K=some z):Does P B N o a w K z:=by
 obtain ⟨cs,hrun⟩:=run_blt (P:=P) (a:=a) (w:=w) ho hb
 have hops:=call_opds ho hb hf
 cases hl:c.args.toList with
 |nil=>simp only [aop,ho,hd,hb,hl,List.map_nil,AE.blt] at hz;cases hz
 |cons x l=>
  simp only [aop,ho,hd,hb,hl,List.map_cons,AE.blt] at hz
  split at hz
  all_goals first|(rename_i h1;cases h1;done)|(rename_i h1 _;cases h1;done)|(cases hz;done)|skip
  ·rename_i k n r h1 h2
   have hx:=h.opd (hops x (by rw [hl];simp))
   obtain ⟨e1,rfl⟩:=List.cons.inj h2
   rw [e1] at hx
   obtain ⟨r,hz,hr⟩:=mins_some (P:=P) (f:=imin) (g:=Builtin.min2) (k:=k) (fun x y w=>by simp [Builtin.min2,imin]) l n h (fun y hy=>hops y (by rw [hl];simp [hy])) hz
   refine Does.set hd hN (hrun.trans ?_) h (AVOk.mk_int _) hz
   have hm:(c.args.map a.eval).toList=a.eval x::l.map a.eval:=by rw [Array.toList_map,hl];rfl
   simp only [builtin,Builtin.min_,hm,AVOk.int hx,Sem.run_bind]
   erw [hr];rfl
end
end Go.Ab
namespace Go.Ab
theorem loc_apart {m:Mem}:∀ (p:Path) (t:Ty) (s:Src) {x O R t' b o y O' R'},dec m t (s.rd m)=some (x,O,R)→loc m t s p=some (t',.at b o)→dec m t' ((Src.at b o).rd m)=some (y,O',R')→
  (O.map (·.1)).Nodup→(∀ c∈O.map (·.1),s.avoids c)→b∉O'.map (·.1)
 | [],t,s,x,O,R,t',b,o,y,O',R',h,hl,hy,hn,hs=>by
  simp only [loc,locQ,sj,Prod.mk.injEq] at hl
  obtain ⟨rfl,rfl⟩:=hl
  rw [h] at hy
  simp only [sj,Prod.mk.injEq] at hy
  obtain ⟨-,rfl,-⟩:=hy
  exact fun hb=>hs b hb rfl
 |.fst::p,t,s,x,O,R,t',b,o,y,O',R',h,hl,hy,hn,hs=>by
  obtain ⟨a,b',bl,so,rfl,rfl,hl⟩:=loc_fst hl
  obtain ⟨x1,o1,r1,x2,o2,r2,h1,h2,rfl,rfl,rfl⟩:=dec_pair h
  simp only [List.map_append] at hn hs
  exact loc_apart p a (.at bl so) h1 hl hy (List.nodup_append.1 hn).1 (fun c hc=>hs c (List.mem_append_left _ hc))
 |.snd::p,t,s,x,O,R,t',b,o,y,O',R',h,hl,hy,hn,hs=>by
  obtain ⟨a,b',bl,so,rfl,rfl,hl⟩:=loc_snd hl
  obtain ⟨x1,o1,r1,x2,o2,r2,h1,h2,rfl,rfl,rfl⟩:=dec_pair h
  rw [rd_at] at h2
  simp only [List.map_append] at hn hs
  exact loc_apart p b' (.at bl (so+a.cells)) h2 hl hy (List.nodup_append.1 hn).2.1 (fun c hc=>hs c (List.mem_append_right _ hc))
 |.idx i::p,t,s,x,O,R,t',b,o,y,O',R',h,hl,hy,hn,hs=>by
  rcases loc_idx hl with ⟨n,t1,bl,so,rfl,rfl,hi,hl⟩|⟨t1,a,n,c,rfl,hv',hi,hl⟩
  ·simp only [dec,rd_at] at h
   obtain ⟨y0,o0,r0,A0,B0,A0',B0',hf,-,rfl,rfl⟩:=collect_at n 0 i h hi
   simp only [Nat.zero_add] at hf
   simp only [List.map_append] at hn hs
   exact loc_apart p t1 _ hf hl hy (List.nodup_append.1 (List.nodup_append.1 hn).2.1).1 (fun c hc=>hs c (List.mem_append_right _ (List.mem_append_left _ hc)))
  ·rcases dec_own h with ⟨hv,-⟩|⟨a',n',c',os,hv,ha,hn',hx,ho⟩
   ·rw [hv] at hv';cases hv'
   ·rw [hv] at hv'
    simp only [sj,Value.slice.injEq] at hv'
    obtain ⟨rfl,rfl,rfl⟩:=hv'
    obtain ⟨y0,o0,r0,A0,B0,A0',B0',hf,-,rfl,rfl⟩:=collect_at n' 0 i hx hi
    simp only [Nat.zero_add] at hf
    rcases ho with ⟨hc,-⟩|⟨-,rfl⟩
    ·omega
    ·simp only [List.map_append,List.map_cons,List.nodup_cons] at hn hs
     exact loc_apart p t1 _ hf hl hy (List.nodup_append.1 (List.nodup_append.1 hn.2).2.1).1 (fun c hc=>by
      rintro rfl
      exact hn.1 (List.mem_append_right _ (List.mem_append_left _ hc)))
section
variable {P:Program} {B:Base} {N:Nat} {ρ:Type} {Γ:AE} {a:Act} {w:World} {σ:Gh}
theorem Rel.own {tm} (h:Rel B Γ N tm w σ) {n p v r} {e:Ty} {l:List e.den} (ha:AVOk (memo w σ.ov) σ.g Γ.rt (Shr B w σ) (.sref n p) v) (hr:Γ.rt n=some r) (hg:getP r.t r.x p=⟨.list true e,l⟩):
  ∃ s O' R',loc (memo w σ.ov) r.t (σ.g n) p=some (.list true e,s)∧s.rd (memo w σ.ov) 0=some v∧dec (memo w σ.ov) (.list true e) (s.rd (memo w σ.ov))=some (l,O',R')∧
   dec (memo w σ.ov) (.list true e) ((Src.one v).rd (memo w σ.ov))=some (l,O',R')∧(∀ c∈R',Shr B w σ c)∧(∀ q∈O',q∈σ.ow n)∧(O'.map (·.1)).Nodup∧(∀ b o,s=.at b o→b∉O'.map (·.1)):=by
 obtain ⟨r',e',s,h1,h2,h3⟩:=ha
 rw [hr] at h1
 simp only [sj] at h1
 subst h1
 obtain ⟨O1,R1,k1,k2,k3,k4,k5,k6⟩:=h.sep hr
 obtain ⟨y,O',R',A,B',A',B'',g1,g2,g3,g4⟩:=dec_loc p r.t _ k1 h2
 rw [hg] at g2
 have hE:e=e':=by have:=congrArg Sigma.fst g2;simpa using this
 subst hE
 have g2:=eq_of_heq (Sigma.mk.inj g2).2
 subst g2
 have hsub:∀ q∈O',q∈O1:=fun q hq=>by rw [g3];exact List.mem_append_right _ (List.mem_append_left _ hq)
 refine ⟨s,O',R',h2,h3,g1,dec_frame _ g1 (fun j hj=>?_) (fun _ _ _=>rfl),fun c hc=>k2 c (by rw [g4];simp [hc]),fun q hq=>?_,?_,fun b o hs=>?_⟩
 ·have hj0:j=0:=by simp only [Ty.cells] at hj;omega
  subst hj0
  rw [h3];rfl
 ·rcases k6 with ⟨-,b,-,hO⟩|⟨-,-,-,hO⟩
  ·rw [hO];exact List.mem_cons_of_mem _ (hsub q hq)
  ·rw [hO];exact hsub q hq
 ·have:=k3.nodup
  rw [g3] at this
  simp only [List.map_append] at this
  exact (List.nodup_append.1 (List.nodup_append.1 this).2.1).1
 ·subst hs
  exact loc_apart p r.t _ k1 h2 g1 k3.nodup k3.src
theorem rows_append {m:Mem} {e:Ty} {l1 l2:List e.den} {cs1 cs2 rest:List Value} {n1 n2:Nat} {R1 R2} (h1:collect (fun i=>dec m e fun j=>cs1[i*e.cells+j]?) n1 0=some (l1,[],R1)) (hl1:cs1.length=n1*e.cells)
  (h2:collect (fun i=>dec m e fun j=>cs2[i*e.cells+j]?) n2 0=some (l2,[],R2)) (hl2:cs2.length=n2*e.cells):
  collect (fun i=>dec m e fun j=>(cs1++(cs2++rest))[i*e.cells+j]?) (n1+n2) 0=some (List.append l1 l2,[],R1++R2):=by
 have a1:collect (fun i=>dec m e fun j=>(cs1++(cs2++rest))[i*e.cells+j]?) n1 0=some (l1,[],R1):=by
  refine dec_frame (.arr n1 e) (show dec m (.arr n1 e) (fun j=>cs1[j]?)=_ from h1) (rd':=fun j=>(cs1++(cs2++rest))[j]?) (fun j hj=>?_) (fun _ _ _=>rfl)
  exact List.getElem?_append_left (by rw [hl1];exact hj)
 have a2:collect (fun i=>dec m e fun j=>(cs1++(cs2++rest))[i*e.cells+j]?) n2 n1=some (l2,[],R2):=by
  have hs:∀ (k i:Nat),i+k≤n2→collect (fun i=>dec m e fun j=>(cs1++(cs2++rest))[i*e.cells+j]?) k (n1+i)=collect (fun i=>dec m e fun j=>(cs2++rest)[i*e.cells+j]?) k i:=by
   intro k
   induction k with
   |zero=>intro i _;rfl
   |succ k ih=>
    intro i hi
    have hf:(fun j=>(cs1++(cs2++rest))[(n1+i)*e.cells+j]?)=fun j=>(cs2++rest)[i*e.cells+j]?:=by
     funext j
     rw [List.getElem?_append_right (by rw [hl1,Nat.add_mul];omega),hl1,Nat.add_mul]
     congr 1
     omega
    simp only [collect]
    rw [show n1+i+1=n1+(i+1) from by omega,ih (i+1) (by omega),hf]
  have:=hs n2 0 (by omega)
  rw [Nat.add_zero] at this
  rw [this]
  refine dec_frame (.arr n2 e) (show dec m (.arr n2 e) (fun j=>cs2[j]?)=_ from h2) (rd':=fun j=>(cs2++rest)[j]?) (fun j hj=>?_) (fun _ _ _=>rfl)
  exact List.getElem?_append_left (by rw [hl2];exact hj)
 have:=collect_append n1 n2 0 a1 (by rw [Nat.zero_add];exact a2)
 simpa using this
theorem notInt_some {cx:Cx} {ts:Array TypeId} (hcx:CxTy P cx) (h:notInt cx ts.toList=true):ts[1]?=none∨∃ t2,ts[1]?=some t2∧(P.underlying t2=some .string∨∃ e,P.underlying t2=some (.slice e)):=by
 rw [←Array.getElem?_toList]
 unfold notInt at h
 split at h
 ·rename_i hl;rw [hl];exact .inl rfl
 ·rename_i t2 _ hl
  rw [hl]
  refine .inr ⟨t2,rfl,?_⟩
  split at h
  ·rename_i hT
   obtain ⟨e,he,-⟩:=tyOk_elem (hcx.T _ _ hT).2
   exact .inr ⟨e,he⟩
  ·rename_i hT
   exact .inl (tyOk_str (hcx.T _ _ hT).2)
  ·cases h
 ·cases h
theorem run_append_fits {w2:World} {t t' ty:TypeId} {ts:Array TypeId} {x:Value} {e:Ty} (I:Info P e t') (h0:ts[0]?=some t) (hu:P.underlying t=some (.slice t'))
  (h1:ts[1]?=none∨∃ t2,ts[1]?=some t2∧(P.underlying t2=some .string∨∃ e,P.underlying t2=some (.slice e)))
  {A:Option Addr} {n c k:Nat} {new:List Value} (hlen:(Builtin.lenOf x).run P w=.ok k w) (hnew:(Builtin.firstCells e.cells k x).run P w=.ok new.toArray w) (hfit:n+k≤c)
  (hst:∀ b,A=some b→(storeCells (b.add (n*e.cells)) new).run P w=.ok () w2) (hno:A=none→w2=w):
  (Builtin.append_ ts ty #[.slice A n c,x]).run P w=.ok (.slice A (n+k) c) w2:=by
 have key:∀ A,(A=none→w2=w)→(∀ b,A=some b→(storeCells (b.add (n*e.cells)) new).run P w=.ok () w2)→(Builtin.append_ ts ty #[.slice A n c,x]).run P w=.ok (.slice A (n+k) c) w2:=by
  intro A hno hst
  cases A with
  |none=>
   have:=hno rfl
   subst this
   rcases h1 with h1|⟨t2,h1,h2|⟨e2,h2⟩⟩
   ·simp [Builtin.append_,h0,h1,run_underlying hu,I.sizeOf,hlen,hfit,hnew]
   ·simp [Builtin.append_,h0,h1,run_underlying hu,run_underlying h2,I.sizeOf,hlen,hfit,hnew]
   ·simp [Builtin.append_,h0,h1,run_underlying hu,run_underlying h2,I.sizeOf,hlen,hfit,hnew]
  |some b=>
   have hs:=hst b rfl
   rcases h1 with h1|⟨t2,h1,h2|⟨e2,h2⟩⟩
   ·simp [Builtin.append_,h0,h1,run_underlying hu,I.sizeOf,hlen,hfit,hnew,hs]
   ·simp [Builtin.append_,h0,h1,run_underlying hu,run_underlying h2,I.sizeOf,hlen,hfit,hnew,hs]
   ·simp [Builtin.append_,h0,h1,run_underlying hu,run_underlying h2,I.sizeOf,hlen,hfit,hnew,hs]
 exact key A hno hst
theorem run_append_grown {t t' ty:TypeId} {ts:Array TypeId} {x:Value} {e:Ty} (I:Info P e t') (h0:ts[0]?=some t) (hu:P.underlying t=some (.slice t'))
  (h1:ts[1]?=none∨∃ t2,ts[1]?=some t2∧(P.underlying t2=some .string∨∃ e,P.underlying t2=some (.slice e)))
  {A:Option Addr} {n c k:Nat} {old new:List Value} (hlen:(Builtin.lenOf x).run P w=.ok k w) (hnew:(Builtin.firstCells e.cells k x).run P w.drew=.ok new.toArray w.drew)
  (hold:(Builtin.firstCells e.cells n (.slice A n c)).run P w.drew=.ok old.toArray w.drew) (hg:c<n+k) (hlim:n+k<2147483648):
  (Builtin.append_ ts ty #[.slice A n c,x]).run P w=.ok (.slice (some ⟨w.heap.size,0,none⟩) (n+k) (grownCap w (n+k) c t'))
   (w.drew.alloc (.cells (old++(new++(Builtin.zeroCells I.z.cells (grownCap w (n+k) c t'-(n+k))).toList)).toArray t')):=by
 have hn:¬ (n+k≤c):=by omega
 have hfits:Builtin.nextslicecap (n+k) c*I.i.bytes≤281474976710656:=growslice_fits hg (by
  have:=Nat.mul_le_mul (Nat.le_of_lt hlim) I.bytes
  exact Nat.le_trans this (by decide))
 have h48:¬ (281474976710656<Builtin.nextslicecap (n+k) c*I.i.bytes):=by omega
 have h63:¬ (9223372036854775807<((n:Int)+(k:Int))):=by omega
 have fin:∀ X Y:Array Value,X.toList=Y.toList→w.drew.alloc (Obj.cells X t')=w.drew.alloc (Obj.cells Y t'):=fun X Y e=>by rw [Array.ext' e]
 rcases h1 with h1|⟨t2,h1,h2|⟨e2,h2⟩⟩
 ·simp [Builtin.append_,h0,h1,run_underlying hu,I.sizeOf,I.typeInfo,I.zeroValue,hlen,hn,hnew,hold,h48,h63,Question.forced,newRow,grownCap]
  exact fin _ _ (by simp)
 ·simp [Builtin.append_,h0,h1,run_underlying hu,run_underlying h2,I.sizeOf,I.typeInfo,I.zeroValue,hlen,hn,hnew,hold,h48,h63,Question.forced,newRow,grownCap]
  exact fin _ _ (by simp)
 ·simp [Builtin.append_,h0,h1,run_underlying hu,run_underlying h2,I.sizeOf,I.typeInfo,I.zeroValue,hlen,hn,hnew,hold,h48,h63,Question.forced,newRow,grownCap]
  exact fin _ _ (by simp)
end
end Go.Ab
namespace Go.Ab
theorem own_hdr {m:Mem} {e:Ty} (he:e.sh=e) {v:Value} {l:List e.den} {O R} (h:dec m (.list true e) ((Src.one v).rd m)=some (l,O,R)):
  (v=.slice none 0 0∧l=[]∧O=[]∧R=[])∨∃ b n c,∃ cs:List Value,v=.slice (some b) n c∧b.spot=none∧n≤c∧n=l.length∧O=(if c=0 then [] else [(b.block,b.off+c*e.cells)])∧
   cs.length=n*e.cells∧(∀ j u,cs[j]?=some u→m b.block (b.off+j)=some u)∧(∀ u∈cs,single u=true)∧collect (fun i=>dec m e fun j=>cs[i*e.cells+j]?) n 0=some (l,[],R):=by
 rcases dec_own h with ⟨hv,h2,h3,h4⟩|⟨b,n,c,os,hv,hb,hn,hx,ho⟩
 ·simp only [Src.rd,if_true,sj] at hv
  exact .inl ⟨hv,h2,h3,h4⟩
 ·simp only [Src.rd,if_true,sj] at hv
  have hx':collect (fun i=>dec m e fun j=>m b.block (b.off+(i*e.cells+j))) n 0=some (l,os,R):=by simp only [rd_el];exact hx
  have hos:os=[]:=by
   have h1:dec m (.arr n e) (fun j=>m b.block (b.off+j))=some (l,os,R):=hx'
   exact dec_pure (by simp only [Ty.shn,Ty.sh,he]) h1
  subst hos
  obtain ⟨cs,k1,k2,k3,k4⟩:=row_cells hx'
  refine .inr ⟨b,n,c,cs,hv,hb,hn,(collect_length n 0 hx).symm,?_,k1,k2,k3,k4⟩
  rcases ho with ⟨hc,ho⟩|⟨hc,ho⟩
  ·rw [if_pos hc,ho]
  ·rw [if_neg hc,ho]
theorem hdr_dec {m m0:Mem} {e:Ty} {b:Addr} {n c:Nat} {cs:List Value} {l:List e.den} {R} (hb:b.spot=none) (hnc:n≤c) (hlen:n*e.cells≤cs.length) (hm:∀ j u,j<n*e.cells→cs[j]?=some u→m b.block (b.off+j)=some u)
  (hc:collect (fun i=>dec m0 e fun j=>cs[i*e.cells+j]?) n 0=some (l,[],R)) (hR:∀ c∈R,∀ j,m c j=m0 c j):
  dec m (.list true e) ((Src.one (.slice (some b) n c)).rd m)=some (l,if c=0 then [] else [(b.block,b.off+c*e.cells)],R):=by
 have h1:dec m (.arr n e) (fun j=>m b.block (b.off+j))=some (l,[],R):=dec_frame (.arr n e) (show dec m0 (.arr n e) (fun j=>cs[j]?)=_ from hc) (fun j hj=>by
  have hj:j<n*e.cells:=hj
  have hj':j<cs.length:=by omega
  rw [hm j cs[j] hj (List.getElem?_eq_getElem hj'),List.getElem?_eq_getElem hj']) (fun c j hb=>by
  rcases hb with hb|hb
  ·simp at hb
  ·exact hR c hb j)
 have h1:collect (fun i=>dec m e fun j=>m b.block (b.off+(i*e.cells+j))) n 0=some (l,[],R):=h1
 show decL m true e.cells (dec m e) (some (.slice (some b) n c))=_
 simp only [decL]
 rw [if_pos ⟨hb,hnc⟩,h1]
 simp only [if_true]
 split<;>rfl
theorem loc_at {m:Mem}:∀ (p:Path) (t:Ty) (s:Src) {t' s'},loc m t s p=some (t',s')→p≠[]→∃ b o,s'=.at b o
 | [],_,_,_,_,_,hp=>absurd rfl hp
 |.fst::p,t,s,t',s',hl,_=>by
  obtain ⟨a,b',bl,so,rfl,rfl,hl⟩:=loc_fst hl
  cases p with
  |nil=>simp only [loc,locQ,sj,Prod.mk.injEq] at hl;exact ⟨_,_,hl.2.symm⟩
  |cons x p=>exact loc_at (x::p) _ _ hl (by simp)
 |.snd::p,t,s,t',s',hl,_=>by
  obtain ⟨a,b',bl,so,rfl,rfl,hl⟩:=loc_snd hl
  cases p with
  |nil=>simp only [loc,locQ,sj,Prod.mk.injEq] at hl;exact ⟨_,_,hl.2.symm⟩
  |cons x p=>exact loc_at (x::p) _ _ hl (by simp)
 |.idx i::p,t,s,t',s',hl,_=>by
  rcases loc_idx hl with ⟨n,t1,bl,so,rfl,rfl,hi,hl⟩|⟨t1,a,n,c,rfl,hv',hi,hl⟩
  ·cases p with
   |nil=>simp only [loc,locQ,sj,Prod.mk.injEq] at hl;exact ⟨_,_,hl.2.symm⟩
   |cons x p=>exact loc_at (x::p) _ _ hl (by simp)
  ·cases p with
   |nil=>simp only [loc,locQ,sj,Prod.mk.injEq] at hl;exact ⟨_,_,hl.2.symm⟩
   |cons x p=>exact loc_at (x::p) _ _ hl (by simp)
theorem setRt_self {Γ:AE} {n:Nat} (r:Option Root):(Γ.setRt n r).rt n=r:=by simp [AE.setRt]
section
variable {P:Program} {B:Base} {N:Nat} {ρ:Type} {Γ:AE} {a:Act} {w:World} {σ:Gh}
structure News (P:Program) (w:World) (m:Mem) (Sh:Nat→Prop) (e:Ty) (ys:List e.den) (x:Value) where
 cs:List Value
 len:(Builtin.lenOf x).run P w=.ok ys.length w
 size:cs.length=ys.length*e.cells
 one:∀ u∈cs,single u=true
 R:List Nat
 rd:collect (fun i=>dec m e fun j=>cs[i*e.cells+j]?) ys.length 0=some (ys,[],R)
 shr:∀ c∈R,Sh c
 run:(Builtin.firstCells e.cells ys.length x).run P w=.ok cs.toArray w
 drew:(Builtin.firstCells e.cells ys.length x).run P w.drew=.ok cs.toArray w.drew
theorem Rel.turn {d:Nat} {K:AE→Rs ρ} {z:ρ} {n:Nat} {p:Path} {r:Root} {e:Ty} {l l':List e.den} {v v':Value} {w2:World} {s O' R' O2 R2} (h:Rel B Γ N (tmOf a) w σ) (hN:a.tmps.size=N) (hr:Γ.look n=some r)
  (hl:loc (memo w σ.ov) r.t (σ.g n) p=some (.list true e,s)) (hg:getP r.t r.x p=⟨.list true e,l⟩) (hv:s.rd (memo w σ.ov) 0=some v)
  (hd:dec (memo w σ.ov) (.list true e) (s.rd (memo w σ.ov))=some (l,O',R')) (hsub:∀ q∈O',q∈σ.ow n) (hap:∀ b o,s=.at b o→b∉O'.map (·.1))
  (hd2:dec (memo w2 none) (.list true e) ((Src.one v').rd (memo w2 none))=some (l',O2,R2))
  (hmem:∀ c j,memo w2 none c j=memo w none c j∨c∈O'.map (·.1)∨w.heap.size≤c)
  (hO2:∀ c∈O2.map (·.1),c∈O'.map (·.1)∨w.heap.size≤c) (hn2:(O2.map (·.1)).Nodup) (hlive:∀ p∈O2,Free w2 p.1 p.2) (hfree:∀ c k,Free w c k→Owned σ c→Free w2 c k)
  (hsz:w.heap.size≤w2.heap.size) (hfr:∀ b,b<B.size→¬ B.F b→w2.heap[b]?=B.hp b) (hR2:∀ c∈R2,Shr B w σ c)
  (hz:(let Γ':=((Γ.mapv (AV.kill n p)).setRt n (some ⟨r.bx,r.t,setP r.t r.x p (.list true e) l'⟩)).set d (.sref n p)
   match p,r.bx with
   | [],false=>K Γ'
   |p,_=>match Γ.pd with
    |none=>K { Γ' with pd:=some (n,p,d) }
    |some _=>none)=some z) (hio:ioOf w2=ioOf w:=by first|rfl|assumption):
  ∃ Γ' σ',Rel B Γ' N (tmOf (a.put (some d) v')) w2 σ'∧K Γ'=some z:=by
 obtain ⟨hpd,hr⟩:=look_some hr
 have hov:=h.ov_none hpd
 have hR2':∀ c∈R2,c<w2.heap.size∧(B.S c∨B.F c∨B.size≤c)∧¬ Owned σ c∧c∉O2.map (·.1):=fun c hc=>by
  have hs:=hR2 c hc
  refine ⟨Nat.lt_of_lt_of_le hs.1 hsz,hs.2.1,hs.2.2,fun g=>?_⟩
  rcases hO2 c g with g|g
  ·obtain ⟨q,hq,rfl⟩:=List.mem_map.1 g
   exact hs.2.2 ⟨n,List.mem_map_of_mem (hsub q hq)⟩
  ·have:=hs.1;omega
 have top:p=[]→r.bx=false→∃ Γ' σ',Rel B Γ' N (tmOf (a.put (some d) v')) w2 σ'∧K Γ'=some z:=by
  intro hp hbx
  subst hp
  obtain ⟨bx,t,x⟩:=r
  simp only at hbx
  subst hbx
  simp only [getP,getQ] at hg
  cases hg
  have hz:K (((Γ.mapv (AV.kill n [])).setRt n (some ⟨false,.list true e,setP (.list true e) l [] (.list true e) l'⟩)).set d (.sref n []))=some z:=hz
  have hset:setP (.list true e) l [] (.list true e) l'=l':=setP_nil _ _ _
  replace hz:K (((Γ.mapv (AV.kill n [])).setRt n (some ⟨false,.list true e,l'⟩)).set d (.sref n []))=some z:=by
   have key:∀ q,q=l'→K (((Γ.mapv (AV.kill n [])).setRt n (some ⟨false,.list true e,q⟩)).set d (.sref n []))=some z→K (((Γ.mapv (AV.kill n [])).setRt n (some ⟨false,.list true e,l'⟩)).set d (.sref n []))=some z:=by
    rintro q rfl h;exact h
   exact key _ hset hz
  have hrel:=h.top hr (by simp [hpd]) (w':=w2) (v':=v') (l':=l') (by rw [hov];exact hd2) (fun c j hc hn=>by
    rw [hov]
    rcases hmem c j with g|g|g
    ·exact g
    ·obtain ⟨q,hq,rfl⟩:=List.mem_map.1 g
     exact absurd (List.mem_map_of_mem (hsub q hq)) hn
    ·omega) (fun c hc=>(hO2 c hc).imp (fun g=>by
     obtain ⟨q,hq,rfl⟩:=List.mem_map.1 g
     exact List.mem_map_of_mem (hsub q hq)) id) hn2 hlive hfree hsz hfr hR2' (f:=AV.kill n []) (fun av=>by
    cases av with
    |ptr m q=>
     simp only [AV.kill]
     by_cases hm:m=n
     ·subst hm
      cases q with
      |nil=>exact .inr ⟨by simp,fun k q h1 h2=>rfl⟩
      |cons=>left;simp [below]
     ·right
      have hmn:(m==n)=false:=by simpa using hm
      refine ⟨by simp [hmn],fun k q h1 h2=>?_⟩
      rcases h1 with h1|h1|⟨_,_,h1⟩<;>cases h1
      exact absurd h2 hm
    |sref m q=>
     simp only [AV.kill]
     by_cases hm:m=n
     ·left;simp [hm,below]
     ·right
      have hmn:(m==n)=false:=by simpa using hm
      refine ⟨by simp [hmn],fun k q h1 h2=>?_⟩
      rcases h1 with h1|h1|⟨_,_,h1⟩<;>cases h1
      exact absurd h2 hm
    |swin m q o k=>
     simp only [AV.kill]
     by_cases hm:m=n
     ·left;simp [hm,below]
     ·right
      have hmn:(m==n)=false:=by simpa using hm
      refine ⟨by simp [hmn],fun k q h1 h2=>?_⟩
      rcases h1 with h1|h1|⟨_,_,h1⟩<;>cases h1
      exact absurd h2 hm
    |_=>exact .inr ⟨rfl,fun k q h1 _=>by rcases h1 with h1|h1|⟨_,_,h1⟩<;>cases h1⟩)
  refine ⟨_,_,hrel.putd (sv:=.one (.sref n [])) (v:=v') hN (fun _=>⟨⟨false,.list true e,l'⟩,e,.one v',setRt_self _,?_,rfl⟩),hz⟩
  show some (_,if n=n then Src.one v' else _)=_
  rw [if_pos rfl]
 have pnd:(∃ b o,s=.at b o)→K { (((Γ.mapv (AV.kill n p)).setRt n (some ⟨r.bx,r.t,setP r.t r.x p (.list true e) l'⟩)).set d (.sref n p)) with pd:=some (n,p,d) }=some z→
   ∃ Γ' σ',Rel B Γ' N (tmOf (a.put (some d) v')) w2 σ'∧K Γ'=some z:=by
  rintro ⟨b,o,rfl⟩ hz
  have hb:=h.place hr hl
  have hbo:Owned σ b:=⟨n,hb⟩
  have hblt:=h.lt hbo
  have hbO2:b∉O2.map (·.1):=fun g=>by
   rcases hO2 b g with g|g
   ·exact hap b o rfl g
   ·omega
  have hbR2:b∉R2:=fun g=>(hR2 b g).2.2 hbo
  have hm2:∀ c j,c≠b→memo w2 (some (b,o,v')) c j=memo w2 none c j:=fun c j hc=>by
   simp only [memo]
   rw [if_neg (fun g=>hc g.1)]
  have hd3:dec (memo w2 (some (b,o,v'))) (.list true e) ((Src.at b o).rd (memo w2 (some (b,o,v'))))=some (l',O2,R2):=dec_frame _ hd2 (fun j hj=>by
   have hj0:j=0:=by simp only [Ty.cells] at hj;omega
   subst hj0
   simp [Src.rd,memo]) (fun c j hc=>hm2 c j fun e=>by
    subst e
    rcases hc with hc|hc
    ·exact hbO2 hc
    ·exact hbR2 hc)
  obtain ⟨ow',how,hrel⟩:=h.chg hr hl hd (w':=w2) (ov':=some (b,o,v')) (pd':=some (n,p,d)) (.new d v' e hpd rfl) hd3 (fun c j=>by
    by_cases hc:c=b∧j=o
    ·exact .inr (.inl ⟨hc.1,by omega,by simp only [Ty.cells];omega⟩)
    ·have e1:memo w2 (some (b,o,v')) c j=memo w2 none c j:=by
      simp only [memo]
      rw [if_neg (fun g=>hc ⟨g.1,g.2⟩)]
     rw [e1,hov]
     rcases hmem c j with g|g|g
     ·exact .inl g
     ·exact .inr (.inr (.inl g))
     ·exact .inr (.inr (.inr g))) hO2 hn2 hlive hfree hsz hfr hR2' (f:=AV.kill n p) (fun av=>kill_keeps n p _ av)
  obtain ⟨r'',e'',h1,h2⟩:=hrel.pend
  exact ⟨_,_,hrel.putd (sv:=.one (.sref n p)) (v:=v') hN (fun _=>⟨r'',e'',.at b o,h1,h2,by simp [Src.rd,memo]⟩),hz⟩
 cases p with
 |nil=>
  cases hb:r.bx with
  |false=>
   exact top rfl hb
  |true=>
   have hz2:(match Γ.pd with
    |none=>K { (((Γ.mapv (AV.kill n [])).setRt n (some ⟨r.bx,r.t,setP r.t r.x [] (.list true e) l'⟩)).set d (.sref n [])) with pd:=some (n,[],d) }
    |some _=>none)=some z:=by
    revert hz
    cases r
    simp only at hb
    subst hb
    exact id
   rw [hpd] at hz2
   refine pnd ?_ hz2
   simp only [loc,locQ,sj,Prod.mk.injEq] at hl
   obtain ⟨O'',R'',-,-,-,-,-,h6⟩:=h.sep hr
   rcases h6 with ⟨-,b,hs,-⟩|⟨hbx,-⟩
   ·exact ⟨b,0,by rw [←hl.2,hs]⟩
   ·rw [hb] at hbx;cases hbx
 |cons x p=>
  have hz2:(match Γ.pd with
   |none=>K { (((Γ.mapv (AV.kill n (x::p))).setRt n (some ⟨r.bx,r.t,setP r.t r.x (x::p) (.list true e) l'⟩)).set d (.sref n (x::p))) with pd:=some (n,x::p,d) }
   |some _=>none)=some z:=hz
  rw [hpd] at hz2
  exact pnd (loc_at _ _ _ hl (by simp)) hz2
end
end Go.Ab
namespace Go.Ab
section
variable {P:Program} {B:Base} {N:Nat} {ρ:Type} {Γ:AE} {a:Act} {w:World} {σ:Gh}
theorem ioOf_setCells (b:Nat):∀ (vs:List Value) (o:Nat) (w:World),ioOf (w.setCells b o vs)=ioOf w
 | [],_,_=>rfl
 |v::r,o,w=>(ioOf_setCells b r (o+1) (w.setCell ⟨b,o,none⟩ v)).trans rfl
theorem zeros_made {z:Array Value} (n:Nat):Builtin.zeroCells z n=madeCells z (n*z.size):=rfl
theorem apnd_some {q:Bool} {d:Nat} {e:Ty} (he:e.sh=e) {t t' ty:TypeId} {ts:Array TypeId} (I:Info P e t') (h0:ts[0]?=some t) (hu:P.underlying t=some (.slice t'))
  (h1:ts[1]?=none∨∃ t2,ts[1]?=some t2∧(P.underlying t2=some .string∨∃ e,P.underlying t2=some (.slice e)))
  {av:AV} {s x:Value} {ys:List e.den} {K:AE→Rs ρ} {z:ρ} (h:Rel B Γ N (tmOf a) w σ) (hN:a.tmps.size=N) (hav:AVOk (memo w σ.ov) σ.g Γ.rt (Shr B w σ) av s)
  (Y:News P w (memo w σ.ov) (Shr B w σ) e ys x) (hz:Γ.apnd q d e av ys K=some z):
  ∃ v w' Γ' σ',(Builtin.append_ ts ty #[s,x]).run P w=.ok v w'∧Rel B Γ' N (tmOf (a.put (some d) v)) w' σ'∧K Γ'=some z:=by

 have row:∀ (l:List e.den) (n:Nat) (cs:List Value) (R:List Nat) (rest:List Value),cs.length=n*e.cells→collect (fun i=>dec (memo w σ.ov) e fun j=>cs[i*e.cells+j]?) n 0=some (l,[],R)→
   collect (fun i=>dec (memo w σ.ov) e fun j=>(cs++(Y.cs++rest)).toArray[i*e.cells+j]?) (n+ys.length) 0=some (List.append l ys,[],R++Y.R):=by
  intro l n cs R rest hl hc
  simp only [List.getElem?_toArray]
  exact rows_append hc hl Y.rd Y.size
 have zsz:∀ k,(Builtin.zeroCells I.z.cells k).size=k*e.cells:=fun k=>by rw [zeros_made,size_madeCells,I.zsize]
 have nil0:∀ A:Option Addr,s=.slice A 0 0→(∀ b,A=some b→b.spot=none)→(bif lim ys.length then Γ.fresh q d ⟨false,.list true e,ys⟩ fun Γ=>K (Γ.set d (.sref d [])) else none)=some z→
   ∃ v w' Γ' σ',(Builtin.append_ ts ty #[s,x]).run P w=.ok v w'∧Rel B Γ' N (tmOf (a.put (some d) v)) w' σ'∧K Γ'=some z:=by
  intro A hs hA hz
  subst hs
  obtain ⟨hlim,hz⟩:lim ys.length=true∧_:=(bif_some hz).elim id fun h=>by cases h.2
  simp only [lim,decide_eq_true_eq] at hlim
  by_cases hk:ys.length=0
  ·have hcs:Y.cs=[]:=List.length_eq_zero_iff.1 (by rw [Y.size,hk];omega)
   have hy:ys=[]:=List.length_eq_zero_iff.1 hk
   have hrun:=run_append_fits (P:=P) (w2:=w) (ty:=ty) I h0 hu h1 (A:=A) (n:=0) (c:=0) Y.len Y.run (by omega) (fun b _=>by rw [hcs];rfl) (fun _=>rfl)
   obtain ⟨Γ',σ',g1,g2,g3,g4,g5,g6⟩:=h.fresh hz (fun _ _=>rfl) (Nat.le_refl _) (s:=.one (.slice A (0+ys.length) 0)) (O:=[]) (by simp) (by simp) (by simp) ⟨[],[],by
    show decL (memo w σ.ov) true e.cells (dec (memo w σ.ov) e) (some (.slice A (0+ys.length) 0))=some (ys,[],[])
    rw [hk,hy]
    cases A with
    |none=>rfl
    |some b=>simp [decL,hA b rfl,collect],by simp,.inr ⟨rfl,⟨_,rfl⟩,⟨e,rfl⟩,rfl⟩⟩
   exact ⟨_,w,_,σ',hrun,g2.putd (sv:=.one (.sref d [])) hN (fun _=>⟨_,e,_,g3,by rw [g4];rfl,rfl⟩),g1⟩
  ·have hold:(Builtin.firstCells e.cells 0 (.slice A 0 0)).run P w.drew=.ok ([]:List Value).toArray w.drew:=by
    have:=run_first (P:=P) (w:=w) (w2:=w.drew) (e:=e) (v:=.slice A 0 0) (cs:=[]) rfl (fun _=>rfl) (by simp) (by simp) (fun _=>rfl) 0 (by omega)
    simpa using this
   have hrun:=run_append_grown (P:=P) (w:=w) (ty:=ty) I h0 hu h1 (A:=A) (n:=0) (c:=0) Y.len Y.drew hold (by omega) (by omega)
   have hg:=grownCap_ge w (0+ys.length) 0 t'
   obtain ⟨Γ',σ',g1,g2,g3,-,-⟩:=h.newSlice (c:=grownCap w (0+ys.length) 0 t') hz (fun c hc=>heap_alloc_old (w:=w.drew) _ c hc) (size_alloc_le (w:=w.drew) _)
    (heap_alloc_new (w:=w.drew) (Obj.cells (([]:List Value)++(Y.cs++(Builtin.zeroCells I.z.cells (grownCap w (0+ys.length) 0 t'-(0+ys.length))).toList)).toArray t')) (.inl rfl) (by
     have:(([]:List Value)++(Y.cs++(Builtin.zeroCells I.z.cells (grownCap w (0+ys.length) 0 t'-(0+ys.length))).toList)).length=grownCap w (0+ys.length) 0 t'*e.cells:=by
      simp only [List.nil_append,List.length_append,Y.size,Array.length_toList,zsz]
      rw [←Nat.add_mul]
      congr 1;omega
     rw [List.size_toArray,this];exact Nat.le_refl _) (by omega) (by
     have:=row [] 0 [] [] (Builtin.zeroCells I.z.cells (grownCap w (0+ys.length) 0 t'-(0+ys.length))).toList (by simp) rfl
     rw [Nat.zero_add] at this
     rw [Nat.zero_add]
     exact this) Y.shr
   refine ⟨_,_,_,σ',hrun,g2.putd (sv:=.one (.sref d [])) hN (fun _=>?_),g1⟩
   rw [Nat.zero_add] at g3 ⊢
   exact g3
 unfold AE.apnd at hz
 split at hz
 ·have hav:s=.slice none 0 0:=hav
  exact nil0 none hav (by simp) hz
 ·obtain ⟨A,hv,hA⟩:=hav
  exact nil0 A hv hA hz
 ·rename_i n p
  obtain ⟨-,hz⟩:q=false∧_:=by
   by_cases hq:q
   ·rw [hq] at hz;simp at hz
   ·exact ⟨by simpa using hq,(bif_some hz).elim (fun h=>absurd h.1 hq) (·.2)⟩
  split at hz
  ·rename_i r hr
   obtain ⟨hpd,hr'⟩:=look_some hr
   have hov:=h.ov_none hpd
   split at hz
   ·rename_i e' l hg
    split at hz
    ·rename_i hee
     subst hee
     obtain ⟨hlim,hz⟩:lim (List.length l+ys.length)=true∧_:=(bif_some hz).elim id fun h=>by cases h.2
     simp only [lim,decide_eq_true_eq] at hlim
     obtain ⟨s',O',R',f1,f2,f3,f4,f5,f6,f7,f8⟩:=h.own hav hr' hg
     have hsh:∀ c∈R'++Y.R,Shr B w σ c:=fun c hc=>(List.mem_append.1 hc).elim (f5 c) (Y.shr c)
     have hownb:∀ c∈O'.map (·.1),Owned σ c:=fun c hc=>by
      obtain ⟨q,hq,rfl⟩:=List.mem_map.1 hc
      exact ⟨n,List.mem_map_of_mem (f6 q hq)⟩

     have grow:∀ (A:Option Addr) (n0 c:Nat) (cs:List Value),s=.slice A n0 c→n0=List.length l→cs.length=n0*e.cells→(∀ b,A=some b→∀ j u,cs[j]?=some u→w.cell? (b.add j)=some u)→(A=none→n0=0)→
       collect (fun i=>dec (memo w σ.ov) e fun j=>cs[i*e.cells+j]?) n0 0=some (l,[],R')→c<n0+ys.length→
       ∃ v w' Γ' σ',(Builtin.append_ ts ty #[s,x]).run P w=.ok v w'∧Rel B Γ' N (tmOf (a.put (some d) v)) w' σ'∧K Γ'=some z:=by
      intro A n0 c cs hs hn0 hcl hcell hnone hcol hgt
      subst hs
      have hold:(Builtin.firstCells e.cells n0 (.slice A n0 c)).run P w.drew=.ok cs.toArray w.drew:=by
       have:=run_first (P:=P) (w:=w) (w2:=w.drew) (e:=e) (v:=.slice A n0 c) (cs:=cs) rfl (fun _=>rfl) hcl hcell hnone n0 (Nat.le_refl _)
       rw [←hcl,List.take_length] at this
       exact this
      have hrun:=run_append_grown (P:=P) (w:=w) (ty:=ty) I h0 hu h1 (A:=A) (n:=n0) (c:=c) Y.len Y.drew hold hgt (by rw [hn0];exact hlim)
      have hge:=grownCap_ge w (n0+ys.length) c t'
      generalize hw2:w.drew.alloc _=w2 at hrun
      generalize hgc:grownCap w (n0+ys.length) c t'=gc at hrun hge
      have hold2:∀ c,c<w.heap.size→w2.heap[c]?=w.heap[c]?:=fun c hc=>by rw [←hw2];exact heap_alloc_old (w:=w.drew) _ c hc
      have hnew2:=heap_alloc_new (w:=w.drew) (.cells (cs++(Y.cs++(Builtin.zeroCells I.z.cells (gc-(n0+ys.length))).toList)).toArray t')
      have hnew2:w2.heap[w.heap.size]?=some (.cells (cs++(Y.cs++(Builtin.zeroCells I.z.cells (gc-(n0+ys.length))).toList)).toArray t'):=by
       rw [←hw2,hgc];exact hnew2
      have hsz2:w.heap.size≤w2.heap.size:=by rw [←hw2];exact size_alloc_le (w:=w.drew) _
      have hcs2:(cs++(Y.cs++(Builtin.zeroCells I.z.cells (gc-(n0+ys.length))).toList)).length=gc*e.cells:=by
       simp only [List.length_append,hcl,Y.size,Array.length_toList,zsz]
       rw [←Nat.add_mul,←Nat.add_mul]
       congr 1;omega
      have hd2:=hdr_dec (m:=memo w2 none) (m0:=memo w σ.ov) (b:=⟨w.heap.size,0,none⟩) (n:=n0+ys.length) (c:=gc) (cs:=cs++(Y.cs++(Builtin.zeroCells I.z.cells (gc-(n0+ys.length))).toList)) rfl hge (by
        rw [hcs2];exact Nat.mul_le_mul_right _ hge) (fun j u _ hu=>by
        simp only [memo,Nat.zero_add,World.cell?,hnew2]
        simpa using hu) (by
        have:=row l n0 cs R' (Builtin.zeroCells I.z.cells (gc-(n0+ys.length))).toList hcl hcol
        simpa only [List.getElem?_toArray] using this) (fun c hc j=>by
        rw [hov]
        exact memo_heap none (hold2 c (hsh c hc).1) j)
      have hgc0:gc≠0:=by omega
      rw [if_neg hgc0] at hd2
      have hfree:∀ c k,Free w c k→Free w2 c k:=fun c k hf=>by
       obtain ⟨cc,e1,lo,hi,g1,g2⟩:=hf
       exact ⟨cc,e1,lo,hi,by rw [hold2 c (Array.getElem?_eq_some_iff.1 g1).1];exact g1,g2⟩
      obtain ⟨Γ',σ',k1,k2⟩:=h.turn (w2:=w2) hN hr f1 hg f2 f3 f6 f8 hd2 (fun c j=>by
        by_cases hc:c<w.heap.size
        ·exact .inl (memo_heap none (hold2 c hc) j)
        ·exact .inr (.inr (by omega))) (fun c hc=>by
        simp only [List.map_cons,List.map_nil,List.mem_singleton] at hc
        exact .inr (by omega)) (by simp) (fun p hp=>by
        simp only [List.mem_singleton] at hp
        subst hp
        exact ⟨_,t',0,0,hnew2,by show 0+gc*e.cells≤_;rw [List.size_toArray,hcs2];omega,.inl rfl⟩) (fun c k hf _=>hfree c k hf) hsz2 (fun b hb hF=>by
        have:=h.size
        rw [hold2 b (by omega)];exact h.frame b hb hF) hsh hz (hio:=by rw [←hw2];rfl)
      exact ⟨_,w2,Γ',σ',hrun,k1,k2⟩
     rcases own_hdr he f4 with ⟨hs,hl0,hO0,hR0⟩|⟨b,n0,c,cs,hs,hb,hnc,hn0,hO,hcl,hcell,hone,hcol⟩
     ·by_cases hk:ys.length=0
      ·have hcs:Y.cs=[]:=List.length_eq_zero_iff.1 (by rw [Y.size,hk];omega)
       have hy:ys=[]:=List.length_eq_zero_iff.1 hk
       have hrun:=run_append_fits (P:=P) (w2:=w) (ty:=ty) I h0 hu h1 (A:=none) (n:=0) (c:=0) Y.len Y.run (by omega) (fun b hb=>by cases hb) (fun _=>rfl)
       subst hs
       obtain ⟨Γ',σ',k1,k2⟩:=h.turn (w2:=w) (v':=.slice none (0+ys.length) 0) (O2:=[]) (R2:=[]) (l':=List.append l ys) hN hr f1 hg f2 f3 f6 f8 (by
         rw [hk,hy]
         have:List.append l ([]:List e.den)=[]:=by rw [hl0];rfl
         rw [this];rfl) (fun c j=>.inl rfl) (by simp) (by simp) (by simp) (fun _ _ hf _=>hf) (Nat.le_refl _) h.frame (by simp) hz
       exact ⟨_,w,Γ',σ',hrun,k1,k2⟩
      ·exact grow none 0 0 [] hs (by rw [hl0];rfl) (by simp) (by simp) (fun _=>rfl) (by rw [hl0,hR0];rfl) (by omega)
     ·have hcell':∀ b',some b=some b'→∀ j u,cs[j]?=some u→w.cell? (b'.add j)=some u:=fun b' hb' j u hu=>by
       simp only [sj] at hb'
       subst hb'
       rw [add_cell hb]
       have:=hcell j u hu
       rw [hov] at this
       exact this
      by_cases hfit:n0+ys.length≤c
      ·
       let w2:=w.setCells b.block (b.off+n0*e.cells) Y.cs
       have hlive:c≠0→Free w b.block (b.off+c*e.cells):=fun hc=>h.live n (b.block,b.off+c*e.cells) (f6 _ (by rw [hO,if_neg hc];simp))
       have hroom:Y.cs≠[]→c≠0∧b.off+n0*e.cells+Y.cs.length≤b.off+c*e.cells:=fun hne=>by
        have:ys.length≠0:=fun e0=>hne (List.length_eq_zero_iff.1 (by rw [Y.size,e0];omega))
        refine ⟨by omega,?_⟩
        have:=Nat.mul_le_mul_right e.cells hfit
        rw [Nat.add_mul,←Y.size] at this
        omega
       have hstore:(storeCells (b.add (n0*e.cells)) Y.cs).run P w=.ok () w2:=by
        rw [add_none hb]
        by_cases hne:Y.cs=[]
        ·simp only [w2,hne];rfl
        ·obtain ⟨hc,hle⟩:=hroom hne
         have:=run_storeCells_cells (P:=P) b.block (b.off+n0*e.cells) Y.cs 0 w (fun j hj=>((hlive hc).cell (by omega)).1) (fun j hj=>((hlive hc).cell (by omega)).2) (fun u hu=>single_oneCell' (Y.one u hu))
         simpa using this
       have hcells:∀ c' j,w2.cell? ⟨c',j,none⟩=if c'=b.block∧b.off+n0*e.cells≤j∧j<b.off+n0*e.cells+Y.cs.length then Y.cs[j-(b.off+n0*e.cells)]? else w.cell? ⟨c',j,none⟩:=fun c' j=>by
        by_cases hne:Y.cs=[]
        ·simp only [w2,hne,World.setCells,List.length_nil]
         rw [if_neg (by omega)]
        ·obtain ⟨hc,hle⟩:=hroom hne
         exact cell_setCells _ _ _ w _ (hlive hc) hle c' j
       have hrun:=run_append_fits (P:=P) (w2:=w2) (ty:=ty) I h0 hu h1 (A:=some b) (n:=n0) (c:=c) Y.len Y.run hfit (fun b' hb'=>by
        simp only [sj] at hb'
        subst hb'
        exact hstore) (fun hn=>by cases hn)
       have hother:∀ c',c'≠b.block→w2.heap[c']?=w.heap[c']?:=fun c' hc'=>heap_setCells_other _ _ _ _ _ hc'
       have hbO:Y.cs≠[]→b.block∈O'.map (·.1):=fun hne=>by rw [hO,if_neg (hroom hne).1];simp
       have hd2:=hdr_dec (m:=memo w2 none) (m0:=memo w σ.ov) (b:=b) (n:=n0+ys.length) (c:=c) (cs:=cs++(Y.cs++[])) (l:=List.append l ys) (R:=R'++Y.R) hb hfit (by
         simp only [List.length_append,hcl,Y.size,List.length_nil]
         rw [Nat.add_mul];omega) (fun j u hj hu=>by
         simp only [memo,hcells]
         by_cases hj2:j<n0*e.cells
         ·rw [if_neg (by omega)]
          rw [List.getElem?_append_left (by omega)] at hu
          have:=hcell j u hu
          rw [hov] at this
          exact this
         ·rw [Nat.add_mul,←Y.size] at hj
          rw [if_pos ⟨trivial,by omega,by omega⟩]
          rw [List.getElem?_append_right (by omega),List.append_nil,hcl] at hu
          rw [←hu];congr 1;omega) (by
         have:=row l n0 cs R' [] hcl hcol
         simpa only [List.getElem?_toArray] using this) (fun c' hc' j=>by
         rw [hov]
         by_cases hne:Y.cs=[]
         ·simp only [w2,hne,World.setCells]
         ·exact memo_heap none (hother c' fun e1=>(hsh c' hc').2.2 (by rw [e1];exact hownb _ (hbO hne))) j)
       rw [←hO] at hd2
       subst hs
       obtain ⟨Γ',σ',k1,k2⟩:=h.turn (w2:=w2) hN hr f1 hg f2 f3 f6 f8 hd2 (fun c' j=>by
         by_cases hne:Y.cs=[]
         ·left;simp only [w2,hne,World.setCells]
         ·by_cases hc':c'=b.block
          ·exact .inr (.inl (by rw [hc'];exact hbO hne))
          ·exact .inl (memo_heap none (hother c' hc') j)) (fun c' hc'=>.inl hc') f7 (fun p hp=>(h.live n p (f6 p hp)).setCells _ _ _) (fun _ _ hf _=>hf.setCells _ _ _) (by rw [size_setCells];exact Nat.le_refl _) (fun b' hb' hF=>by
         by_cases hne:Y.cs=[]
         ·simp only [w2,hne,World.setCells];exact h.frame b' hb' hF
         ·rw [hother b' ?_]
          ·exact h.frame b' hb' hF
          ·rintro rfl
           rcases h.mine _ (hownb _ (hbO hne)) with g|g
           ·exact hF g
           ·omega) hsh hz (hio:=ioOf_setCells _ _ _ _)
       exact ⟨_,w2,Γ',σ',hrun,k1,k2⟩
      ·exact grow (some b) n0 c cs hs hn0 hcl hcell' (by simp) hcol (by omega)
    ·cases hz
   ·cases hz
  ·cases hz
 ·cases hz
end
end Go.Ab
namespace Go.Ab
section
variable {P:Program} {B:Base} {N:Nat} {ρ:Type} {Γ:AE} {a:Act} {w:World} {σ:Gh}
theorem Elems.news {m Sh} {e:Ty} {l:List e.den} {v:Value} (h:Elems w m Sh e l v):Nonempty (News P w m Sh e l v):=by
 obtain ⟨A,n,c,cs,hv,hn,hlen,hone,⟨R,hcol,hR⟩,hc,hnone,-⟩:=h
 have f1:=run_first (P:=P) (w:=w) (w2:=w) (e:=e) hv (fun _=>rfl) hlen hc hnone n (Nat.le_refl _)
 have f2:=run_first (P:=P) (w:=w) (w2:=w.drew) (e:=e) hv (fun _=>rfl) hlen hc hnone n (Nat.le_refl _)
 rw [←hlen,List.take_length] at f1 f2
 refine ⟨⟨cs,?_,by rw [←hn];exact hlen,hone,R,by rw [←hn];exact hcol,hR,by rw [←hn];exact f1,by rw [←hn];exact f2⟩⟩
 rw [hv,←hn];rfl
theorem str_news {m Sh} (s:ByteArray) {l:List (Ty.int .u8).den} (hl:l=(s.data.toList.map fun b=>(b.toNat:Int):List Int)):Nonempty (News P w m Sh (.int .u8) l (.string s)):=by
 have hlen:(s.data.toList.map fun b=>(b.toNat:Int)).length=s.size:=by rw [List.length_map];rfl
 have hlen':l.length=s.size:=(congrArg List.length hl).trans hlen
 have hfirst:∀ w:World,(Builtin.firstCells (Ty.int .u8).cells s.size (.string s)).run P w=.ok (s.data.toList.map fun b=>Value.int .u8 (b.toNat:Int)).toArray w:=fun w=>by
  have hx:s.extract 0 s.size=s:=by simp
  simp only [Builtin.firstCells,hx,Sem.run_pure]
  congr 1
  apply Array.ext'
  simp
 refine ⟨⟨s.data.toList.map fun b=>Value.int .u8 (b.toNat:Int),?_,?_,?_,[],?_,by simp,?_,?_⟩⟩
 ·rw [hlen'];rfl
 ·rw [hlen',List.length_map]
  show s.data.toList.length=s.size*1
  rw [Nat.mul_one];rfl
 ·intro u hu
  obtain ⟨b,-,rfl⟩:=List.mem_map.1 hu
  rfl
 ·have key:∀ (l:List UInt8) (pre:List Value) (i:Nat),pre.length=i→collect (fun i=>dec m (.int .u8) fun j=>(pre++l.map fun b=>Value.int .u8 (b.toNat:Int))[i*(Ty.int .u8).cells+j]?) l.length i =
    some ((l.map fun b=>(b.toNat:Int):List Int),[],[]):=by
   intro l
   induction l with
   |nil=>intro pre i _;rfl
   |cons b l ih=>
    intro pre i hp
    have h1:=ih (pre++[Value.int .u8 (b.toNat:Int)]) (i+1) (by simp [hp])
    simp only [List.append_assoc,List.singleton_append] at h1
    have hcell:(pre++(b::l).map fun b=>Value.int .u8 (b.toNat:Int))[i*(Ty.int .u8).cells+0]?=some (.int .u8 (b.toNat:Int)):=by
     show (pre++_)[i*1+0]?=_
     rw [Nat.mul_one,Nat.add_zero,List.getElem?_append_right (by omega),hp,Nat.sub_self];rfl
    simp only [List.length_cons,collect]
    rw [show dec m (.int .u8) (fun j=>(pre++(b::l).map fun b=>Value.int .u8 (b.toNat:Int))[i*(Ty.int .u8).cells+j]?)=some ((b.toNat:Int),[],[]) from by
     simp only [dec]
     rw [hcell]
     simp only [if_true]
     rfl]
    simp only [List.map_cons]
    rw [h1]
    rfl
  have:=key s.data.toList [] 0 rfl
  rw [hlen']
  rw [show s.data.toList.length=s.size from rfl] at this
  rw [hl]
  exact this
 ·rw [hlen'];exact hfirst w
 ·rw [hlen'];exact hfirst w.drew
theorem does_append {o:Oper} {c:Call} {d:Nat} {cx:Cx} {q:Bool} {K:AE→Rs ρ} {z:ρ} (hcx:CxTy P cx) (ho:o.op=.call c) (hb:c.callee=.builtin .append) (hd:o.dst=some d)
  (h:Rel B Γ N (tmOf a) w σ) (hN:a.tmps.size=N) (hf:fits N o=true) (hz:aop cx q o Γ K=some z):Does P B N o a w K z:=by
 obtain ⟨cs,hrun⟩:=run_blt (P:=P) (a:=a) (w:=w) ho hb
 have hl:∃ x y,c.args.toList=[x,y]:=by
  cases hl:c.args.toList with
  |nil=>simp only [aop,ho,hd,hb,hl,List.map_nil,AE.blt] at hz;cases hz
  |cons x l=>
   cases l with
   |nil=>simp only [aop,ho,hd,hb,hl,List.map_cons,List.map_nil,AE.blt] at hz;cases hz
   |cons y l=>
    cases l with
    |nil=>exact ⟨x,y,rfl⟩
    |cons u l=>simp only [aop,ho,hd,hb,hl,List.map_cons,AE.blt] at hz;cases hz
 obtain ⟨x,y,hxy⟩:=hl
 have hargs:c.args=#[x,y]:=by rw [←Array.toList_inj];simpa using hxy
 have hops:=call_opds ho hb hf
 rw [hxy] at hops
 have hx:=h.opd (hops x (by simp))
 have hy:=h.opd (hops y (by simp))
 simp only [aop,ho,hd,hb,hxy,List.map_cons,List.map_nil,AE.blt] at hz
 obtain ⟨hni,hz⟩:=(bif_some hz).elim id fun h=>by cases h.2
 have h1:=notInt_some hcx hni
 split at hz
 ·rename_i o' e hT
  obtain ⟨t,ht,hT⟩:=Option.bind_eq_some_iff.1 hT
  have ht0:c.argTypes[0]?=some t:=by
   rw [←Array.getElem?_toList]
   cases hl:c.argTypes.toList with
   |nil=>rw [hl] at ht;cases ht
   |cons y l=>rw [hl] at ht;simpa using ht
  obtain ⟨hsh,hty⟩:=hcx.T t _ hT
  obtain ⟨t',hu,hte,hpos⟩:=tyOk_elem hty
  obtain ⟨I⟩:=baseOk_info (tyOk_base hte)
  have he:e.sh=e:=by
   simp only [Ty.sh,Ty.list.injEq] at hsh
   exact hsh.2
  have fin:∀ ys,Nonempty (News P w (memo w σ.ov) (Shr B w σ) e ys (a.eval y))→Γ.apnd q d e (Γ.opd x) ys K=some z→Does P B N o a w K z:=by
   rintro ys ⟨Y⟩ hz
   obtain ⟨v,w',Γ',σ',k1,k2,k3⟩:=apnd_some (ty:=o.type) he I ht0 hu h1 h hN hx Y hz
   refine ⟨v,w',Γ',σ',.inl (hrun.trans ?_),by rw [hd];exact k2,k3⟩
   simp [builtin,hargs,k1]
  split at hz
  ·rename_i u hyv
   split at hz
   ·rename_i hee
    subst hee
    rw [hyv] at hy
    obtain ⟨s,hv,hl⟩:=AVOk.str hy
    refine fin u ?_ hz
    rw [hv]
    have hl:u=(s.data.toList.map fun b=>(b.toNat:Int):List Int):=hl
    exact str_news s hl
   ·cases hz
  ·obtain ⟨l,hz,hE⟩:=h.elems he hy hz
   exact fin l hE.news hz
 ·cases hz
end
end Go.Ab
namespace Go.Ab
theorem kill_top (n:Nat) (av:AV):AV.kill n [] av=.dead∨(AV.kill n [] av=av∧∀ k q,(av=.ptr k q∨av=.sref k q∨∃ o l,av=.swin k q o l)→k=n→av=.ptr n []):=by
 cases av with
 |ptr m q=>
  simp only [AV.kill]
  by_cases hm:m=n
  ·subst hm
   cases q with
   |nil=>exact .inr ⟨by simp,fun k q h1 h2=>rfl⟩
   |cons=>left;simp [below]
  ·right
   have hmn:(m==n)=false:=by simpa using hm
   refine ⟨by simp [hmn],fun k q h1 h2=>?_⟩
   rcases h1 with h1|h1|⟨_,_,h1⟩<;>cases h1
   exact absurd h2 hm
 |sref m q=>
  simp only [AV.kill]
  by_cases hm:m=n
  ·left;simp [hm,below]
  ·right
   have hmn:(m==n)=false:=by simpa using hm
   refine ⟨by simp [hmn],fun k q h1 h2=>?_⟩
   rcases h1 with h1|h1|⟨_,_,h1⟩<;>cases h1
   exact absurd h2 hm
 |swin m q o k=>
  simp only [AV.kill]
  by_cases hm:m=n
  ·left;simp [hm,below]
  ·right
   have hmn:(m==n)=false:=by simpa using hm
   refine ⟨by simp [hmn],fun k q h1 h2=>?_⟩
   rcases h1 with h1|h1|⟨_,_,h1⟩<;>cases h1
   exact absurd h2 hm
 |_=>exact .inr ⟨rfl,fun k q h1 _=>by rcases h1 with h1|h1|⟨_,_,h1⟩<;>cases h1⟩
section
variable {P:Program} {B:Base} {N:Nat} {ρ:Type} {Γ:AE} {a:Act} {w:World} {σ:Gh}
theorem does_assign {o:Oper} {x:Operand} {d:Nat} {cx:Cx} {q:Bool} {K:AE→Rs ρ} {z:ρ} (ho:o.op=.assign x) (hd:o.dst=some d)
  (h:Rel B Γ N (tmOf a) w σ) (hN:a.tmps.size=N) (hf:fits N o=true) (hz:aop cx q o Γ K=some z):Does P B N o a w K z:=by
 have hx:=h.opd (fits_op hf x (by simp [ho,Op.operands]))
 have hrun:(execOp a.eval o).run P w=.ok (.value (a.eval x)) w:=by simp [execOp,ho]
 simp only [aop,ho,hd] at hz
 have same:∀ av,Γ.opd x=av→K (Γ.set d av)=some z→Does P B N o a w K z:=fun av hav hz=>Does.set hd hN hrun h (hav▸hx) hz
 split at hz
 case h_2=>
  rename_i c vs hs
  cases x with
  |tmp t=>
   have hs:Γ.sl t=.cmp c vs:=hs
   have ht:t<N:=by have:=fits_op hf (.tmp t) (by simp [ho,Op.operands]);simpa [opdOk] using this
   have hsl:=h.slots t ht
   rw [hs] at hsl
   exact ⟨_,w,_,σ,.inl hrun,by rw [hd];exact h.putd hN (fun _=>hsl),hz⟩
  |_=>cases hs
 rename_i vx hvx
 have hvx:vx=Γ.opd x:=by
  cases x with
  |tmp t=>
   have hvx:Γ.sl t=.one vx:=hvx
   simp only [AE.opd,AE.get,hvx]
  |_=>exact (SV.one.inj hvx).symm
 subst hvx
 unfold AE.asg at hz
 split at hz
 ·rename_i r hav
  split at hz
  ·rename_i t x0 hl
   obtain ⟨hpd,hr⟩:=look_some hl
   rcases bif_some hz with ⟨-,hz⟩|⟨hrd,hz⟩
   ·exact same _ hav hz
   ·rcases bif_some hz with ⟨-,hz⟩|⟨-,hz⟩
    ·exact same _ hav hz
    ·obtain ⟨hdp,hz⟩:=(bif_some hz).elim id fun h=>by cases h.2
     have hdp:d<pinned:=by simpa using hdp
     have hne:r≠d:=by
      intro e;rw [e] at hrd;simp at hrd
     have h1:=h.drop (n:=d) (by simp [hpd])
     have hr1:((Γ.mapv (AV.drop d)).setRt d none).rt r=some ⟨false,t,x0⟩:=by
      have:(r==d)=false:=by simpa using hne
      simp only [AE.setRt,AE.mapv,this]
      exact hr
     have h2:=h1.rename hr1 (d:=d) (setRt_self _) (fun i b e _=>by omega) (by simp [AE.setRt,AE.mapv,hpd])
     have hΓ:((((Γ.mapv (AV.drop d)).setRt d none).mapv (AV.ren r d)).setRt r none).setRt d (some ⟨false,t,x0⟩)=(((Γ.mapv (AV.drop d)).mapv (AV.ren r d)).setRt r none).setRt d (some ⟨false,t,x0⟩):=by
      simp only [AE.setRt,AE.mapv]
      congr 1
      funext j
      by_cases hj:j=d
      ·subst hj;simp
      ·have:(j==d)=false:=by simpa using hj
       simp [this]
     rw [hΓ] at h2
     rw [hav] at hx
     obtain ⟨r',e',s',g1,g2,g3⟩:=hx
     rw [hr] at g1
     simp only [sj] at g1
     subst g1
     simp only [loc,locQ,sj,Prod.mk.injEq] at g2
     have hloc:loc (memo w σ.ov) t (if d=d then σ.g r else σ.g d) []=some (.list true e',s'):=by
      show some (t,if d=d then σ.g r else _)=_
      rw [if_pos rfl,g2.1,g2.2]
     have h3:=h2.putd (sv:=.one (.sref d [])) (v:=a.eval x) (d:=d) hN (fun _=>⟨⟨false,t,x0⟩,e',s',setRt_self _,hloc,g3⟩)
     exact ⟨_,w,_,_,.inl hrun,by rw [hd];exact h3,hz⟩
  ·exact same _ hav hz
 ·rename_i r k hav
  split at hz
  ·rename_i e l hl
   obtain ⟨hpd,hr⟩:=look_some hl
   rcases bif_some hz with ⟨hrd,hz⟩|⟨-,hz⟩
   ·simp only [Bool.and_eq_true,beq_iff_eq] at hrd
    obtain ⟨rfl,-⟩:=hrd
    obtain ⟨hkl,hz⟩:=(bif_some hz).elim id fun h=>by cases h.2
    rw [hav] at hx
    obtain ⟨s,O',R',a0,n0,c,f1,f2,f3,f4,f5,f6,a',hv,f7,f8⟩:=h.window hx hr (show getP (.list true e) l []=⟨.list true e,l⟩ from rfl)
    rw [Nat.zero_add] at f6
    rw [Nat.sub_zero] at hv
    have hov:=h.ov_none hpd
    simp only [loc,locQ,sj,Prod.mk.injEq,true_and] at f1
    obtain ⟨O1,R1,k1,k2,k3,k4,k5,k6⟩:=h.sep hr
    rw [f1] at k1
    have hd0:dec (memo w σ.ov) (.list true e) (s.rd (memo w σ.ov))=some (l,O',R'):=dec_frame _ f3 (fun j hj=>by
     have hj0:j=0:=by simp only [Ty.cells] at hj;omega
     subst hj0
     rw [f2];rfl) (fun _ _ _=>rfl)
    rw [hd0] at k1
    simp only [sj,Prod.mk.injEq,true_and] at k1
    obtain ⟨rfl,rfl⟩:=k1
    have key:∃ O2 R2,dec (memo w σ.ov) (.list true e) ((Src.one (.slice a' k c)).rd (memo w σ.ov))=some (List.take k l,O2,R2)∧(∀ p∈O2,p∈O')∧(O2.map (·.1)).Nodup∧(∀ c∈R2,c∈R'):=by
     rcases dec_own f3 with ⟨hs,hl0,-,-⟩|⟨A,n1,c1,os,hs,hA,hn,hx',ho⟩
     ·simp only [Src.rd,if_true,sj,Value.slice.injEq] at hs
      obtain ⟨rfl,rfl,rfl⟩:=hs
      have hk:k=0:=by omega
      subst hk
      refine ⟨[],[],?_,by simp,by simp,by simp⟩
      show decL (memo w σ.ov) true e.cells (dec (memo w σ.ov) e) (some (.slice a' 0 0))=some (([]:List e.den),[],[])
      cases a' with
      |none=>rfl
      |some b=>simp [decL,f7 b rfl,collect]
     ·simp only [Src.rd,if_true,sj,Value.slice.injEq] at hs
      obtain ⟨rfl,rfl,rfl⟩:=hs
      rw [show n0=k+(n0-k) from by omega] at hx'
      obtain ⟨os1,rs1,os2,rs2,j1,-,rfl,rfl⟩:=collect_take k _ 0 hx'
      have hnd:=k3.nodup
      by_cases hc:c=0
      ·subst hc
       have hk:k=0:=by omega
       subst hk
       refine ⟨[],[],?_,by simp,by simp,by simp⟩
       show decL (memo w σ.ov) true e.cells (dec (memo w σ.ov) e) (some (.slice a' 0 0))=some (([]:List e.den),[],[])
       cases a' with
       |none=>rfl
       |some b=>simp [decL,f7 b rfl,collect]
      ·rcases ho with ⟨h0,-⟩|⟨-,ho⟩
       ·exact absurd h0 hc
       ·have ha':a'=some ⟨A.block,A.off,none⟩:=by
         rcases f8 with f8|f8
         ·exact absurd f8 hc
         ·rw [f8];simp [add_none hA]
        subst ha'
        refine ⟨(A.block,A.off+c*e.cells)::os1,rs1,dec_own_mk (a:=⟨A.block,A.off,none⟩) rfl rfl (by omega) hc j1,?_,?_,fun c hc=>List.mem_append_left _ hc⟩
        ·intro p hp
         rw [ho]
         rcases List.mem_cons.1 hp with rfl|hp
         ·exact List.mem_cons_self
         ·exact List.mem_cons_of_mem _ (List.mem_append_left _ hp)
        ·rw [ho] at hnd
         simp only [List.map_cons,List.map_append,List.nodup_cons,List.mem_append,List.nodup_append] at hnd ⊢
         exact ⟨fun g=>hnd.1 (.inl g),hnd.2.1⟩
    obtain ⟨O2,R2,j1,j2,j3,j4⟩:=key
    have hsub:∀ p∈O2,p∈σ.ow r:=fun p hp=>by
     rcases k6 with ⟨hbx,-⟩|⟨-,-,-,hO⟩
     ·cases hbx
     ·rw [hO];exact j2 p hp
    have hsubc:∀ c∈O2.map (·.1),c∈(σ.ow r).map (·.1):=fun c hc=>by
     obtain ⟨p,hp,rfl⟩:=List.mem_map.1 hc
     exact List.mem_map_of_mem (hsub p hp)
    have hrel:=h.top hr (by simp [hpd]) (w':=w) (v':=.slice a' k c) (l':=List.take k l) j1 (fun _ _ _ _=>rfl) (fun c hc=>.inl (hsubc c hc)) j3 (fun p hp=>h.live r p (hsub p hp)) (fun _ _ hf _=>hf) (Nat.le_refl _) h.frame
     (fun c hc=>by
      have hs:=f4 c (j4 c hc)
      exact ⟨hs.1,hs.2.1,hs.2.2,fun g=>hs.2.2 ⟨r,hsubc c g⟩⟩) (f:=AV.kill r []) (kill_top r)
    have hloc:loc (memo w σ.ov) (.list true e) (if r=r then Src.one (.slice a' k c) else σ.g r) []=some (.list true e,.one (.slice a' k c)):=by
     show some (_,if r=r then Src.one _ else _)=_
     rw [if_pos rfl]
    have h3:=hrel.putd (sv:=.one (.sref r [])) (v:=a.eval x) (d:=r) hN (fun _=>⟨⟨false,.list true e,List.take k l⟩,e,.one (.slice a' k c),setRt_self _,hloc,by rw [hv];rfl⟩)
    exact ⟨_,w,_,_,.inl hrun,by rw [hd];exact h3,hz⟩
   ·exact same _ hav hz
  ·exact same _ hav hz
 ·exact same _ rfl hz
end
end Go.Ab
namespace Go.Ab
theorem Rel.move {B Γ N tm w σ} (h:Rel B Γ N tm w σ) {n r p ε b o y O1 R1} (hr:Γ.rt n=some r) (hl:loc (memo w σ.ov) r.t (σ.g n) p=some ((.list true ε),.at b o))
  (hy:dec (memo w σ.ov) (.list true ε) ((Src.at b o).rd (memo w σ.ov))=some (y,O1,R1)) {m0:Nat} {y':List ε.den} {v:Value} (hm0:Γ.rt m0=some ⟨false,(.list true ε),y'⟩) (hg0:σ.g m0=.one v) (hne0:m0≠n) (hpd:Γ.pd=none)
  {f:AV→AV} (hf:∀ a,f a=.dead∨(f a=a∧Keeps n p (.list true ε) a∧∀ k q,(a=.ptr k q∨a=.sref k q∨∃ o l,a=.swin k q o l)→k≠m0)):
  ∃ ow',Rel B (((Γ.mapv f).setRt m0 none).setRt n (some ⟨r.bx,r.t,setP r.t r.x p (.list true ε) y'⟩)) N tm (w.setCell ⟨b,o,none⟩ v) ⟨σ.g,ow',none⟩:=by
 have hov:σ.ov=none:=h.ov_none hpd
 obtain ⟨O2,R2,i1,i2,i3,i4,i5,i6⟩:=h.sep hm0
 have i6:σ.ow m0=O2:=by
  rcases i6 with ⟨hbx,-⟩|⟨-,-,-,hO⟩
  ·cases hbx
  ·exact hO
 rw [hg0] at i1
 obtain ⟨w',hw'⟩:∃ w',w'=w.setCell ⟨b,o,none⟩ v:=⟨_,rfl⟩
 rw [←hw']
 have hb0:b∈(σ.ow n).map (·.1):=h.place hr hl
 have hroom:=h.room hr hl
 have hcells1:(Ty.list true ε).cells=1:=rfl
 have hmem0:∀ c j,memo w' none c j=if c=b∧j=o then some v else memo w σ.ov c j:=fun c j=>by
  rw [hov,hw']
  simp only [memo]
  by_cases e1:c=b∧j=o
  ·obtain ⟨rfl,rfl⟩:=e1
   have:=(hroom.cell (o:=j) (by omega)).1
   obtain ⟨u,hu⟩:=Option.isSome_iff_exists.1 this
   rw [World.cell?_setCell_same _ _ _ hu]
   simp
  ·rw [if_neg e1,World.cell?_setCell_other]
   intro e'
   simp only [Addr.mk.injEq,and_true] at e'
   exact e1 ⟨e'.1.symm,e'.2.symm⟩
 have hchg:∀ c j,memo w' none c j=memo w σ.ov c j∨(c=b∧o≤j∧j<o+(Ty.list true ε).cells)∨c∈O1.map (·.1)∨w.heap.size≤c:=fun c j=>by
  by_cases e1:c=b∧j=o
  ·exact .inr (.inl ⟨e1.1,by omega,by omega⟩)
  ·exact .inl (by rw [hmem0,if_neg e1])
 have hy':dec (memo w' none) (.list true ε) ((Src.at b o).rd (memo w' none))=some (y',O2,R2):=by
  refine dec_frame _ i1 (fun j hj=>?_) (fun c j hc=>?_)
  ·have hj0:j=0:=by simp only [Ty.cells] at hj;omega
   subst hj0
   simp [Src.rd,hmem0]
  ·rw [hmem0,if_neg]
   rintro ⟨rfl,-⟩
   rcases hc with hc|hc
   ·exact h.disj n m0 (Ne.symm hne0) c hb0 (i4 c hc)
   ·exact (i2 c hc).2.2 ⟨n,hb0⟩
 have hO2:∀ c∈O2.map (·.1),c∈(σ.ow m0).map (·.1):=i4
 have hn2:(O2.map (·.1)).Nodup:=i3.nodup
 have hfree:∀ c k,Free w c k→Owned σ c→Free w' c k:=fun c k hf _=>by rw [hw'];exact hf.setCell _ _
 have hlive:∀ p∈O2,Free w' p.1 p.2:=fun p hp=>by
  rw [←i6] at hp
  exact hfree _ _ (h.live m0 p hp) ⟨m0,List.mem_map_of_mem hp⟩
 have hsz:w.heap.size≤w'.heap.size:=by rw [hw'];simp
 have hfr:∀ b,b<B.size→¬ B.F b→w'.heap[b]?=B.hp b:=fun c hc hF=>by
  rw [hw',heap_setCell,if_neg]
  ·exact h.frame c hc hF
  ·rintro rfl
   rcases h.mine c ⟨n,hb0⟩ with g|g
   ·exact hF g
   ·omega
 obtain ⟨O',R,h1,h2,h3,h4,h5,h6⟩:=h.sep hr
 obtain ⟨y1,O1',R1',A1,B1,A1',B1',hd,hg,e1,e2⟩:=dec_loc p r.t _ h1 hl
 rw [hy] at hd
 simp only [sj,Prod.mk.injEq] at hd
 obtain ⟨rfl,rfl,rfl⟩:=hd
 have hO1:∀ c,c∈O1.map (·.1)→c∈(σ.ow n).map (·.1):=fun c hc=>h4 c (by rw [e1];exact mem_mid hc)
 have hb:b∈(σ.ow n).map (·.1):=h.place hr hl
 have hc1:Chg (memo w σ.ov) (memo w' none) (σ.g n) O' R b o (Ty.list true ε).cells O1:=fun c j=>by
  rcases hchg c j with g|g|g|g
  ·exact .inl g
  ·exact .inr (.inl g)
  ·exact .inr (.inr (.inl g))
  ·refine .inr (.inr (.inr ⟨fun g'=>?_,fun g'=>?_,?_⟩))
   ·exact absurd (h.lt ⟨n,h4 c g'⟩) (by omega)
   ·exact absurd (h2 c g').1 (by omega)
   ·cases e:σ.g n with
    |one v=>trivial
    |_=>
     rename_i b' o'
     rintro rfl
     exact absurd (h.lt ⟨n,h5 _ _ e⟩) (by omega)
 obtain ⟨A,B',R',e3,h7,h8⟩:=repl p r.t (σ.g n) h1 hl hy hy' h3 hc1

 have hother:∀ c j,c∉(σ.ow n).map (·.1)→c<w.heap.size→memo w' none c j=memo w σ.ov c j:=fun c j hc hlt=>by
  rcases hchg c j with g|⟨rfl,-⟩|g|g
  ·exact g
  ·exact absurd hb hc
  ·exact absurd (hO1 c g) hc
  ·omega
 have hoth:∀ m,m≠n→∀ c j,c∈(σ.ow m).map (·.1)→memo w' none c j=memo w σ.ov c j:=fun m hm c j hc=>
  hother c j (h.disj m n hm c hc) (h.lt ⟨m,hc⟩)
 have hshm:∀ c j,Shr B w σ c→memo w' none c j=memo w σ.ov c j:=fun c j hc=>hother c j (fun g=>hc.2.2 ⟨n,g⟩) hc.1

 let on:Owns:=match r.bx with|true=>(match σ.g n with|.at b0 _=>[(b0,r.t.cells)]|_=>[])++(A++(O2++B'))|false=>A++(O2++B')
 let ow':Nat→Owns:=fun m=>if m=n then on else if m=m0 then [] else σ.ow m
 have hon:ow' n=on:=by simp [ow']
 have hom:∀ m,m≠n→m≠m0→ow' m=σ.ow m:=fun m hm hm'=>by simp [ow',hm,hm']
 have hom0:ow' m0=[]:=by simp [ow',hne0]
 have hon1:∀ c,c∈on.map (·.1)→c∈(σ.ow n).map (·.1)∨c∈O2.map (·.1):=by
  intro c hc
  have key:c∈(A++(O2++B')).map (·.1)→c∈(σ.ow n).map (·.1)∨c∈O2.map (·.1):=by
   intro hc
   simp only [List.map_append,List.mem_append] at hc
   rcases hc with hc|hc|hc
   ·exact .inl (h4 c (by rw [e3];simp only [List.map_append,List.mem_append];exact .inl hc))
   ·exact .inr hc
   ·exact .inl (h4 c (by rw [e3];simp only [List.map_append,List.mem_append];exact .inr (.inr hc)))
  rcases h6 with ⟨hbx,b0,hs,ho⟩|⟨hbx,-,-,ho⟩
  ·simp only [on,hbx,hs,List.map_append,List.mem_append,List.map_cons,List.map_nil,List.mem_cons,List.not_mem_nil,or_false] at hc
   rcases hc with rfl|hc
   ·exact .inl (by rw [ho];simp)
   ·exact key (by simpa only [List.map_append,List.mem_append] using hc)
  ·simp only [on,hbx] at hc
   exact key hc
 have hOwned:∀ c,(∃ m,c∈(ow' m).map (·.1))→Owned σ c:=by
  rintro c ⟨m,hm⟩
  by_cases e:m=n
  ·subst e
   rw [hon] at hm
   rcases hon1 c hm with g|g
   ·exact ⟨m,g⟩
   ·exact ⟨m0,hO2 c g⟩
  ·by_cases e':m=m0
   ·rw [e',hom0] at hm;simp at hm
   ·rw [hom m e e'] at hm
    exact ⟨m,hm⟩
 have hsh:∀ c,Shr B w σ c→Shr B w' ⟨σ.g,ow',none⟩ c:=fun c ⟨g1,g2,g3⟩=>⟨Nat.lt_of_lt_of_le g1 hsz,g2,fun g4=>g3 (hOwned c g4)⟩
 have hshR2:∀ c∈R2,Shr B w' ⟨σ.g,ow',none⟩ c:=fun c hc=>hsh c (i2 c hc)

 have hplace:∀ m q rm tq s,Γ.rt m=some rm→loc (memo w σ.ov) rm.t (σ.g m) q=some (tq,s)→(m=n→∀ rest,q=p++rest→rest=[]∨(Ty.list true ε).shn=(Ty.list true ε))→
   loc (memo w' none) rm.t (σ.g m) q=some (tq,s)∧∀ e,tq=.list true e→(m=n→∀ rest,q=p++rest→(Ty.list true ε).shn=(Ty.list true ε))→s.rd (memo w' none) 0=s.rd (memo w σ.ov) 0:=by
  intro m q rm tq s hrm hlq hq
  by_cases e:m=n
  ·subst e
   rw [hr] at hrm
   simp only [sj] at hrm
   subst hrm
   have:=loc_chg p q r.t (σ.g m) h1 hl hy h3 hc1 (hq rfl) hlq
   refine ⟨this.1,fun e ht hne=>this.2 e s (by rw [ht]) (fun rest he=>?_)⟩
   have hp:=hne rfl rest he
   subst he
   rw [loc_append p rest r.t _ hl] at hlq
   have:=loc_sub_pure rest (Ty.list true ε) _ hp hlq
   rw [ht] at this
   simp [Ty.shn] at this
  ·obtain ⟨Om,Rm,g1,g2,g3,g4,g5,-⟩:=h.sep hrm
   have hcell:∀ j,j<rm.t.cells→(σ.g m).rd (memo w' none) j=(σ.g m).rd (memo w σ.ov) j:=fun j _=>by
    cases es:σ.g m with
    |one v=>rfl
    |_=>rename_i b' o';exact hoth m e b' _ (g5 _ _ es)
   refine ⟨loc_frame q rm.t _ g1 hlq hcell (fun c j hc=>hoth m e c j (g4 c hc)),fun e' ht _=>?_⟩
   rw [ht] at hlq
   exact hdr_frame g1 hlq hcell (fun c j hc=>hoth m e c j (g4 c hc))
 have hkeep:∀ a v,AVOk (memo w σ.ov) σ.g Γ.rt (Shr B w σ) a v→AVOk (memo w' none) σ.g (fun j=>bif j==n then some ⟨r.bx,r.t,setP r.t r.x p (Ty.list true ε) y'⟩ else bif j==m0 then none else Γ.rt j) (Shr B w' ⟨σ.g,ow',none⟩) (f a) v:=by
  intro a v ha
  rcases hf a with g|⟨g,hk,hk0⟩
  ·rw [g];trivial
  ·rw [g]
   refine ha.frame hshm hsh fun m q rm tq s hcase hrm hlq=>?_
   have hq:m=n→∀ rest,q=p++rest→rest=[]∨(Ty.list true ε).shn=(Ty.list true ε):=by
    intro e rest he
    rcases hcase with rfl|rfl|⟨o',l',rfl⟩
    ·exact hk e rest he
    ·exact .inr (hk e rest he)
    ·exact .inr (hk e rest he)
   have hp:=hplace m q rm tq s hrm hlq hq
   refine ⟨if m=n then ⟨r.bx,r.t,setP r.t r.x p (Ty.list true ε) y'⟩ else rm,?_,?_,?_⟩
   ·by_cases e:m=n
    ·simp [e]
    ·have e':(m==n)=false:=by simpa using e
     have e0:(m==m0)=false:=by simpa using hk0 m q hcase
     simp [e,e',e0,hrm]
   ·by_cases e:m=n
    ·subst e
     rw [hr] at hrm
     simp only [sj] at hrm
     subst hrm
     simpa using hp.1
    ·simpa [e] using hp.1
   ·intro u hne hu
    rcases hcase with rfl|rfl|⟨o',l',rfl⟩
    ·exact absurd rfl hne
    ·obtain ⟨r0,e0,s0,k1,k2,k3⟩:=ha
     rw [hrm] at k1
     simp only [sj] at k1
     subst k1
     rw [hlq] at k2
     simp only [sj,Prod.mk.injEq] at k2
     rw [hp.2 e0 k2.1 (fun e rest he=>hk e rest he)];exact hu
    ·obtain ⟨r0,e0,s0,a0,l0,c0,k1,k2,k3⟩:=ha
     rw [hrm] at k1
     simp only [sj] at k1
     subst k1
     rw [hlq] at k2
     simp only [sj,Prod.mk.injEq] at k2
     rw [hp.2 e0 k2.1 (fun e rest he=>hk e rest he)];exact hu
 have hpins:∀ i b,B.pin i=some b→(bif pinned+i==n then some (Root.mk r.bx r.t (setP r.t r.x p (Ty.list true ε) y')) else bif pinned+i==m0 then none else Γ.rt (pinned+i))≠none→σ.g (pinned+i)=.at b 0:=fun i b hb hne=>by
  refine h.pins i b hb fun e=>hne ?_
  by_cases e':pinned+i=n
  ·rw [e',hr] at e;cases e
  ·have e'':(pinned+i==n)=false:=by simpa using e'
   rw [e'',e];simp
 refine ⟨ow',?_,?_,?_,?_,?_,?_,?_,Nat.le_trans h.size hsz,hfr,?_,hpins,by rw [hw'];exact h.still⟩
 ·intro m rm hrm
  by_cases e:m=n
  ·subst e
   simp only [AE.setRt,beq_self_eq_true,cond_true,sj] at hrm
   subst hrm
   refine ⟨_,R',h7,fun c hc=>?_,?_⟩
   ·rcases h8 c hc with g|g
    ·exact hsh c (h2 c g)
    ·exact hshR2 c g
   ·rcases h6 with ⟨hbx,b0,hs,ho⟩|⟨hbx,hs,ht,ho⟩
    ·exact .inl ⟨hbx,b0,hs,by show ow' m=_;rw [hon];simp [on,hbx,hs]⟩
    ·exact .inr ⟨hbx,hs,ht,by show ow' m=_;rw [hon];simp [on,hbx]⟩
  ·have e1:m≠m0:=by
    rintro rfl
    have e':(m==n)=false:=by simpa using e
    simp [AE.setRt,e',AE.mapv] at hrm
   have hrm':Γ.rt m=some rm:=by
    have e':(m==n)=false:=by simpa using e
    have e1':(m==m0)=false:=by simpa using e1
    simpa [AE.setRt,e',e1',AE.mapv] using hrm
   obtain ⟨Om,Rm,g1,g2,g3,g4,g5,g6⟩:=h.sep hrm'
   refine ⟨Om,Rm,dec_frame rm.t g1 (fun j _=>?_) (fun c j hc=>?_),fun c hc=>hsh c (g2 c hc),?_⟩
   ·cases es:σ.g m with
    |one v=>rfl
    |_=>rename_i b' o';exact hoth m e b' _ (g5 _ _ es)
   ·rcases hc with hc|hc
    ·exact hoth m e c j (g4 c hc)
    ·exact hshm c j (g2 c hc)
   ·show (rm.bx=true∧∃ b,σ.g m=.at b 0∧ow' m=(b,rm.t.cells)::Om)∨(rm.bx=false∧(∃ v,σ.g m=.one v)∧(∃ e,rm.t=.list true e)∧ow' m=Om)
    rw [hom m e e1];exact g6
 ·intro m hm
  by_cases e:m=n
  ·subst e;simp [AE.setRt] at hm
  ·by_cases e1:m=m0
   ·show ow' m=[]
    rw [e1];exact hom0
   ·have e':(m==n)=false:=by simpa using e
    have e1':(m==m0)=false:=by simpa using e1
    show ow' m=[]
    rw [hom m e e1]
    exact h.norm m (by simpa [AE.setRt,e',e1',AE.mapv] using hm)
 ·intro m
  show ((ow' m).map (·.1)).Nodup
  by_cases e:m=n
  ·subst e
   rw [hon]
   have hnd:=h.nodup m
   have key:((A++(O2++B')).map (·.1)).Nodup:=by
    have hO'n:=h3.nodup
    rw [e3] at hO'n
    simp only [List.map_append,List.nodup_append,List.mem_append] at hO'n ⊢
    obtain ⟨k1,⟨k2,k3,k4⟩,k5⟩:=hO'n
    refine ⟨k1,⟨hn2,k3,fun a ha c hc e=>?_⟩,fun a ha c hc e=>?_⟩
    ·subst e
     exact h.disj m m0 (Ne.symm hne0) a (h4 a (by rw [e3];simp only [List.map_append,List.mem_append];exact .inr (.inr hc))) (hO2 a ha)
    ·subst e
     rcases hc with hc|hc
     ·exact h.disj m m0 (Ne.symm hne0) a (h4 a (by rw [e3];simp only [List.map_append,List.mem_append];exact .inl ha)) (hO2 a hc)
     ·exact k5 a ha a (.inr hc) rfl
   rcases h6 with ⟨hbx,b0,hs,ho⟩|⟨hbx,-,-,ho⟩
   ·simp only [on,hbx,hs,List.singleton_append,List.map_cons,List.nodup_cons]
    refine ⟨fun g=>?_,key⟩
    rw [ho] at hnd
    simp only [List.map_cons,List.nodup_cons] at hnd
    simp only [List.map_append,List.mem_append] at g
    rcases g with g|g|g
    ·exact hnd.1 (by rw [e3];simp only [List.map_append,List.mem_append];exact .inl g)
    ·exact h.disj m m0 (Ne.symm hne0) b0 (by rw [ho];simp) (hO2 b0 g)
    ·exact hnd.1 (by rw [e3];simp only [List.map_append,List.mem_append];exact .inr (.inr g))
   ·simp only [on,hbx];exact key
  ·by_cases e1:m=m0
   ·rw [e1,hom0];simp
   ·rw [hom m e e1];exact h.nodup m
 ·have one:∀ m m',m≠m'→m=n→∀ c,c∈(ow' m).map (·.1)→c∉(ow' m').map (·.1):=by
   intro m m' hmm e c hc hc'
   subst e
   by_cases e1:m'=m0
   ·rw [e1,hom0] at hc';simp at hc'
   ·rw [hon] at hc
    rw [hom m' (Ne.symm hmm) e1] at hc'
    rcases hon1 c hc with g|g
    ·exact h.disj m m' hmm c g hc'
    ·exact h.disj m0 m' (Ne.symm e1) c (hO2 c g) hc'
  intro m m' hmm c hc hc'
  by_cases e:m=n
  ·exact one m m' hmm e c hc hc'
  ·by_cases e':m'=n
   ·exact one m' m (Ne.symm hmm) e' c hc' hc
   ·by_cases e1:m=m0
    ·rw [show (Gh.mk σ.g ow' none).ow m=ow' m from rfl,e1,hom0] at hc;simp at hc
    ·by_cases e2:m'=m0
     ·rw [show (Gh.mk σ.g ow' none).ow m'=ow' m' from rfl,e2,hom0] at hc';simp at hc'
     ·rw [show (Gh.mk σ.g ow' none).ow m=ow' m from rfl,hom m e e1] at hc
      rw [show (Gh.mk σ.g ow' none).ow m'=ow' m' from rfl,hom m' e' e2] at hc'
      exact h.disj m m' hmm c hc hc'
 ·intro m q hq
  rw [show (Gh.mk σ.g ow' none).ow m=ow' m from rfl] at hq
  by_cases e:m=n
  ·subst e
   rw [hon] at hq
   have hold:q∈σ.ow m→Free w' q.1 q.2:=fun g=>hfree _ _ (h.live m q g) ⟨m,List.mem_map_of_mem g⟩
   have key:q∈A++(O2++B')→Free w' q.1 q.2:=by
    intro g
    simp only [List.mem_append] at g
    have hmem:q∈O'→q∈σ.ow m:=fun g=>by
     rcases h6 with ⟨-,b0,-,ho⟩|⟨-,-,-,ho⟩
     ·rw [ho];exact List.mem_cons_of_mem _ g
     ·rw [ho];exact g
    rcases g with g|g|g
    ·exact hold (hmem (by rw [e3];simp [g]))
    ·exact hlive q g
    ·exact hold (hmem (by rw [e3];simp [g]))
   rcases h6 with ⟨hbx,b0,hs,ho⟩|⟨hbx,-,-,ho⟩
   ·simp only [on,hbx,hs,List.singleton_append,List.mem_cons] at hq
    rcases hq with g|g
    ·exact hold (by rw [ho,g];simp)
    ·exact key g
   ·simp only [on,hbx] at hq;exact key hq
  ·by_cases e1:m=m0
   ·rw [e1,hom0] at hq;cases hq
   ·rw [hom m e e1] at hq
    exact hfree _ _ (h.live m q hq) ⟨m,List.mem_map_of_mem hq⟩
 ·intro i hi
  exact (h.slots i hi).mapv hkeep
 ·show PendOk _ _ _ Γ.pd none
  rw [hpd];trivial
 ·rintro c ⟨m,hm⟩
  exact h.mine c (hOwned c ⟨m,hm⟩)
end Go.Ab
namespace Go.Ab
section
variable {P:Program} {B:Base} {N:Nat} {ρ:Type} {Γ:AE} {a:Act} {w:World} {σ:Gh}
theorem run_store1 {τ:Ty} {t:TypeId} {A:Option Addr} {n c b o k:Nat} (ht:tyOk P τ (.inl t)=true) (h1:τ.cells=1) (hf:Free w b k) (hk:o+1≤k):
  (Instr.storeAt t (.pointer (some ⟨b,o,none⟩)) (.slice A n c)).run P w=.ok () (w.setCell ⟨b,o,none⟩ (.slice A n c)):=by
 obtain ⟨I⟩:=baseOk_info (tyOk_base ht)
 have hcs:(Value.slice A n c).cells=#[Value.slice A n c]:=rfl
 have:=run_storeCells_cells (P:=P) b o [Value.slice A n c] 0 w (fun j hj=>(hf.cell (o:=o+0+j) (by simp at hj;omega)).1) (fun j hj=>(hf.cell (o:=o+0+j) (by simp at hj;omega)).2) (fun u hu=>by
  simp only [List.mem_singleton] at hu
  subst hu;rfl)
 have hsz:(Value.slice A n c).cells.size=τ.cells:=by rw [hcs,h1];rfl
 simp only [Instr.storeAt,Instr.sureAddr,storeVar,Sem.run_bind,Sem.run_pure,Result.andThen_ok,I.sizeOf,hsz,ne_eq,not_true_eq_false,if_false]
 rw [hcs]
 simp only [Nat.add_zero] at this
 exact this
theorem setCell_memo {b o k:Nat} (hf:Free w b k) (hk:o<k) (v:Value) (c j:Nat):memo (w.setCell ⟨b,o,none⟩ v) none c j=if c=b∧j=o then some v else memo w none c j:=by
 simp only [memo]
 by_cases e1:c=b∧j=o
 ·obtain ⟨rfl,rfl⟩:=e1
  obtain ⟨u,hu⟩:=Option.isSome_iff_exists.1 (hf.cell hk).1
  rw [World.cell?_setCell_same _ _ _ hu]
  simp
 ·rw [if_neg e1,World.cell?_setCell_other]
  intro e'
  simp only [Addr.mk.injEq,and_true] at e'
  exact e1 ⟨e'.1.symm,e'.2.symm⟩
theorem mapv_id (Γ:AE):Γ.mapv id=Γ:=by
 have:∀ s:SV,s.mapv id=s:=fun s=>by cases s<;>simp [SV.mapv]
 simp only [AE.mapv,this]
theorem Does.skip {o:Oper} {K:AE→Rs ρ} {z:ρ} {w':World} {Γ':AE} {σ':Gh} (hN:a.tmps.size=N) (hrun:(execOp a.eval o).run P w=.ok .skip w') (h:Rel B Γ' N (tmOf a) w' σ') (hK:K (Γ'.setD o.dst .dead)=some z):Does P B N o a w K z:=by
 cases hd:o.dst with
 |none=>exact ⟨undef,w',Γ',σ',.inr ⟨hrun,rfl⟩,by rw [hd];exact h,by rw [hd] at hK;exact hK⟩
 |some d=>exact ⟨undef,w',Γ'.set d .dead,σ',.inr ⟨hrun,rfl⟩,by rw [hd];exact h.putd hN (fun _=>trivial),by rw [hd] at hK;exact hK⟩
theorem isList_cells {t:Ty} (h:t.isList=true):t.cells=1:=by cases t<;>first|rfl|cases h
theorem pathEq_eq:∀ (p q:Path),pathEq p q=true→p=q
 | [],[],_=>rfl
 |.fst::p,.fst::q,h=>by rw [pathEq_eq p q h]
 |.snd::p,.snd::q,h=>by rw [pathEq_eq p q h]
 |.idx i::p,.idx j::q,h=>by
  simp only [pathEq,Bool.and_eq_true,beq_iff_eq] at h
  rw [h.1,pathEq_eq p q h.2]
 | [],_::_,h=>by cases h
 |.fst::_,[],h=>by cases h
 |.fst::_,.snd::_,h=>by cases h
 |.fst::_,.idx _::_,h=>by cases h
 |.snd::_,[],h=>by cases h
 |.snd::_,.fst::_,h=>by cases h
 |.snd::_,.idx _::_,h=>by cases h
 |.idx _::_,[],h=>by cases h
 |.idx _::_,.fst::_,h=>by cases h
 |.idx _::_,.snd::_,h=>by cases h
theorem Rel.storR {tm:Nat→Value} {ty:Ty} {t:TypeId} {n:Nat} {p:Path} {yv:AV} {vx vy:Value} {K:AE→Rs ρ} {z:ρ} (hsh:ty.sh=ty) (hty:tyOk P ty (.inl t)=true) (h:Rel B Γ N tm w σ)
  (hx:AVOk (memo w σ.ov) σ.g Γ.rt (Shr B w σ) (.ptr n p) vx) (hy:AVOk (memo w σ.ov) σ.g Γ.rt (Shr B w σ) yv vy) (hz:Γ.stor ty n p yv K=some z):
  ∃ w' Γ' σ' b o,vx=.pointer (some ⟨b,o,none⟩)∧w'=w.setCells b o vy.cells.toList∧(Instr.storeAt t vx vy).run P w=.ok () w'∧Rel B Γ' N tm w' σ'∧K Γ'=some z:=by
 obtain ⟨yw,hyw⟩:∃ f:AV→AV,f yv=yv:=⟨fun v=>v,rfl⟩
 rw [←hyw] at hy hz
 clear hyw
 obtain ⟨r,t0,b,off,hr,hl,hxv⟩:=id hx
 obtain ⟨O1,R1,k1,k2,k3,k4,k5,k6⟩:=h.sep hr
 obtain ⟨y0,O',R',A1,B1,A1',B1',hd,hg,e1,e2⟩:=dec_loc p r.t _ k1 hl
 unfold AE.stor at hz
 rw [hr] at hz
 simp only at hz
 split at hz
 ·rename_i e l hge
  split at hz
  ·rename_i hlist
   have ht0:t0=.list true e:=by
    have:=hg.symm.trans hge
    exact congrArg Sigma.fst this
   subst ht0
   have hroom:=h.room hr hl
   have hbown:Owned σ b:=⟨n,h.place hr hl⟩
   split at hz
   ·
    rename_i hye
    rw [hye] at hy
    have hy:vy=.slice none 0 0:=hy
    split at hz
    ·cases hz
    ·rename_i r2 hlk
     obtain ⟨hpd,-⟩:=look_some hlk
     have hov:=h.ov_none hpd
     have hrun:=run_store1 (A:=none) (n:=0) (c:=0) hty (isList_cells hlist) hroom (o:=off) (Nat.le_refl _)
     rw [←hxv,←hy] at hrun
     have hm:=setCell_memo (v:=vy) hroom (o:=off) (Nat.lt_succ_self _)
     obtain ⟨ow',-,hrel⟩:=h.chg hr hl hd (w':=w.setCell ⟨b,off,none⟩ vy) (ov':=σ.ov) (pd':=Γ.pd) (y':=([]:List e.den)) (O2:=[]) (R2:=[]) (.same (by simp [hpd])) (by
       rw [hov]
       show decL _ true e.cells _ (memo _ none b (off+0))=_
       rw [hm,if_pos ⟨rfl,rfl⟩,hy];rfl) (fun c j=>by
       rw [hov,hm]
       by_cases e1:c=b∧j=off
       ·exact .inr (.inl ⟨e1.1,by omega,by simp only [Ty.cells];omega⟩)
       ·exact .inl (by rw [if_neg e1])) (by simp) (by simp) (by simp) (fun c k hf _=>hf.setCell _ _) (by simp) (fun c hc hF=>by
       rw [heap_setCell,if_neg]
       ·exact h.frame c hc hF
       ·rintro rfl
        rcases h.mine _ hbown with g|g
        ·exact hF g
        ·omega) (by simp) (f:=AV.kill n p) (fun av=>kill_keeps n p _ av)
     exact ⟨_,_,_,b,off,hxv,by rw [hy];rfl,hrun,hrel,hz⟩
   ·
    rename_i m p' hye
    rw [hye] at hy
    rcases bif_some hz with ⟨hc,hz1⟩|⟨-,hz1⟩<;>clear hz
    ·simp only [Bool.and_eq_true,beq_iff_eq] at hc
     obtain ⟨rfl,hc⟩:=hc
     have hpp:=pathEq_eq _ _ hc
     subst hpp
     split at hz1
     ·rename_i m2 p2 d2 hpd
      rcases bif_some hz1 with ⟨hc2,hz2⟩|⟨-,hz2⟩<;>clear hz1
      ·simp only [Bool.and_eq_true,beq_iff_eq] at hc2
       obtain ⟨rfl,hc2⟩:=hc2
       have hpp:=pathEq_eq _ _ hc2
       subst hpp
       have hp:=h.pend
       rw [hpd] at hp
       cases hov:σ.ov with
       |none=>rw [hov] at hp;exact hp.elim
       |some ov=>
        obtain ⟨b2,o2,v2⟩:=ov
        rw [hov] at hp
        obtain ⟨r2,e2,q1,q2⟩:=hp
        rw [hr] at q1
        simp only [sj] at q1
        subst q1
        rw [←hov,hl] at q2
        simp only [sj,Prod.mk.injEq,Src.at.injEq] at q2
        obtain ⟨-,rfl,rfl⟩:=q2
        obtain ⟨r3,e3,s3,q3,q4,q5⟩:=hy
        rw [hr] at q3
        simp only [sj] at q3
        subst q3
        rw [hl] at q4
        simp only [sj,Prod.mk.injEq] at q4
        obtain ⟨-,rfl⟩:=q4
        have hv:v2=vy:=by
         rw [hov] at q5
         simpa [Src.rd,memo] using q5
        have hsl:∃ A n' c',vy=.slice A n' c':=by
         rcases dec_own hd with ⟨g,-⟩|⟨A,n',c',os,g,-⟩
         ·rw [q5] at g
          exact ⟨_,_,_,Option.some.inj g⟩
         ·rw [q5] at g
          exact ⟨_,_,_,Option.some.inj g⟩
        obtain ⟨A,n',c',hsl⟩:=hsl
        have hrun:=run_store1 (A:=A) (n:=n') (c:=c') hty (isList_cells hlist) hroom (o:=off) (Nat.le_refl _)
        rw [←hxv,←hsl,←hv] at hrun
        have:=h.done hpd hov
        refine ⟨_,_,_,b,off,hxv,?_,?_,this,hz2⟩
        ·rw [hv,hsl];rfl
        ·rw [←hv];exact hrun
      ·cases hz2
     ·cases hz1
    ·split at hz1
     ·rename_i r2 e' l' hl1 hl2
      split at hz1
      ·rename_i hee
       subst hee
       rcases bif_some hz1 with ⟨-,hz2⟩|⟨hmn,hz2⟩<;>clear hz1
       ·cases hz2
       ·have hmn:m≠n:=by simpa using hmn
        obtain ⟨hpd,hrm⟩:=look_some hl2
        obtain ⟨r3,e3,s3,q3,q4,q5⟩:=hy
        rw [hrm] at q3
        simp only [sj] at q3
        subst q3
        simp only [loc,locQ,sj,Prod.mk.injEq] at q4
        obtain ⟨q4,rfl⟩:=q4
        obtain ⟨O3,R3,i1,-,-,-,-,i6⟩:=h.sep hrm
        have hg0:σ.g m=.one vy:=by
         rcases i6 with ⟨hbx,-⟩|⟨-,⟨v,hs⟩,-⟩
         ·cases hbx
         ·rw [hs] at q5 ⊢
          simp only [Src.rd,if_true,sj] at q5
          rw [q5]
        have hsl:∃ A n' c',vy=.slice A n' c':=by
         rcases dec_own i1 with ⟨g,-⟩|⟨A,n',c',os,g,-⟩
         ·rw [q5] at g
          exact ⟨_,_,_,Option.some.inj g⟩
         ·rw [q5] at g
          exact ⟨_,_,_,Option.some.inj g⟩
        obtain ⟨A,n',c',hsl⟩:=hsl
        have hrun:=run_store1 (A:=A) (n:=n') (c:=c') hty (isList_cells hlist) hroom (o:=off) (Nat.le_refl _)
        rw [←hxv,←hsl] at hrun
        obtain ⟨ow',hrel⟩:=h.move hr hl hd hrm hg0 hmn hpd (f:=fun av=>AV.drop m (AV.kill n p av)) (fun av=>by
         rcases kill_keeps n p (.list true e') av with g|⟨g,g2⟩
         ·left;rw [g];rfl
         ·rw [g]
          cases av with
          |ptr m2 q2=>
           simp only [AV.drop]
           by_cases hm:m2=m
           ·left;simp [hm]
           ·have:(m2==m)=false:=by simpa using hm
            refine .inr ⟨by simp [this],g2,fun k q hh=>?_⟩
            rcases hh with hh|hh|⟨_,_,hh⟩<;>cases hh
            exact hm
          |sref m2 q2=>
           simp only [AV.drop]
           by_cases hm:m2=m
           ·left;simp [hm]
           ·have:(m2==m)=false:=by simpa using hm
            refine .inr ⟨by simp [this],g2,fun k q hh=>?_⟩
            rcases hh with hh|hh|⟨_,_,hh⟩<;>cases hh
            exact hm
          |swin m2 q2 o2 k2=>
           simp only [AV.drop]
           by_cases hm:m2=m
           ·left;simp [hm]
           ·have:(m2==m)=false:=by simpa using hm
            refine .inr ⟨by simp [this],g2,fun k q hh=>?_⟩
            rcases hh with hh|hh|⟨_,_,hh⟩<;>cases hh
            exact hm
          |_=>exact .inr ⟨rfl,g2,fun k q hh=>by rcases hh with hh|hh|⟨_,_,hh⟩<;>cases hh⟩)
        have hmm:(Γ.mapv (AV.kill n p)).mapv (AV.drop m)=Γ.mapv fun av=>AV.drop m (AV.kill n p av):=by
         have:∀ s:SV,(s.mapv (AV.kill n p)).mapv (AV.drop m)=s.mapv fun av=>AV.drop m (AV.kill n p av):=fun s=>by
          cases s<;>simp [SV.mapv]
         simp only [AE.mapv,this]
        rw [hmm] at hz2
        exact ⟨_,_,_,b,off,hxv,by rw [hsl];rfl,hrun,hrel,hz2⟩
      ·cases hz1
     ·cases hz1
   ·cases hz
  ·cases hz
 ·rename_i t1 y1 hnl hge
  split at hz
  ·rename_i hpt
   obtain ⟨hpure,hteq⟩:=hpt
   have hty:tyOk P t1 (.inl t)=true:=by rw [←tyOk_sh,hteq];exact hty
   obtain ⟨yv,Γ1,σ1,hz,h1,hv,hev,-⟩:=h.asV (.inl hy) hz
   split at hz
   ·rename_i r1 hlk
    obtain ⟨hpd,hr1⟩:=look_some hlk
    have hov:=h1.ov_none hpd
    split at hz
    ·rename_i hgt
     have hx1:AVOk (memo w σ1.ov) σ1.g Γ1.rt (Shr B w σ1) (.ptr n p) vx:=by
      rcases hev.live (.inl hx) with g|⟨k,q,g1,g2⟩
      ·exact g
      ·rcases g1 with g1|g1|⟨_,_,g1⟩<;>cases g1
       rw [hr1] at g2;cases g2
     obtain ⟨r3,t3,b3,o3,q1,q2,q3⟩:=hx1
     rw [hr1] at q1
     simp only [sj] at q1
     subst q1
     obtain ⟨O4,R4,j1,j2,j3,j4,j5,j6⟩:=h1.sep hr1
     obtain ⟨y4,O5,R5,A5,B5,A5',B5',hd5,hg5,-,-⟩:=dec_loc p r1.t _ j1 q2
     have ht3:t3=t1:=by
      rw [hg5] at hgt;exact hgt
     subst ht3
     have hO5:=dec_pure hpure hd5
     subst hO5
     have hroom:=h1.room hr1 q2
     have hbown:Owned σ1 b3:=⟨n,h1.place hr1 q2⟩
     have hrun:=run_storeAt hty hv hroom (o:=o3) (Nat.le_refl _)
     rw [←q3] at hrun
     obtain ⟨hvs,-⟩:=hv.cells
     obtain ⟨-,-,R6,hv3,hv4⟩:=id hv
     have hvl:vy.cells.toList.length=t3.cells:=by simpa using hvs
     have hm:∀ c j,memo (w.setCells b3 o3 vy.cells.toList) none c j=if c=b3∧o3≤j∧j<o3+t3.cells then vy.cells.toList[j-o3]? else memo w none c j:=fun c j=>by
      have:=cell_setCells b3 vy.cells.toList o3 w _ hroom (by omega) c j
      rw [hvl] at this
      exact this
     obtain ⟨ow',-,hrel⟩:=h1.chg hr1 q2 hd5 (w':=w.setCells b3 o3 vy.cells.toList) (ov':=σ1.ov) (pd':=Γ1.pd) (y':=yv) (O2:=[]) (R2:=R6) (.same (by simp [hpd])) (by
       rw [hov]
       refine dec_frame t3 hv3 (fun j hj=>?_) (fun c j hc=>?_)
       ·show memo _ none b3 (o3+j)=_
        rw [hm,if_pos ⟨rfl,by omega,by omega⟩,Nat.add_sub_cancel_left];simp
       ·rcases hc with hc|hc
        ·simp at hc
        ·rw [hm,if_neg,hov]
         rintro ⟨rfl,-⟩
         exact (hv4 c hc).2.2 hbown) (fun c j=>by
       rw [hov,hm]
       by_cases e1:c=b3∧o3≤j∧j<o3+t3.cells
       ·exact .inr (.inl e1)
       ·exact .inl (by rw [if_neg e1])) (by simp) (by simp) (by simp) (fun c k hf _=>hf.setCells _ _ _) (by rw [size_setCells];exact Nat.le_refl _) (fun c hc hF=>by
       rw [heap_setCells_other]
       ·exact h1.frame c hc hF
       ·rintro rfl
        rcases h1.mine _ hbown with g|g
        ·exact hF g
        ·omega) (fun c hc=>⟨by rw [size_setCells];exact (hv4 c hc).1,(hv4 c hc).2.1,(hv4 c hc).2.2,by simp⟩) (f:=id) (fun av=>.inr ⟨rfl,pure_keeps n p hpure av⟩) (hio:=ioOf_setCells _ _ _ _)
     rw [mapv_id] at hrel
     exact ⟨_,_,_,b3,o3,q3,rfl,hrun,hrel,hz⟩
    ·cases hz
   ·cases hz
  ·cases hz
theorem does_store {o:Oper} {t:TypeId} {x y:Operand} {cx:Cx} {q:Bool} {K:AE→Rs ρ} {z:ρ} (hcx:CxTy P cx) (ho:o.op=.store t x y) (hag:Γ.aggOf y=none)
  (h:Rel B Γ N (tmOf a) w σ) (hN:a.tmps.size=N) (hf:fits N o=true) (hz:aop cx q o Γ K=some z):Does P B N o a w K z:=by
 have hx:=h.opd (fits_op hf x (by simp [ho,Op.operands]))
 have hy:=h.opd (fits_op hf y (by simp [ho,Op.operands]))
 have hz:(if q then none else match Γ.opd x with
  |.ptr n p=>match cx.T t with
   |some t=>Γ.stor t n p (Γ.opd y) fun Γ=>K (Γ.setD o.dst .dead)
   |none=>none
  |_=>none)=some z:=by
  simp only [aop,ho,hag] at hz
  exact hz
 split at hz
 ·cases hz
 ·split at hz
  ·rename_i n p hxe
   rw [hxe] at hx
   split at hz
   ·rename_i ty hT
    obtain ⟨hsh,hty⟩:=hcx.T t _ hT
    obtain ⟨w',Γ',σ',b,off,-,-,hrun,hrel,hK⟩:=Rel.storR hsh hty h hx hy hz
    exact Does.skip hN (by simp [execOp,ho,hrun]) hrel hK
   ·cases hz
  ·cases hz
theorem setCell_alloc (w:World) (cs:Array Value) (t:TypeId) (k:Nat) (u:Value):
  (w.alloc (.cells cs t)).setCell ⟨w.heap.size,k,none⟩ u=w.alloc (.cells (cs.setIfInBounds k u) t):=by
 have:(w.heap.push (.cells cs t)).modify w.heap.size (fun
   |.cells c elem frozen=>.cells (if (none:Option Nat).isSome then c else c.setIfInBounds k u) elem frozen
   |o=>o)=w.heap.push (.cells (cs.setIfInBounds k u) t):=by
  refine Array.ext (by simp) fun i h1 h2=>?_
  rw [Array.getElem_modify]
  by_cases hi:i=w.heap.size
  ·subst hi;simp
  ·have hi':i<w.heap.size:=by simp at h2;omega
   rw [if_neg (by omega),Array.getElem_push_lt hi',Array.getElem_push_lt hi']
 simp only [World.setCell,World.alloc]
 exact congrArg (fun h=>({ w with heap:=h }:World)) this
theorem sh_sh:∀ τ:Ty,τ.sh.sh=τ.sh
 |.int _|.bool|.str|.unit=>rfl
 |.list _ e=>by simp only [Ty.sh,sh_sh e]
 |.nl e=>by simp only [Ty.sh,sh_sh e]
 |.arr _ e=>by simp only [Ty.sh,sh_sh e]
 |.pair a b=>by simp only [Ty.sh,sh_sh a,sh_sh b]
def tailTy:Nat→Ty→Option Ty
 |0,τ=>some τ
 |k+1,.pair a b=>if a.cells=1 then tailTy k b else none
 |_+1,_=>none
theorem tailTy_step:∀ (k:Nat) (τ:Ty) {a b:Ty},tailTy k τ=some (.pair a b)→okField τ k=true∧(a.cells=1→tailTy (k+1) τ=some b)∧∀ (m:Mem) bl o,loc m τ (.at bl o) (fieldPath k)=some (a,.at bl (o+k))
 |0,τ,a,b,h=>by
  simp only [tailTy,sj] at h
  subst h
  exact ⟨rfl,fun h=>by simp [tailTy,h],fun m bl o=>rfl⟩
 |k+1,τ,a,b,h=>by
  cases τ with
  |pair u v=>
   simp only [tailTy] at h
   split at h
   ·rename_i hu
    obtain ⟨h1,h2,h3⟩:=tailTy_step k v h
    refine ⟨h1,fun ha=>by simp only [tailTy,if_pos hu];exact h2 ha,fun m bl o=>?_⟩
    have:=h3 m bl (o+u.cells)
    rw [hu] at this
    show loc m v (.at bl (o+u.cells)) (fieldPath k)=_
    rw [hu,this]
    congr 3;omega
   ·cases h
  |_=>simp [tailTy] at h
theorem stors_ok {τ0:Ty} {t:TypeId} (hty:tyOk P τ0 (.inl t)=true) {i d b0:Nat} (hi:i<N) (hdN:d<N) {us:Array Value} {tm:Nat→Value} (htm:tm i=.agg us) (htd:tm d=.pointer (some ⟨b0,0,none⟩)) {z:ρ} {K:AE→Rs ρ}:
  ∀ (τ:Ty) (k:Nat) {Γ:AE} {σ:Gh} {w:World},Rel B Γ N tm w σ→tailTy k τ0=some τ→
   AE.stors (.tmp i) d τ0 k τ Γ K=some z→us.size=k+τ.cells∧∃ Γ' σ',Rel B Γ' N tm (w.setCells b0 k (us.toList.drop k)) σ'∧K Γ'=some z
 |.unit,k,Γ,σ,w,h,_,hz=>by
  simp only [AE.stors] at hz
  split at hz
  ·rename_i vs hag
   obtain ⟨hk,hz'⟩:=(bif_some hz).elim id fun h=>by cases h.2
   have hsl:=h.slots i hi
   simp only [AE.aggOf] at hag
   split at hag
   ·rename_i vs' hs
    simp only [sj] at hag
    subst hag
    rw [hs] at hsl
    obtain ⟨us',⟨h1,h2,h3⟩,h4⟩:=hsl
    rw [htm] at h2
    cases h2
    have hk:vs'.length=k:=by simpa using hk
    refine ⟨by simp only [Ty.cells];omega,Γ,σ,?_,hz'⟩
    rw [List.drop_of_length_le (by simp;omega)]
    exact h
   ·cases hag
  ·cases hz
 |.pair a b,k,Γ,σ,w,h,htl,hz=>by
  simp only [AE.stors] at hz
  split at hz
  ·rename_i r n v hr hg hv
   split at hz
   ·rename_i hc
    obtain ⟨hrt,rfl,ha⟩:=hc
    obtain ⟨h1,h2,h3⟩:=tailTy_step k τ0 htl
    have hsd:=h.slots n hdN
    rw [htd] at hsd
    have hgp:AVOk (memo w σ.ov) σ.g Γ.rt (Shr B w σ) (.ptr n []) (.pointer (some ⟨b0,0,none⟩)):=by
     simp only [AE.get] at hg
     split at hg
     ·rename_i v' hs'
      subst hg
      rw [hs'] at hsd
      exact hsd
     ·cases hg
    obtain ⟨r',t',b',o',p1,p2,p3⟩:=hgp
    rw [hr] at p1
    simp only [sj] at p1
    subst p1
    simp only [loc,locQ,sj,Prod.mk.injEq] at p2
    obtain ⟨rfl,p2⟩:=p2
    simp only [Value.pointer.injEq,sj,Addr.mk.injEq,and_true] at p3
    obtain ⟨rfl,rfl⟩:=p3
    have hx:AVOk (memo w σ.ov) σ.g Γ.rt (Shr B w σ) (.ptr n (fieldPath k)) (.pointer (some ⟨b0,k,none⟩)):=by
     refine ⟨r,a,b0,0+k,hr,?_,by rw [Nat.zero_add]⟩
     rw [p2,hrt]
     exact h3 _ _ _
    have hsl:=h.slots i hi
    have hag:∃ vs,Γ.sl i=.cmp .agg vs∧vs[k]?=some v:=by
     simp only [AE.aggOf] at hv
     split at hv
     ·rename_i vs hs
      exact ⟨vs,hs,hv⟩
     ·cases hv
    obtain ⟨vs,hs,hvk⟩:=hag
    rw [hs] at hsl
    obtain ⟨us',⟨g1,g2,g3⟩,g4⟩:=hsl
    rw [htm] at g2
    cases g2
    obtain ⟨u,huk,hu⟩:=g4 k v hvk
    obtain ⟨fs,hut,hs'⟩:∃ fs,P.underlying t=some (.struct fs)∧tyOk P τ0 (.inr (fs.toList,0))=true:=by
     exact tyOk_struct (f:=k) hty h1
    obtain ⟨fl,τ',k',q1,q2,q3,q4,q5⟩:=tyOk_field k τ0 _ 0 hs' h1
    have e:=(q5 (memo w none) 0 0).symm.trans (h3 (memo w none) 0 0)
    simp only [sj,Prod.mk.injEq] at e
    obtain ⟨rfl,-⟩:=e
    have hta:tyOk P τ'.sh (.inl fl.type)=true:=by rw [tyOk_sh];exact q3
    have hshsh:τ'.sh.sh=τ'.sh:=sh_sh τ'
    obtain ⟨w',Γ',σ',b2,o2,s1,s2,s3,s4,s5⟩:=Rel.storR hshsh hta h hx hu hz
    simp only [Value.pointer.injEq,sj,Addr.mk.injEq,and_true] at s1
    obtain ⟨rfl,rfl⟩:=s1
    rw [single_cells (g3 k u huk)] at s2
    subst s2
    obtain ⟨c1,Γ2,σ2,c2,c3⟩:=stors_ok hty hi hdN htm htd b (k+1) s4 (h2 ha) s5
    refine ⟨by simp only [Ty.cells];omega,Γ2,σ2,?_,c3⟩
    have hdr:us.toList.drop k=u::us.toList.drop (k+1):=by
     have hlt:k<us.toList.length:=by
      have:=(Array.getElem?_eq_some_iff.1 huk).1
      simpa using this
     rw [List.drop_eq_getElem_cons hlt]
     congr 1
     have:=huk
     rw [←Array.getElem?_toList,List.getElem?_eq_getElem hlt] at this
     exact Option.some.inj this
    rw [hdr]
    exact c2
   ·cases hz
  ·cases hz
 |.int _,k,Γ,σ,w,_,_,hz=>by simp [AE.stors] at hz
 |.bool,k,Γ,σ,w,_,_,hz=>by simp [AE.stors] at hz
 |.str,k,Γ,σ,w,_,_,hz=>by simp [AE.stors] at hz
 |.list _ _,k,Γ,σ,w,_,_,hz=>by simp [AE.stors] at hz
 |.arr _ _,k,Γ,σ,w,_,_,hz=>by simp [AE.stors] at hz
theorem alloc_setCells (w:World) (t:TypeId):∀ (l:List Value) (k:Nat) (cs:Array Value),k+l.length=cs.size→
  (w.alloc (.cells cs t)).setCells w.heap.size k l=w.alloc (.cells (cs.toList.take k++l).toArray t)
 | [],k,cs,h=>by
  simp only [World.setCells,List.append_nil]
  rw [List.take_of_length_le (by simp at h ⊢;omega)]
 |u::l,k,cs,h=>by
  simp only [World.setCells,List.length_cons] at h ⊢
  rw [setCell_alloc,alloc_setCells w t l (k+1) _ (by simp;omega)]
  congr 2
  have hk:k<cs.toList.length:=by simp;omega
  simp only [Array.toList_setIfInBounds]
  rw [List.take_succ_eq_append_getElem (by simpa using hk)]
  simp [List.take_set_of_le]
theorem does_boxAgg {o:Oper} {t:TypeId} {x:Operand} {d:Nat} {cx:Cx} {q:Bool} {K:AE→Rs ρ} {z:ρ} {vs:List AV} (hcx:CxTy P cx) (ho:o.op=.box t x) (hd:o.dst=some d) (hag:(bif q then none else Γ.aggOf x)=some vs)
  (h:Rel B Γ N (tmOf a) w σ) (hN:a.tmps.size=N) (hf:fits N o=true) (hz:aop cx q o Γ K=some z):Does P B N o a w K z:=by
 have hag':Γ.aggOf x=some vs:=by
  cases q with
  |true=>cases hag
  |false=>exact hag
 have hxo:=fits_op hf x (by simp [ho,Op.operands])
 have hdN:d<N:=by
  have:=hf
  simp only [fits,hd,Bool.and_eq_true,decide_eq_true_eq] at this
  exact this.2
 simp only [aop,ho,hd,hag] at hz
 ·split at hz
  ·rename_i τ hrd hO
   split at hz
   ·rename_i hT
    have hty:tyOk P τ (.inl t)=true:=by rw [←tyOk_sh];exact (hcx.T t _ hT).2
    obtain ⟨I⟩:=baseOk_info (tyOk_base hty)
    cases x with
    |tmp i=>
     have hi:i<N:=by simpa [opdOk] using hxo
     have hsl:=h.slots i hi
     have hs:Γ.sl i=.cmp .agg vs:=by
      simp only [AE.aggOf] at hag'
      split at hag'
      ·rename_i vs' hs
       simp only [sj] at hag'
       rw [hs,hag']
      ·cases hag'
     rw [hs] at hsl
     obtain ⟨us,⟨h1,h2,h3⟩,h4⟩:=hsl
     have hev:a.eval (.tmp i)=.agg us:=h2
     have hrun:(execOp a.eval o).run P w=.ok (.value (.pointer (some ⟨w.heap.size,0,none⟩))) (w.alloc (.cells us t)):=by
      simp [execOp,ho,hev,Instr.box,newVar,newRow,Value.cells]
     obtain ⟨Γ1,σ1,g1,g2,g3⟩:=h.newBox hz (fun c hc=>heap_alloc_old _ c hc) (size_alloc_le _) (heap_alloc_new (w:=w) (.cells I.z.cells t)) I.zsize (zeroR_dec _ I.zok) (by simp)
     have hne:i≠d:=by
      rintro rfl
      cases τ<;>simp [AE.stors,AE.aggOf,AE.set,AE.put] at g1
     have g4:=g2.putd (sv:=.one (.ptr d [])) (v:=.pointer (some ⟨w.heap.size,0,none⟩)) (d:=d) hN (fun _=>g3)
     obtain ⟨g0,Γ',σ',g5,g6⟩:=stors_ok hty hi hdN (us:=us) (tm:=tmOf (a.put (some d) (.pointer (some ⟨w.heap.size,0,none⟩)))) (by rw [tmOf_put i (by rw [hN];exact hi),if_neg hne];exact h2) (by rw [tmOf_put d (by rw [hN];exact hdN),if_pos rfl]) τ 0 g4 rfl g1
     rw [List.drop_zero,alloc_setCells w t us.toList 0 I.z.cells (by rw [I.zsize,Array.length_toList];omega)] at g5
     simp only [List.take_zero,List.nil_append,Array.toArray_toList] at g5
     exact ⟨_,_,Γ',σ',.inl hrun,by rw [hd];exact g5,g6⟩
    |_=>simp [AE.aggOf] at hag'
   ·cases hz
  ·cases hz
theorem does_storeAgg {o:Oper} {t:TypeId} {x y:Operand} {cx:Cx} {q:Bool} {K:AE→Rs ρ} {z:ρ} {vs:List AV} (hcx:CxTy P cx) (ho:o.op=.store t y x) (hag:Γ.aggOf x=some vs)
  (h:Rel B Γ N (tmOf a) w σ) (hN:a.tmps.size=N) (hf:fits N o=true) (hz:aop cx q o Γ K=some z):Does P B N o a w K z:=by
 have hxo:=fits_op hf x (by simp [ho,Op.operands])
 have hyo:=fits_op hf y (by simp [ho,Op.operands])
 have hz:(if q then none else match y with
   |.tmp s=>match Γ.rt s with
    |some r=>if cx.T t=some r.t.sh∧0<r.t.cells then AE.stors x s r.t 0 r.t Γ fun Γ=>K (Γ.setD o.dst .dead) else none
    |none=>none
   |_=>none)=some z:=by
  simp only [aop,ho,hag] at hz
  exact hz
 split at hz
 ·cases hz
 ·cases y with
  |tmp d=>
   simp only [] at hz
   have hdN:d<N:=by simpa [opdOk] using hyo
   split at hz
   ·rename_i r hr
    split at hz
    ·rename_i hT
     obtain ⟨hT,hpos⟩:=hT
     have hty:tyOk P r.t (.inl t)=true:=by rw [←tyOk_sh];exact (hcx.T t _ hT).2
     cases x with
     |tmp i=>
      have hi:i<N:=by simpa [opdOk] using hxo
      have hsl:=h.slots i hi
      have hs:Γ.sl i=.cmp .agg vs:=by
       simp only [AE.aggOf] at hag
       split at hag
       ·rename_i vs' hs
        simp only [sj] at hag
        rw [hs,hag]
       ·cases hag
      rw [hs] at hsl
      obtain ⟨us,⟨h1,h2,h3⟩,h4⟩:=hsl
      have hev:a.eval (.tmp i)=.agg us:=h2

      have hptr:∃ b0,tmOf a d=.pointer (some ⟨b0,0,none⟩)∧loc (memo w σ.ov) r.t (σ.g d) []=some (r.t,.at b0 0):=by
       have hgd:Γ.get d=.ptr d []:=by
        revert hz hpos
        cases r.t with
        |pair u v=>
         intro hpos hz
         simp only [AE.stors] at hz
         split at hz
         ·rename_i r' n v' hr' hg hv'
          split at hz
          ·rename_i hc
           rw [hg,hc.2.1]
          ·cases hz
         ·cases hz
        |unit=>intro hpos;simp [Ty.cells] at hpos
        |_=>intro hpos hz;simp [AE.stors] at hz
       have hsd:AVOk (memo w σ.ov) σ.g Γ.rt (Shr B w σ) (.ptr d []) (tmOf a d):=by
        have hsd:=h.slots d hdN
        simp only [AE.get] at hgd
        split at hgd
        ·rename_i v' hs'
         subst hgd
         rw [hs'] at hsd
         exact hsd
        ·cases hgd
       obtain ⟨r',t',b',o',p1,p2,p3⟩:=hsd
       rw [hr] at p1
       simp only [sj] at p1
       subst p1
       simp only [loc,locQ,sj,Prod.mk.injEq] at p2
       obtain ⟨rfl,p2⟩:=p2
       obtain ⟨O',R',-,-,hb⟩:=(h.roots d r hr).rd
       rcases hb with ⟨-,b0,q1,-⟩|⟨-,⟨v,q1⟩,-⟩
       ·rw [q1] at p2
        simp only [Src.at.injEq] at p2
        obtain ⟨rfl,rfl⟩:=p2
        exact ⟨b0,p3,by simp only [loc,locQ,q1]⟩
       ·rw [q1] at p2;cases p2
      obtain ⟨b0,htd,hloc⟩:=hptr
      have hroom:=h.room hr hloc
      obtain ⟨g0,Γ',σ',g5,g6⟩:=stors_ok hty hi hdN (us:=us) h2 htd r.t 0 h rfl hz
      rw [List.drop_zero] at g5
      have hrun:(Instr.storeAt t (.pointer (some ⟨b0,0,none⟩)) (.agg us)).run P w=.ok () (w.setCells b0 0 us.toList):=
       run_storeAt' hty (by simp only [Value.cells];omega) (fun u hu=>by
        obtain ⟨k,hk⟩:=List.mem_iff_getElem?.1 hu
        exact h3 k u (by rw [←Array.getElem?_toList];exact hk)) hroom (Nat.le_refl _)
      have htd':a.eval (.tmp d)=.pointer (some ⟨b0,0,none⟩):=htd
      exact Does.skip hN (by simp only [execOp,ho,hev,htd'];simp [hrun]) g5 g6
     |_=>simp [AE.aggOf] at hag
    ·cases hz
   ·cases hz
  |_=>cases hz
end
end Go.Ab
namespace Go.Ab
theorem getQ_app:∀ (p q:Path) (t:Ty) (x:t.den),getQ (p++q) t x=getQ q (getQ p t x).1 (getQ p t x).2
 | [],_,_,_=>rfl
 |.fst::p,q,t,x=>by
  cases t with
  |pair a b=>exact getQ_app p q a x.1
  |_=>cases q with
   |nil=>rfl
   |cons s q=>cases s<;>rfl
 |.snd::p,q,t,x=>by
  cases t with
  |pair a b=>exact getQ_app p q b x.2
  |_=>cases q with
   |nil=>rfl
   |cons s q=>cases s<;>rfl
 |.idx i::p,q,t,x=>by
  cases t with
  |arr n e=>exact getQ_app p q e _
  |list o e=>cases o with
   |true=>exact getQ_app p q e _
   |false=>cases q with
    |nil=>rfl
    |cons s q=>cases s<;>rfl
  |_=>cases q with
   |nil=>rfl
   |cons s q=>cases s<;>rfl
theorem setQ_nil (t:Ty) (x y:t.den):setQ [] t x t y=y:=setP_nil t x y
theorem setQ_app:∀ (p q:Path) (t:Ty) (x:t.den) (t':Ty) (y:t'.den),setQ (p++q) t x t' y=setQ p t x (getQ p t x).1 (setQ q (getQ p t x).1 (getQ p t x).2 t' y)
 | [],q,t,x,t',y=>(setQ_nil t x (setQ q t x t' y)).symm
 |.fst::p,q,t,x,t',y=>by
  cases t with
  |pair a b=>
   show (setQ (p++q) a x.1 t' y,x.2)=(setQ p a x.1 (getQ p a x.1).1 (setQ q (getQ p a x.1).1 (getQ p a x.1).2 t' y),x.2)
   rw [setQ_app p q a x.1 t' y]
  |_=>rfl
 |.snd::p,q,t,x,t',y=>by
  cases t with
  |pair a b=>
   show (x.1,setQ (p++q) b x.2 t' y)=(x.1,setQ p b x.2 (getQ p b x.2).1 (setQ q (getQ p b x.2).1 (getQ p b x.2).2 t' y))
   rw [setQ_app p q b x.2 t' y]
  |_=>rfl
 |.idx i::p,q,t,x,t',y=>by
  cases t with
  |arr n e=>
   show List.set x i (setQ (p++q) e (List.getD x i e.dflt) t' y)=List.set x i (setQ p e (List.getD x i e.dflt) (getQ p e (List.getD x i e.dflt)).1 (setQ q (getQ p e (List.getD x i e.dflt)).1 (getQ p e (List.getD x i e.dflt)).2 t' y))
   rw [setQ_app p q e _ t' y]
  |list o e=>cases o with
   |true=>
    show List.set x i (setQ (p++q) e (List.getD x i e.dflt) t' y)=List.set x i (setQ p e (List.getD x i e.dflt) (getQ p e (List.getD x i e.dflt)).1 (setQ q (getQ p e (List.getD x i e.dflt)).1 (getQ p e (List.getD x i e.dflt)).2 t' y))
    rw [setQ_app p q e _ t' y]
   |false=>rfl
  |_=>rfl
theorem getQ_setQ:∀ (p:Path) (t:Ty) (x:t.den) (t':Ty) (y:t'.den),isFlat p=true→(getQ p t x).1=t'→getQ p t (setQ p t x t' y)=⟨t',y⟩
 | [],t,x,t',y,_,h=>by
  have h:t=t':=h
  subst h
  exact congrArg (Sigma.mk t) (setQ_nil t x y)
 |.fst::p,t,x,t',y,hp,h=>by
  cases t with
  |pair a b=>exact getQ_setQ p a x.1 t' y hp h
  |_=>
   have h:Ty.unit=t':=h
   subst h
   rfl
 |.snd::p,t,x,t',y,hp,h=>by
  cases t with
  |pair a b=>exact getQ_setQ p b x.2 t' y hp h
  |_=>
   have h:Ty.unit=t':=h
   subst h
   rfl
 |.idx _::_,_,_,_,_,hp,_=>by cases hp
theorem setQ_setQ:∀ (p:Path) (t:Ty) (x:t.den) (t':Ty) (y z:t'.den),isFlat p=true→(getQ p t x).1=t'→setQ p t (setQ p t x t' y) t' z=setQ p t x t' z
 | [],t,x,t',y,z,_,h=>by
  have h:t=t':=h
  subst h
  exact (setQ_nil t _ z).trans (setQ_nil t x z).symm
 |.fst::p,t,x,t',y,z,hp,h=>by
  cases t with
  |pair a b=>
   show (setQ p a (setQ p a x.1 t' y) t' z,x.2)=(setQ p a x.1 t' z,x.2)
   rw [setQ_setQ p a x.1 t' y z hp h]
  |_=>rfl
 |.snd::p,t,x,t',y,z,hp,h=>by
  cases t with
  |pair a b=>
   show (x.1,setQ p b (setQ p b x.2 t' y) t' z)=(x.1,setQ p b x.2 t' z)
   rw [setQ_setQ p b x.2 t' y z hp h]
  |_=>rfl
 |.idx _::_,_,_,_,_,_,hp,_=>by cases hp
theorem setQ_self:∀ (p:Path) (t:Ty) (x:t.den),isFlat p=true→setQ p t x (getQ p t x).1 (getQ p t x).2=x
 | [],t,x,_=>setQ_nil t x x
 |.fst::p,t,x,hp=>by
  cases t with
  |pair a b=>
   show (setQ p a x.1 (getQ p a x.1).1 (getQ p a x.1).2,x.2)=x
   rw [setQ_self p a x.1 hp]
   rfl
  |_=>rfl
 |.snd::p,t,x,hp=>by
  cases t with
  |pair a b=>
   show (x.1,setQ p b x.2 (getQ p b x.2).1 (getQ p b x.2).2)=x
   rw [setQ_self p b x.2 hp]
   rfl
  |_=>rfl
 |.idx _::_,_,_,hp=>by cases hp
section
variable {P:Program} {B:Base} {N:Nat} {ρ:Type} {Γ:AE} {a:Act} {w:World} {σ:Gh}
theorem elem_sref {tm:Nat→Value} (h:Rel B Γ N tm w σ) {n p v r k} {l:List Int} (ha:AVOk (memo w σ.ov) σ.g Γ.rt (Shr B w σ) (.sref n p) v) (hr:Γ.rt n=some r) (hg:getP r.t r.x p=⟨.list true (.int k),l⟩):
  ∃ A c,v=.slice A l.length c∧∀ j,j<l.length→∃ A0,A=some A0∧A0.spot=none∧AVOk (memo w σ.ov) σ.g Γ.rt (Shr B w σ) (.ptr n (p++[.idx (0+j)])) (.pointer (some ⟨A0.block,A0.off+j,none⟩)):=by
 obtain ⟨s,O',R',g1,g2,g3,g4,-,-⟩:=h.slice ha hr hg
 rcases dec_own g4 with ⟨hv,hl⟩|⟨A0,n0,c,os,hv,hsp,hnc,hc,-⟩
 ·simp only [Src.rd,if_true,sj] at hv
  obtain ⟨hl,-⟩:=hl
  subst hl
  exact ⟨none,0,hv,fun j hj=>absurd hj (Nat.not_lt_zero j)⟩
 ·simp only [Src.rd,if_true,sj] at hv
  have hlen:l.length=n0:=collect_length _ _ hc
  refine ⟨some A0,c,by rw [hv,hlen],fun j hj=>⟨A0,rfl,hsp,r,.int k,A0.block,A0.off+j,hr,?_,rfl⟩⟩
  rw [loc_append p _ _ _ g1]
  have hj':0+j<n0:=by omega
  have g2':s.rd (memo w σ.ov) 0=some (.slice (some A0) n0 c):=by rw [g2,hv]
  simp only [loc,locQ,g2',if_pos hj',Ty.cells,Nat.mul_one]
  rw [Nat.zero_add]
theorem elem_swin {tm:Nat→Value} (h:Rel B Γ N tm w σ) {n p v r k off len} {l:List Int} (ha:AVOk (memo w σ.ov) σ.g Γ.rt (Shr B w σ) (.swin n p off len) v) (hr:Γ.rt n=some r) (hg:getP r.t r.x p=⟨.list true (.int k),l⟩):
  off+len≤l.length∧∃ A c,v=.slice A len c∧∀ j,j<len→∃ A0,A=some A0∧A0.spot=none∧AVOk (memo w σ.ov) σ.g Γ.rt (Shr B w σ) (.ptr n (p++[.idx (off+j)])) (.pointer (some ⟨A0.block,A0.off+j,none⟩)):=by
 obtain ⟨s,O',R',A,n0,c,g1,g2,g3,g4,g5,g6,A',hv,g7,g8⟩:=h.window ha hr hg
 rcases dec_own g3 with ⟨hv0,hl⟩|⟨A0,nn,c',os,hv0,hA0,hn0,hc,-⟩
 ·simp only [Src.rd,if_true,sj,Value.slice.injEq] at hv0
  obtain ⟨rfl,rfl,rfl⟩:=hv0
  obtain ⟨hl,-⟩:=hl
  subst hl
  exact ⟨by show off+len≤0;omega,A',_,hv,fun j hj=>by omega⟩
 ·simp only [Src.rd,if_true,sj,Value.slice.injEq] at hv0
  obtain ⟨rfl,rfl,rfl⟩:=hv0
  have hlen:l.length=n0:=collect_length _ _ hc
  refine ⟨by omega,A',_,hv,fun j hj=>?_⟩
  rcases g8 with g8|g8
  ·omega
  ·simp only [Option.map_some,add_none hA0] at g8
   refine ⟨_,g8,rfl,r,.int k,A0.block,A0.off+off*1+j,hr,?_,rfl⟩
   rw [loc_append p _ _ _ g1]
   have hjl:off+j<n0:=by omega
   simp only [loc,locQ,g2,if_pos hjl,Ty.cells,Nat.mul_one,Nat.add_assoc]
theorem setRt_same {Γ:AE} {n:Nat} {r:Root} (h:Γ.rt n=some r):Γ.setRt n (some r)=Γ:=by
 have:(fun j=>bif j==n then some r else Γ.rt j)=Γ.rt:=by
  funext j
  by_cases e:j=n
  ·subst e;simp [h]
  ·have:(j==n)=false:=by simpa using e
   simp [this]
 simp only [AE.setRt,this]
theorem setRt_setRt {Γ:AE} {n:Nat} {r r':Option Root}:(Γ.setRt n r).setRt n r'=Γ.setRt n r':=by
 simp only [AE.setRt]
 congr 1
 funext j
 by_cases e:j=n
 ·subst e;simp
 ·have:(j==n)=false:=by simpa using e
  simp [this]
theorem getQ_idx {k:IntKind} (l:List Int) (i:Nat):getQ [.idx i] (.list true (.int k)) l=⟨.int k,l.getD i 0⟩:=rfl
theorem setQ_idx {k:IntKind} (l:List Int) (i:Nat) (y:Int):setQ [.idx i] (.list true (.int k)) l (.int k) y=l.set i y:=by
 show l.set i (setQ [] (.int k) (l.getD i 0) (.int k) y)=_
 exact congrArg _ (setQ_nil (.int k) _ y)
theorem stor_one {n:Nat} {p:Path} {r:Root} {k:IntKind} {l:List Int} {i:Nat} {y:Int} (hpd:Γ.pd=none) (hr:Γ.rt n=some r) (hg:getP r.t r.x p=⟨.list true (.int k),l⟩):
  Γ.stor (.int k) n (p++[.idx i]) (.val (.int k) y) some=some (Γ.setRt n (some ⟨r.bx,r.t,setP r.t r.x p (.list true (.int k)) (l.set i y)⟩)):=by
 have hg:getQ p r.t r.x=⟨.list true (.int k),l⟩:=hg
 have h1:getQ (p++[.idx i]) r.t r.x=⟨.int k,l.getD i 0⟩:=by rw [getQ_app,hg,getQ_idx]
 have h2:setQ (p++[.idx i]) r.t r.x (.int k) y=setQ p r.t r.x (.list true (.int k)) (l.set i y):=by
  have h0:=setQ_app p [.idx i] r.t r.x (.int k) y
  rw [hg] at h0
  exact h0.trans (congrArg (fun z:List Int=>setQ p r.t r.x (.list true (.int k)) z) (setQ_idx l i y))
 have h3:getP r.t r.x (p++[.idx i])=⟨.int k,l.getD i 0⟩:=h1
 have h4:setP r.t r.x (p++[.idx i]) (.int k) y=setP r.t r.x p (.list true (.int k)) (l.set i y):=h2
 unfold AE.stor
 rw [hr]
 simp only []
 rw [h3]
 simp only [Ty.sh,Ty.shn,and_self,if_true,AE.asV,castTo_self,AE.look,hpd,hr]
 rw [h3]
 simp only [if_true,h4]
 rw [show castTo (.int k) (.int k) y=some y from castTo_self (.int k) y]
 simp only []
 rw [h4]
theorem cpy_ok {n:Nat} {p:Path} {k:IntKind} {t0:TypeId} {i:Nat} {av:AV} {tm:Nat→Value} {b o off m L:Nat} (hp:isFlat p=true) (hty:tyOk P (.int k) (.inl t0)=true)
  (hptr:∀ {Γ:AE} {σ:Gh} {w:World} {r:Root} {l:List Int},Rel B Γ N tm w σ→Γ.sl i=.one av→Γ.rt n=some r→getP r.t r.x p=⟨.list true (.int k),l⟩→l.length=L→∀ j,j<m→
   AVOk (memo w σ.ov) σ.g Γ.rt (Shr B w σ) (.ptr n (p++[.idx (off+j)])) (.pointer (some ⟨b,o+j,none⟩))) (hoff:off+m≤L):
  ∀ (ys:List Int) (s:Nat) {Γ:AE} {σ:Gh} {w:World} {r:Root} {l:List Int},s+ys.length≤m→Rel B Γ N tm w σ→Γ.pd=none→Γ.sl i=.one av→Γ.rt n=some r→getP r.t r.x p=⟨.list true (.int k),l⟩→l.length=L→
   ∃ σ',Rel B (Γ.setRt n (some ⟨r.bx,r.t,setP r.t r.x p (.list true (.int k)) (l.take (off+s)++(ys++l.drop (off+s+ys.length)))⟩)) N tm (w.setCells b (o+s) (ys.map (Value.int k))) σ'
 | [],s,Γ,σ,w,r,l,_,h,_,_,hr,hg,_=>by
  refine ⟨σ,?_⟩
  have hg:getQ p r.t r.x=⟨.list true (.int k),l⟩:=hg
  have e:setP r.t r.x p (.list true (.int k)) (l.take (off+s)++([]++l.drop (off+s+([]:List Int).length)))=r.x:=by
   have h1:=setQ_self p r.t r.x hp
   rw [hg] at h1
   have hl':l.take (off+s)++([]++l.drop (off+s+([]:List Int).length))=l:=by
    simp only [List.nil_append,List.length_nil,Nat.add_zero,List.take_append_drop]
   exact (congrArg (fun z:List Int=>setQ p r.t r.x (.list true (.int k)) z) hl').trans h1
  have hR:Rel B (Γ.setRt n (some ⟨r.bx,r.t,r.x⟩)) N tm w σ:=by
   rw [show (⟨r.bx,r.t,r.x⟩:Root)=r from rfl,setRt_same hr];exact h
  exact (congrArg (fun z=>Rel B (Γ.setRt n (some ⟨r.bx,r.t,z⟩)) N tm w σ) e).mpr hR
 |y::ys,s,Γ,σ,w,r,l,hs,h,hpd,hsl,hr,hg,hl=>by
  simp only [List.length_cons] at hs
  have hx:=hptr h hsl hr hg hl s (by omega)
  have hz:=stor_one (i:=off+s) (y:=y) hpd hr hg
  obtain ⟨w',Γ',σ',b',o',s1,s2,-,s4,s5⟩:=Rel.storR rfl hty h hx (AVOk.mk_int (k:=k) y) hz
  simp only [Value.pointer.injEq,sj,Addr.mk.injEq,and_true] at s1 s5
  obtain ⟨rfl,rfl⟩:=s1
  subst s5
  have s2:w'=w.setCell ⟨b,o+s,none⟩ (.int k y):=s2
  subst s2
  have hg0:getQ p r.t r.x=⟨.list true (.int k),l⟩:=hg
  have hgs:=getQ_setQ p r.t r.x (.list true (.int k)) (l.set (off+s) y) hp (by rw [hg0])
  obtain ⟨σ2,h2⟩:=cpy_ok hp hty hptr hoff ys (s+1) (r:=⟨r.bx,r.t,setP r.t r.x p (.list true (.int k)) (l.set (off+s) y)⟩) (l:=l.set (off+s) y) (by omega) s4 hpd hsl (setRt_self _) hgs (by rw [List.length_set];exact hl)
  refine ⟨σ2,?_⟩
  rw [setRt_setRt] at h2
  have e1:setP r.t (setP r.t r.x p (.list true (.int k)) (l.set (off+s) y)) p (.list true (.int k)) ((l.set (off+s) y).take (off+(s+1))++(ys++(l.set (off+s) y).drop (off+(s+1)+ys.length))) =
    setP r.t r.x p (.list true (.int k)) (l.take (off+s)++(y::ys++l.drop (off+s+(y::ys).length))):=by
   refine (setQ_setQ p r.t r.x (.list true (.int k)) _ _ hp (by rw [hg0])).trans (congrArg _ ?_)
   have hlt:off+s<l.length:=by omega
   rw [show off+(s+1)=off+s+1 from rfl,List.take_succ_eq_append_getElem (by rw [List.length_set];exact hlt)]
   rw [List.drop_set_of_lt (by omega)]
   simp only [List.getElem_set_self,List.take_set_of_le (Nat.le_refl _),List.append_assoc,List.length_cons,List.cons_append,List.nil_append]
   rw [show off+s+1+ys.length=off+s+(ys.length+1) from by omega]
  rw [e1] at h2
  exact h2
theorem copTo_ok {n:Nat} {p:Path} {k:IntKind} {t0:TypeId} {i:Nat} {av:AV} {A:Option Addr} {off Lc c:Nat} {r:Root} {l ys:List Int} {vy:Value} (hty:tyOk P (.int k) (.inl t0)=true)
  (h:Rel B Γ N (tmOf a) w σ) (hpd:Γ.pd=none) (hp:isFlat p=true) (hsl:Γ.sl i=.one av) (hr:Γ.rt n=some r) (hg:getP r.t r.x p=⟨.list true (.int k),l⟩) (hoff:off+Lc≤l.length)
  (hel:∀ {Γ:AE} {σ:Gh} {w:World} {r:Root} {l':List Int},Rel B Γ N (tmOf a) w σ→Γ.sl i=.one av→Γ.rt n=some r→getP r.t r.x p=⟨.list true (.int k),l'⟩→l'.length=l.length→∀ j,j<Lc→
   ∃ A0,A=some A0∧A0.spot=none∧AVOk (memo w σ.ov) σ.g Γ.rt (Shr B w σ) (.ptr n (p++[.idx (off+j)])) (.pointer (some ⟨A0.block,A0.off+j,none⟩)))
  (hE:Elems w (memo w σ.ov) (Shr B w σ) (.int k) ys vy) {t t' ty:TypeId} {ts:Array TypeId} (h0:ts[0]?=some t) (hu:P.underlying t=some (.slice t')) (I:Info P (.int k) t'):
  ∃ w' σ',(Builtin.copy_ ts ty #[.slice A Lc c,vy]).run P w=.ok (goInt ((min Lc ys.length:Nat):Int)) w'∧
   Rel B (Γ.setRt n (some ⟨r.bx,r.t,setP r.t r.x p (.list true (.int k)) (gcopy l off Lc ys)⟩)) N (tmOf a) w' σ':=by
 obtain ⟨Y,ny,cy,cs,rfl,hn,hlen,hone,⟨R,hcol,hR⟩,hc,hnone,hsp⟩:=hE
 have hcs:cs=ys.map (Value.int k):=by
  have:=ints_cells ys ny 0 (by simpa [Ty.cells] using hlen) hcol
  simpa using this
 obtain ⟨m,hm⟩:∃ m,m=min Lc ys.length:=⟨_,rfl⟩
 have hmn:m≤ny:=by rw [hn,hm];exact Nat.min_le_right _ _
 have hfirst:=run_first (P:=P) (w:=w) (w2:=w) (e:=.int k) rfl (fun _=>rfl) hlen hc hnone m hmn (c:=cy)
 simp only [Ty.cells,Nat.mul_one] at hfirst
 have htake:cs.take m=(ys.take m).map (Value.int k):=by rw [hcs,List.map_take]
 have hgc:gcopy l off Lc ys=l.take (off+0)++(ys.take m++l.drop (off+0+(ys.take m).length)):=by
  have:(ys.take m).length=m:=by rw [List.length_take];omega
  rw [this,gcopy,←hm,Nat.add_zero]
 have hmin:Nat.min ny Lc=m:=by rw [hm,hn];exact Nat.min_comm _ _
 have hsize:(sizeOf t').run P w=.ok 1 w:=by have:=I.sizeOf (w:=w);simpa [Ty.cells] using this
 by_cases hm0:m=0
 ·refine ⟨w,σ,?_,?_⟩
  ·rw [←hm]
   simp only [Builtin.copy_,h0]
   have hf0:(Builtin.firstCells 1 0 (.slice Y ny cy)).run P w=.ok #[] w:=by
    rw [hm0] at hfirst;simpa using hfirst
   simp [run_underlying hu,Builtin.lenOf,hmin,hm0,hsize,hf0]
   cases A<;>simp [storeCells]
  ·have e:gcopy l off Lc ys=l:=by
    rw [hgc,hm0];simp
   have h1:=setQ_self p r.t r.x hp
   have hg':getQ p r.t r.x=⟨.list true (.int k),l⟩:=hg
   rw [hg'] at h1
   have hR':Rel B (Γ.setRt n (some ⟨r.bx,r.t,r.x⟩)) N (tmOf a) w σ:=by
    rw [show (⟨r.bx,r.t,r.x⟩:Root)=r from rfl,setRt_same hr];exact h
   exact (congrArg (fun z:List Int=>Rel B (Γ.setRt n (some ⟨r.bx,r.t,setP r.t r.x p (.list true (.int k)) z⟩)) N (tmOf a) w σ) e).mpr ((congrArg (fun z=>Rel B (Γ.setRt n (some ⟨r.bx,r.t,z⟩)) N (tmOf a) w σ) h1).mpr hR')
 ·obtain ⟨A0,rfl,hA0,-⟩:=hel h hsl hr hg rfl 0 (by omega)
  obtain ⟨σ',h2⟩:=cpy_ok (b:=A0.block) (o:=A0.off) (off:=off) (m:=m) (L:=l.length) hp hty (fun hR hs hr' hg' hl' j hj=>by
    obtain ⟨A1,e1,-,g⟩:=hel hR hs hr' hg' hl' j (by omega)
    simp only [sj] at e1
    subst e1
    exact g) (by omega) (ys.take m) 0 (by rw [List.length_take];omega) h hpd hsl hr hg rfl
  refine ⟨_,σ',?_,(congrArg (fun z=>Rel B (Γ.setRt n (some ⟨r.bx,r.t,setP r.t r.x p (.list true (.int k)) z⟩)) N (tmOf a) (w.setCells A0.block (A0.off+0) ((ys.take m).map (Value.int k))) σ') hgc).mpr h2⟩
  have hfree:∀ j,j<m→∃ kk,Free w A0.block kk∧A0.off+j<kk:=fun j hj=>by
   obtain ⟨A1,e1,-,r1,t1,b1,o1,q1,q2,q3⟩:=hel h hsl hr hg rfl j (by omega)
   simp only [sj] at e1
   subst e1
   simp only [Value.pointer.injEq,sj,Addr.mk.injEq,and_true] at q3
   obtain ⟨rfl,rfl⟩:=q3
   have hroom:=h.room q1 q2
   refine ⟨_,hroom,?_⟩
   have hR1:t1=.int k:=by
    rw [hr] at q1
    simp only [sj] at q1
    subst q1
    obtain ⟨O1,R1,k1,-⟩:=h.sep hr
    obtain ⟨y,O',R',_,_,_,_,-,g4,-⟩:=dec_loc _ r.t _ k1 q2
    have g5:getQ (p++[.idx (off+j)]) r.t r.x=⟨t1,y⟩:=g4
    have hg':getQ p r.t r.x=⟨.list true (.int k),l⟩:=hg
    rw [getQ_app,hg',getQ_idx] at g5
    exact (congrArg Sigma.fst g5).symm
   rw [hR1];simp [Ty.cells]
  have hst:=run_storeCells_cells (P:=P) A0.block A0.off (cs.take m) 0 w (fun j hj=>by
    obtain ⟨kk,q1,q2⟩:=hfree j (by rw [List.length_take] at hj;omega)
    exact (q1.cell (o:=A0.off+0+j) (by omega)).1) (fun j hj=>by
    obtain ⟨kk,q1,q2⟩:=hfree j (by rw [List.length_take] at hj;omega)
    exact (q1.cell (o:=A0.off+0+j) (by omega)).2) (fun u hu=>single_oneCell' (hone u (List.mem_of_mem_take hu)))
  have hA1:A0=⟨A0.block,A0.off,none⟩:=by cases A0;simp_all
  rw [←hA1,hcs] at hst
  rw [←hm]
  simp only [Builtin.copy_,h0]
  simp only [List.getElem?_toArray] at *
  simp [run_underlying hu,Builtin.lenOf,hmin,hsize,hfirst,hst,htake]
theorem does_copy {o:Oper} {c:Call} {d:Nat} {cx:Cx} {q:Bool} {K:AE→Rs ρ} {z:ρ} (hcx:CxTy P cx) (ho:o.op=.call c) (hb:c.callee=.builtin .copy) (hd:o.dst=some d)
  (h:Rel B Γ N (tmOf a) w σ) (hN:a.tmps.size=N) (hf:fits N o=true) (hz:aop cx q o Γ K=some z):Does P B N o a w K z:=by
 obtain ⟨cs,hrun⟩:=run_blt (P:=P) (a:=a) (w:=w) ho hb
 have hl:∃ x y,c.args.toList=[x,y]:=by
  cases hl:c.args.toList with
  |nil=>simp only [aop,ho,hd,hb,hl,List.map_nil,AE.blt] at hz;cases hz
  |cons x l=>
   cases l with
   |nil=>simp only [aop,ho,hd,hb,hl,List.map_cons,List.map_nil,AE.blt] at hz;cases hz
   |cons y l=>
    cases l with
    |nil=>exact ⟨x,y,rfl⟩
    |cons u l=>simp only [aop,ho,hd,hb,hl,List.map_cons,AE.blt] at hz;cases hz
 obtain ⟨x,y,hxy⟩:=hl
 have hargs:c.args=#[x,y]:=by rw [←Array.toList_inj];simpa using hxy
 have hops:=call_opds ho hb hf
 rw [hxy] at hops
 have hx:=h.opd (hops x (by simp))
 have hy:=h.opd (hops y (by simp))
 simp only [aop,ho,hd,hb,hxy,List.map_cons,List.map_nil,AE.blt] at hz
 split at hz
 ·cases hz
 ·split at hz
  ·rename_i o' k hT
   obtain ⟨t,ht,hT⟩:=Option.bind_eq_some_iff.1 hT
   have ht0:c.argTypes[0]?=some t:=by
    rw [←Array.getElem?_toList]
    cases hl:c.argTypes.toList with
    |nil=>rw [hl] at ht;cases ht
    |cons y l=>rw [hl] at ht;simpa using ht
   obtain ⟨hsh,hty⟩:=hcx.T t _ hT
   obtain ⟨t',hu,hte,hpos⟩:=tyOk_elem hty
   obtain ⟨I⟩:=baseOk_info (tyOk_base hte)
   obtain ⟨ys,hz,hE⟩:=h.elems rfl hy hz
   have fin:∀ (n:Nat) (p:Path) (off:Nat) (len:Option Nat),(Γ.opd x=.sref n p∧off=0∧len=none∨∃ Lc,Γ.opd x=.swin n p off Lc∧len=some Lc)→
     Γ.copTo n p off len k ys (fun m Γ'=>K (Γ'.set d (.val (.int .i64) (m:Int))))=some z→Does P B N o a w K z:=by
    intro n p off len hav hz
    unfold AE.copTo at hz
    split at hz
    ·rename_i r hlk
     obtain ⟨hpd,hr⟩:=look_some hlk
     split at hz
     ·rename_i k' l hg
      obtain ⟨hc,hz5⟩:=(bif_some hz).elim id fun h=>by cases h.2
      simp only [Bool.and_eq_true,decide_eq_true_eq] at hc
      obtain ⟨rfl,hp⟩:=hc
      have hxt:∃ i,x=.tmp i∧Γ.sl i=.one (Γ.opd x):=by
       cases x with
       |tmp i=>
        refine ⟨i,rfl,?_⟩
        simp only [AE.opd,AE.get] at hav ⊢
        cases hs:Γ.sl i with
        |one v=>rfl
        |cmp c vs=>
         rw [hs] at hav
         rcases hav with ⟨h1,-⟩|⟨_,h1,-⟩<;>cases h1
       |const v=>
        exfalso
        simp only [AE.opd] at hav
        unfold constAV at hav
        rcases hav with ⟨h1,-⟩|⟨_,h1,-⟩<;>split at h1<;>cases h1
       |global g=>rcases hav with ⟨h1,-⟩|⟨_,h1,-⟩<;>cases h1
       |func f=>rcases hav with ⟨h1,-⟩|⟨_,h1,-⟩<;>cases h1
      obtain ⟨i,rfl,hsl⟩:=hxt
      have hi:i<N:=by have:=hops (.tmp i) (by simp);simpa [opdOk] using this
      have done:∀ (A:Option Addr) (Lc c':Nat),a.eval (.tmp i)=.slice A Lc c'→len.getD (List.length l)=Lc→off+Lc≤List.length l→
        (∀ {Γ':AE} {σ:Gh} {w:World} {r:Root} {l':List Int},Rel B Γ' N (tmOf a) w σ→Γ'.sl i=.one (Γ.opd (.tmp i))→Γ'.rt n=some r→getP r.t r.x p=⟨.list true (.int k'),l'⟩→l'.length=List.length l→∀ j,j<Lc→
         ∃ A0,A=some A0∧A0.spot=none∧AVOk (memo w σ.ov) σ.g Γ'.rt (Shr B w σ) (.ptr n (p++[.idx (off+j)])) (.pointer (some ⟨A0.block,A0.off+j,none⟩)))→Does P B N o a w K z:=by
       intro A Lc c' hv hLc hoff hel
       obtain ⟨w',σ',k1,k2⟩:=copTo_ok (ty:=o.type) hte h hpd hp hsl hr hg hoff hel hE ht0 hu I (c:=c')
       rw [hLc] at hz5
       refine Does.set hd hN (w':=w') (σ':=σ') (hrun.trans ?_) k2 (AVOk.mk_int _) hz5
       rw [hargs]
       have hv':a.eval (.tmp i)=.slice A Lc c':=hv
       simp [builtin,hv',k1]
       rfl
      rcases hav with ⟨he,rfl,rfl⟩|⟨Lc,he,rfl⟩
      ·rw [he] at hx
       obtain ⟨A,c',hv,-⟩:=elem_sref h hx hr hg
       refine done A (List.length l) c' hv rfl (by omega) fun {Γ' σ w r l'} hR hs hr' hg' hl' j hj=>?_
       have hsl':=hR.slots i hi
       rw [hs,he] at hsl'
       obtain ⟨A2,c2,hv2,hel⟩:=elem_sref hR hsl' hr' hg'
       have e:=hv2.symm.trans hv
       simp only [Value.slice.injEq] at e
       obtain ⟨rfl,-,-⟩:=e
       exact hel j (by omega)
      ·rw [he] at hx
       obtain ⟨hoff,A,c',hv,-⟩:=elem_swin h hx hr hg
       refine done A Lc c' hv rfl hoff fun {Γ' σ w r l'} hR hs hr' hg' hl' j hj=>?_
       have hsl':=hR.slots i hi
       rw [hs,he] at hsl'
       obtain ⟨-,A2,c2,hv2,hel⟩:=elem_swin hR hsl' hr' hg'
       have e:=hv2.symm.trans hv
       simp only [Value.slice.injEq] at e
       obtain ⟨rfl,-,-⟩:=e
       exact hel j hj
     ·cases hz
    ·cases hz
   unfold AE.copK at hz
   split at hz
   ·rename_i n p he
    exact fin n p 0 none (.inl ⟨he,rfl,rfl⟩) hz
   ·rename_i n p off len he
    exact fin n p off (some len) (.inr ⟨len,he,rfl⟩) hz
   ·cases hz
  ·cases hz
theorem does_makeFunc {o:Oper} {f:Nat} {first caps:Array Operand} {d:Nat} {cx:Cx} {q:Bool} {K:AE→Rs ρ} {z:ρ} (ho:o.op=.makeFunc (.func f) first caps) (hd:o.dst=some d)
  (h:Rel B Γ N (tmOf a) w σ) (hN:a.tmps.size=N) (hf:fits N o=true) (hz:aop cx q o Γ K=some z):Does P B N o a w K z:=by
 have hops:=fits_op hf
 rw [ho] at hops
 simp only [aop,ho,hd] at hz
 obtain ⟨hfe,hz⟩:=(bif_some hz).elim id fun h=>by cases h.2
 have hfe:first=#[]:=by simpa using hfe
 subst hfe
 have hrun:(execOp a.eval o).run P w=.ok (.value (.func (.func f) #[] (caps.map a.eval))) w:=by
  simp [execOp,ho,Instr.makeFunc]
 refine ⟨_,w,_,σ,.inl hrun,?_,hz⟩
 rw [hd]
 refine h.putd hN (fun _=>⟨caps.map a.eval,⟨by simp,rfl⟩,fun k av hk=>?_⟩)
 rw [List.getElem?_map] at hk
 cases hp:caps.toList[k]? with
 |none=>rw [hp] at hk;cases hk
 |some x=>
  rw [hp] at hk
  simp only [Option.map_some,sj] at hk
  subst hk
  refine ⟨a.eval x,?_,h.opd (hops x (by simp only [Op.operands];simpa using List.mem_of_getElem? hp))⟩
  rw [Array.getElem?_map,←Array.getElem?_toList,hp]
  rfl
end
end Go.Ab
namespace Go.Ab
section
variable {P:Program} {B:Base} {N:Nat} {ρ:Type} {Γ:AE} {a:Act} {w:World} {σ:Gh}
theorem aop_sound {o:Oper} {cx:Cx} {q:Bool} {K:AE→Rs ρ} {z:ρ} (hcx:CxTy P cx) (hG:GOk cx.G B) (hnc:∀ c v,o.op=.call c→c.callee≠.value v)
  (h:Rel B Γ N (tmOf a) w σ) (hN:a.tmps.size=N) (hf:fits N o=true) (hz:aop cx q o Γ K=some z):Does P B N o a w K z:=by
 cases hd:o.dst with
 |none=>
  cases ho:o.op
  case store t x y=>
   cases hag:Γ.aggOf y with
   |none=>exact does_store hcx ho hag h hN hf hz
   |some vs=>exact does_storeAgg hcx ho hag h hN hf hz
  case call c=>
   cases hc:c.callee with
   |value v=>exact absurd hc (hnc c v ho)
   |builtin b=>simp only [aop,ho,hd,hc] at hz;cases hz
   |invoke r n=>simp only [aop,ho,hd,hc] at hz;cases hz
  all_goals (simp only [aop,ho,hd] at hz;cases hz)
 |some d=>
  cases ho:o.op
  case store t x y=>
   cases hag:Γ.aggOf y with
   |none=>exact does_store hcx ho hag h hN hf hz
   |some vs=>exact does_storeAgg hcx ho hag h hN hf hz
  case call c=>
   cases hc:c.callee with
   |value v=>exact absurd hc (hnc c v ho)
   |builtin b=>
    cases b
    case len=>exact does_len hcx ho hc hd h hN hf hz
    case max=>exact does_max ho hc hd h hN hf hz
    case min=>exact does_min ho hc hd h hN hf hz
    case append=>exact does_append hcx ho hc hd h hN hf hz
    case copy=>exact does_copy hcx ho hc hd h hN hf hz
    all_goals (simp only [aop,ho,hd,hc] at hz;unfold AE.blt at hz;first|(cases hz;done)|(split at hz<;>first|(cases hz;done)|(rename_i h1;cases h1;done)|(rename_i h1 _;cases h1;done)))
   |invoke r n=>simp only [aop,ho,hd,hc] at hz;cases hz
  case move x=>exact does_move ho hd h hN hf hz
  case assign x=>exact does_assign ho hd h hN hf hz
  case pick x y u=>exact does_pick ho hd h hN hf hz
  case alloc t=>exact does_alloc hcx ho hd h hN hz
  case box t x=>
   cases hag:(bif q then none else Γ.aggOf x) with
   |none=>exact does_box ho hd hag h hN hf hz
   |some vs=>exact does_boxAgg hcx ho hd hag h hN hf hz
  case build t x=>
   cases hO:(bif q then none else cx.O d) with
   |none=>exact does_build hcx ho hd hO h hN hf hz
   |some τ=>exact does_buildAgg hcx ho hd hO h hN hf hz
  case makeFunc fn first caps=>
   cases fn with
   |func f=>exact does_makeFunc ho hd h hN hf hz
   |_=>simp only [aop,ho,hd] at hz;cases hz
  case buildSlice t n x=>exact does_buildSlice hcx ho hd h hN hf hz
  case load t x=>exact does_load hcx hG ho hd h hN hf hz
  case nilCheck x=>exact does_nilCheck ho hd h hN hf hz
  case binOp op t x y s=>exact does_binOp hcx ho hd h hN hf hz
  case unOp op t x=>exact does_unOp ho hd h hN hf hz
  case convert s t x=>exact does_convert hcx ho hd h hN hf hz
  case makeSlice t x y=>exact does_makeSlice hcx ho hd h hN hf hz
  case slice t x u v m=>exact does_slice hcx ho hd h hN hf hz
  case fieldAddr s x f=>exact does_fieldAddr hcx ho hd h hN hf hz
  case field s x f=>exact does_field hcx ho hd h hN hf hz
  case indexAddr t x i=>exact does_indexAddr hcx hG ho hd h hN hf hz
  case index t x i=>exact does_index hcx ho hd h hN hf hz
  case extract x i=>
   cases x with
   |tmp t=>exact does_extract ho hd h hN hf hz
   |_=>simp only [aop,ho,hd] at hz;cases hz
  all_goals (simp only [aop,ho,hd] at hz;cases hz)
end
end Go.Ab
namespace Go.Ab
def cells (w:World):Mem:=fun b o=>w.cell? ⟨b,o,none⟩
structure Ent1 where
 r:Root
 s:Src
 O:Owns
def merged (Γ:AE) (f:AV→AV) (E:Nat→Option Ent1):AE:=
 ⟨(Γ.mapv f).sl,fun n=>match E n with|some e=>some e.r|none=>Γ.rt n,none⟩
def mergedG (σ:Gh) (E:Nat→Option Ent1):Gh:=
 ⟨fun n=>match E n with|some e=>e.s|none=>σ.g n,fun n=>match E n with|some e=>e.O|none=>σ.ow n,none⟩
theorem merged_rt_none {Γ f E n} (h:E n=none):(merged Γ f E).rt n=Γ.rt n:=by simp [merged,h]
theorem merged_rt_some {Γ f E n e} (h:E n=some e):(merged Γ f E).rt n=some e.r:=by simp [merged,h]
theorem mergedG_g_none {σ E n} (h:E n=none):(mergedG σ E).g n=σ.g n:=by simp [mergedG,h]
theorem mergedG_g_some {σ E n e} (h:E n=some e):(mergedG σ E).g n=e.s:=by simp [mergedG,h]
theorem mergedG_ow_none {σ E n} (h:E n=none):(mergedG σ E).ow n=σ.ow n:=by simp [mergedG,h]
theorem mergedG_ow_some {σ E n e} (h:E n=some e):(mergedG σ E).ow n=e.O:=by simp [mergedG,h]
structure Work (w w':World) (σ:Gh) (F':Nat→Prop) (E:Nat→Option Ent1):Prop where
 own:∀ c,F' c→∃ n e,E n=some e∧c∈(σ.ow n).map (·.1)
 size:w.heap.size≤w'.heap.size
 same:∀ b,b<w.heap.size→¬ F' b→w'.heap[b]?=w.heap[b]?
 mine:∀ n e c,E n=some e→c∈e.O.map (·.1)→F' c∨w.heap.size≤c
 nodup:∀ n e,E n=some e→(e.O.map (·.1)).Nodup
 disj:∀ n e n' e',E n=some e→E n'=some e'→n≠n'→∀ c,c∈e.O.map (·.1)→c∉e'.O.map (·.1)
 live:∀ n e p,E n=some e→p∈e.O→Free w' p.1 p.2
 still:ioOf w'=ioOf w
theorem Rel.merge {B Γ N tm w σ} (h:Rel B Γ N tm w σ) (hov:σ.ov=none) {w':World} {F':Nat→Prop} {E:Nat→Option Ent1} (W:Work w w' σ F' E)
  (hroot:∀ n e,E n=some e→RootOk (cells w') (fun c=>c<w'.heap.size∧(Shr B w σ c∨F' c∨w.heap.size≤c)∧∀ n e,E n=some e→c∉e.O.map (·.1)) e.r e.s e.O)
  (hpin:∀ i b e,B.pin i=some b→E (pinned+i)=some e→e.s=.at b 0) {f:AV→AV}
  (hf:∀ a v,AVOk (memo w σ.ov) σ.g Γ.rt (Shr B w σ) a v→f a=.dead∨(f a=a∧∀ k q,(a=.ptr k q∨a=.sref k q∨∃ o l,a=.swin k q o l)→E k=none∨(a=.ptr k []∧∃ e b,E k=some e∧e.s=.at b 0∧σ.g k=.at b 0))):
  Rel B (merged Γ f E) N tm w' (mergedG σ E)∧
   (∀ c,c<w'.heap.size∧(Shr B w σ c∨F' c∨w.heap.size≤c)∧(∀ n e,E n=some e→c∉e.O.map (·.1))→Shr B w' (mergedG σ E) c):=by
 have hFo:∀ c,F' c→Owned σ c:=fun c hc=>by obtain ⟨n,e,-,hn⟩:=W.own c hc;exact ⟨n,hn⟩
 have hFlt:∀ c,F' c→c<w.heap.size:=fun c hc=>h.lt (hFo c hc)

 have hoth:∀ n c,E n=none→c∈(σ.ow n).map (·.1)→¬ F' c:=fun n c hn hc hF=>by
  obtain ⟨n',e',h1,h2⟩:=W.own c hF
  have hne:n≠n':=by rintro rfl;rw [hn] at h1;cases h1
  exact h.disj n n' hne c hc h2
 have hOw:∀ c,Owned (mergedG σ E) c→(∃ n,E n=none∧c∈(σ.ow n).map (·.1))∨∃ n e,E n=some e∧c∈e.O.map (·.1):=by
  rintro c ⟨n,hn⟩
  cases hE:E n with
  |none=>rw [mergedG_ow_none hE] at hn;exact .inl ⟨n,hE,hn⟩
  |some e=>rw [mergedG_ow_some hE] at hn;exact .inr ⟨n,e,hE,hn⟩
 have hsh:∀ c,c<w'.heap.size∧(Shr B w σ c∨F' c∨w.heap.size≤c)∧(∀ n e,E n=some e→c∉e.O.map (·.1))→Shr B w' (mergedG σ E) c:=by
  rintro c ⟨h1,h2,h3⟩
  refine ⟨h1,?_,fun ho=>?_⟩
  ·rcases h2 with h2|h2|h2
   ·exact h2.2.1
   ·exact .inr (h.mine c (hFo c h2))
   ·exact .inr (.inr (Nat.le_trans h.size h2))
  ·rcases hOw c ho with ⟨n,hE,hn⟩|⟨n,e,hE,hn⟩
   ·rcases h2 with h2|h2|h2
    ·exact h2.2.2 ⟨n,hn⟩
    ·exact hoth n c hE hn h2
    ·have:=h.lt ⟨n,hn⟩;omega
   ·exact h3 n e hE hn
 have hshO:∀ c,Shr B w σ c→Shr B w' (mergedG σ E) c:=fun c hc=>hsh c ⟨Nat.lt_of_lt_of_le hc.1 W.size,.inl hc,fun n e hE hn=>by
  rcases W.mine n e c hE hn with g|g
  ·exact hc.2.2 (hFo c g)
  ·have:=hc.1;omega⟩
 have hmem:∀ c j,c<w.heap.size→¬ F' c→memo w' none c j=memo w σ.ov c j:=fun c j hc hF=>by
  rw [hov]
  exact memo_heap none (W.same c hc hF) j
 have hmemo:∀ n c j,E n=none→c∈(σ.ow n).map (·.1)→memo w' none c j=memo w σ.ov c j:=fun n c j hn hc=>hmem c j (h.lt ⟨n,hc⟩) (hoth n c hn hc)
 have hmems:∀ c j,Shr B w σ c→memo w' none c j=memo w σ.ov c j:=fun c j hc=>hmem c j hc.1 fun hF=>hc.2.2 (hFo c hF)
 have hplace:∀ n q r t s,E n=none→Γ.rt n=some r→loc (memo w σ.ov) r.t (σ.g n) q=some (t,s)→loc (memo w' none) r.t (σ.g n) q=some (t,s)∧s.rd (memo w' none) 0=s.rd (memo w σ.ov) 0:=by
  intro n q r t s hE hr hl
  obtain ⟨O1,R1,l1,l2,l3,l4,l5,l6⟩:=h.sep hr
  refine ⟨loc_frame q r.t _ l1 hl (fun j _=>?_) (fun c j hc=>hmemo n c j hE (l4 c hc)),?_⟩
  ·cases es:σ.g n with
   |one v=>rfl
   |_=>rename_i b o;exact hmemo n b _ hE (l5 _ _ es)
  ·cases s with
   |one v=>rfl
   |_=>rename_i b o;exact hmemo n b _ hE (h.place hr hl)
 refine ⟨⟨fun n r hr=>?_,fun n hn=>?_,fun n=>?_,fun n n' hne c hc hc'=>?_,fun n p hp=>?_,fun i hi=>?_,trivial,Nat.le_trans h.size W.size,fun b hb hF=>?_,fun c hc=>?_,fun i b hb hne=>?_,W.still.trans h.still⟩,hsh⟩
 ·cases hE:E n with
  |none=>
   rw [merged_rt_none hE] at hr
   rw [mergedG_g_none hE,mergedG_ow_none hE]
   obtain ⟨O1,R1,l1,l2,l3,l4,l5,l6⟩:=h.sep hr
   refine ⟨O1,R1,?_,fun c hc=>hshO c (l2 c hc),l6⟩
   show dec (memo w' none) r.t ((σ.g n).rd (memo w' none))=_
   refine dec_frame r.t l1 (fun j _=>?_) (fun c j hc=>?_)
   ·cases es:σ.g n with
    |one v=>rfl
    |_=>rename_i b o;exact hmemo n b _ hE (l5 _ _ es)
   ·rcases hc with hc|hc
    ·exact hmemo n c j hE (l4 c hc)
    ·exact hmems c j (l2 c hc)
  |some e=>
   rw [merged_rt_some hE] at hr
   rw [mergedG_g_some hE,mergedG_ow_some hE]
   simp only [sj] at hr
   subst hr
   exact (hroot n e hE).mono hsh
 ·cases hE:E n with
  |none=>rw [merged_rt_none hE] at hn;rw [mergedG_ow_none hE];exact h.norm n hn
  |some e=>rw [merged_rt_some hE] at hn;cases hn
 ·cases hE:E n with
  |none=>rw [mergedG_ow_none hE];exact h.nodup n
  |some e=>rw [mergedG_ow_some hE];exact W.nodup n e hE
 ·have cross:∀ n n',E n=none→∀ e',E n'=some e'→c∈(σ.ow n).map (·.1)→c∈e'.O.map (·.1)→False:=fun n n' hE e' hE' hc hc'=>by
   rcases W.mine n' e' c hE' hc' with g|g
   ·exact hoth n c hE hc g
   ·have:=h.lt ⟨n,hc⟩;omega
  cases hE:E n with
  |none=>
   rw [mergedG_ow_none hE] at hc
   cases hE':E n' with
   |none=>rw [mergedG_ow_none hE'] at hc';exact h.disj n n' hne c hc hc'
   |some e'=>rw [mergedG_ow_some hE'] at hc';exact cross n n' hE e' hE' hc hc'
  |some e=>
   rw [mergedG_ow_some hE] at hc
   cases hE':E n' with
   |none=>rw [mergedG_ow_none hE'] at hc';exact cross n' n hE' e hE hc' hc
   |some e'=>rw [mergedG_ow_some hE'] at hc';exact W.disj n e n' e' hE hE' hne c hc hc'
 ·cases hE:E n with
  |none=>
   rw [mergedG_ow_none hE] at hp
   obtain ⟨c,e,lo,hi,h1,h2,h3⟩:=h.live n p hp
   have hc:=List.mem_map_of_mem (f:=(·.1)) hp
   exact ⟨c,e,lo,hi,by rw [W.same p.1 (h.lt ⟨n,hc⟩) (hoth n p.1 hE hc)];exact h1,h2,h3⟩
  |some e=>rw [mergedG_ow_some hE] at hp;exact W.live n e p hE hp
 ·refine (h.slots i hi).mapv fun a v ha=>?_
  rcases hf a v ha with g|⟨g,hk⟩
  ·rw [g];trivial
  ·rw [g]
   by_cases hz:∃ k e b,a=.ptr k []∧E k=some e∧e.s=.at b 0∧σ.g k=.at b 0
   ·obtain ⟨k,e,b,rfl,hE,hs,hg⟩:=hz
    obtain ⟨r,t,b',o,h1,h2,h3⟩:=ha
    simp only [loc,locQ,hg,sj,Prod.mk.injEq,Src.at.injEq] at h2
    obtain ⟨rfl,rfl,rfl⟩:=h2
    refine ⟨e.r,e.r.t,b,0,merged_rt_some hE,?_,h3⟩
    rw [mergedG_g_some hE,hs];rfl
   ·refine ha.frame hmems hshO fun k q r t s hcase hr hl=>?_
    have hE:E k=none:=by
     rcases hk k q hcase with g|⟨rfl,e,b,h1,h2,h3⟩
     ·exact g
     ·exact absurd ⟨k,e,b,rfl,h1,h2,h3⟩ hz
    have hp:=hplace k q r t s hE hr hl
    refine ⟨r,by rw [merged_rt_none hE];exact hr,by rw [mergedG_g_none hE];exact hp.1,fun u _ hu=>by rw [←hu];exact hp.2⟩
 ·rw [W.same b (Nat.lt_of_lt_of_le hb h.size) ?_]
  ·exact h.frame b hb hF
  ·intro g
   rcases h.mine b (hFo b g) with g|g
   ·exact hF g
   ·omega
 ·rcases hOw c hc with ⟨n,hE,hn⟩|⟨n,e,hE,hn⟩
  ·exact h.mine c ⟨n,hn⟩
  ·rcases W.mine n e c hE hn with g|g
   ·exact h.mine c (hFo c g)
   ·exact .inr (Nat.le_trans h.size g)
 ·cases hE:E (pinned+i) with
  |none=>rw [merged_rt_none hE] at hne;rw [mergedG_g_none hE];exact h.pins i b hb hne
  |some e=>rw [mergedG_g_some hE];exact hpin i b e hb hE
end Go.Ab
namespace Go.Ab
structure ArgsOk (fz:Bool) (B:Base) (w:World) (Γ':AE) (σ':Gh) (ps:List PA) (x:(prods (ps.map PA.ty)).den) (vs:List Value) (used us:List Nat) (i0:Nat):Prop where
 vals:∀ (i:Nat) (t:Ty) (y:t.den) (v:Value),(pitems ps x)[i]?=some ⟨.v t,y⟩→vs[i]?=some v→
  VOk (memo w σ'.ov) (fun c=>Shr B w σ' c∨(fz=false∧∃ n,n∉used∧n∉us∧c∈(σ'.ow n).map (·.1))) t y v
 refs:∀ (k n:Nat),us[k]?=some n→∃ (i:Nat) (t:Ty) (y:t.den) (b:Nat),(refIdx ps i0)[k]?=some (i0+i)∧(pitems ps x)[i]?=some ⟨.r t,y⟩∧vs[i]?=some (.pointer (some ⟨b,0,none⟩))∧
  Γ'.rt n=some ⟨true,t,y⟩∧σ'.g n=.at b 0
 len:us.length=(refIdx ps i0).length
 nodup:us.Nodup
 apart:∀ n∈us,n∉used
section
variable {ρ:Type} {B:Base} {N:Nat} {tm:Nat→Value} {w:World}
theorem Rel.arg {Γ:AE} {σ:Gh} (h:Rel B Γ N tm w σ) {fz q:Bool} {used seen:List Nat} {p:PA} {a:AV} {v:Value} {K:p.ty.den→AE→List Nat→List Nat→Rs ρ} {z:ρ}
  (ha:AVOk (memo w σ.ov) σ.g Γ.rt (Shr B w σ) a v∨Dang Γ a) (hK:Γ.arg fz q used seen p a K=some z):
  ∃ x Γ' σ' used' seen',K x Γ' used' seen'=some z∧Rel B Γ' N tm w σ'∧Ev B w Γ σ Γ' σ'∧Boxes Γ σ Γ' σ'∧(fz=false∨q=true→Γ'=Γ∧σ'=σ)∧(∀ n∈seen,n∈seen')∧
   match p,x with
   |.v t,x=>used'=used∧VOk (memo w σ'.ov) (fun c=>Shr B w σ' c∨(fz=false∧∃ n,n∉used∧n∈seen'∧c∈(σ'.ow n).map (·.1))) t x v
   |.r t,x=>∃ n b,used'=n::used∧n∉used∧n∉seen∧seen'=seen∧v=.pointer (some ⟨b,0,none⟩)∧Γ'.rt n=some ⟨true,t,x⟩∧σ'.g n=.at b 0:=by
 cases p with
 |v t=>
  simp only [AE.arg] at hK
  cases fz with
  |true=>
   simp only [if_true] at hK
   obtain ⟨x,Γ',σ',h1,h2,h3,h4,h5,h6⟩:=h.asVB ha hK
   exact ⟨x,Γ',σ',used,seen,h1,h2,h4,h6,fun g=>h5 (g.resolve_left (by simp)),fun _ g=>g,rfl,h3.frame (fun _ _ _=>rfl) (fun c hc=>.inl hc)⟩
  |false=>
   simp only [Bool.false_eq_true,if_false] at hK
   obtain ⟨hv,hK⟩:(a.viewed.any fun n=>used.contains n)=false∧_:=by
    rcases bif_some hK with ⟨-,g⟩|⟨g1,g2⟩
    ·cases g
    ·exact ⟨g1,g2⟩
   have hvu:∀ n∈a.viewed,n∉used:=fun n hn hu=>by
    have:=List.any_eq_false.1 hv n hn
    simp [hu] at this
   obtain ⟨x,h1,h2⟩:=h.viewR ha hK
   exact ⟨x,Γ,σ,used,a.viewed++seen,h1,h,Ev.refl,Boxes.refl,fun _=>⟨rfl,rfl⟩,fun _ g=>List.mem_append_right _ g,rfl,
    h2.frame (fun _ _ _=>rfl) (fun c hc=>hc.imp id fun ⟨n,hn,hc⟩=>⟨rfl,n,hvu n hn,List.mem_append_left _ hn,hc⟩)⟩
 |r t=>
  cases a with
  |ptr n p=>
   cases p with
   |cons=>simp only [AE.arg] at hK;cases hK
   |nil=>
    simp only [AE.arg] at hK
    split at hK
    ·cases hK
    ·rename_i hq
     simp only [Bool.or_eq_true,List.contains_iff_mem,not_or,Bool.not_eq_true] at hq
     split at hK
     ·rename_i t' x hl
      obtain ⟨hpd,hr⟩:=look_some hl
      split at hK
      ·rename_i ht
       subst ht
       rcases ha with ⟨r',t1,b,o,g1,g2,g3⟩|⟨k,q',hc,hk⟩
       ·rw [hr] at g1
        simp only [sj] at g1
        subst g1
        obtain ⟨O',R,-,-,hc⟩:=(h.roots n _ hr).rd
        rcases hc with ⟨-,b',hs,-⟩|⟨hb,-⟩
        ·simp only [loc,locQ,hs,sj,Prod.mk.injEq,Src.at.injEq] at g2
         obtain ⟨-,rfl,rfl⟩:=g2
         exact ⟨x,Γ,σ,n::used,seen,hK,h,Ev.refl,Boxes.refl,fun _=>⟨rfl,rfl⟩,fun _ g=>g,n,b',rfl,hq.1.2,hq.2,rfl,g3,hr,hs⟩
        ·cases hb
       ·rcases hc with g|g|⟨o,l,g⟩<;>cases g
        rw [hr] at hk;cases hk
      ·cases hK
     ·cases hK
  |_=>simp only [AE.arg] at hK;cases hK
theorem Rel.args:∀ (ps:List PA) (as:List AV) (vs:List Value) {Γ:AE} {σ:Gh} (_:Rel B Γ N tm w σ) {fz q:Bool} {used seen:List Nat} {i0:Nat} {K:(prods (ps.map PA.ty)).den→AE→List Nat→Rs ρ} {z:ρ}
  (_:∀ (i:Nat) (a:AV) (v:Value),as[i]?=some a→vs[i]?=some v→AVOk (memo w σ.ov) σ.g Γ.rt (Shr B w σ) a v∨Dang Γ a) (_:vs.length=as.length) (_:Γ.args fz q used seen ps as K=some z),
  ps.length=as.length∧∃ x Γ' σ' us,K x Γ' (us.reverse++used)=some z∧Rel B Γ' N tm w σ'∧Ev B w Γ σ Γ' σ'∧Boxes Γ σ Γ' σ'∧(fz=false∨q=true→Γ'=Γ∧σ'=σ)∧(∀ n∈seen,n∉us)∧
   ArgsOk fz B w Γ' σ' ps x vs used us i0
 | [],as,vs,Γ,σ,h,fz,q,used,seen,i0,K,z,has,hlen,hK=>by
  cases as with
  |nil=>exact ⟨rfl,(),Γ,σ,[],hK,h,Ev.refl,Boxes.refl,fun _=>⟨rfl,rfl⟩,by simp,⟨fun i t y v hi=>by simp [pitems] at hi,by simp,rfl,by simp,by simp⟩⟩
  |cons=>simp only [AE.args] at hK;cases hK
 | [p],as,vs,Γ,σ,h,fz,q,used,seen,i0,K,z,has,hlen,hK=>by
  match as,vs,hlen with
  | [a],[v],_=>
   simp only [AE.args] at hK
   obtain ⟨x,Γ',σ',used',seen',h1,h2,h3,h4,h5,h6,h7⟩:=h.arg (has 0 a v rfl rfl) hK
   cases p with
   |v t=>
    obtain ⟨rfl,h7⟩:=h7
    refine ⟨rfl,x,Γ',σ',[],h1,h2,h3,h4,h5,by simp,⟨fun i t' y v' hi hv=>?_,by simp,rfl,by simp,by simp⟩⟩
    cases i with
    |zero=>
     simp only [pitems,List.getElem?_cons_zero,sj] at hi hv
     cases hi;cases hv
     exact h7.frame (fun _ _ _=>rfl) (fun c hc=>hc.imp id fun ⟨e,n,g1,g2,g3⟩=>⟨e,n,g1,by simp,g3⟩)
    |succ i=>simp [pitems] at hi
   |r t=>
    obtain ⟨n,b,rfl,g1,g2,g3,g4,g5,g6⟩:=h7
    refine ⟨rfl,x,Γ',σ',[n],h1,h2,h3,h4,h5,fun m hm=>by rintro hm';simp only [List.mem_singleton] at hm';exact g2 (hm'▸hm),⟨fun i t' y v' hi hv=>?_,fun k m hk=>?_,rfl,by simp,by simpa using g1⟩⟩
    ·cases i with
     |zero=>simp only [pitems,List.getElem?_cons_zero,sj] at hi;cases hi
     |succ i=>simp [pitems] at hi
    ·cases k with
     |zero=>
      simp only [List.getElem?_cons_zero,sj] at hk
      subst hk
      exact ⟨0,t,x,b,rfl,rfl,by rw [g4];rfl,g5,g6⟩
     |succ k=>simp at hk
  | [],_,_=>simp only [AE.args] at hK;cases hK
  |_::_::_,_,_=>simp only [AE.args] at hK;cases hK
 |p::p'::ps,as,vs,Γ,σ,h,fz,q,used,seen,i0,K,z,has,hlen,hK=>by
  match as,vs,hlen with
  | [],_,_=>simp only [AE.args] at hK;cases hK
  |a::as,v::vs,hlen=>
   simp only [AE.args] at hK
   obtain ⟨x,Γ1,σ1,used1,seen1,h1,h2,h3,h4,h5,h6,h7⟩:=h.arg (has 0 a v rfl rfl) hK
   have ⟨hl,y,Γ',σ',us,k1,k2,k3,k4,k5,k6,k7⟩:=Rel.args (p'::ps) as vs (i0:=i0+1) h2 (fun i a' v' hi hv=>h3.live (has (i+1) a' v' (by simpa using hi) (by simpa using hv))) (by simpa using hlen) h1
   refine ⟨by simpa using hl,?_⟩
   have hboth:fz=false∨q=true→Γ'=Γ∧σ'=σ:=fun g=>⟨(k5 g).1.trans (h5 g).1,(k5 g).2.trans (h5 g).2⟩
   cases p with
   |v t=>
    obtain ⟨rfl,h7⟩:=h7
    refine ⟨(x,y),Γ',σ',us,k1,k2,h3.trans k3,h4.trans k4,hboth,fun n hn=>k6 n (h6 n hn),⟨fun i t' y' v' hi hv=>?_,fun k n hk=>?_,k7.len,k7.nodup,k7.apart⟩⟩
    ·cases i with
     |zero=>
      simp only [pitems,List.getElem?_cons_zero,sj] at hi hv
      cases hi;cases hv
      cases fz with
      |false=>
       obtain ⟨rfl,rfl⟩:=k5 (.inl rfl)
       exact h7.frame (fun _ _ _=>rfl) (fun c hc=>hc.imp id fun ⟨e,n,g1,g2,g3⟩=>⟨e,n,g1,k6 n g2,g3⟩)
      |true=>
       have h70:VOk (memo w σ1.ov) (Shr B w σ1) t x v:=h7.frame (fun _ _ _=>rfl) (fun c hc=>hc.resolve_right (by simp))
       have h71:=k3.vok h70
       rw [k3.ov]
       rw [k3.ov] at h71
       exact h71.frame (fun _ _ _=>rfl) (fun c hc=>.inl hc)
     |succ i=>exact k7.vals i t' y' v' (by simpa [pitems] using hi) (by simpa using hv)
    ·obtain ⟨i,t',y',b,j1,j2,j3,j4,j5⟩:=k7.refs k n hk
     exact ⟨i+1,t',y',b,by simp only [refIdx];rw [j1];congr 1;omega,by simpa [pitems] using j2,by simpa using j3,j4,j5⟩
   |r t=>
    obtain ⟨n,b,rfl,g1,g2,rfl,g4,g5,g6⟩:=h7
    have hn:=k4.1 n _ rfl g5
    refine ⟨(x,y),Γ',σ',n::us,by simpa using k1,k2,h3.trans k3,h4.trans k4,hboth,fun m hm=>?_,⟨fun i t' y' v' hi hv=>?_,fun k m hk=>?_,by simp [refIdx,k7.len],?_,?_⟩⟩
    ·simp only [List.mem_cons,not_or]
     exact ⟨fun e=>g2 (e▸hm),k6 m hm⟩
    ·cases i with
     |zero=>simp only [pitems,List.getElem?_cons_zero,sj] at hi;cases hi
     |succ i=>
      exact (k7.vals i t' y' v' (by simpa [pitems] using hi) (by simpa using hv)).frame (fun _ _ _=>rfl) (fun c hc=>hc.imp id fun ⟨e,m,g1,g2,g3⟩=>
       ⟨e,m,fun g=>g1 (List.mem_cons_of_mem _ g),by simp only [List.mem_cons,not_or];exact ⟨fun e=>g1 (by simp [e]),g2⟩,g3⟩)
    ·cases k with
     |zero=>
      simp only [List.getElem?_cons_zero,sj] at hk
      subst hk
      exact ⟨0,t,x,b,rfl,rfl,by rw [g4];rfl,hn.1,hn.2.1.trans g6⟩
     |succ k=>
      obtain ⟨i,t',y',b',j1,j2,j3,j4,j5⟩:=k7.refs k m (by simpa using hk)
      exact ⟨i+1,t',y',b',by simp only [refIdx,List.getElem?_cons_succ];rw [j1];congr 1;omega,by simpa [pitems] using j2,by simpa using j3,j4,j5⟩
    ·simp only [List.nodup_cons]
     exact ⟨fun g=>k7.apart n g (by simp),k7.nodup⟩
    ·intro m hm
     rcases List.mem_cons.1 hm with rfl|hm
     ·exact g1
     ·exact fun g=>k7.apart m hm (List.mem_cons_of_mem _ g)
end
end Go.Ab
namespace Go.Ab
def ItemOk (m:Mem) (Sh:Nat→Prop):((r:RA)×r.ty.den)→Value→Src×Owns→Prop
 |⟨.v t,x⟩,v,L=>VOk m Sh t x v∧L.2=[]
 |⟨.o e,x⟩,v,L=>L.1=.one v∧RootOk m Sh ⟨false,.list true e,x⟩ L.1 L.2
 |⟨.b t,x⟩,v,L=>RootOk m Sh ⟨true,t,x⟩ L.1 L.2∧∃ b,L.1=.at b 0∧v=.pointer (some ⟨b,0,none⟩)
structure Back (B:Base) (w':World) (its:List ((r:RA)×r.ty.den)) (vs:List Value) (Ls:List (Src×Owns)):Prop where
 lv:vs.length=its.length
 ll:Ls.length=its.length
 ok:∀ (k:Nat) (it:(r:RA)×r.ty.den) (v:Value) (L:Src×Owns),its[k]?=some it→vs[k]?=some v→Ls[k]?=some L→
  ItemOk (cells w') (fun c=>c<w'.heap.size∧(B.S c∨B.F c∨B.size≤c)∧∀ L∈Ls,c∉L.2.map (·.1)) it v L
 nodup:∀ L∈Ls,(L.2.map (·.1)).Nodup
 disj:∀ (k k':Nat) (L L':Src×Owns),Ls[k]?=some L→Ls[k']?=some L'→k≠k'→∀ c,c∈L.2.map (·.1)→c∉L'.2.map (·.1)
 live:∀ L∈Ls,∀ p∈L.2,Free w' p.1 p.2
 mine:∀ L∈Ls,∀ c∈L.2.map (·.1),B.F c∨B.size≤c
 size:B.size≤w'.heap.size
 frame:∀ b,b<B.size→¬ B.F b→w'.heap[b]?=B.hp b
 still:ioOf w'=B.io
def packV:List Value→Value
 | [v]=>v
 |vs=>.tuple vs.toArray
def FSound (P:Program) (G:GTab) (f:FuncId) (s:FSem):Prop:=
 ∀ (w:World) (B:Base) (σ:Gh) (args:Array Value) x y,GOk G B→s.F x=some y→B.size=w.heap.size→(∀ b,B.hp b=w.heap[b]?)→σ.ov=none→args.size=s.ps.length→
  Rel B (ini s.ps x) s.ps.length (fun i=>args.getD i undef) w σ→(∀ i∈refIdx s.ps 0,∃ b,B.pin i=some b∧args.getD i undef=.pointer (some ⟨b,0,none⟩))→
  Calls P f args w fun e w'=>∃ vr Ls,e=.returned (packV vr)∧vr.length=s.rs.length∧Back B w' (items (RA.all s.ps s.rs) y) (vr++(refIdx s.ps 0).map fun i=>args.getD i undef) Ls
def Bodied (P : Program) (f : FuncId) : Prop := ∃ fn c, P.funcs[f]? = some fn ∧ fn.body = some c ∧ (fn.name == "runtime.NumGoroutine") = false
theorem items_length:∀ (rs:List RA) (x:(prods (rs.map RA.ty)).den),(items rs x).length=rs.length
 | [],_=>rfl
 | [_],_=>rfl
 |_::r'::rs,x=>by simp only [items,List.length_cons];rw [items_length (r'::rs) x.2];rfl
theorem items_fst:∀ (rs:List RA) (x:(prods (rs.map RA.ty)).den) (k:Nat) it,(items rs x)[k]?=some it→rs[k]?=some it.1
 | [],_,k,it,h=>by simp [items] at h
 | [r],x,0,it,h=>by simp only [items,List.getElem?_cons_zero,sj] at h;rw [←h];rfl
 | [r],x,k+1,it,h=>by simp [items] at h
 |r::r'::rs,x,0,it,h=>by simp only [items,List.getElem?_cons_zero,sj] at h;rw [←h];rfl
 |r::r'::rs,x,k+1,it,h=>by simpa using items_fst (r'::rs) x.2 k it (by simpa [items] using h)
theorem pitems_length:∀ (ps:List PA) (x:(prods (ps.map PA.ty)).den),(pitems ps x).length=ps.length
 | [],_=>rfl
 | [_],_=>rfl
 |_::p'::ps,x=>by simp only [pitems,List.length_cons];rw [pitems_length (p'::ps) x.2];rfl
theorem pitems_ref:∀ (ps:List PA) (x:(prods (ps.map PA.ty)).den) (i0 i:Nat) t y,(pitems ps x)[i]?=some ⟨.r t,y⟩→∃ k:Nat,(refIdx ps i0)[k]?=some (i0+i)
 | [],_,_,i,t,y,h=>by simp [pitems] at h
 | [p],x,i0,0,t,y,h=>by
  simp only [pitems,List.getElem?_cons_zero,sj] at h
  cases h
  exact ⟨0,rfl⟩
 | [p],x,_,i+1,t,y,h=>by simp [pitems] at h
 |p::p'::ps,x,i0,0,t,y,h=>by
  simp only [pitems,List.getElem?_cons_zero,sj] at h
  cases h
  exact ⟨0,rfl⟩
 |p::p'::ps,x,i0,i+1,t,y,h=>by
  obtain ⟨k,hk⟩:=pitems_ref (p'::ps) x.2 (i0+1) i t y (by simpa [pitems] using h)
  have hk:(refIdx (p'::ps) (i0+1))[k]?=some (i0+(i+1)):=by rw [hk];congr 1;omega
  cases p with
  |v t'=>exact ⟨k,hk⟩
  |r t'=>exact ⟨k+1,by simpa [refIdx] using hk⟩
theorem refIdx_lt:∀ (ps:List PA) (i0:Nat),(refIdx ps i0).Pairwise (·<·)∧∀ i∈refIdx ps i0,i0≤i
 | [],_=>⟨List.Pairwise.nil,by simp [refIdx]⟩
 |.v _::ps,i0=>by
  obtain ⟨h1,h2⟩:=refIdx_lt ps (i0+1)
  exact ⟨h1,fun i hi=>by have:=h2 i hi;omega⟩
 |.r _::ps,i0=>by
  obtain ⟨h1,h2⟩:=refIdx_lt ps (i0+1)
  refine ⟨List.Pairwise.cons (fun i hi=>by have:=h2 i hi;omega) h1,fun i hi=>?_⟩
  rcases List.mem_cons.1 hi with rfl|hi
  ·exact Nat.le_refl _
  ·have:=h2 i hi;omega
theorem refIdx_inj (ps:List PA) {i0 k k' i:Nat} (h:(refIdx ps i0)[k]?=some i) (h':(refIdx ps i0)[k']?=some i):k=k':=by
 have hp:=(refIdx_lt ps i0).1
 obtain ⟨hk,rfl⟩:=List.getElem?_eq_some_iff.1 h
 obtain ⟨hk',he⟩:=List.getElem?_eq_some_iff.1 h'
 rcases Nat.lt_trichotomy k k' with g|g|g
 ·have:=List.pairwise_iff_getElem.1 hp k k' hk hk' g;omega
 ·exact g
 ·have:=List.pairwise_iff_getElem.1 hp k' k hk' hk g;omega
theorem refsOf_length (ps:List PA):∀ i0,(refIdx ps i0).length=(refsOf ps).length:=by
 induction ps with
 |nil=>intro i0;rfl
 |cons p ps ih=>intro i0;cases p<;>simp [refIdx,refsOf,ih]
def nmOf:List Nat→List Nat→Nat→Option Nat
 |i::is,n::ns,j=>if j=i then some n else nmOf is ns j
 |_,_,_=>none
theorem nmOf_some:∀ (is ns:List Nat) (j n:Nat),nmOf is ns j=some n→∃ k:Nat,is[k]?=some j∧ns[k]?=some n
 | [],ns,j,n,h=>by simp [nmOf] at h
 |i::is,[],j,n,h=>by simp [nmOf] at h
 |i::is,m::ns,j,n,h=>by
  simp only [nmOf] at h
  split at h
  ·rename_i e
   simp only [sj] at h
   exact ⟨0,by simp [e],by simp [h]⟩
  ·obtain ⟨k,h1,h2⟩:=nmOf_some is ns j n h
   exact ⟨k+1,by simpa using h1,by simpa using h2⟩
theorem nmOf_of:∀ (is ns:List Nat) (k j n:Nat),is[k]?=some j→ns[k]?=some n→(∀ k',is[k']?=some j→k'=k)→nmOf is ns j=some n
 | [],ns,k,j,n,h,_,_=>by simp at h
 |i::is,[],k,j,n,_,h,_=>by simp at h
 |i::is,m::ns,0,j,n,h,h',_=>by
  simp only [List.getElem?_cons_zero,sj] at h h'
  simp [nmOf,h,h']
 |i::is,m::ns,k+1,j,n,h,h',hu=>by
  have hne:j≠i:=fun e=>by have:=hu 0 (by simp [e]);omega
  simp only [nmOf,if_neg hne]
  exact nmOf_of is ns k j n (by simpa using h) (by simpa using h') (fun k' hk'=>by have:=hu (k'+1) (by simpa using hk');omega)
section
variable {B:Base} {N:Nat} {tm:Nat→Value} {w:World} {Γ:AE} {σ:Gh}
def calleeBase (fz:Bool) (B:Base) (w:World) (σ:Gh) (ps:List PA) (us:List Nat):Base where
 size:=w.heap.size
 hp:=fun b=>w.heap[b]?
 F:=fun c=>∃ n∈us,c∈(σ.ow n).map (·.1)
 S:=fun c=>Shr B w σ c∨(fz=false∧Owned σ c)
 io:=ioOf w
 pin:=fun i=>match nmOf (refIdx ps 0) us i with
  |some n=>match σ.g n with
   |.at b _=>some b
   |_=>none
  |none=>none
def calleeGh (σ:Gh) (ps:List PA) (us:List Nat):Gh where
 g:=fun m=>match nmOf (refIdx ps 0) us (m-pinned) with
  |some n=>σ.g n
  |none=>.one undef
 ow:=fun m=>if m<pinned then [] else match nmOf (refIdx ps 0) us (m-pinned) with
  |some n=>σ.ow n
  |none=>[]
 ov:=none
theorem Rel.enter (h:Rel B Γ N tm w σ) (hov:σ.ov=none) {fz:Bool} {ps:List PA} {x:(prods (ps.map PA.ty)).den} {vs:List Value} {us:List Nat} (ha:ArgsOk fz B w Γ σ ps x vs [] us 0) (hl:vs.length=ps.length):
  Rel (calleeBase fz B w σ ps us) (ini ps x) ps.length (fun i=>vs.toArray.getD i undef) w (calleeGh σ ps us)∧
   ∀ i∈refIdx ps 0,∃ b,(calleeBase fz B w σ ps us).pin i=some b∧vs.toArray.getD i undef=.pointer (some ⟨b,0,none⟩):=by
 have huniq:∀ k i,(refIdx ps 0)[k]?=some i→∀ k',(refIdx ps 0)[k']?=some i→k'=k:=fun k i h1 k' h2=>refIdx_inj ps h2 h1
 have hget:∀ (i:Nat) v,vs[i]?=some v→vs.toArray.getD i undef=v:=fun i v hv=>by simp [Array.getD_eq_getD_getElem?,hv]

 have href:∀ (i:Nat) t y,(pitems ps x)[i]?=some ⟨.r t,y⟩→∃ n b,nmOf (refIdx ps 0) us i=some n∧n∈us∧vs[i]?=some (.pointer (some ⟨b,0,none⟩))∧Γ.rt n=some ⟨true,t,y⟩∧σ.g n=.at b 0:=by
  intro i t y hi
  obtain ⟨k,hk⟩:=pitems_ref ps x 0 i t y hi
  rw [Nat.zero_add] at hk
  have hlt:k<us.length:=by rw [ha.len];exact (List.getElem?_eq_some_iff.1 hk).1
  have hn:us[k]?=some us[k]:=List.getElem?_eq_getElem hlt
  obtain ⟨i',t',y',b,j1,j2,j3,j4,j5⟩:=ha.refs k _ hn
  rw [hk] at j1
  simp only [Nat.zero_add,sj] at j1
  subst j1
  rw [hi] at j2
  simp only [sj] at j2
  cases j2
  exact ⟨us[k],b,nmOf_of _ _ k i _ hk hn (huniq k i hk),List.getElem_mem hlt,j3,j4,j5⟩
 have hnm:∀ i n,nmOf (refIdx ps 0) us i=some n→n∈us∧∃ t y b,(pitems ps x)[i]?=some ⟨.r t,y⟩∧vs[i]?=some (.pointer (some ⟨b,0,none⟩))∧Γ.rt n=some ⟨true,t,y⟩∧σ.g n=.at b 0:=by
  intro i n hi
  obtain ⟨k,h1,h2⟩:=nmOf_some _ _ _ _ hi
  obtain ⟨i',t',y',b,j1,j2,j3,j4,j5⟩:=ha.refs k n h2
  rw [h1] at j1
  simp only [Nat.zero_add,sj] at j1
  subst j1
  exact ⟨List.mem_of_getElem? h2,t',y',b,j2,j3,j4,j5⟩
 have hinj:∀ i i' n,nmOf (refIdx ps 0) us i=some n→nmOf (refIdx ps 0) us i'=some n→i=i':=by
  intro i i' n h1 h2
  obtain ⟨k,h1,h3⟩:=nmOf_some _ _ _ _ h1
  obtain ⟨k',h2,h4⟩:=nmOf_some _ _ _ _ h2
  obtain ⟨a1,b1⟩:=List.getElem?_eq_some_iff.1 h3
  obtain ⟨a2,b2⟩:=List.getElem?_eq_some_iff.1 h4
  have:k=k':=by
   have hp:=List.pairwise_iff_getElem.1 ha.nodup
   rcases Nat.lt_trichotomy k k' with g|g|g
   ·exact absurd (b1.trans b2.symm) (hp k k' a1 a2 g)
   ·exact g
   ·exact absurd (b2.trans b1.symm) (hp k' k a2 a1 g)
  subst this
  rw [h1] at h2
  exact Option.some.inj h2
 have how:∀ m c,c∈((calleeGh σ ps us).ow m).map (·.1)→pinned≤m∧∃ n,nmOf (refIdx ps 0) us (m-pinned)=some n∧n∈us∧c∈(σ.ow n).map (·.1):=by
  intro m c hc
  simp only [calleeGh] at hc
  split at hc
  ·simp at hc
  ·rename_i hm
   cases hn:nmOf (refIdx ps 0) us (m-pinned) with
   |none=>rw [hn] at hc;simp at hc
   |some n=>rw [hn] at hc;exact ⟨by omega,n,rfl,(hnm _ _ hn).1,hc⟩
 have hown:∀ c,Owned (calleeGh σ ps us) c→∃ n∈us,c∈(σ.ow n).map (·.1):=by
  rintro c ⟨m,hm⟩
  obtain ⟨-,n,-,h1,h2⟩:=how m c hm
  exact ⟨n,h1,h2⟩
 have hsh:∀ c,Shr B w σ c→Shr (calleeBase fz B w σ ps us) w (calleeGh σ ps us) c:=fun c hc=>⟨hc.1,.inl (.inl hc),fun g=>by
  obtain ⟨n,-,h2⟩:=hown c g
  exact hc.2.2 ⟨n,h2⟩⟩
 have hmemo:memo w σ.ov=memo w (calleeGh σ ps us).ov:=by rw [hov];rfl
 have hgpin:∀ m n,nmOf (refIdx ps 0) us m=some n→(calleeGh σ ps us).g (pinned+m)=σ.g n∧(calleeGh σ ps us).ow (pinned+m)=σ.ow n:=fun m n hn=>by
  have e:pinned+m-pinned=m:=by omega
  have e':¬ pinned+m<pinned:=by omega
  simp only [calleeGh,e,hn,if_neg e',and_self]
 have hini:∀ m r,(ini ps x).rt m=some r→∃ i t y,m=pinned+i∧(pitems ps x)[i]?=some ⟨.r t,y⟩∧r=⟨true,t,y⟩:=by
  intro m r hr
  simp only [ini] at hr
  rcases bif_some hr with ⟨-,g⟩|⟨g1,hr⟩
  ·cases g
  ·simp only [decide_eq_false_iff_not] at g1
   split at hr
   ·rename_i t y hi
    simp only [sj] at hr
    exact ⟨m-pinned,t,y,by omega,hi,hr.symm⟩
   ·cases hr
 have hinirt:∀ i t y,(pitems ps x)[i]?=some ⟨.r t,y⟩→(ini ps x).rt (pinned+i)=some ⟨true,t,y⟩:=by
  intro i t y hi
  have e:pinned+i-pinned=i:=by omega
  have e':decide (pinned+i<pinned)=false:=by simp
  simp only [ini,e,e',hi,cond_false]
 have hpin:∀ i n b,nmOf (refIdx ps 0) us i=some n→σ.g n=.at b 0→(calleeBase fz B w σ ps us).pin i=some b:=fun i n b hn hg=>by
  simp only [calleeBase,hn,hg]
 refine ⟨⟨fun m r hr=>?_,fun m hm=>?_,fun m=>?_,fun m m' hne c hc hc'=>?_,fun m p hp=>?_,fun i hi=>?_,trivial,Nat.le_refl _,fun b _ _=>rfl,fun c hc=>.inl ?_,fun i b hb hne=>?_,rfl⟩,fun i hi=>?_⟩
 ·obtain ⟨i,t,y,rfl,hi,rfl⟩:=hini m r hr
  obtain ⟨n,b,h1,h2,h3,h4,h5⟩:=href i t y hi
  rw [←hmemo,(hgpin i n h1).1,(hgpin i n h1).2]
  exact (h.roots n _ h4).mono hsh
 ·cases ho:(calleeGh σ ps us).ow m with
  |nil=>rfl
  |cons p l=>
   obtain ⟨h1,n,h2,h3,h4⟩:=how m p.1 (by rw [ho];simp)
   obtain ⟨-,t,y,b,h5,-⟩:=hnm _ _ h2
   have:=hinirt _ t y h5
   rw [show pinned+(m-pinned)=m from by omega,hm] at this
   cases this
 ·simp only [calleeGh]
  split
  ·simp
  ·split
   ·exact h.nodup _
   ·simp
 ·obtain ⟨h1,n,h2,h3,h4⟩:=how m c hc
  obtain ⟨h1',n',h2',h3',h4'⟩:=how m' c hc'
  by_cases e:n=n'
  ·subst e
   have:=hinj _ _ _ h2 h2'
   exact hne (by omega)
  ·exact h.disj n n' e c h4 h4'
 ·have hc:=how m p.1 (List.mem_map_of_mem hp)
  obtain ⟨h1,n,h2,h3,h4⟩:=hc
  have e:¬ m<pinned:=by omega
  simp only [calleeGh,if_neg e,h2] at hp
  exact h.live n p hp
 ·have hlt:i<(pitems ps x).length:=by rw [pitems_length];exact hi
  have hvl:i<vs.length:=by rw [hl];exact hi
  have hv:vs[i]?=some vs[i]:=List.getElem?_eq_getElem hvl
  have hit:(pitems ps x)[i]?=some (pitems ps x)[i]:=List.getElem?_eq_getElem hlt
  show SVOk _ _ _ _ ((ini ps x).sl i) (vs.toArray.getD i undef)
  rw [hget i _ hv]
  revert hit
  generalize (pitems ps x)[i]=it
  intro hit
  obtain ⟨p,y⟩:=it
  cases p with
  |v t=>
   have e:(ini ps x).sl i=.one (.val t y):=by simp only [ini,hit]
   rw [e]
   have:=ha.vals i t y _ hit hv
   refine this.frame (fun c j _=>by rw [hmemo]) (fun c hc=>?_)
   rcases hc with hc|⟨hf,n,-,hn,hc⟩
   ·exact hsh c hc
   ·refine ⟨h.lt ⟨n,hc⟩,.inl (.inr ⟨hf,n,hc⟩),fun g=>?_⟩
    obtain ⟨n',h1,h2⟩:=hown c g
    exact h.disj n n' (fun e=>hn (e▸h1)) c hc h2
  |r t=>
   have e:(ini ps x).sl i=.one (.ptr (pinned+i) []):=by simp only [ini,hit]
   rw [e]
   obtain ⟨n,b,h1,h2,h3,h4,h5⟩:=href i t y hit
   rw [hv] at h3
   simp only [sj] at h3
   rw [h3]
   refine ⟨⟨true,t,y⟩,t,b,0,hinirt i t y hit,?_,rfl⟩
   rw [(hgpin i n h1).1,h5];rfl
 ·obtain ⟨n,h1,h2⟩:=hown c hc
  exact ⟨n,h1,h2⟩
 ·have hne':∃ r,(ini ps x).rt (pinned+i)=some r:=Option.ne_none_iff_exists'.1 hne
  obtain ⟨r,hr⟩:=hne'
  obtain ⟨i',t,y,e,hi,-⟩:=hini _ r hr
  obtain rfl:i'=i:=by omega
  obtain ⟨n,b',h1,h2,h3,h4,h5⟩:=href i' t y hi
  rw [hpin i' n b' h1 h5] at hb
  simp only [sj] at hb
  rw [(hgpin i' n h1).1,h5,hb]
 ·obtain ⟨k,hk⟩:=List.mem_iff_getElem?.1 hi
  have hlt:k<us.length:=by rw [ha.len];exact (List.getElem?_eq_some_iff.1 hk).1
  obtain ⟨i',t',y',b,j1,j2,j3,j4,j5⟩:=ha.refs k _ (List.getElem?_eq_getElem hlt)
  rw [hk] at j1
  simp only [Nat.zero_add,sj] at j1
  subst j1
  exact ⟨b,hpin _ _ b (nmOf_of _ _ k i _ hk (List.getElem?_eq_getElem hlt) (huniq k i hk)) j5,hget _ _ j3⟩
end
end Go.Ab
namespace Go.Ab
theorem collect_nil {α:Type} {f:Nat→Option (α×Owns×List Nat)}:∀ (n i:Nat) {xs os rs},collect f n i=some (xs,os,rs)→(∀ j x o r,f j=some (x,o,r)→o=[]∧r=[])→os=[]∧rs=[]
 |0,i,xs,os,rs,h,_=>by simp [collect] at h;simp [h]
 |n+1,i,xs,os,rs,h,hf=>by
  simp only [collect] at h
  split at h
  ·cases h
  ·rename_i x o r h1
   split at h
   ·cases h
   ·rename_i xs' os' rs' h2
    simp only [sj,Prod.mk.injEq] at h
    obtain ⟨rfl,rfl,rfl⟩:=h
    obtain ⟨rfl,rfl⟩:=hf _ _ _ _ h1
    obtain ⟨rfl,rfl⟩:=collect_nil n (i+1) h2 hf
    exact ⟨rfl,rfl⟩
theorem dec_nolist {m:Mem}:∀ (t:Ty) {rd:Nat→Option Value} {x O R},t.hasList=false→dec m t rd=some (x,O,R)→O=[]∧R=[]
 |.int k,rd,x,O,R,_,h=>by
  simp only [dec] at h
  split at h
  ·split at h
   ·cases h;exact ⟨rfl,rfl⟩
   ·cases h
  ·cases h
 |.bool,rd,x,O,R,_,h=>by
  simp only [dec] at h
  split at h
  ·cases h;exact ⟨rfl,rfl⟩
  ·cases h
 |.str,rd,x,O,R,_,h=>by
  simp only [dec] at h
  split at h
  ·cases h;exact ⟨rfl,rfl⟩
  ·cases h
 |.unit,rd,x,O,R,_,h=>by
  simp only [dec] at h;cases h;exact ⟨rfl,rfl⟩
 |.pair a b,rd,x,O,R,ht,h=>by
  simp only [Ty.hasList,Bool.or_eq_false_iff] at ht
  obtain ⟨x1,o1,r1,x2,o2,r2,h1,h2,-,rfl,rfl⟩:=dec_pair h
  obtain ⟨rfl,rfl⟩:=dec_nolist a ht.1 h1
  obtain ⟨rfl,rfl⟩:=dec_nolist b ht.2 h2
  exact ⟨rfl,rfl⟩
 |.arr n t,rd,x,O,R,ht,h=>collect_nil n 0 h fun j x o r hj=>dec_nolist t ht hj
 |.list o t,rd,x,O,R,ht,h=>by simp [Ty.hasList] at ht
 |.nl t,rd,x,O,R,ht,h=>by
  obtain ⟨-,-,ho,hr⟩:=dec_nl h
  exact ⟨ho,hr⟩
theorem dec_ownlist {m:Mem} {e:Ty} {rd:Nat→Option Value} {x O R} (he:e.hasList=false) (h:dec m (.list true e) rd=some (x,O,R)):R=[]:=by
 rcases dec_own h with ⟨-,-,-,hr⟩|⟨A,n,c,os,hs,hA,hn,hx,ho⟩
 ·exact hr
 ·exact (collect_nil n 0 hx fun j x o r hj=>dec_nolist e he hj).2
theorem RootOk.anySh {m:Mem} {Sh Sh':Nat→Prop} {r:Root} {s O} (h:RootOk m Sh r s O) (hn:(r.bx=true∧r.t.hasList=false)∨∃ e,r.t=.list true e∧e.hasList=false):RootOk m Sh' r s O:=by
 obtain ⟨O',R,h1,h2,h3⟩:=h.rd
 have hR:R=[]:=by
  rcases hn with ⟨-,hn⟩|⟨e,he,hn⟩
  ·exact (dec_nolist _ hn h1).2
  ·obtain ⟨bx,t,x⟩:=r
   obtain rfl:t=.list true e:=he
   exact dec_ownlist hn h1
 subst hR
 exact ⟨O',[],h1,by simp,h3⟩
theorem VOk.anySh {m:Mem} {Sh Sh':Nat→Prop} {t:Ty} {x:t.den} {v:Value} (h:VOk m Sh t x v) (hn:t.hasList=false):VOk m Sh' t x v:=by
 obtain ⟨h1,h2,R,h3,h4⟩:=h
 obtain ⟨-,rfl⟩:=dec_nolist t hn h3
 exact ⟨h1,h2,[],h3,by simp⟩
theorem resNames_get:∀ (rs:List RA) (n k m:Nat),(resNames rs n)[k]?=some m→m=n+1000*k∧k<rs.length
 | [],_,k,m,h=>by simp [resNames] at h
 |_::rs,n,0,m,h=>by simp only [resNames,List.getElem?_cons_zero,sj] at h;simp [h]
 |_::rs,n,k+1,m,h=>by
  obtain ⟨h1,h2⟩:=resNames_get rs (n+1000) k m (by simpa [resNames] using h)
  exact ⟨by omega,by simpa using h2⟩
theorem resNames_length:∀ (rs:List RA) (n:Nat),(resNames rs n).length=rs.length
 | [],_=>rfl
 |_::rs,n=>by simp [resNames,resNames_length rs]
theorem rootNames_of:∀ (rs:List RA) (n k m:Nat) (r:RA),(resNames rs n)[k]?=some m→rs[k]?=some r→(∀ t,r≠.v t)→m∈rootNames rs n
 | [],_,k,m,r,h,_,_=>by simp [resNames] at h
 |r'::rs,n,0,m,r,h,hr,hv=>by
  simp only [resNames,List.getElem?_cons_zero,sj] at h hr
  subst h;subst hr
  cases r' with
  |v t=>exact absurd rfl (hv t)
  |o e=>simp [rootNames]
  |b t=>simp [rootNames]
 |r'::rs,n,k+1,m,r,h,hr,hv=>by
  have:=rootNames_of rs (n+1000) k m r (by simpa [resNames] using h) (by simpa using hr) hv
  cases r'<;>simp [rootNames,this]
section
variable {ρ:Type} {B:Base} {N:Nat} {tm:Nat→Value} {w:World}
theorem Rel.dropAll:∀ (ns:List Nat) {Γ:AE} {σ:Gh} (_:Rel B Γ N tm w σ) (_:Γ.pd=none) {q:Bool} {us:List Nat} {K:AE→Rs ρ} {z:ρ} (_:Γ.dropAll q us ns K=some z),
  (∀ n∈ns,n<pinned∧n∉us)∧∃ Γ' σ',K Γ'=some z∧Rel B Γ' N tm w σ'∧Γ'.pd=none∧σ'.ov=σ.ov∧(∀ c,Shr B w σ c→Shr B w σ' c)∧(∀ n∈ns,Γ'.rt n=none)∧
   ((∀ n,n∉ns→Γ'.rt n=Γ.rt n∧σ'.ow n=σ.ow n)∧σ'.g=σ.g)∧(∀ n,Γ.rt n=none→Γ'.rt n=none)
 | [],Γ,σ,h,hpd,q,us,K,z,hz=>⟨by simp,Γ,σ,hz,h,hpd,rfl,fun _ g=>g,by simp,⟨fun _ _=>⟨rfl,rfl⟩,rfl⟩,fun _ g=>g⟩
 |n::ns,Γ,σ,h,hpd,q,us,K,z,hz=>by
  simp only [AE.dropAll] at hz
  obtain ⟨hn,hz⟩:=(bif_some hz).elim id fun h=>by cases h.2
  simp only [Bool.and_eq_true,decide_eq_true_eq,Bool.not_eq_true',List.contains_eq_mem,decide_eq_false_iff_not] at hn
  split at hz
  ·rename_i hr
   have ⟨k1,Γ',σ',h1,h2,h3,h4,h5,h6,⟨h7,h8⟩,h9⟩:=Rel.dropAll ns h hpd hz
   refine ⟨fun m hm=>?_,Γ',σ',h1,h2,h3,h4,h5,fun m hm=>?_,⟨fun m hm=>h7 m fun g=>hm (List.mem_cons_of_mem _ g),h8⟩,h9⟩
   ·rcases List.mem_cons.1 hm with rfl|hm
    ·exact hn
    ·exact k1 m hm
   ·rcases List.mem_cons.1 hm with rfl|hm
    ·exact h9 m hr
    ·exact h6 m hm
  ·rename_i r hr
   rcases bif_some hz with ⟨-,g⟩|⟨-,hz⟩
   ·cases g
   ·have hd:=h.drop (n:=n) (by simp [hpd])
    have ⟨k1,Γ',σ',h1,h2,h3,h4,h5,h6,⟨h7,h8⟩,h9⟩:=Rel.dropAll ns hd (by simpa [AE.setRt,AE.mapv] using hpd) hz
    have hnone:((Γ.mapv (AV.drop n)).setRt n none).rt n=none:=by simp [AE.setRt]
    refine ⟨fun m hm=>?_,Γ',σ',h1,h2,h3,h4,fun c hc=>h5 c (Rel.shr_gone c hc),fun m hm=>?_,⟨fun m hm=>?_,h8⟩,fun m hm=>h9 m ?_⟩
    ·rcases List.mem_cons.1 hm with rfl|hm
     ·exact hn
     ·exact k1 m hm
    ·rcases List.mem_cons.1 hm with rfl|hm
     ·exact h9 m hnone
     ·exact h6 m hm
    ·have hmn:m≠n:=fun e=>hm (by simp [e])
     have hmns:m∉ns:=fun g=>hm (List.mem_cons_of_mem _ g)
     obtain ⟨a1,a2⟩:=h7 m hmns
     have e:(m==n)=false:=by simpa using hmn
     exact ⟨a1.trans (by simp [AE.setRt,AE.mapv,e]),a2.trans (by simp [hmn])⟩
    ·simp only [AE.setRt,AE.mapv]
     rw [hm];simp
end
def ents:List Nat→List ((r:RA)×r.ty.den)→List (Src×Owns)→Nat→Option Ent1
 |k::ns,it::its,L::Ls,n=>match rootOf it with
  |some r=>bif n==k then some ⟨r,L.1,L.2⟩ else ents ns its Ls n
  |none=>ents ns its Ls n
 |_,_,_,_=>none
theorem ents_some:∀ (ns:List Nat) its (Ls:List (Src×Owns)) (n:Nat) (e:Ent1),ents ns its Ls n=some e→
  ∃ (k:Nat) (it:(r:RA)×r.ty.den) (L:Src×Owns),ns[k]?=some n∧its[k]?=some it∧Ls[k]?=some L∧rootOf it=some e.r∧e.s=L.1∧e.O=L.2
 | [],its,Ls,n,e,h=>by simp [ents] at h
 |k::ns,[],Ls,n,e,h=>by simp [ents] at h
 |k::ns,it::its,[],n,e,h=>by simp [ents] at h
 |k::ns,it::its,L::Ls,n,e,h=>by
  have rest:ents ns its Ls n=some e→∃ (j:Nat) (it':(r:RA)×r.ty.den) (L':Src×Owns),(k::ns)[j]?=some n∧(it::its)[j]?=some it'∧(L::Ls)[j]?=some L'∧rootOf it'=some e.r∧e.s=L'.1∧e.O=L'.2:=fun h=>by
   obtain ⟨j,it',L',h1,h2,h3,h4⟩:=ents_some ns its Ls n e h
   exact ⟨j+1,it',L',by simpa using h1,by simpa using h2,by simpa using h3,h4⟩
  simp only [ents] at h
  split at h
  ·rename_i r hr
   rcases bif_some h with ⟨hk,h⟩|⟨-,h⟩
   ·simp only [sj] at h
    subst h
    exact ⟨0,it,L,by simpa using (beq_iff_eq.1 hk).symm,rfl,rfl,hr,rfl,rfl⟩
   ·exact rest h
  ·exact rest h
theorem ents_of:∀ (ns:List Nat) its (Ls:List (Src×Owns)) (k n:Nat) it L r,ns[k]?=some n→its[k]?=some it→Ls[k]?=some L→rootOf it=some r→
  (∀ (k':Nat) it',ns[k']?=some n→its[k']?=some it'→rootOf it'≠none→k'=k)→ents ns its Ls n=some ⟨r,L.1,L.2⟩
 | [],its,Ls,k,n,it,L,r,h,_,_,_,_=>by simp at h
 |m::ns,[],Ls,k,n,it,L,r,_,h,_,_,_=>by simp at h
 |m::ns,it'::its,[],k,n,it,L,r,_,_,h,_,_=>by simp at h
 |m::ns,it'::its,L'::Ls,0,n,it,L,r,h1,h2,h3,h4,_=>by
  simp only [List.getElem?_cons_zero,sj] at h1 h2 h3
  subst h1;subst h2;subst h3
  simp [ents,h4]
 |m::ns,it'::its,L'::Ls,k+1,n,it,L,r,h1,h2,h3,h4,hu=>by
  simp only [List.getElem?_cons_succ] at h1 h2 h3
  have ih:=ents_of ns its Ls k n it L r h1 h2 h3 h4 fun k' it2 g1 g2 g3=>by
   have:=hu (k'+1) it2 (by simpa using g1) (by simpa using g2) g3
   omega
  simp only [ents]
  cases hr:rootOf it' with
  |none=>exact ih
  |some r'=>
   have hne:n≠m:=fun e=>by
    have:=hu 0 it' (by simp [e]) rfl (by rw [hr];simp)
    omega
   have e:(n==m)=false:=by simpa using hne
   simp only [e,cond_false]
   exact ih
theorem newRoots_ents:∀ (ns:List Nat) its (Ls:List (Src×Owns)) (n:Nat),Ls.length=its.length→newRoots ns its n=(ents ns its Ls n).map (·.r)
 | [],its,Ls,n,h=>by simp [newRoots,ents]
 |k::ns,[],Ls,n,h=>by simp [newRoots,ents]
 |k::ns,it::its,[],n,h=>by simp at h
 |k::ns,it::its,L::Ls,n,h=>by
  have ih:=newRoots_ents ns its Ls n (by simpa using h)
  simp only [newRoots,ents]
  cases rootOf it with
  |none=>exact ih
  |some r=>cases hk:(n==k)<;>simp [ih]
theorem avsOf_get:∀ (ns:List Nat) its (k:Nat) av,(avsOf ns its)[k]?=some av→∃ (n:Nat) (it:(r:RA)×r.ty.den),ns[k]?=some n∧its[k]?=some it∧av=avOf n it
 | [],its,k,av,h=>by simp [avsOf] at h
 |_::_,[],k,av,h=>by simp [avsOf] at h
 |n::ns,it::its,0,av,h=>by simp only [avsOf,List.getElem?_cons_zero,sj] at h;exact ⟨n,it,rfl,rfl,h.symm⟩
 |n::ns,it::its,k+1,av,h=>by
  obtain ⟨m,it',h1,h2,h3⟩:=avsOf_get ns its k av (by simpa [avsOf] using h)
  exact ⟨m,it',by simpa using h1,by simpa using h2,h3⟩
theorem avsOf_length:∀ (ns:List Nat) (its:List ((r:RA)×r.ty.den)),ns.length≤its.length→(avsOf ns its).length=ns.length
 | [],its,h=>by simp [avsOf]
 |_::_,[],h=>by simp at h
 |_::ns,_::its,h=>by simp only [avsOf,List.length_cons];rw [avsOf_length ns its (by simpa using h)]
theorem rootOf_list:∀ {it:(r:RA)×r.ty.den} {r:Root},rootOf it=some r→it.1.hasList=false→(r.bx=true∧r.t.hasList=false)∨∃ e,r.t=.list true e∧e.hasList=false
 |⟨.v t,x⟩,r,h,_=>by simp [rootOf] at h
 |⟨.o e,x⟩,r,h,hl=>by simp only [rootOf,sj] at h;subst h;exact .inr ⟨e,rfl,hl⟩
 |⟨.b t,x⟩,r,h,hl=>by simp only [rootOf,sj] at h;subst h;exact .inl ⟨rfl,hl⟩
theorem ItemOk.root {m Sh}:∀ {it:(r:RA)×r.ty.den} {v L r},ItemOk m Sh it v L→rootOf it=some r→RootOk m Sh r L.1 L.2
 |⟨.v t,x⟩,v,L,r,h,hr=>by simp [rootOf] at hr
 |⟨.o e,x⟩,v,L,r,h,hr=>by simp only [rootOf,sj] at hr;subst hr;exact h.2
 |⟨.b t,x⟩,v,L,r,h,hr=>by simp only [rootOf,sj] at hr;subst hr;exact h.1
end Go.Ab
namespace Go.Ab
@[reducible] def Fr (ro:Option Nat):Fence:={ fn:=fun _=>True,depth:=none,alive:=false,round:=ro }
theorem calls_fr {ro:Option Nat} {n:Nat} {P:Program} {f:FuncId} {args:Array Value} {w:World} {R:Ending→World→Prop} (h:Calls P f args w R):CallsIn (Fr ro) n P f args w R:=
 (callsIn_wide (n:=n)).2 h
theorem owp_of {ro:Option Nat} {P:Program} {o:Oper} {a:Act} {w:World} {next:Act→World→Prop} {Q:Exit→Act→World→Prop} (hnd:∀ c,o.op≠.defer c) (h:o.uponIn (Fr ro) 0 P a next Q ((execOp a.eval o).run P w)):
  o.wpIn (Fr ro) 0 P a w next Q:=
 ⟨fun _ _=>trivial,by rw [Oper.semAt_eq _ _ _ hnd];exact h⟩
theorem run_call {P:Program} {f:FuncId} (hb:Bodied P f) {o:Oper} {c:Call} (ho:o.op=.call c) (hc:c.callee=.value (.func f)) (a:Act) (w:World):
  (execOp a.eval o).run P w=.ok (.enter f (c.args.map a.eval)) w:=by
 obtain ⟨fn,c',h1,h2,h3⟩:=hb
 have h4 : ¬ fn.name = "runtime.NumGoroutine" := by simpa using h3
 simp [execOp,ho,resolve,hc,Act.eval,Deferred.ofValue,invoke,callFunc,program,Sem.run,h1,h2,h4,Result.andThen]
theorem run_callClo {P:Program} {f:FuncId} (hb:Bodied P f) {o:Oper} {c:Call} {t:Nat} (ho:o.op=.call c) (hc:c.callee=.value (.tmp t)) (a:Act) (w:World) {us:Array Value} (hv:a.eval (.tmp t)=.func (.func f) #[] us):
  (execOp a.eval o).run P w=.ok (.enter f (c.args.map a.eval++us)) w:=by
 obtain ⟨fn,c',h1,h2,h3⟩:=hb
 have h4 : ¬ fn.name = "runtime.NumGoroutine" := by simpa using h3
 simp [execOp,ho,resolve,hc,hv,Deferred.ofValue,invoke,callFunc,program,Sem.run,h1,h2,h4,Result.andThen]
section
variable {P:Program} {B:Base} {N:Nat} {ρ:Type} {Γ:AE} {a:Act} {w:World} {σ:Gh} {ro:Option Nat}
theorem GOk.callee {G:GTab} (hG:GOk G B) {tm:Nat→Value} (h:Rel B Γ N tm w σ) (fz:Bool) (ps:List PA) (us:List Nat):GOk G (calleeBase fz B w σ ps us):=by
 intro g t x hg
 obtain ⟨h1,h2,h3,w0,h4,h5⟩:=hG g t x hg
 have hno:¬ Owned σ g:=fun ho=>by
  rcases h.mine _ ho with q|q
  ·exact h3 q
  ·omega
 have hsz:=h.size
 exact ⟨Nat.lt_of_lt_of_le h1 hsz,.inl ⟨Nat.lt_of_lt_of_le h1 hsz,.inl h2,hno⟩,fun ⟨n,_,hn⟩=>hno ⟨n,hn⟩,w0,h4.trans (h.frame g h1 h3).symm,h5⟩
theorem call_core {o:Oper} {avs:List AV} {vals:List Value} {f:FuncId} {s:FSem} {q:Bool} {K:AE→Rs ρ} {z:ρ} {next:Act→World→Prop} {Q:Exit→Act→World→Prop} {G:GTab}
  (hnd:∀ c,o.op≠.defer c) (hrun:(execOp a.eval o).run P w=.ok (.enter f vals.toArray) w) (hlen:avs.length=vals.length) (havs:∀ (i:Nat) av v,avs[i]?=some av→vals[i]?=some v→AVOk (memo w σ.ov) σ.g Γ.rt (Shr B w σ) av v) (hG:GOk G B) (hF:FSound P G f s)
  (h:Rel B Γ N (tmOf a) w σ) (hN:a.tmps.size=N) (hz:Γ.call q o.dst s avs K=some z)
  (hnext:∀ v w' Γ' σ',Rel B Γ' N (tmOf (a.put o.dst v)) w' σ'→K Γ'=some z→next (a.put o.dst v) w'):o.wpIn (Fr ro) 0 P a w next Q:=by
 refine owp_of hnd ?_
 rw [hrun,Oper.uponIn_enter]
 refine ⟨fun h=>(by cases h),calls_fr ?_⟩
 unfold AE.call at hz
 split at hz
 ·cases hz
 rename_i hpd
 have hov:=h.ov_none hpd
 obtain ⟨hl,x,Γ',σ',us,hz1,h',ev,bx,hsame,-,ha⟩:=Rel.args s.ps avs vals (i0:=0) h (fun i av v h1 h2=>.inl (havs i av v h1 h2)) (by omega) hz
 clear hz
 obtain ⟨fz,hfz⟩:∃ fz,(s.rs.any RA.hasList || (refsOf s.ps).any Ty.hasList)=fz:=⟨_,rfl⟩
 rw [hfz] at ha hsame
 have hpd':Γ'.pd=none:=ev.pd.trans hpd
 have hov':σ'.ov=none:=ev.ov.trans hov
 obtain ⟨hnames,Γ1,σ1,hz2,h1,hpd1,hov1,hshr,hnone,⟨hkeep,hg1⟩,hnone'⟩:=Rel.dropAll _ h' hpd' hz1
 clear hz1
 obtain ⟨y,hy,hz3⟩:=Option.bind_eq_some_iff.1 hz2
 clear hz2
 obtain ⟨hrel0,hpins0⟩:=h'.enter hov' ha (by omega)
 obtain ⟨ns,hns⟩:∃ ns,resNames s.rs (o.dst.getD 0+1000)=ns:=⟨_,rfl⟩
 have hus:(us.reverse++[]).reverse=us:=by simp
 obtain ⟨rn,hrn⟩:∃ rn,rootNames s.rs (o.dst.getD 0+1000)=rn:=⟨_,rfl⟩
 rw [hrn] at hnames hnone hkeep
 refine (hF w _ _ _ x y (hG.callee h' _ _ _) hy rfl (fun _=>rfl) rfl (by rw [List.size_toArray];omega) hrel0 hpins0).mono ?_
 rintro e w' ⟨vr,Ls,rfl,hvr,bk⟩
 simp only []
 obtain ⟨its,hits⟩:∃ its,items (RA.all s.ps s.rs) y=its:=⟨_,rfl⟩
 obtain ⟨vs,hvs⟩:∃ vs,vr++(refIdx s.ps 0).map (fun i=>vals.toArray.getD i undef)=vs:=⟨_,rfl⟩
 rw [hits,hvs] at bk
 have hitl:its.length=s.rs.length+us.length:=by
  rw [←hits,items_length,RA.all,List.length_append,List.length_map,ha.len,refsOf_length]
 have hnsl:ns.length=s.rs.length:=by rw [←hns,resNames_length]
 have hnotus:∀ n∈rn,n<pinned∧n∉us:=fun n hn=>by
  have:=hnames n hn
  simpa using this

 have hrooted:∀ (k n:Nat) it,(ns++us)[k]?=some n→its[k]?=some it→rootOf it≠none→(k<ns.length∧n∈rn∧n=o.dst.getD 0+1000+1000*k)∨(ns.length≤k∧us[k-ns.length]?=some n):=by
  intro k n it h1 h2 h3
  by_cases hk:k<ns.length
  ·rw [List.getElem?_append_left hk] at h1
   have hf:=items_fst (RA.all s.ps s.rs) y k it (by rw [hits];exact h2)
   rw [RA.all,List.getElem?_append_left (by omega)] at hf
   refine .inl ⟨hk,?_,?_⟩
   ·rw [←hrn]
    exact rootNames_of s.rs _ k n it.1 (by rw [hns];exact h1) hf fun t ht=>h3 (by
     obtain ⟨r,xx⟩:=it
     obtain rfl:r=.v t:=ht
     rfl)
   ·exact (resNames_get s.rs _ k n (by rw [hns];exact h1)).1
  ·rw [List.getElem?_append_right (by omega)] at h1
   exact .inr ⟨by omega,h1⟩
 have huniq:∀ (k k' n:Nat) it it',(ns++us)[k]?=some n→its[k]?=some it→rootOf it≠none→(ns++us)[k']?=some n→its[k']?=some it'→rootOf it'≠none→k'=k:=by
  intro k k' n it it' h1 h2 h3 h4 h5 h6
  rcases hrooted k n it h1 h2 h3 with ⟨a1,a2,a3⟩|⟨a1,a2⟩
  ·rcases hrooted k' n it' h4 h5 h6 with ⟨b1,b2,b3⟩|⟨b1,b2⟩
   ·omega
   ·exact absurd (List.mem_of_getElem? b2) (hnotus n a2).2
  ·rcases hrooted k' n it' h4 h5 h6 with ⟨b1,b2,b3⟩|⟨b1,b2⟩
   ·exact absurd (List.mem_of_getElem? a2) (hnotus n b2).2
   ·obtain ⟨c1,c2⟩:=List.getElem?_eq_some_iff.1 a2
    obtain ⟨c3,c4⟩:=List.getElem?_eq_some_iff.1 b2
    have hp:=List.pairwise_iff_getElem.1 ha.nodup
    rcases Nat.lt_trichotomy (k-ns.length) (k'-ns.length) with g|g|g
    ·exact absurd (c2.trans c4.symm) (hp _ _ c1 c3 g)
    ·omega
    ·exact absurd (c4.trans c2.symm) (hp _ _ c3 c1 g)
 let E:Nat→Option Ent1:=ents (ns++us) its Ls
 have hEu:∀ n∈us,∃ e b,E n=some e∧e.s=.at b 0∧σ'.g n=.at b 0∧∃ t y,Γ'.rt n=some ⟨true,t,y⟩:=by
  intro n hn
  obtain ⟨k,hk⟩:=List.mem_iff_getElem?.1 hn
  obtain ⟨i,t,y',b,j1,j2,j3,j4,j5⟩:=ha.refs k n hk
  have hklt:k<us.length:=(List.getElem?_eq_some_iff.1 hk).1
  have hit:(ns.length+k)<its.length:=by omega
  have hitk:=List.getElem?_eq_getElem hit
  have hLk:=List.getElem?_eq_getElem (show ns.length+k<Ls.length by rw [bk.ll];exact hit)
  have hfst:=items_fst (RA.all s.ps s.rs) y (ns.length+k) _ (by rw [hits];exact hitk)
  have hnk:(ns++us)[ns.length+k]?=some n:=by rw [List.getElem?_append_right (by omega)];simpa using hk
  have hall:∃ t',(RA.all s.ps s.rs)[ns.length+k]?=some (.b t'):=by
   rw [RA.all,List.getElem?_append_right (by omega),hnsl,Nat.add_sub_cancel_left,List.getElem?_map]
   have:k<(refsOf s.ps).length:=by rw [←refsOf_length s.ps 0,←ha.len];exact hklt
   rw [List.getElem?_eq_getElem this]
   exact ⟨_,rfl⟩
  obtain ⟨t',ht'⟩:=hall
  rw [ht'] at hfst
  simp only [sj] at hfst
  have hvk:vs[ns.length+k]?=some (.pointer (some ⟨b,0,none⟩)):=by
   rw [←hvs,List.getElem?_append_right (by omega),hvr,hnsl,Nat.add_sub_cancel_left,List.getElem?_map,j1]
   simp only [Option.map_some,Nat.zero_add,sj]
   simp only [Array.getD_eq_getD_getElem?,List.getElem?_toArray,j3,Option.getD_some]
  have hok:=bk.ok _ _ _ _ hitk hvk hLk
  revert hfst hok hitk
  generalize its[ns.length+k]=it
  obtain ⟨r,xx⟩:=it
  intro hitk hfst hok
  obtain rfl:RA.b t'=r:=hfst
  obtain ⟨hr,b',hs,hv⟩:=hok
  simp only [Value.pointer.injEq,sj,Addr.mk.injEq,and_true] at hv
  subst hv
  exact ⟨_,b,ents_of (ns++us) its Ls (ns.length+k) n _ _ _ hnk hitk hLk rfl (fun k' it' g1 g2 g3=>huniq _ k' n _ it' hnk hitk (by simp [rootOf]) g1 g2 g3),hs,j5,t,y',j4⟩
 have hEsome:∀ n e,E n=some e→∃ (k:Nat) (it:(r:RA)×r.ty.den) (v:Value) (L:Src×Owns),(ns++us)[k]?=some n∧its[k]?=some it∧vs[k]?=some v∧Ls[k]?=some L∧rootOf it=some e.r∧e.s=L.1∧e.O=L.2∧
   ItemOk (cells w') (fun c=>c<w'.heap.size∧((calleeBase fz B w σ' s.ps us).S c∨(calleeBase fz B w σ' s.ps us).F c∨(calleeBase fz B w σ' s.ps us).size≤c)∧∀ L∈Ls,c∉L.2.map (·.1)) it v L:=by
  intro n e he
  obtain ⟨k,it,L,j1,j2,j3,j4⟩:=ents_some _ _ _ _ _ he
  have hlt:k<vs.length:=by rw [bk.lv];exact (List.getElem?_eq_some_iff.1 j2).1
  have hv:=List.getElem?_eq_getElem hlt
  exact ⟨k,it,vs[k],L,j1,j2,hv,j3,j4.1,j4.2.1,j4.2.2,bk.ok _ _ _ _ j2 hv j3⟩
 have hmemE:∀ n e,E n=some e→n∈rn∨n∈us:=fun n e he=>by
  obtain ⟨k,it,v,L,j1,j2,-,-,j4,-⟩:=hEsome n e he
  rcases hrooted k n it j1 j2 (by rw [j4];simp) with ⟨-,g,-⟩|⟨-,g⟩
  ·exact .inl g
  ·exact .inr (List.mem_of_getElem? g)
 have hous:∀ n∈us,Γ1.rt n=Γ'.rt n∧σ1.ow n=σ'.ow n:=fun n hn=>hkeep n fun g=>(hnotus n g).2 hn
 have hW:Work w w' σ1 (calleeBase fz B w σ' s.ps us).F E:={
  own:=fun c ⟨n,hn,hc⟩=>by
   obtain ⟨e,b,he,-⟩:=hEu n hn
   exact ⟨n,e,he,by rw [(hous n hn).2];exact hc⟩
  size:=bk.size
  still:=bk.still
  same:=fun b hb hF'=>bk.frame b hb hF'
  mine:=fun n e c he hc=>by
   obtain ⟨k,it,v,L,j1,j2,jv,j3,j4,j5,j6,j7⟩:=hEsome n e he
   rw [j6] at hc
   exact bk.mine L (List.mem_of_getElem? j3) c hc
  nodup:=fun n e he=>by
   obtain ⟨k,it,v,L,j1,j2,jv,j3,j4,j5,j6,j7⟩:=hEsome n e he
   rw [j6];exact bk.nodup L (List.mem_of_getElem? j3)
  disj:=fun n e n' e' he he' hne c hc hc'=>by
   obtain ⟨k,it,v,L,j1,j2,jv,j3,j4,j5,j6,j7⟩:=hEsome n e he
   obtain ⟨k',it',v',L',i1,i2,iv,i3,i4,i5,i6,i7⟩:=hEsome n' e' he'
   rw [j6] at hc
   rw [i6] at hc'
   exact bk.disj k k' L L' j3 i3 (fun g=>by subst g;rw [j1] at i1;exact hne (Option.some.inj i1)) c hc hc'
  live:=fun n e p he hp=>by
   obtain ⟨k,it,v,L,j1,j2,jv,j3,j4,j5,j6,j7⟩:=hEsome n e he
   rw [j6] at hp
   exact bk.live L (List.mem_of_getElem? j3) p hp }

 have hShB:∀ c,(c<w'.heap.size∧((calleeBase fz B w σ' s.ps us).S c∨(calleeBase fz B w σ' s.ps us).F c∨(calleeBase fz B w σ' s.ps us).size≤c)∧∀ L∈Ls,c∉L.2.map (·.1))→fz=true→
   (c<w'.heap.size∧(Shr B w σ1 c∨(calleeBase fz B w σ' s.ps us).F c∨w.heap.size≤c)∧∀ n e,E n=some e→c∉e.O.map (·.1)):=by
  rintro c ⟨g1,g2,g3⟩ hfzt
  refine ⟨g1,?_,fun n e he=>?_⟩
  ·rcases g2 with (g2|⟨g2,-⟩)|g2|g2
   ·exact .inl (hshr c g2)
   ·rw [hfzt] at g2;cases g2
   ·exact .inr (.inl g2)
   ·exact .inr (.inr g2)
  ·obtain ⟨k,it,v,L,j1,j2,jv,j3,j4,j5,j6,j7⟩:=hEsome n e he
   rw [j6];exact g3 L (List.mem_of_getElem? j3)
 have hnoList:fz=false→∀ (k:Nat) it,its[k]?=some it→it.1.hasList=false:=by
  intro hf0 k it hk
  have h1:=items_fst (RA.all s.ps s.rs) y k it (by rw [hits];exact hk)
  rw [←hfz] at hf0
  simp only [Bool.or_eq_false_iff,List.any_eq_false,Bool.not_eq_true] at hf0
  have hm:=List.mem_of_getElem? h1
  simp only [RA.all,List.mem_append,List.mem_map] at hm
  rcases hm with hm|⟨t,ht,he⟩
  ·exact hf0.1 _ hm
  ·rw [←he];exact hf0.2 t ht
 have hroot:∀ n e,E n=some e→RootOk (cells w') (fun c=>c<w'.heap.size∧(Shr B w σ1 c∨(calleeBase fz B w σ' s.ps us).F c∨w.heap.size≤c)∧∀ n e,E n=some e→c∉e.O.map (·.1)) e.r e.s e.O:=by
  intro n e he
  obtain ⟨k,it,v,L,j1,j2,jv,j3,j4,j5,j6,j7⟩:=hEsome n e he
  have hr:=j7.root j4
  rw [j5,j6]
  cases hfz':fz with
  |true=>
   rw [hfz'] at hr hShB
   exact hr.mono fun c hc=>hShB c hc rfl
  |false=>exact hr.anySh (rootOf_list j4 (hnoList hfz' k it j2))
 obtain ⟨hM,hMsh⟩:=h1.merge (hov1.trans hov') hW hroot (fun i b e hb he=>by
   rcases hmemE _ e he with g|g
   ·exact absurd (hnotus _ g).1 (by omega)
   ·obtain ⟨e',b',he',hs,hg,t,y',hrt⟩:=hEu _ g
    rw [he] at he'
    simp only [sj] at he'
    subst he'
    have:=h'.pins i b hb (by rw [hrt];simp)
    rw [hg] at this
    rw [hs];exact this) (f:=AV.deeps us) (fun av v hav=>by
   have key:∀ k q,(av=.ptr k q∨av=.sref k q∨∃ o l,av=.swin k q o l)→k∉us→E k=none:=fun k q hk hku=>by
    cases he:E k with
    |none=>rfl
    |some e=>
     rcases hmemE k e he with g|g
     ·have hn:=hnone k g
      rcases hk with rfl|rfl|⟨o,l,rfl⟩
      ·obtain ⟨r,t,b,o,g1,-⟩:=hav;rw [hn] at g1;cases g1
      ·obtain ⟨r,e,s,g1,-⟩:=hav;rw [hn] at g1;cases g1
      ·obtain ⟨r,e,s,_,_,_,g1,-⟩:=hav;rw [hn] at g1;cases g1
     ·exact absurd g hku
   cases av with
   |sref m p=>
    simp only [AV.deeps]
    split
    ·exact .inl rfl
    ·rename_i hm
     refine .inr ⟨rfl,fun k p' hk=>.inl (key k p' hk ?_)⟩
     rcases hk with g|g|⟨o,l,g⟩<;>cases g
     simpa using hm
   |swin m p o l=>
    simp only [AV.deeps]
    split
    ·exact .inl rfl
    ·rename_i hm
     refine .inr ⟨rfl,fun k p' hk=>.inl (key k p' hk ?_)⟩
     rcases hk with g|g|⟨o,l,g⟩<;>cases g
     simpa using hm
   |ptr m p=>
    simp only [AV.deeps]
    split
    ·rename_i hm
     cases p with
     |cons=>exact .inl rfl
     |nil=>
      refine .inr ⟨rfl,fun k p' hk=>.inr ?_⟩
      rcases hk with g|g|⟨o,l,g⟩<;>cases g
      obtain ⟨e,b,he,hs,hg,-⟩:=hEu m (by simpa using hm)
      exact ⟨rfl,e,b,he,hs,by rw [hg1];exact hg⟩
    ·rename_i hm
     refine .inr ⟨rfl,fun k p' hk=>.inl (key k p' hk ?_)⟩
     rcases hk with g|g|⟨o,l,g⟩<;>cases g
     simpa using hm
   |_=>exact .inr ⟨rfl,fun k p' hk=>by rcases hk with g|g|⟨o,l,g⟩<;>cases g⟩)

 have hres:∀ (k:Nat) av,(avsOf ns its)[k]?=some av→∃ u,vr[k]?=some u∧AVOk (memo w' none) (mergedG σ1 E).g (merged Γ1 (AV.deeps us) E).rt (Shr B w' (mergedG σ1 E)) av u:=by
  intro k av hk
  obtain ⟨n,it,g1,g2,rfl⟩:=avsOf_get _ _ _ _ hk
  have hkl:k<vr.length:=by rw [hvr,←hnsl];exact (List.getElem?_eq_some_iff.1 g1).1
  have hvk:=List.getElem?_eq_getElem hkl
  have hvsk:vs[k]?=some vr[k]:=by rw [←hvs,List.getElem?_append_left hkl];exact hvk
  have hkL:k<Ls.length:=by rw [bk.ll];exact (List.getElem?_eq_some_iff.1 g2).1
  have hLk:=List.getElem?_eq_getElem hkL
  have hok:=bk.ok _ _ _ _ g2 hvsk hLk
  have hnk:(ns++us)[k]?=some n:=by rw [List.getElem?_append_left (by omega)];exact g1
  refine ⟨vr[k],hvk,?_⟩
  have hents:∀ r,rootOf it=some r→E n=some ⟨r,Ls[k].1,Ls[k].2⟩:=fun r hr=>ents_of (ns++us) its Ls k n it _ r hnk g2 hLk hr (fun k' it' a1 a2 a3=>huniq _ k' n _ it' hnk g2 (by rw [hr];simp) a1 a2 a3)
  obtain ⟨r,xx⟩:=it
  cases r with
  |v t=>
   obtain ⟨hv,-⟩:=hok
   cases hfz':fz with
   |true=>
    rw [hfz'] at hv hShB hMsh
    exact hv.frame (fun _ _ _=>rfl) fun c hc=>hMsh c (hShB c hc rfl)
   |false=>exact hv.anySh (hnoList hfz' k _ g2)
  |o e=>
   obtain ⟨hs,-⟩:=hok
   have he:=hents _ rfl
   refine ⟨_,e,.one vr[k],merged_rt_some he,?_,rfl⟩
   rw [mergedG_g_some he]
   show some (_,Ls[k].1)=_
   rw [hs]
  |b t=>
   obtain ⟨-,b,hs,hv⟩:=hok
   have he:=hents _ rfl
   refine ⟨_,t,b,0,merged_rt_some he,?_,hv⟩
   rw [mergedG_g_some he]
   show some (_,Ls[k].1)=_
   rw [hs]
 have hΓ2:(⟨fun i=>(Γ1.sl i).mapv (AV.deeps (us.reverse++[])),fun n=>match newRoots (ns++us) its n with
    |some r=>some r
    |none=>Γ1.rt n,none⟩:AE)=merged Γ1 (AV.deeps us) E:=by
  have e1:AV.deeps (us.reverse++[])=AV.deeps us:=by
   funext av
   cases av<;>simp [AV.deeps]
  rw [e1]
  simp only [merged,AE.mapv,E]
  congr 1
  funext n
  rw [newRoots_ents _ _ Ls n bk.ll]
  cases ents (ns++us) its Ls n<;>rfl
 have hz:(match o.dst with
   |none=>K (merged Γ1 (AV.deeps us) E)
   |some d=>match avsOf (resNames s.rs (d+1000)) its with
    | [v]=>K ((merged Γ1 (AV.deeps us) E).set d v)
    |vs=>K ((merged Γ1 (AV.deeps us) E).put d (.cmp .tup vs)))=some z:=by
  rw [hus,hns,hits] at hz3
  rw [←hΓ2]
  exact hz3
 cases hd:o.dst with
 |none=>
  rw [hd] at hz hnext
  simp only [] at hz
  exact hnext _ w' _ _ hM hz
 |some d=>
  have hns':resNames s.rs (d+1000)=ns:=by rw [←hns,hd];rfl
  rw [hd] at hz hnext
  simp only [hns'] at hz
  have hlen:(avsOf ns its).length=vr.length:=by rw [avsOf_length _ _ (by omega),hnsl,hvr]
  split at hz
  ·rename_i av hav
   rw [hav] at hlen hres
   obtain ⟨u,hu,hok⟩:=hres 0 av rfl
   have hvr1:vr=[u]:=by
    match vr,hlen,hu with
    | [u'],_,hu=>simp only [List.getElem?_cons_zero,sj] at hu;rw [hu]
   refine hnext _ w' _ _ (hM.putd (sv:=.one av) (v:=packV vr) (d:=d) hN (fun _=>?_)) hz
   rw [hvr1];exact hok
  ·rename_i hne
   refine hnext _ w' _ _ (hM.putd (sv:=.cmp .tup (avsOf ns its)) (v:=packV vr) (d:=d) hN (fun _=>?_)) hz
   refine ⟨vr.toArray,?_,fun k av hk=>?_⟩
   ·match vr,hlen with
    | [],_=>rfl
    | [u],hlen=>
     obtain ⟨av,hav⟩:=List.length_eq_one_iff.1 (hlen.trans rfl)
     exact absurd hav (hne av)
    |_::_::_,_=>rfl
   ·obtain ⟨u,hu,hok⟩:=hres k av hk
    exact ⟨u,by simpa using hu,hok⟩
theorem call_sound {o:Oper} {c:Call} {f:FuncId} {s:FSem} {q:Bool} {K:AE→Rs ρ} {z:ρ} {next:Act→World→Prop} {Q:Exit→Act→World→Prop} {G:GTab} (ho:o.op=.call c) (hc:c.callee=.value (.func f)) (hG:GOk G B) (hF:FSound P G f s) (hB:Bodied P f)
  (h:Rel B Γ N (tmOf a) w σ) (hN:a.tmps.size=N) (hf:fits N o=true) (hz:Γ.call q o.dst s (c.args.toList.map Γ.opd) K=some z)
  (hnext:∀ v w' Γ' σ',Rel B Γ' N (tmOf (a.put o.dst v)) w' σ'→K Γ'=some z→next (a.put o.dst v) w'):o.wpIn (Fr ro) 0 P a w next Q:=by
 have hopd:∀ x∈c.args.toList,opdOk N x=true:=fun x hx=>fits_op hf x (by simp only [ho,Op.operands,Call.operands,hc];simp;exact .inr (by simpa using hx))
 refine call_core (vals:=c.args.toList.map a.eval) (fun c' h'=>by rw [ho] at h';cases h') (by rw [run_call hB ho hc,←Array.toList_map]) (by simp) (fun i av v h1 h2=>?_) hG hF h hN hz hnext
 rw [List.getElem?_map] at h1 h2
 cases hi:c.args.toList[i]? with
 |none=>rw [hi] at h1;cases h1
 |some o'=>
  rw [hi] at h1 h2
  simp only [Option.map_some,sj] at h1 h2
  subst h1;subst h2
  exact h.opd (hopd o' (List.mem_of_getElem? hi))
theorem clo_sound {o:Oper} {c:Call} {t:Nat} {vs:List AV} {f:FuncId} {s:FSem} {q:Bool} {K:AE→Rs ρ} {z:ρ} {next:Act→World→Prop} {Q:Exit→Act→World→Prop} {G:GTab} (ho:o.op=.call c) (hc:c.callee=.value (.tmp t)) (hs:Γ.sl t=.cmp (.clo f) vs)
  (hG:GOk G B) (hF:FSound P G f s) (hB:Bodied P f)
  (h:Rel B Γ N (tmOf a) w σ) (hN:a.tmps.size=N) (hf:fits N o=true) (hz:Γ.call q o.dst s (c.args.toList.map Γ.opd++vs) K=some z)
  (hnext:∀ v w' Γ' σ',Rel B Γ' N (tmOf (a.put o.dst v)) w' σ'→K Γ'=some z→next (a.put o.dst v) w'):o.wpIn (Fr ro) 0 P a w next Q:=by
 have hopd:∀ x∈c.args.toList,opdOk N x=true:=fun x hx=>fits_op hf x (by simp only [ho,Op.operands,Call.operands,hc];simp;exact .inr (by simpa using hx))
 have ht:t<N:=by
  have:=fits_op hf (.tmp t) (by simp only [ho,Op.operands,Call.operands,hc];simp)
  simpa [opdOk] using this
 have hsl:=h.slots t ht
 rw [hs] at hsl
 obtain ⟨us,⟨h1,h2⟩,h3⟩:=hsl
 have h2:a.eval (.tmp t)=.func (.func f) #[] us:=h2
 refine call_core (vals:=c.args.toList.map a.eval++us.toList) (fun c' h'=>by rw [ho] at h';cases h') (by rw [run_callClo hB ho hc a w h2];simp) (by simp [h1]) (fun i av v g1 g2=>?_) hG hF h hN hz hnext
 by_cases hi:i<c.args.toList.length
 ·rw [List.getElem?_append_left (by simpa using hi),List.getElem?_map] at g1 g2
  cases hi':c.args.toList[i]? with
  |none=>rw [hi'] at g1;cases g1
  |some o'=>
   rw [hi'] at g1 g2
   simp only [Option.map_some,sj] at g1 g2
   subst g1;subst g2
   exact h.opd (hopd o' (List.mem_of_getElem? hi'))
 ·rw [List.getElem?_append_right (by simpa using hi),List.length_map] at g1 g2
  obtain ⟨u,h4,h5⟩:=h3 _ av g1
  rw [Array.getElem?_toList,h4] at g2
  simp only [sj] at g2
  subst g2
  exact h5
end
end Go.Ab
namespace Go.Ab
theorem noDup_nodup:∀ (l:List Nat),noDup l=true→l.Nodup
 | [],_=>List.nodup_nil
 |a::l,h=>by
  simp only [noDup,Bool.and_eq_true,Bool.not_eq_true',List.contains_eq_mem,decide_eq_false_iff_not] at h
  exact List.nodup_cons.2 ⟨h.1,noDup_nodup l h.2⟩
section
variable {ρ:Type}
inductive SlOk (nm:List Nat) (Γ:AE) (es:Shape) (i:Nat):SV→Prop
 |dead:SlOk nm Γ es i (.one .dead)
 |same (av:AV):Γ.get i=av→av≠.dead→(∀ k q,(av=.ptr k q∨av=.sref k q∨∃ o l,av=.swin k q o l)→k∈nm)→SlOk nm Γ es i (.one av)
 |made (n:Nat) (e:Ty):Ent.own i n e∈es→Γ.rt n=none→n∈nm→(Γ.get i=.nils∨Γ.get i=.empt)→SlOk nm Γ es i (.one (.sref n []))
 |clo (f:Nat) (ns:List Nat):Γ.sl i=.cmp (.clo f) (ptrsOf ns)→(∀ k∈ns,k∈nm)→SlOk nm Γ es i (.cmp (.clo f) (ptrsOf ns))
theorem ptrsEq_eq:∀ (vs:List AV) (ns:List Nat),ptrsEq vs ns=true→vs=ptrsOf ns
 | [],[],_=>rfl
 |v::vs,[],h=>by cases v<;>simp [ptrsEq] at h
 | [],_::_,h=>by simp [ptrsEq] at h
 |v::vs,m::ns,h=>by
  cases v with
  |ptr n p=>
   cases p with
   |nil=>
    simp only [ptrsEq,Bool.and_eq_true,beq_iff_eq] at h
    rw [h.1,ptrsEq_eq vs ns h.2]
    rfl
   |cons=>simp [ptrsEq] at h
  |_=>simp [ptrsEq] at h
theorem ptrsOf_get:∀ (ns:List Nat) (k:Nat) (av:AV),(ptrsOf ns)[k]?=some av→∃ n∈ns,av=.ptr n []
 | [],k,av,h=>by simp [ptrsOf] at h
 |n::ns,0,av,h=>by
  simp only [ptrsOf,List.getElem?_cons_zero,sj] at h
  exact ⟨n,by simp,h.symm⟩
 |n::ns,k+1,av,h=>by
  obtain ⟨m,hm,e⟩:=ptrsOf_get ns k av (by simpa [ptrsOf] using h)
  exact ⟨m,by simp [hm],e⟩
theorem SlOk.cons {nm Γ es i v} (h:SlOk nm Γ es i v) (e:Ent):SlOk nm Γ (e::es) i v:=by
 cases h with
 |dead=>exact .dead
 |same av g1 g2 g3=>exact .same av g1 g2 g3
 |made n e' g1 g2 g3 g4=>exact .made n e' (List.mem_cons_of_mem _ g1) g2 g3 g4
 |clo f ns g1 g2=>exact .clo f ns g1 g2
def Recast (r' r:Root):Prop:=r'=r∨(r'.bx=true∧r.bx=true∧r'.t.shn=r'.t∧castTo r'.t r.t r'.x=some r.x)
theorem loc_le {m:Mem}:∀ (q:Path) (a b:Ty) (s:Src) {t1 s1},a.le b=true→loc m a s q=some (t1,s1)→∃ t2,loc m b s q=some (t2,s1)
 | [],a,b,s,t1,s1,h,hl=>by
  simp only [loc,locQ,sj,Prod.mk.injEq] at hl
  obtain ⟨-,rfl⟩:=hl
  exact ⟨b,rfl⟩
 |.fst::p,a,b,s,t1,s1,h,hl=>by
  obtain ⟨a1,a2,bl,o,rfl,rfl,hl⟩:=loc_fst hl
  cases b with
  |pair b1 b2=>
   simp only [Ty.le,Bool.and_eq_true] at h
   exact loc_le p a1 b1 _ h.1 hl
  |_=>simp [Ty.le] at h
 |.snd::p,a,b,s,t1,s1,h,hl=>by
  obtain ⟨a1,a2,bl,o,rfl,rfl,hl⟩:=loc_snd hl
  cases b with
  |pair b1 b2=>
   simp only [Ty.le,Bool.and_eq_true] at h
   obtain ⟨t2,h2⟩:=loc_le p a2 b2 _ h.2 hl
   rw [Ty.le_cells _ _ h.1] at h2
   exact ⟨t2,h2⟩
  |_=>simp [Ty.le] at h
 |.idx i::p,a,b,s,t1,s1,h,hl=>by
  have hab:a=b:=by
   rcases loc_idx hl with ⟨n,t,bl,o,rfl,rfl,hi,hl⟩|⟨t,a',n,c,rfl,hv,hi,hl⟩<;>simpa [Ty.le] using h
  subst hab
  exact ⟨t1,hl⟩
theorem Recast.loc {m:Mem} {r' r:Root} (h:Recast r' r) {p:Path} {s:Src} {t1 s1} (hl:loc m r'.t s p=some (t1,s1)):∃ t2,Ab.loc m r.t s p=some (t2,s1):=by
 rcases h with rfl|⟨-,-,-,h⟩
 ·exact ⟨t1,hl⟩
 ·unfold castTo at h
  split at h
  ·rename_i e;rw [←e];exact ⟨t1,hl⟩
  ·split at h
   ·rename_i e;exact loc_le p _ _ _ e hl
   ·cases h
theorem Recast.locL {m:Mem} {r' r:Root} (h:Recast r' r) {p:Path} {s:Src} {e s1} (hl:Ab.loc m r'.t s p=some (.list true e,s1)):Ab.loc m r.t s p=some (.list true e,s1):=by
 rcases h with rfl|⟨-,-,h,-⟩
 ·exact hl
 ·have:=loc_sub_pure p _ _ h hl
  simp [Ty.shn] at this
theorem AVOk.recast {m:Mem} {g g':Nat→Src} {rt rt':Nat→Option Root} {Sh Sh':Nat→Prop} {a:AV} {v:Value} (h:AVOk m g rt Sh a v) (hs:∀ c,Sh c→Sh' c)
  (hr:∀ n p r,(a=.ptr n p∨a=.sref n p∨∃ o l,a=.swin n p o l)→rt n=some r→g' n=g n∧∃ r',rt' n=some r'∧Recast r r'):AVOk m g' rt' Sh' a v:=by
 cases a with
 |ptr n p=>
  obtain ⟨r,t,b,o,h1,h2,h3⟩:=h
  obtain ⟨hg,r',h4,h5⟩:=hr n p r (.inl rfl) h1
  obtain ⟨t2,h6⟩:=h5.loc h2
  exact ⟨r',t2,b,o,h4,by rw [hg];exact h6,h3⟩
 |sref n p=>
  obtain ⟨r,e,s,h1,h2,h3⟩:=h
  obtain ⟨hg,r',h4,h5⟩:=hr n p r (.inr (.inl rfl)) h1
  exact ⟨r',e,s,h4,by rw [hg];exact h5.locL h2,h3⟩
 |swin n p o l=>
  obtain ⟨r,e,s,a,l',c,h1,h2,h3,h4,h5⟩:=h
  obtain ⟨hg,r',h6,h7⟩:=hr n p r (.inr (.inr ⟨_,_,rfl⟩)) h1
  exact ⟨r',e,s,a,l',c,h6,by rw [hg];exact h7.locL h2,h3,h4,h5⟩
 |_=>exact h.frame (fun _ _ _=>rfl) hs (by rintro n p r t s (g|g|⟨_,_,g⟩)<;>cases g)
inductive RtOk (Γ:AE) (es:Shape) (n:Nat):Option Root→Prop
 |none:n∉es.names→RtOk Γ es n none
 |same (r r':Root):n∈es.names→Γ.rt n=some r'→Recast r' r→RtOk Γ es n (some r)
 |made (i:Nat) (e:Ty):n∈es.names→n<pinned→Ent.own i n e∈es→Γ.rt n=Option.none→(Γ.get i=.nils∨Γ.get i=.empt)→RtOk Γ es n (some ⟨false,.list true e,[]⟩)
theorem set_sl (Γ:AE) (i j:Nat) (v:AV):(Γ.set i v).sl j=if j=i then .one v else Γ.sl j:=by
 simp only [AE.set,AE.put]
 by_cases h:j=i
 ·simp [h]
 ·have:(j==i)=false:=by simpa using h
  simp [this,h]
theorem setRt_rt (Γ:AE) (n m:Nat) (r:Option Root):(Γ.setRt n r).rt m=if m=n then r else Γ.rt m:=by
 simp only [AE.setRt]
 by_cases h:m=n
 ·simp [h]
 ·have:(m==n)=false:=by simpa using h
  simp [this,h]
theorem rest_sound (nm:List Nat) (Γ:AE):∀ (es:Shape) {K:es.ty.den→Rs ρ} {z:ρ},(∀ n∈es.names,n∈nm)→es.names.Nodup→Shape.rest nm Γ es K=some z→
  ∃ x,K x=some z∧(es.enc x).pd=none∧(∀ i,SlOk nm Γ es i ((es.enc x).sl i))∧∀ n,RtOk Γ es n ((es.enc x).rt n)
 | [],K,z,_,_,h=>⟨(),h,rfl,fun i=>.dead,fun n=>.none (by simp [Shape.names])⟩
 |.sv i t::r,K,z,hnm,hnd,h=>by
  simp only [Shape.rest] at h
  split at h
  ·rename_i t' x hx
   split at h
   ·rename_i ht
    subst ht
    obtain ⟨y,h1,h2,h3,h4⟩:=rest_sound nm Γ r hnm hnd h
    refine ⟨(x,y),h1,h2,fun j=>?_,fun n=>?_⟩
    ·show SlOk nm Γ _ j (((Shape.enc r y).set i (.val t' x)).sl j)
     rw [set_sl]
     split
     ·rename_i e
      subst e
      exact .same _ hx (by simp) (by rintro k q (g|g|⟨o,l,g⟩)<;>cases g)
     ·exact (h3 j).cons _
    ·show RtOk Γ _ n ((Shape.enc r y).rt n)
     cases hrt:(Shape.enc r y).rt n<;>have:=h4 n<;>rw [hrt] at this<;>cases this
     ·exact .none (by assumption)
     ·exact .same _ _ (by assumption) (by assumption) (by assumption)
     ·rename_i i' e' g1 g1' g2 g3 g4;exact .made i' e' g1 g1' (List.mem_cons_of_mem _ g2) g3 g4
   ·cases h
  ·cases h
 |.own i n e::r,K,z,hnm,hnd,h=>by
  simp only [Shape.names,List.nodup_cons] at hnd
  have hnm':∀ m∈Shape.names r,m∈nm:=fun m hm=>hnm m (by simp [Shape.names,hm])
  have hn:n∈nm:=hnm n (by simp [Shape.names])
  have fin:∀ (l:List e.den) (K':(Shape.ty r).den→Rs ρ),Shape.rest nm Γ r K'=some z→(∀ y,K' y=K (l,y))→
    SlOk nm Γ (.own i n e::r) i (.one (.sref n []))→RtOk Γ (.own i n e::r) n (some ⟨false,.list true e,l⟩)→
    ∃ x,K x=some z∧(Shape.enc (.own i n e::r) x).pd=none∧(∀ j,SlOk nm Γ (.own i n e::r) j ((Shape.enc (.own i n e::r) x).sl j))∧∀ m,RtOk Γ (.own i n e::r) m ((Shape.enc (.own i n e::r) x).rt m):=by
   intro l K' h hK hs hr
   obtain ⟨y,h1,h2,h3,h4⟩:=rest_sound nm Γ r hnm' hnd.2 h
   refine ⟨(l,y),by rw [←hK];exact h1,h2,fun j=>?_,fun m=>?_⟩
   ·show SlOk nm Γ _ j ((((Shape.enc r y).setRt n (some ⟨false,.list true e,l⟩)).set i (.sref n [])).sl j)
    rw [set_sl]
    split
    ·rename_i e;subst e;exact hs
    ·exact (h3 j).cons _
   ·show RtOk Γ _ m (((Shape.enc r y).setRt n (some ⟨false,.list true e,l⟩)).rt m)
    rw [setRt_rt]
    split
    ·rename_i e;subst e;exact hr
    ·rename_i hmn
     cases hrt:(Shape.enc r y).rt m with
     |none=>
      have:=h4 m
      rw [hrt] at this
      cases this with
      |none g=>exact .none (by simp only [Shape.names,List.mem_cons,not_or];exact ⟨hmn,g⟩)
     |some rr=>
      have:=h4 m
      rw [hrt] at this
      cases this with
      |same _ r5 g1 g2 g5=>exact .same rr r5 (by simp [Shape.names,g1]) g2 g5
      |made i' e' g1 g1' g2 g3 g4=>exact .made i' e' (by simp [Shape.names,g1]) g1' (List.mem_cons_of_mem _ g2) g3 g4
  simp only [Shape.rest] at h
  split at h
  ·rename_i m hm
   rcases bif_some h with ⟨hmn,h⟩|⟨-,g⟩
   ·obtain rfl:m=n:=by simpa using hmn
    split at h
    ·rename_i e' l hr
     split at h
     ·rename_i he
      subst he
      exact fin l _ h (fun _=>rfl) (.same _ hm (by simp) (by rintro k q (g|g|⟨o,l,g⟩)<;>cases g;exact hn)) (.same _ _ (by simp [Shape.names]) hr (.inl rfl))
     ·cases h
    ·cases h
   ·cases g
  ·rename_i hi
   split at h
   ·rename_i hr
    obtain ⟨hp,h⟩:=(bif_some h).elim id fun h=>by cases h.2
    exact fin [] _ h (fun _=>rfl) (.made n e (by simp) hr hn (.inl hi)) (.made i e (by simp [Shape.names]) (by simpa using hp) (by simp) hr (.inl hi))
   ·cases h
  ·rename_i hi
   split at h
   ·rename_i hr
    obtain ⟨hp,h⟩:=(bif_some h).elim id fun h=>by cases h.2
    exact fin [] _ h (fun _=>rfl) (.made n e (by simp) hr hn (.inr hi)) (.made i e (by simp [Shape.names]) (by simpa using hp) (by simp) hr (.inr hi))
   ·cases h
  ·cases h
 |.box n t::r,K,z,hnm,hnd,h=>by
  simp only [Shape.names,List.nodup_cons] at hnd
  have hnm':∀ m∈Shape.names r,m∈nm:=fun m hm=>hnm m (by simp [Shape.names,hm])
  simp only [Shape.rest] at h
  have fin:∀ (x':t.den) (K':(Shape.ty r).den→Rs ρ),Shape.rest nm Γ r K'=some z→(∀ y,K' y=K (x',y))→(∃ r5,Γ.rt n=some r5∧Recast r5 ⟨true,t,x'⟩)→
    ∃ x,K x=some z∧(Shape.enc (.box n t::r) x).pd=none∧(∀ j,SlOk nm Γ (.box n t::r) j ((Shape.enc (.box n t::r) x).sl j))∧∀ m,RtOk Γ (.box n t::r) m ((Shape.enc (.box n t::r) x).rt m):=by
   intro x' K' h hK ⟨r5,hr,hc⟩
   obtain ⟨y,h1,h2,h3,h4⟩:=rest_sound nm Γ r hnm' hnd.2 h
   refine ⟨(x',y),by rw [←hK];exact h1,h2,fun j=>(h3 j).cons _,fun m=>?_⟩
   show RtOk Γ _ m (((Shape.enc r y).setRt n (some ⟨true,t,x'⟩)).rt m)
   rw [setRt_rt]
   split
   ·rename_i e;subst e;exact .same _ _ (by simp [Shape.names]) hr hc
   ·rename_i hmn
    cases hrt:(Shape.enc r y).rt m with
    |none=>
     have:=h4 m
     rw [hrt] at this
     cases this with
     |none g=>exact .none (by simp only [Shape.names,List.mem_cons,not_or];exact ⟨hmn,g⟩)
    |some rr=>
     have:=h4 m
     rw [hrt] at this
     cases this with
     |same _ r5 g1 g2 g5=>exact .same rr r5 (by simp [Shape.names,g1]) g2 g5
     |made i' e' g1 g1' g2 g3 g4=>exact .made i' e' (by simp [Shape.names,g1]) g1' (List.mem_cons_of_mem _ g2) g3 g4
  split at h
  ·rename_i t' x hr
   split at h
   ·rename_i ht
    subst ht
    exact fin x _ h (fun _=>rfl) ⟨_,hr,.inl rfl⟩
   ·split at h
    ·rename_i hshn
     split at h
     ·rename_i z' hz'
      exact fin z' _ h (fun _=>rfl) ⟨_,hr,.inr ⟨rfl,rfl,hshn,hz'⟩⟩
     ·cases h
    ·cases h
  ·cases h
 |.ptr i n p::r,K,z,hnm,hnd,h=>by
  simp only [Shape.rest] at h
  split at h
  ·rename_i m q hi
   obtain ⟨hc,h⟩:=(bif_some h).elim id fun h=>by cases h.2
   simp only [Bool.and_eq_true,beq_iff_eq,List.contains_eq_mem,decide_eq_true_eq] at hc
   obtain ⟨hn,rfl,hp⟩:=hc
   obtain rfl:=pathEq_eq _ _ hp
   obtain ⟨y,h1,h2,h3,h4⟩:=rest_sound nm Γ r hnm hnd h
   refine ⟨y,h1,h2,fun j=>?_,fun n'=>?_⟩
   ·show SlOk nm Γ _ j (((Shape.enc r y).set i (.ptr m q)).sl j)
    rw [set_sl]
    split
    ·rename_i e;subst e
     exact .same _ hi (by simp) (by rintro k q' (g|g|⟨o,l,g⟩)<;>cases g;exact hn)
    ·exact (h3 j).cons _
   ·show RtOk Γ _ n' ((Shape.enc r y).rt n')
    cases hrt:(Shape.enc r y).rt n'<;>have:=h4 n'<;>rw [hrt] at this<;>cases this
    ·exact .none (by assumption)
    ·exact .same _ _ (by assumption) (by assumption) (by assumption)
    ·rename_i i' e' g1 g1' g2 g3 g4;exact .made i' e' g1 g1' (List.mem_cons_of_mem _ g2) g3 g4
  ·cases h
 |.vp i t::r,K,z,hnm,hnd,h=>by
  simp only [Shape.rest] at h
  split at h
  ·rename_i t' x hx
   split at h
   ·rename_i ht
    subst ht
    obtain ⟨y,h1,h2,h3,h4⟩:=rest_sound nm Γ r hnm hnd h
    refine ⟨(x,y),h1,h2,fun j=>?_,fun n=>?_⟩
    ·show SlOk nm Γ _ j (((Shape.enc r y).set i (.vptr t' x)).sl j)
     rw [set_sl]
     split
     ·rename_i e
      subst e
      exact .same _ hx (by simp) (by rintro k q (g|g|⟨o,l,g⟩)<;>cases g)
     ·exact (h3 j).cons _
    ·show RtOk Γ _ n ((Shape.enc r y).rt n)
     cases hrt:(Shape.enc r y).rt n<;>have:=h4 n<;>rw [hrt] at this<;>cases this
     ·exact .none (by assumption)
     ·exact .same _ _ (by assumption) (by assumption) (by assumption)
     ·rename_i i' e' g1 g1' g2 g3 g4;exact .made i' e' g1 g1' (List.mem_cons_of_mem _ g2) g3 g4
   ·cases h
  ·cases h
 |.ref i n p::r,K,z,hnm,hnd,h=>by
  simp only [Shape.rest] at h
  split at h
  ·rename_i m q hi
   obtain ⟨hc,h⟩:=(bif_some h).elim id fun h=>by cases h.2
   simp only [Bool.and_eq_true,beq_iff_eq,List.contains_eq_mem,decide_eq_true_eq] at hc
   obtain ⟨hn,rfl,hp⟩:=hc
   obtain rfl:=pathEq_eq _ _ hp
   obtain ⟨y,h1,h2,h3,h4⟩:=rest_sound nm Γ r hnm hnd h
   refine ⟨y,h1,h2,fun j=>?_,fun n'=>?_⟩
   ·show SlOk nm Γ _ j (((Shape.enc r y).set i (.sref m q)).sl j)
    rw [set_sl]
    split
    ·rename_i e;subst e
     exact .same _ hi (by simp) (by rintro k q' (g|g|⟨o,l,g⟩)<;>cases g;exact hn)
    ·exact (h3 j).cons _
   ·show RtOk Γ _ n' ((Shape.enc r y).rt n')
    cases hrt:(Shape.enc r y).rt n'<;>have:=h4 n'<;>rw [hrt] at this<;>cases this
    ·exact .none (by assumption)
    ·exact .same _ _ (by assumption) (by assumption) (by assumption)
    ·rename_i i' e' g1 g1' g2 g3 g4;exact .made i' e' g1 g1' (List.mem_cons_of_mem _ g2) g3 g4
  ·cases h
 |.win i n p::r,K,z,hnm,hnd,h=>by
  simp only [Shape.rest] at h
  split at h
  ·rename_i m q o k hi
   obtain ⟨hc,h⟩:=(bif_some h).elim id fun h=>by cases h.2
   simp only [Bool.and_eq_true,beq_iff_eq,List.contains_eq_mem,decide_eq_true_eq] at hc
   obtain ⟨hn,rfl,hp⟩:=hc
   obtain rfl:=pathEq_eq _ _ hp
   obtain ⟨y,h1,h2,h3,h4⟩:=rest_sound nm Γ r hnm hnd h
   refine ⟨((o:Int),(k:Int),y),h1,h2,fun j=>?_,fun n'=>?_⟩
   ·show SlOk nm Γ _ j (((Shape.enc r y).set i (.swin m q (o:Int).toNat (k:Int).toNat)).sl j)
    rw [set_sl]
    split
    ·rename_i e;subst e
     exact .same _ (by rw [hi];simp) (by simp) (by rintro k q' (g|g|⟨o,l,g⟩)<;>cases g;exact hn)
    ·exact (h3 j).cons _
   ·show RtOk Γ _ n' ((Shape.enc r y).rt n')
    cases hrt:(Shape.enc r y).rt n'<;>have:=h4 n'<;>rw [hrt] at this<;>cases this
    ·exact .none (by assumption)
    ·exact .same _ _ (by assumption) (by assumption) (by assumption)
    ·rename_i i' e' g1 g1' g2 g3 g4;exact .made i' e' g1 g1' (List.mem_cons_of_mem _ g2) g3 g4
  ·cases h
 |.clo i f ns::r,K,z,hnm,hnd,h=>by
  simp only [Shape.rest] at h
  split at h
  ·rename_i f' vs hi
   obtain ⟨hc,h5⟩:=(bif_some h).elim id fun h=>by cases h.2
   simp only [Bool.and_eq_true,beq_iff_eq,List.all_eq_true,List.contains_eq_mem,decide_eq_true_eq] at hc
   obtain ⟨rfl,hn,hp⟩:=hc
   obtain rfl:=ptrsEq_eq _ _ hp
   obtain ⟨y,h1,h2,h3,h4⟩:=rest_sound nm Γ r hnm hnd h5
   refine ⟨y,h1,h2,fun j=>?_,fun n'=>?_⟩
   ·show SlOk nm Γ _ j (bif j==i then (SV.cmp (.clo f') (ptrsOf ns)) else (Shape.enc r y).sl j)
    by_cases e:j=i
    ·subst e
     simp only [beq_self_eq_true,cond_true]
     exact .clo f' ns hi hn
    ·have e':(j==i)=false:=by simpa using e
     simp only [e',cond_false]
     exact (h3 j).cons _
   ·show RtOk Γ _ n' ((Shape.enc r y).rt n')
    cases hrt:(Shape.enc r y).rt n'<;>have:=h4 n'<;>rw [hrt] at this<;>cases this
    ·exact .none (by assumption)
    ·exact .same _ _ (by assumption) (by assumption) (by assumption)
    ·rename_i i' e' g1 g1' g2 g3 g4;exact .made i' e' g1 g1' (List.mem_cons_of_mem _ g2) g3 g4
  ·cases h
end
def Ent.fits (N:Nat):Ent→Bool
 |.sv i _|.own i _ _|.ptr i _ _|.ref i _ _|.win i _ _|.vp i _|.clo i _ _=>decide (i<N)
 |.box _ _=>true
def Shape.fits (N:Nat) (es:Shape):Bool:=es.all (Ent.fits N)
section
variable {ρ:Type} {B:Base} {N:Nat} {tm:Nat→Value} {w:World}
theorem get_slot {Γ:AE} {σ:Gh} (h:Rel B Γ N tm w σ) {i:Nat} (hi:i<N):AVOk (memo w σ.ov) σ.g Γ.rt (Shr B w σ) (Γ.get i) (tm i):=by
 have:=h.slots i hi
 simp only [AE.get]
 revert this
 cases Γ.sl i with
 |one v=>exact fun h=>h
 |cmp c vs=>exact fun _=>trivial
theorem Rel.vals {nm:List Nat}:∀ (es:Shape) {Γ:AE} {σ:Gh} (_:Rel B Γ N tm w σ) (_:Γ.pd=none) {K:es.ty.den→Rs ρ} {z:ρ} (_:es.fits N=true) (_:∀ n∈es.names,n∈nm) (_:es.names.Nodup) (_:Shape.vals nm es Γ K=some z),
  ∃ x Γf σf,K x=some z∧Rel B Γf N tm w σf∧Γf.pd=none∧(∀ (j:Nat) t y,Γ.get j=.val t y→Γf.get j=.val t y)∧(es.enc x).pd=none∧(∀ i,SlOk nm Γf es i ((es.enc x).sl i))∧∀ n,RtOk Γf es n ((es.enc x).rt n):=by
 intro es
 induction es with
 |nil=>
  intro Γ σ h hpd K z hf hnm hnd hz
  obtain ⟨x,h1,h2,h3,h4⟩:=rest_sound nm Γ [] hnm hnd hz
  exact ⟨x,Γ,σ,h1,h,hpd,fun _ _ _ g=>g,h2,h3,h4⟩
 |cons e r ih=>
  intro Γ σ h hpd K z hf hnm hnd hz
  cases e with
  |sv i t=>
   simp only [Shape.fits,List.all_cons,Bool.and_eq_true,Ent.fits,decide_eq_true_eq] at hf
   simp only [Shape.vals] at hz
   obtain ⟨hex,hz⟩:=(bif_some hz).resolve_right (fun g=>by cases g.2)
   have key:∃ x Γ1 σ1,Shape.vals nm r (Γ1.set i (.val t x)) (fun y=>K (x,y))=some z∧Rel B Γ1 N tm w σ1∧Γ1.pd=none∧VOk (memo w σ1.ov) (Shr B w σ1) t x (tm i)∧
     ∀ (j:Nat) t' y,Γ.get j=.val t' y→(Γ1.set i (.val t x)).get j=.val t' y:=by
    have ha:=get_slot h hf.1
    have other:(∀ t' y,Γ.get i≠.val t' y)→∃ x Γ1 σ1,Shape.vals nm r (Γ1.set i (.val t x)) (fun y=>K (x,y))=some z∧Rel B Γ1 N tm w σ1∧Γ1.pd=none∧VOk (memo w σ1.ov) (Shr B w σ1) t x (tm i)∧
     ∀ (j:Nat) t' y,Γ.get j=.val t' y→(Γ1.set i (.val t x)).get j=.val t' y:=fun hne=>by
     obtain ⟨x,Γ1,σ1,h1,h2,h3,h4,-,h5⟩:=h.asVB (.inl ha) hz
     refine ⟨x,Γ1,σ1,h1,h2,h4.pd.trans hpd,h3,fun j t' y hj=>?_⟩
     have hji:j≠i:=fun e=>hne t' y (e▸hj)
     have:=h5.2 j t' y hj
     simp only [AE.get] at this ⊢
     rw [set_sl,if_neg hji];exact this
    cases hg:Γ.get i with
    |val t' x=>
     rw [hg] at hz ha
     simp only [AE.asV] at hz
     split at hz
     ·rename_i x2 hx2
      rw [hg] at hex
      simp only [AV.exact,decide_eq_true_eq] at hex
      subst hex
      rw [castTo_self] at hx2
      cases hx2
      refine ⟨x,Γ,σ,hz,h,hpd,ha,fun j t2 y hj=>?_⟩
      by_cases e:j=i
      ·subst e
       rw [hg] at hj
       simp only [AE.get]
       rw [set_sl,if_pos rfl]
       exact hj
      ·simp only [AE.get] at hj ⊢
       rw [set_sl,if_neg e]
       exact hj
     ·cases hz
    |_=>exact other (by rw [hg];intro t' y e;cases e)
   obtain ⟨x,Γ1,σ1,k1,k2,k3,k4,k5⟩:=key
   have k6:Rel B (Γ1.set i (.val t x)) N tm w σ1:=k2.put (v:=tm i) (fun _=>k4) (fun j _=>by split<;>simp [*])
   obtain ⟨y,Γf,σf,j1,j2,j3,j4,j5,j6,j7⟩:=ih k6 k3 (by simpa [Shape.fits] using hf.2) hnm hnd k1
   have hx:Γf.get i=.val t x:=j4 i t x (by simp only [AE.get];rw [set_sl,if_pos rfl])
   refine ⟨(x,y),Γf,σf,j1,j2,j3,fun j t' y' hj=>j4 j t' y' (k5 j t' y' hj),j5,fun j=>?_,fun n=>?_⟩
   ·show SlOk nm Γf _ j (((Shape.enc r y).set i (.val t x)).sl j)
    rw [set_sl]
    split
    ·rename_i e
     subst e
     exact .same _ hx (by simp) (by rintro k q (g|g|⟨o,l,g⟩)<;>cases g)
    ·exact (j6 j).cons _
   ·show RtOk Γf _ n ((Shape.enc r y).rt n)
    cases hrt:(Shape.enc r y).rt n<;>have:=j7 n<;>rw [hrt] at this<;>cases this
    ·exact .none (by assumption)
    ·exact .same _ _ (by assumption) (by assumption) (by assumption)
    ·rename_i i' e' g1 g1' g2 g3 g4;exact .made i' e' g1 g1' (List.mem_cons_of_mem _ g2) g3 g4
  |own i n e=>exact (fun ⟨x,h1,h2,h3,h4⟩=>⟨x,Γ,σ,h1,h,hpd,fun _ _ _ g=>g,h2,h3,h4⟩) (rest_sound nm Γ _ hnm hnd hz)
  |box n t=>exact (fun ⟨x,h1,h2,h3,h4⟩=>⟨x,Γ,σ,h1,h,hpd,fun _ _ _ g=>g,h2,h3,h4⟩) (rest_sound nm Γ _ hnm hnd hz)
  |ptr i n p=>exact (fun ⟨x,h1,h2,h3,h4⟩=>⟨x,Γ,σ,h1,h,hpd,fun _ _ _ g=>g,h2,h3,h4⟩) (rest_sound nm Γ _ hnm hnd hz)
  |vp i n=>exact (fun ⟨x,h1,h2,h3,h4⟩=>⟨x,Γ,σ,h1,h,hpd,fun _ _ _ g=>g,h2,h3,h4⟩) (rest_sound nm Γ _ hnm hnd hz)
  |ref i n p=>exact (fun ⟨x,h1,h2,h3,h4⟩=>⟨x,Γ,σ,h1,h,hpd,fun _ _ _ g=>g,h2,h3,h4⟩) (rest_sound nm Γ _ hnm hnd hz)
  |clo i f ns=>exact (fun ⟨x,h1,h2,h3,h4⟩=>⟨x,Γ,σ,h1,h,hpd,fun _ _ _ g=>g,h2,h3,h4⟩) (rest_sound nm Γ _ hnm hnd hz)
  |win i n p=>exact (fun ⟨x,h1,h2,h3,h4⟩=>⟨x,Γ,σ,h1,h,hpd,fun _ _ _ g=>g,h2,h3,h4⟩) (rest_sound nm Γ _ hnm hnd hz)
theorem own_names:∀ (r:Shape) {i n e},Ent.own i n e∈r→n∈r.names
 |a::r,i,n,e,h=>by
  rcases List.mem_cons.1 h with h|h
  ·subst h;simp [Shape.names]
  ·have:=own_names r h
   cases a<;>simp [Shape.names,this]
def ownSlot:Shape→Nat→Nat
 | [],_=>0
 |.own i m _::r,n=>if m=n then i else ownSlot r n
 |_::r,n=>ownSlot r n
theorem ownSlot_eq:∀ (es:Shape) {i n e},es.names.Nodup→Ent.own i n e∈es→ownSlot es n=i
 |.own j m e'::r,i,n,e,hnd,h=>by
  simp only [Shape.names,List.nodup_cons] at hnd
  simp only [ownSlot]
  rcases List.mem_cons.1 h with h|h
  ·cases h;simp
  ·have:=own_names r h
   rw [if_neg (fun g=>hnd.1 (by rw [g];exact this))]
   exact ownSlot_eq r hnd.2 h
 |.sv j t::r,i,n,e,hnd,h=>by
  rcases List.mem_cons.1 h with h|h
  ·cases h
  ·exact ownSlot_eq r hnd h
 |.box m t::r,i,n,e,hnd,h=>by
  simp only [Shape.names,List.nodup_cons] at hnd
  rcases List.mem_cons.1 h with h|h
  ·cases h
  ·exact ownSlot_eq r hnd.2 h
 |.ptr j m p::r,i,n,e,hnd,h=>by
  rcases List.mem_cons.1 h with h|h
  ·cases h
  ·exact ownSlot_eq r hnd h
 |.vp j m::r,i,n,e,hnd,h=>by
  rcases List.mem_cons.1 h with h|h
  ·cases h
  ·exact ownSlot_eq r hnd h
 |.ref j m p::r,i,n,e,hnd,h=>by
  rcases List.mem_cons.1 h with h|h
  ·cases h
  ·exact ownSlot_eq r hnd h
 |.clo j m p::r,i,n,e,hnd,h=>by
  rcases List.mem_cons.1 h with h|h
  ·cases h
  ·exact ownSlot_eq r hnd h
 |.win j m p::r,i,n,e,hnd,h=>by
  rcases List.mem_cons.1 h with h|h
  ·cases h
  ·exact ownSlot_eq r hnd h
theorem Rel.cut {Γ:AE} {σ:Gh} (h:Rel B Γ N tm w σ) (hpd:Γ.pd=none) {es:Shape} (hf:es.fits N=true) (hnd:es.names.Nodup) {X:AE} (hX:X.pd=none) (hs:∀ i,SlOk es.names Γ es i (X.sl i)) (hr:∀ n,RtOk Γ es n (X.rt n)):
  ∃ σ',Rel B X N tm w σ':=by
 have hov:=h.ov_none hpd
 let σ':Gh:=⟨fun n=>match Γ.rt n with|some _=>σ.g n|none=>.one (tm (ownSlot es n)),fun n=>match X.rt n with|some _=>σ.ow n|none=>[],none⟩
 have hg:∀ n r,Γ.rt n=some r→σ'.g n=σ.g n:=fun n r e=>by simp only [σ',e]
 have hg':∀ n,Γ.rt n=none→σ'.g n=.one (tm (ownSlot es n)):=fun n e=>by simp only [σ',e]
 have ho:∀ n r,X.rt n=some r→σ'.ow n=σ.ow n:=fun n r e=>by simp only [σ',e]
 have ho':∀ n,X.rt n=none→σ'.ow n=[]:=fun n e=>by simp only [σ',e]
 have hsub:∀ n p,p∈σ'.ow n→p∈σ.ow n:=fun n p hp=>by
  cases e:X.rt n with
  |none=>rw [ho' n e] at hp;cases hp
  |some r=>rw [ho n r e] at hp;exact hp
 have hsubc:∀ n c,c∈(σ'.ow n).map (·.1)→c∈(σ.ow n).map (·.1):=fun n c hc=>by
  obtain ⟨p,hp,rfl⟩:=List.mem_map.1 hc
  exact List.mem_map_of_mem (hsub n p hp)
 have hsh:∀ c,Shr B w σ c→Shr B w σ' c:=fun c hc=>⟨hc.1,hc.2.1,fun ⟨n,hn⟩=>hc.2.2 ⟨n,hsubc n c hn⟩⟩
 have hmem:memo w σ'.ov=memo w σ.ov:=by rw [hov]
 have hin:∀ n,n∈es.names→∃ r,X.rt n=some r:=fun n hn=>by
  cases hrt:X.rt n<;>have:=hr n<;>rw [hrt] at this<;>cases this
  ·exact absurd hn (by assumption)
  ·exact ⟨_,rfl⟩
  ·exact ⟨_,rfl⟩
 have hsame:∀ n r,n∈es.names→Γ.rt n=some r→∃ r2,X.rt n=some r2∧Recast r r2:=fun n r hn hg=>by
  cases hrt:X.rt n<;>have:=hr n<;>rw [hrt] at this<;>cases this
  ·exact absurd hn (by assumption)
  ·rename_i r5 h1 h2 h3;rw [hg] at h2;cases h2;exact ⟨_,rfl,h3⟩
  ·rename_i h1 h2 h3;rw [hg] at h2;cases h2
 have hslot:∀ i e n,Ent.own i n e∈es→i<N:=fun i e n hm=>by
  have:=List.all_eq_true.1 hf _ hm
  simpa [Ent.fits] using this
 refine ⟨σ',fun n r hn=>?_,fun n hn=>ho' n hn,fun n=>?_,fun n m hne c hc hc'=>h.disj n m hne c (hsubc n c hc) (hsubc m c hc'),fun n p hp=>h.live n p (hsub n p hp),fun i hi=>?_,?_,h.size,h.frame,fun c ⟨n,hn⟩=>h.mine c ⟨n,hsubc n c hn⟩,fun i b hb hne=>?_,h.still⟩
 ·have:=hr n
  rw [hn] at this
  rw [hmem,ho n r hn]
  cases this with
  |same _ r5 g1 g2 g5=>
   rw [hg n r5 g2]
   rcases g5 with rfl|⟨e1,e2,e3,e4⟩
   ·exact (h.roots n _ g2).mono hsh
   ·obtain ⟨O',R,k1,k2,k3⟩:=(h.roots n r5 g2).rd
    have hO:=dec_pure e3 k1
    subst hO
    refine ⟨[],R,castTo_dec e4 k1,fun c hc=>hsh c (k2 c hc),?_⟩
    rcases k3 with ⟨-,b,k4,k5⟩|⟨k4,-⟩
    ·exact .inl ⟨e2,b,k4,by rw [k5,(castTo_ty e4).2]⟩
    ·rw [e1] at k4;cases k4
  |made i e g1 g1' g2 g3 g4=>
   rw [hg' n g3,ownSlot_eq es hnd g2,h.norm n g3]
   have hi:=hslot i e n g2
   have ha:=get_slot h hi
   refine ⟨[],[],?_,by simp,.inr ⟨rfl,⟨_,rfl⟩,⟨e,rfl⟩,rfl⟩⟩
   show decL _ true e.cells (dec _ e) (some (tm i))=some (([]:List e.den),[],[])
   rcases g4 with g4|g4
   ·rw [g4] at ha
    have ha:tm i=.slice none 0 0:=ha
    rw [ha];rfl
   ·rw [g4] at ha
    obtain ⟨A,ha,hA⟩:=ha
    rw [ha]
    cases A with
    |none=>rfl
    |some A=>simp [decL,hA A rfl,collect]
 ·cases e:X.rt n with
  |none=>rw [ho' n e];simp
  |some r=>rw [ho n r e];exact h.nodup n
 ·have hsl:=hs i
  revert hsl
  generalize X.sl i=sv
  intro hsl
  have ha:=get_slot h hi
  cases hsl with
  |dead=>trivial
  |clo f ns g1 g2=>
   have hb:=h.slots i hi
   rw [g1] at hb
   obtain ⟨us,k1,k2⟩:=hb
   refine ⟨us,k1,fun k av hk=>?_⟩
   obtain ⟨u,k3,k4⟩:=k2 k av hk
   obtain ⟨m,hm,rfl⟩:=ptrsOf_get ns k av hk
   refine ⟨u,k3,?_⟩
   rw [hmem]
   refine k4.recast hsh fun n p r hc hr'=>?_
   have hnm:n=m:=by
    rcases hc with g|g|⟨_,_,g⟩<;>cases g
    rfl
   subst hnm
   exact ⟨hg n r hr',hsame n r (g2 n hm) hr'⟩
  |same av g1 g2 g3=>
   rw [g1] at ha
   show AVOk _ _ _ _ av _
   rw [hmem]
   exact ha.recast hsh fun n p r hc hr'=>⟨hg n r hr',hsame n r (g3 n p hc) hr'⟩
  |made n e g1 g2 g3 g4=>
   obtain ⟨r,hrn⟩:=hin n g3
   have:=hr n
   rw [hrn] at this
   cases this with
   |same _ _ k1 k2=>rw [g2] at k2;cases k2
   |made i' e' k1 k1' k2 k3 k4=>
    refine ⟨_,e',.one (tm i),hrn,?_,rfl⟩
    rw [hg' n g2,ownSlot_eq es hnd g1];rfl
 ·show PendOk _ _ _ X.pd none
  rw [hX];trivial
 ·obtain ⟨r,hn⟩:=Option.ne_none_iff_exists'.1 hne
  have:=hr (pinned+i)
  rw [hn] at this
  cases this with
  |same _ _ g1 g2=>rw [hg _ _ g2];exact h.pins i b hb (by rw [g2];simp)
  |made i' e g1 g1'=>omega
theorem Rel.dcd {Γ:AE} {σ:Gh} (h:Rel B Γ N tm w σ) {es:Shape} (hf:es.fits N=true) {K:es.ty.den→Rs ρ} {z:ρ} (hz:es.dcd Γ K=some z):∃ x σ',K x=some z∧Rel B (es.enc x) N tm w σ':=by
 unfold Shape.dcd at hz
 split at hz
 ·rename_i hpd
  obtain ⟨hnd,hz⟩:=(bif_some hz).elim id fun h=>by cases h.2
  have hnd:=noDup_nodup _ hnd
  obtain ⟨x,Γf,σf,h1,h2,h3,-,h5,h6,h7⟩:=Rel.vals es h hpd hf (fun _ g=>g) hnd hz
  obtain ⟨σ',h8⟩:=h2.cut h3 hf hnd h5 h6 h7
  exact ⟨x,σ',h1,h8⟩
 ·cases hz
end
end Go.Ab
