/- Part of the proof: S. Conditions: as each statement tells. -/
import Derived.Test.YtkikcohfbelmeacGreatDoorMD
noncomputable section
set_option linter.unusedSimpArgs false
set_option linter.unusedVariables false
open BitVec renaming ofInt->A9,ofInt_natCast->D6,toNat_ofNat->E4,toNat_ofInt->F9,toNat_or->H2
open Bool renaming true->ka,false->kc,and_self->A8,true_and->C5,not_false->F7,not_eq_true'->G4,and_eq_true_iff->I3,or_eq_true->J5,eq_iff_iff->J6,and_false->J8
open Decidable renaming decide->A3
open Int renaming eq_ofNat_of_zero_le->A6,tmod->C7,toNat->C9,cast_ofNat_Int->D1,tmod_eq_emod_of_nonneg->D2,tdiv_eq_ediv_of_nonneg->D3,tdiv->E6,toNat_of_nonneg->I5,emod_eq_of_lt->I9,natCast_add->J7
open List renaming replicate->A4,drop_eq_getElem_cons->A7,nil_append->B3,getElem_mem->B4,append_eq->B6,all_cons->C0,length_nil->C1,zipWith->C3,take_length->C6,replicate_succ'->D5,mem_of_mem_take->D7,mem_of_mem_drop->D8,drop_zero->D9,length->E2,length_eq_zero_iff->E3,take_of_length_le->E5,eq_nil_or_concat->E7,drop_length->E9,length_drop->F0,append_nil->F1,getElem_zip->F3,length_take->F4,take->F6,getD->G3,flatMap_cons->G5,set_append_right->H4,length_singleton->H7,drop->H8,concat_eq_append->I0,set_cons_zero->I6,foldl_append->J1,cons_append->J2,mem_flatMap->J4
open Nat renaming lt_trans->B8,pow_le_pow_right->C2,div_le_self->C4,mod_eq_of_lt->C8,lt_of_le_of_lt->D0,two_pow_pos->D4,le_refl->E1,two_pow_add_eq_or_of_lt->E8,mod_lt->F2,mul_le_mul_right->F5,mul_le_mul->F8,sub_self->G6,mul_comm->G7,div_div_eq_div_mul->G9,div_add_mod->H0,min_eq_left->H1,div_mul_le_self->I4,le_of_lt->I7,or_lt_two_pow->I8,add_mod_right->J0,div_eq_of_lt->J3
open Option renaming some->kd,none->ke,bind_eq_some_iff->G8
open Sum renaming inl->B7,inr->B9
namespace Go.Ab
open Go.Proofs
set_option maxRecDepth 100000
theorem hU:Tryz.prog.follows .mixedOrders=ka:=by kernel_rfl
theorem d0u:b9l Tryz.prog b0F=ka:=by kernel_rfl
theorem d0v:b9m Tryz.prog a9h=ka:=by kernel_rfl
theorem d0w:b9n Tryz.prog b0F b4T=ka:=by kernel_rfl
theorem laidOut:laidOutB Tryz.prog=ka:=by kernel_rfl
@[reducible] def AK(n:Nat)(s:rZ):Prop:=HH Tryz.prog G0 n s/\Yp Tryz.prog n
theorem c1a{a:List (Nat×rZ)}{b:List (Nat×Ty)}{c d:Nat}(h:∀p∈a,a5p Tryz.prog G0 p.1 p.2):uS Tryz.prog (FM a b c d):=uS.of (CxTy.of (tab:=b0F) (l:=b4T) (q:=a9h) (λ_=>rfl) (λ_=>rfl) (λ_=>rfl) d0u d0v d0w) (λ_=>rfl) h
theorem b1{n:Nat}{s:rZ}{l:List (Nat×rZ)}(h:AK n s)(g:∀p∈l,a5p Tryz.prog G0 p.1 p.2):∀p∈(n,s)::l,a5p Tryz.prog G0 p.1 p.2:=a1 (a:=(n,s)) h g
theorem b2{n:Nat}{s:rZ}{l:List (Nat×rZ)}(h:b3Y Tryz.prog G0 n s)(g:∀p∈l,a5p Tryz.prog G0 p.1 p.2):∀p∈(n,s)::l,a5p Tryz.prog G0 p.1 p.2:=b7y (a:=(n,s)) h g
theorem fo {a : List (Nat × rZ)} (b : List (Nat × Ty)) (c d : Nat) (H : rY) {n : Nat} {fn : Func} {e : Code} {s : rZ} (h : ∀ p ∈ a, a5p Tryz.prog G0 p.1 p.2) (hf : Tryz.prog.funcs[n]? = kd fn) (hb : fn.body = kd e :=by rfl) (hk : c0I fn e H s = ka :=by kernel_rfl) (hn : (fn.name == "runtime.NumGoroutine") = kc :=by kernel_rfl) (hq : ∀ x, a0u (FM a b c d) H fn s.ps s.rs x = s.F x :=by intro x; kernel_rfl) : AK n s :=
 ⟨HH.of (c1a h) hU hf hb hk hq,⟨_,_,hf,hb,hn⟩⟩
theorem d0x:AK 56 a3U:=fo [] 5 0 d3n a0 Tryz.func56
theorem d0y:AK 57 a0G:=fo [] 5 0 d3o a0 Tryz.func57
theorem b2D:AK 27 NH:=fo [] 19 0 QH (b1 d0x<|b1 d0y<|a0) Tryz.func27
theorem c3e:AK 55 a0H:=fo [] 5 0 QH a0 Tryz.func55
theorem b8s:AK 59 VH:=fo [] 5 2 QH a0 Tryz.func59
theorem b2E:AK 58 Rj:=fo [] 85 2 d3p (b1 b2D<|b1 c3e<|b1 b8s<|a0) Tryz.func58
theorem c3f:AK 37 a0I:=fo [] 93 2 d3q (b1 b2E<|b1 b8s<|a0) Tryz.func37
theorem d0z:AK 83 a0J:=fo [] 1779 0 d3r (b1 b2D<|a0) Tryz.func83
theorem c3g:AK 39 a3V:=fo [] 13 2 d3s (b1 c3f<|b1 b2E<|b1 d0z<|a0) Tryz.func39
theorem c3h:AK 141 ZB:=fo [] 16371 0 QH a0 Tryz.func141
theorem c3i:b3Y Tryz.prog G0 142 ZC:=b4F _
theorem c3j:AK 292 Rk:=fo [] 5 0 c2C a0 Tryz.func292
theorem c3k:AK 264 Qa:=fo [] 5 0 QH (b1 c3j<|a0) Tryz.func264
theorem c3l:AK 200 ZE:=fo [] 524231 0 c8i (b1 c3k<|a0) Tryz.func200
theorem c3m:AK 143 ZF:=fo [] 455 0 QH (b1 c3l<|a0) Tryz.func143
theorem c1b:AK 84 a5R:=fo [] 967 0 QH (b1 c3h<|b2 c3i<|b1 c3m<|a0) Tryz.func84
theorem d0A:AK 85 a3W:=fo [] 29 0 d3t (b1 c1b<|a0) Tryz.func85
theorem c3n:AK 40 a5S:=fo [] 199 0 d3u (b1 c1b<|b1 d0A<|a0) Tryz.func40
theorem c3o:AK 41 a3X:=fo [] 45 0 d3v (b1 c1b<|a0) Tryz.func41
theorem c1c:AK 31 VI:=fo [] 243 8 QH (b1 c3g<|b1 c3n<|b1 c3o<|a0) Tryz.func31
theorem b2F:AK 26 NJ:=fo [] 5 2 QH (b1 c3e<|a0) Tryz.func26
theorem c3p:AK 71 eC:=fo [] 109 0 d3w a0 Tryz.func71
theorem c3q:AK 73 a5T:=fo [] 5 0 QH a0 Tryz.func73
theorem c3s:AK 129 oG:=fo [] 253 0 c8j a0 Tryz.func129
theorem c3t:AK 74 YB:=fo [] 243 0 d3x (b1 c3s<|a0) Tryz.func74
theorem c3u:AK 75 YC:=fo [] 5 0 QH a0 Tryz.func75
theorem c1d:AK 76 Xq:=fo [] 5 0 d3y a0 Tryz.func76
theorem c3v:AK 130 Xr:=fo [] 51 0 c8k (b1 c1d<|a0) Tryz.func130
theorem b9w:AK 131 a0K:=fo [] 5 0 QH a0 Tryz.func131
theorem d0B:AK 77 YD:=fo [] 179 0 d3z (b1 c3v<|b1 b9w<|a0) Tryz.func77
theorem c3w:AK 78 ZG:=fo [] 5 0 QH a0 Tryz.func78
theorem d0C:AK 34 jL:=fo [(4,.pair FV d1x)] 745 0 d3A (b1 b2F<|b1 c3p<|b1 c3q<|b1 c3t<|b1 c3u<|b1 c1d<|b1 d0B<|b1 c3w<|a0) Tryz.func34
theorem b5f:AK 107 YE:=fo [] 19 0 c8l a0 Tryz.func107
theorem c3x:AK 80 a0L:=fo [] 5 2 QH (b1 b2F<|b1 b5f<|a0) Tryz.func80
theorem b5g:AK 110 Sc:=fo [] 21 0 c8m a0 Tryz.func110
theorem b5h:AK 121 a3Y:=fo [] 5 0 QH a0 Tryz.func121
theorem b5i:AK 232 ZH:=fo [] 83 0 c8n a0 Tryz.func232
theorem b5j:AK 233 oH:=fo [] 83 8 c8o a0 Tryz.func233
theorem b9x:AK 285 a0M:=fo [] 5 2 QH a0 Tryz.func285
theorem b5k:AK 234 VJ:=fo [] 5 0 c8p (b1 b9x<|a0) Tryz.func234
theorem b5l:AK 178 a2f:=fo [] 4611688217584863559 16 c8q (b1 b5i<|b1 b5j<|b1 b5k<|a0) Tryz.func178
theorem b5m:AK 188 ZI:=fo [] 70291 4 c8r a0 Tryz.func188
theorem a6w:AK 128 Bk:=⟨HH.of (cx:=b9s) (c1a a0) hU Tryz.func128 rfl (by kernel_rfl) c2D,⟨_,_,Tryz.func128,rfl,by kernel_rfl⟩⟩
theorem b5n:AK 128 Cy:=⟨HH.of (cx:=b4U) (c1a a0) hU Tryz.func128 rfl (by kernel_rfl) c0W,⟨_,_,Tryz.func128,rfl,by kernel_rfl⟩⟩
theorem c1e:AK 235 BH:=⟨HH.of (cx:=b4V) (c1a a0) hU Tryz.func235 rfl (by kernel_rfl) c0X,⟨_,_,Tryz.func235,rfl,by kernel_rfl⟩⟩
theorem b9y:AK 179 ZJ:=fo [] 43523 8 c8s (b1 b5n<|b1 c1e<|a0) Tryz.func179
theorem c3y:AK 192 a5U:=fo [] 5 2 QH (b1 b9y<|a0) Tryz.func192
theorem b5o:AK 242 a5V:=fo [] 19 0 QH a0 Tryz.func242
theorem a6x:AK 184 XG:=fo [] 455 0 c8t (b1 b5o<|a0) Tryz.func184
theorem b9z:AK 193 a5W:=fo [] 711 8 c8u (b1 a6x<|a0) Tryz.func193
theorem c3z:AK 138 a3Z:=fo [] 51 4 c8v (b1 b5g<|b1 b5h<|b1 b5l<|b1 b5m<|b1 c3y<|b1 b9z<|a0) Tryz.func138
theorem b9A:AK 250 ZK:=fo [] 21 0 c8w a0 Tryz.func250
theorem c3A:AK 289 jM:=fo [] 11 0 QH a0 Tryz.func289
theorem c3B:AK 251 a0N:=fo [] 4296020275 0 QH (b1 c3A<|a0) Tryz.func251
theorem c3C:AK 194 a4a:=fo [] 3527 0 c8x (b1 b9A<|b1 c3B<|a0) Tryz.func194
theorem b5p:AK 254 XH:=fo [] 5 0 QH a0 Tryz.func254
theorem b5q:AK 252 Ns:=fo [] 21 0 c8y (b1 b5p<|a0) Tryz.func252
theorem b9B:AK 253 SD:=fo [] 1991 0 c8z a0 Tryz.func253
theorem c3D:AK 195 a0O:=fo [] 14095 0 c8A (b1 b5i<|b1 b5q<|b1 b9B<|b1 b5p<|a0) Tryz.func195
theorem b5r:AK 257 gN:=fo [] 5 0 QH a0 Tryz.func257
theorem b5s:AK 255 Qi:=fo [] 21 0 c8B (b1 b5r<|a0) Tryz.func255
theorem b9C:AK 256 VK:=fo [] 7951 128 c8C a0 Tryz.func256
theorem c3E:AK 196 a5X:=fo [] 4039 32 c8D (b1 b5j<|b1 b5s<|b1 b9C<|b1 b5r<|a0) Tryz.func196
theorem b5t:AK 262 TG:=fo [] 5 0 QH a0 Tryz.func262
theorem b9D:AK 258 ON:=fo [] 21 0 c8E (b1 b5t<|a0) Tryz.func258
theorem b9E:AK 260 VL:=fo [(15,.pair QI c2y),(16,.pair QI c2y)] 13 2 c8F (b1 b9x<|a0) Tryz.func260
theorem b9F:AK 291 jN:=fo [] 5 0 QH a0 Tryz.func291
theorem b5u:AK 261 Jm:=fo [] 61 0 c8G (b1 b9F<|a0) Tryz.func261
theorem b9G:AK 263 Ks:=fo [] 4202995 0 c8H (b1 b5u<|b1 b9F<|a0) Tryz.func263
theorem c3F:AK 197 Pj:=⟨HH.zL (cx:=b9t) (c1a (a1 a6w (a1 b5k (a1 b9D (a1 b9E (a1 b5u (a1 b5t (a1 b9G a0)))))))) hU (r:=c2E) ⟨b7A,b7B⟩ Tryz.func197 rfl (by kernel_rfl) c2F,⟨_,_,Tryz.func197,rfl,by kernel_rfl⟩⟩
theorem b9H:AK 172 XI:=fo [] 5 0 QH a0 Tryz.func172
theorem c3G:AK 198 a5Y:=fo [] 371 0 c8J (b1 b9H<|a0) Tryz.func198
theorem c3H:AK 139 a9i:=fo [] 604462927822812893676787 4 c8K (b1 c3C<|b1 c3D<|b1 c3E<|b1 c3F<|b1 c3G<|a0) Tryz.func139
theorem c3I:AK 81 b2m:=fo [] 243 4 QH (b1 c3z<|b1 c3H<|a0) Tryz.func81
theorem b9I:AK 171 a5Z:=fo [] 5 0 QH a0 Tryz.func171
theorem b5v:AK 106 Rr:=fo [] 85 0 c8L (b1 b9I<|a0) Tryz.func106
theorem b9J:AK 108 Sd:=fo [(15,.list ka (.list ka QI))] 45 0 c8M (b1 a6w<|a0) Tryz.func108
theorem b9K:AK 109 TI:=fo [] 967 16 c8N (b1 b9I<|a0) Tryz.func109
theorem d0D:AK 82 Ru:=⟨HH.zL (cx:=c2G) (c1a (a1 b5v (a1 b5f (a1 b9J (a1 b9K a0))))) hU (r:=d1I) ⟨b7C,b7D⟩ Tryz.func82 rfl (by kernel_rfl) c8O,⟨_,_,Tryz.func82,rfl,by kernel_rfl⟩⟩
theorem b5w:AK 38 XJ:=fo [] 1945 2 d3C (b1 b2E<|b1 c3x<|b1 c3I<|b1 d0D<|a0) Tryz.func38
theorem c3J:AK 63 a6a:=fo [] 21 2 QH (b1 b5w<|a0) Tryz.func63
theorem c3K:AK 69 oI:=fo [] 109 0 d3D a0 Tryz.func69
theorem b9L:AK 125 a4b:=fo [] 109 0 c8P a0 Tryz.func125
theorem c3L:AK 186 a6b:=fo [] 13 0 QH a0 Tryz.func186
theorem c3M:AK 132 jO:=fo [(2,.pair QI c7Z),(15,.pair QI a0r),(26,.pair QI a0r),(83,.pair QI a0r),(88,.pair QI a0r),(101,.pair QI a0r),(105,.pair QI a0r)] 4089 0 c8Q (b1 c3q<|b1 c3t<|b1 c3u<|b1 c1d<|b1 c3w<|b1 c3x<|b1 b9L<|b1 c3L<|a0) Tryz.func132
theorem c3N:AK 133 a9j:=fo [] 5 0 QH a0 Tryz.func133
theorem b9M:AK 116 b2n:=fo [] 115 4 QH (b1 c3I<|a0) Tryz.func116
theorem pS:AK 117 oJ:=fo [] 45 0 c8R (b1 b2D<|a0) Tryz.func117
theorem a2g:AK 137 ZL:=fo [] 5 0 QH a0 Tryz.func137
theorem b9N:AK 135 YF:=fo [] 5 0 c8S a0 Tryz.func135
theorem b5x:AK 191 YG:=fo [] 19 0 QH a0 Tryz.func191
theorem a2h:AK 247 ZM:=fo [] 51 0 c8T (b1 b9N<|b1 b5x<|a0) Tryz.func247
theorem b0H:AK 189 VM:=fo [] 51 0 c8U (b1 a2h<|a0) Tryz.func189
theorem c3O:AK 248 oK:=fo [] 115 0 c8V (b1 pS<|b1 b0H<|b1 a2h<|a0) Tryz.func248
theorem c3P:AK 187 a0P:=fo [(2,.pair QI d1C)] 178258169 0 c8W (b1 b0H<|b1 a2h<|b1 c3O<|a0) Tryz.func187
theorem b5y:AK 243 eD:=fo [] 5 0 QH a0 Tryz.func243
theorem c3Q:AK 308 Xs:=fo [] 115 0 c8X (b1 b5x<|a0) Tryz.func308
theorem c3R:AK 309 a0Q:=fo [] 77 0 QH a0 Tryz.func309
theorem c3S:AK 302 a9k:=fo [] 499 0 c8Y (b1 a2g<|b1 a2h<|b1 c3Q<|b1 c3R<|a0) Tryz.func302
theorem c3T:AK 288 a9l:=fo [] 1991 0 c8Z (b1 a2g<|b1 b5y<|b1 c3S<|a0) Tryz.func288
theorem c3U:AK 249 a6c:=fo [] 4083 0 c9a (b1 pS<|b1 a2g<|b1 b0H<|b1 a2h<|b1 c3T<|a0) Tryz.func249
theorem c3V:AK 190 a6d:=fo [(11,.pair QI Q3),(41,.pair QI Q3)] 251783 0 c9b (b1 a2g<|b1 a6x<|b1 b5o<|b1 a2h<|b1 c3U<|a0) Tryz.func190
theorem c3W:AK 134 b2o:=fo [(7,.pair QI (.pair QI (.pair QI (.pair QI (.pair QI (.pair QL (.pair (.arr 3 QI) (.pair (.list kc Q5) c7X))))))))] 8035 0 c9c (b1 b9M<|b1 pS<|b1 b5h<|b1 a2g<|b1 b5l<|b1 c3P<|b1 b5m<|b1 b0H<|b1 c3V<|a0) Tryz.func134
theorem c3X:AK 136 Xt:=fo [] 13 0 c9d (b1 b5x<|a0) Tryz.func136
theorem d0E:AK 79 a4c:=fo [(5,.pair QI c2z)] 6105 0 d3E (b1 c3J<|b1 c3K<|b1 c3M<|b1 c3N<|b1 c3W<|b1 b9N<|b1 c3X<|b1 a2g<|a0) Tryz.func79
theorem d0F:AK 35 eE:=fo [] 110623 64 d3F (b1 b5w<|b1 d0E<|a0) Tryz.func35
theorem b5z:AK 14 TJ:=fo [(6,.pair FV b4S),(20,.pair FV a0F),(24,.pair FV a0F),(48,.pair FV a0F),(90,.pair FV a0F),(96,.pair FV a0F)] 5033 0 d3G (b1 c1c<|b1 d0C<|b1 d0F<|a0) Tryz.func14
theorem b5A:AK 123 ZN:=fo [] 3 0 c9e a0 Tryz.func123
theorem a6y:AK 118 ZO:=fo [] 199 0 c9f (b1 b5A<|a0) Tryz.func118
theorem b9O:AK 119 jP:=fo [] 7 0 QH (b1 a6y<|a0) Tryz.func119
theorem c3Y:AK 120 oL:=fo [] 83 8 c9g (b1 pS<|b1 a6y<|b1 b9O<|a0) Tryz.func120
theorem b9P:AK 238 XK:=fo [] 327 0 c9h (b1 b5o<|a0) Tryz.func238
theorem b9Q:AK 240 a6e:=fo [] 5 0 QH (b1 pS<|a0) Tryz.func240
theorem b5B:AK 244 a6f:=fo [] 5 0 QH a0 Tryz.func244
theorem b9R:AK 245 a6g:=fo [] 141 0 QH (b1 b5B<|a0) Tryz.func245
theorem c3Z:AK 287 a6h:=fo [] 51 0 c9i (b1 b5y<|b1 b5B<|b1 b9R<|a0) Tryz.func287
theorem b5C:AK 241 oM:=fo [] 179 0 c9j (b1 c3Z<|a0) Tryz.func241
theorem b9S:AK 183 ZP:=fo [] 7951 16 c9k (b1 a6x<|b1 b9z<|b1 b9P<|b1 b9Q<|b1 b5C<|a0) Tryz.func183
theorem c4a:AK 246 Xu:=fo [] 19 0 c9l (b1 b5A<|a0) Tryz.func246
theorem c4b:AK 185 a9m:=fo [] 7495 0 c9m (b1 a6y<|b1 b5y<|b1 b5B<|b1 b9R<|b1 c4a<|a0) Tryz.func185
theorem c4c:AK 122 a6i:=fo [] 97311 64 c9n (b1 pS<|b1 a6y<|b1 b9S<|b1 a6x<|b1 c4b<|a0) Tryz.func122
theorem c4d:AK 64 b2p:=fo [] 11682311054023 16 d3H (b1 b9M<|b1 pS<|b1 a6y<|b1 b9O<|b1 c3Y<|b1 b5h<|b1 c4c<|a0) Tryz.func64
theorem d0G:AK 65 Xv:=fo [] 1 0 d3I (b1 b5A<|a0) Tryz.func65
theorem d0H:AK 66 Xw:=fo [] 5 0 QH a0 Tryz.func66
theorem c4e:AK 70 a6j:=fo [] 45 0 d3J a0 Tryz.func70
theorem c4f:AK 124 a6k:=fo [] 5 0 QH a0 Tryz.func124
theorem d0I:AK 67 jQ:=fo [] 307 4 d3K (b1 c4e<|b1 c4f<|b1 b9L<|a0) Tryz.func67
theorem c4g:AK 126 a0R:=fo [] 51 0 c9o (b1 b9w<|a0) Tryz.func126
theorem c4h:AK 127 Ox:=⟨b4E _,⟨_,_,Tryz.func127,rfl,by kernel_rfl⟩⟩
theorem c4i:AK 68 a6l:=fo [] 51 0 QH (b1 c4g<|b1 c4h<|a0) Tryz.func68
theorem b8t:AK 30 gO:=fo [(4,.pair (.list ka QV) Q0)] 909 2 d3L (b1 c3J<|b1 c4d<|b1 d0G<|b1 d0H<|b1 d0I<|b1 c4i<|b1 c3K<|a0) Tryz.func30
theorem d0J:AK 22 EB:=fo [] 821 0 d3M (b1 b5z<|b1 b8t<|a0) Tryz.func22
theorem d1R:AK 8 Se:=⟨b8r d0J.1,⟨_,_,Tryz.func8,rfl,by kernel_rfl⟩⟩
theorem c4j:AK 36 a6m:=fo [] 6653 2 d3N (b1 b2F<|b1 b8t<|b1 c1c<|b1 b5w<|a0) Tryz.func36
theorem c4k:AK 15 UD:=fo [] 253 2 d3O (b1 c4j<|b1 c3f<|a0) Tryz.func15
theorem d0K:AK 24 Rb:=fo [] 51 0 d3P a0 Tryz.func24
theorem c4l:AK 10 XL:=fo [] 851 0 d3Q (b1 b5z<|b1 c4k<|b1 d0K<|a0) Tryz.func10
theorem d0L:AK 28 ZQ:=fo [(6,.pair QI Q8),(36,.list ka (.list ka QI)),(37,.pair QI Q8)] 931 8 d1J (b1 b2F<|b1 b2D<|a0) Tryz.func28
theorem c4m:AK 61 eF:=fo [] 115 0 d1K (b1 b5v<|b1 b5f<|b1 b9J<|b1 b9K<|a0) Tryz.func61
theorem c4n:AK 169 XM:=fo [] 237 0 c2H (b1 b5v<|a0) Tryz.func169
theorem c4o:AK 170 ZR:=fo [] 135445 0 QH a0 Tryz.func170
theorem c4p:AK 105 gP:=fo [] 509 0 c2I (b1 c4m<|b1 c4n<|b1 c4o<|a0) Tryz.func105
theorem d0M:AK 60 gQ:=fo [] 29 2 d1L (b1 b2E<|b1 c4p<|a0) Tryz.func60
theorem b9T:AK 111 Sf:=fo [] 371 0 c2J (b1 b9H<|a0) Tryz.func111
theorem c4q:AK 173 Bn:=⟨HH.of (cx:=VN) (c1a a0) hU Tryz.func173 rfl (by kernel_rfl) c2K,⟨_,_,Tryz.func173,rfl,by kernel_rfl⟩⟩
theorem b9U:AK 112 OP:=fo [] 45 0 c2L (b1 c4q<|a0) Tryz.func112
theorem b9V:AK 224 TL:=fo [] 243 0 c2M (b1 b9A<|a0) Tryz.func224
theorem c4s:AK 225 XN:=fo [] 243 0 c2N a0 Tryz.func225
theorem c4t:AK 174 ZS:=fo [] 509 0 c2O (b1 b9V<|b1 c4s<|a0) Tryz.func174
theorem b9W:AK 283 Qk:=fo [] 5 0 QH a0 Tryz.func283
theorem c4u:AK 281 UE:=fo [] 493 0 c2P (b1 b9W<|a0) Tryz.func281
theorem c4v:AK 282 OX:=fo [] 1991 0 c2Q a0 Tryz.func282
theorem c4w:AK 226 SG:=fo [] 16371 0 c2R (b1 a6w<|b1 b5q<|b1 c4u<|b1 c4v<|b1 b9W<|a0) Tryz.func226
theorem c4x:AK 227 VO:=fo [] 4077 0 c2S a0 Tryz.func227
theorem c4y:AK 228 VP:=fo [] 28531 0 c2T (b1 b2D<|a0) Tryz.func228
theorem b9X:AK 176 Sg:=fo [] 4039 0 QH (b1 c4w<|b1 c4x<|b1 c4y<|a0) Tryz.func176
theorem c4z:AK 229 gS:=fo [] 16327 0 c2U (b1 b5s<|a0) Tryz.func229
theorem b5D:AK 231 Rz:=fo [] 4039 32 c2V (b1 b5j<|b1 b5s<|b1 b9C<|b1 b5r<|a0) Tryz.func231
theorem c4A:AK 284 ZT:=fo [] 1 0 QH a0 Tryz.func284
theorem c4B:AK 230 gT:=fo [] 47523 0 c2W (b1 b5D<|b1 c4A<|a0) Tryz.func230
theorem c4C:AK 177 ZU:=fo [] 953 0 QH (b1 b9X<|b1 c4z<|b1 c4B<|b1 b5D<|a0) Tryz.func177
theorem c4D:AK 175 Ql:=fo [] 463 0 QH (b1 b9X<|a0) Tryz.func175
theorem c4E:AK 113 SH:=fo [(5,.list ka Ib)] 851 147573952589676412928 c2X (b1 c4t<|b1 c4D<|b1 c4C<|a0) Tryz.func113
theorem c4F:AK 236 XO:=fo [] 1991 0 c2Y (b1 b5i<|b1 b5q<|b1 b9B<|b1 b5p<|a0) Tryz.func236
theorem c4G:AK 237 ZV:=fo [] 15987 0 c2Z (b1 a6w<|b1 b5k<|b1 b9D<|b1 b9E<|b1 b5u<|b1 b5t<|b1 b9G<|a0) Tryz.func237
theorem c4H:AK 180 gU:=fo [] 147573952727119562867 0 c3a (b1 a6w<|b1 b5m<|b1 b9V<|b1 b5D<|b1 c4F<|b1 c4G<|a0) Tryz.func180
theorem c4I:AK 286 gX:=fo [] 125 0 c3b (b1 b5C<|a0) Tryz.func286
theorem c4J:AK 239 VQ:=fo [] 13 0 QH (b1 b9Q<|b1 b5C<|b1 c4I<|a0) Tryz.func239
theorem c4K:AK 181 ZW:=fo [(14,.pair QI Q3),(40,.pair QI Q3)] 440847 0 c3c (b1 b9S<|b1 a6x<|b1 b9P<|b1 c4J<|a0) Tryz.func181
theorem c4L:AK 114 oQ:=fo [] 14727 32 c3d (b1 b5g<|b1 b9T<|b1 b9U<|b1 b5l<|b1 b9y<|b1 c4H<|b1 c4K<|a0) Tryz.func114
theorem c4M:AK 182 ZX:=fo [] 5 0 QH a0 Tryz.func182
theorem c4N:AK 115 oS:=fo [(5,.pair (.list ka QV) Q0)] 19 4 QH (b1 c4d<|b1 c4M<|a0) Tryz.func115
theorem d0N:AK 62 oT:=fo [] 50915 0 d1M (b1 b5g<|b1 b9T<|b1 b9U<|b1 c4E<|b1 c4L<|b1 c4N<|a0) Tryz.func62
theorem c4O:AK 29 TM:=fo [(10,.pair QI c2z),(52,.pair QI a0r),(57,.pair QI a0r),(63,.pair QI a0r),(79,.pair QI a0r),(95,.pair QI a0r)] 88591 48 d1N (b1 b2F<|b1 b2E<|b1 b8s<|b1 d0M<|b1 c4m<|b1 d0N<|a0) Tryz.func29
theorem c4P:AK 32 gY:=fo [] 5629 2 d3R (b1 c4j<|b1 c4i<|b1 c4e<|b1 c3p<|a0) Tryz.func32
theorem d0O:AK 12 Qq:=fo [(13,.pair FV b4S),(76,.pair FV a0F)] 1431311 16 d1O (b1 b2F<|b1 b2D<|b1 d0L<|b1 c4O<|b1 b8t<|b1 c1c<|b1 c4P<|a0) Tryz.func12
theorem c4Q:AK 17 RC:=fo [(6,.pair FV b4S),(15,.pair FV a0F)] 11443 4 d3S (b1 b8t<|b1 c4P<|b1 b5w<|b1 c3g<|b1 c3n<|b1 c3o<|a0) Tryz.func17
theorem d0P:AK 72 gZ:=fo [(6,.pair QI Q9),(12,.pair QI Q7),(30,.pair QI Q7),(33,.pair QI Q7)] 291 12 d1P (b1 b2E<|b1 b8s<|b1 b5n<|a0) Tryz.func72
theorem d0Q:AK 33 UF:=fo [] 647 24 QH (b1 c4O<|b1 b5w<|b1 d0P<|a0) Tryz.func33
theorem d0R:AK 13 TN:=fo [] 26311 16 d1Q (b1 b5z<|b1 c4Q<|b1 d0Q<|a0) Tryz.func13
theorem b8u:AK 16 XP:=fo [] 51 0 d3T a0 Tryz.func16
theorem d4u:AK 4 VT:=fo [] 957 0 QH (b1 d1R<|b1 c4l<|b1 d0O<|b1 d0R<|b1 b5z<|b1 c4k<|b1 b8u<|a0) Tryz.func4 (hq:=by intro x;exact Eq.mp (by kernel_rfl) (a0S VR ZY Db DK CI Iy Iz x))
theorem d0S:AK 42 Kt:=fo [] 19 0 QH a0 Tryz.func42
theorem d0T:AK 18 Jr:=fo [] 365 0 d3U (b1 d0S<|a0) Tryz.func18
theorem d4v:AK 5 a0T:=fo [] 179 4503599627370496 H5 (b1 b5z<|b1 c4Q<|b1 d0T<|a0) Tryz.func5
theorem c1f:AK 45 a6o:=fo [] 5 2 QH a0 Tryz.func45
theorem d0U:AK 46 b2r:=fo [] 5 0 QH a0 Tryz.func46
theorem c1g:AK 52 b5a:=fo [] 115 0 d3V a0 Tryz.func52
theorem b9Y:AK 212 a0U:=fo [] 51 0 c9p a0 Tryz.func212
theorem b9Z:AK 157 a0V:=fo [] 5 2 QH (b1 c1f<|b1 b9Y<|a0) Tryz.func157
theorem c4R:AK 167 eH:=fo [] 51 0 c9q a0 Tryz.func167
theorem c4S:AK 168 oU:=fo [] 19 12 QH (b1 b8u<|a0) Tryz.func168
theorem c0a:AK 104 a0W:=fo [] 19 12 QH (b1 b8u<|b1 c4R<|b1 c4S<|a0) Tryz.func104
theorem b5E:AK 154 a0X:=fo [] 5 0 QH a0 Tryz.func154
theorem b5F:AK 266 jR:=fo [] 51 0 c9r a0 Tryz.func266
theorem c0b:AK 267 a0Y:=fo [] 51 8 c9s a0 Tryz.func267
theorem c0c:AK 293 oV:=fo [] 5 2 QH a0 Tryz.func293
theorem c0d:AK 268 oW:=fo [] 13 0 c9t (b1 c0c<|a0) Tryz.func268
theorem c0e:AK 205 a6p:=fo [] 1152921505680593555 4 c9u (b1 b5F<|b1 c0b<|b1 c0d<|a0) Tryz.func205
theorem c4T:AK 213 a6q:=fo [] 36031004900589569 2 c9v a0 Tryz.func213
theorem XR:AK 276 b2t:=fo [] 5 0 QH a0 Tryz.func276
theorem hZ:AK 214 a4e:=fo [] 13 0 c9w (b1 XR<|a0) Tryz.func214
theorem c0f:AK 269 b5b:=fo [] 19 0 QH a0 Tryz.func269
theorem b0I:AK 210 jS:=fo [] 455 0 c9x (b1 c0f<|a0) Tryz.func210
theorem a6z:AK 273 oX:=fo [] 5 0 QH a0 Tryz.func273
theorem c0g:AK 215 a0Z:=fo [] 455 8 c9y (b1 b0I<|b1 a6z<|a0) Tryz.func215
theorem c4U:AK 296 a4f:=fo [] 5 0 QH a0 Tryz.func296
theorem c4V:AK 277 jT:=fo [] 8135 0 c9z (b1 hZ<|b1 XR<|b1 c4U<|a0) Tryz.func277
theorem c4W:AK 297 bB:=fo [] 967 0 c9A (b1 b5F<|b1 XR<|a0) Tryz.func297
theorem c4X:AK 278 eI:=fo [] 7951 0 c9B (b1 hZ<|b1 b5F<|b1 XR<|b1 c4W<|a0) Tryz.func278
theorem c4Y:AK 298 jU:=fo [] 967 32 c9C a0 Tryz.func298
theorem c4Z:AK 279 oY:=fo [] 1991 32 c9D (b1 hZ<|b1 c0b<|b1 XR<|b1 c4Y<|a0) Tryz.func279
theorem c5a:AK 299 jV:=fo [(15,.pair QI c2y),(16,.pair QI c2y)] 13 2 c9E (b1 c0c<|a0) Tryz.func299
theorem c0h:AK 306 a9n:=fo [] 5 0 QH a0 Tryz.func306
theorem c0i:AK 300 YI:=fo [] 29 0 c9F (b1 c0h<|a0) Tryz.func300
theorem c5b:AK 307 a9o:=fo [] 77 0 QH a0 Tryz.func307
theorem c5c:AK 301 bD:=fo [] 243 0 c9G (b1 c0i<|b1 c0h<|b1 c5b<|a0) Tryz.func301
theorem c5d:AK 280 jW:=fo [] 4083 0 c9H (b1 hZ<|b1 c0d<|b1 XR<|b1 c5a<|b1 c0i<|b1 c5c<|a0) Tryz.func280
theorem c5e:AK 216 a9p:=fo [] 144115192371347773 2 QH (b1 c4V<|b1 c4X<|b1 c4Z<|b1 c5d<|a0) Tryz.func216
theorem c5f:AK 217 b8q:=fo [] 243 0 c9I (b1 XR<|a0) Tryz.func217
theorem c0j:AK 158 a4g:=fo [] 8179 4 c9J (b1 c0a<|b1 b5E<|b1 c0e<|b1 c4T<|b1 hZ<|b1 c0g<|b1 c5e<|b1 c5f<|a0) Tryz.func158
theorem c0k:AK 221 a6r:=fo [] 13 0 c9K a0 Tryz.func221
theorem c5g:AK 218 a9q:=fo [] 51 0 c9L (b1 b9Y<|b1 hZ<|b1 c0k<|a0) Tryz.func218
theorem c5h:AK 219 a4h:=fo [(18,.list ka (.list ka QI))] 29 0 c9M a0 Tryz.func219
theorem c5i:AK 220 b2u:=fo [] 199 16 c9N (b1 XR<|a0) Tryz.func220
theorem c5j:AK 159 oZ:=fo [] 243 0 c9O (b1 c5g<|b1 c5h<|b1 c5i<|a0) Tryz.func159
theorem c5k:AK 222 b5c:=fo [] 5 0 c9P a0 Tryz.func222
theorem c5l:AK 223 b2v:=fo [] 5 0 c9Q a0 Tryz.func223
theorem b5G:AK 163 b2w:=fo [] 19 0 QH (b1 c5k<|b1 c5l<|a0) Tryz.func163
theorem c0l:AK 160 pD:=fo [] 29 2 c9R (b1 b5G<|b1 c0k<|a0) Tryz.func160
theorem c5m:AK 98 eM:=fo [] 1017 2 d3W (b1 b9Z<|b1 c0j<|b1 c5j<|b1 c0l<|a0) Tryz.func98
theorem c5n:AK 92 pE:=fo [] 21 2 QH (b1 c5m<|a0) Tryz.func92
theorem c5o:AK 149 a4i:=fo [] 115 4 QH (b1 c0j<|a0) Tryz.func149
theorem a6A:AK 150 a9r:=fo [] 29 0 c9S (b1 b5G<|a0) Tryz.func150
theorem a6B:AK 151 jX:=fo [] 199 0 c9T a0 Tryz.func151
theorem b5H:AK 153 pF:=fo [] 71 0 c9U (b1 a6B<|a0) Tryz.func153
theorem c5p:AK 152 jY:=fo [] 19 8 QH (b1 a6A<|b1 a6B<|b1 b5H<|a0) Tryz.func152
theorem c0m:AK 156 b5d:=fo [] 13 0 c9V a0 Tryz.func156
theorem c0n:AK 274 b2x:=fo [] 5 0 QH (b1 c0m<|b1 XR<|a0) Tryz.func274
theorem c5q:AK 305 a1a:=fo [] 51 0 c9W (b1 a6z<|b1 c0n<|b1 XR<|a0) Tryz.func305
theorem c5r:AK 295 a4j:=fo [] 115 0 c9X (b1 c5q<|a0) Tryz.func295
theorem c5s:AK 272 a1b:=fo [] 19 0 QH (b1 a6A<|b1 c5r<|a0) Tryz.func272
theorem c5t:AK 209 pG:=fo [] 7951 16 c9Y (b1 b0I<|b1 hZ<|b1 c0g<|b1 c5s<|a0) Tryz.func209
theorem c5u:AK 275 bE:=fo [] 51 0 c9Z a0 Tryz.func275
theorem c5v:AK 211 a4k:=fo [] 967 0 d0a (b1 a6B<|b1 hZ<|b1 a6z<|b1 c0n<|b1 c5u<|a0) Tryz.func211
theorem c5w:AK 155 a1c:=fo [] 64543 64 d0b (b1 a6A<|b1 a6B<|b1 b5H<|b1 c5t<|b1 b0I<|b1 c5v<|a0) Tryz.func155
theorem c5x:AK 93 a4l:=fo [] 576478898540249543 16 d3X (b1 c5o<|b1 a6A<|b1 a6B<|b1 c5p<|b1 b5H<|b1 b5E<|b1 c5w<|a0) Tryz.func93
theorem d0V:AK 94 bF:=fo [] 29 0 d3Y a0 Tryz.func94
theorem c5y:AK 51 a1d:=fo [] 61 0 d3Z a0 Tryz.func51
theorem d0W:AK 95 a9s:=fo [] 115 4 d4a (b1 c5y<|b1 c0m<|a0) Tryz.func95
theorem c5z:AK 96 a9t:=fo [] 61 0 d4b a0 Tryz.func96
theorem c5A:AK 97 a4m:=fo [] 61 0 d4c a0 Tryz.func97
theorem c5B:AK 47 pH:=fo [(11,.pair (.list ka QV) .unit),(12,.pair (.list ka QV) .unit)] 253 2 d4d (b1 c1g<|b1 c5n<|b1 c5x<|b1 d0V<|b1 d0W<|b1 c5z<|b1 c5A<|a0) Tryz.func47
theorem c5C:AK 161 pI:=fo [] 5 2 QH a0 Tryz.func161
theorem d0X:AK 99 a6s:=fo [] 61 2 d4e (b1 c0l<|b1 c5C<|a0) Tryz.func99
theorem c5D:AK 48 a6t:=fo [] 189 0 d4f (b1 c5m<|b1 d0X<|a0) Tryz.func48
theorem c5E:AK 162 a9u:=fo [] 5 0 QH a0 Tryz.func162
theorem c5F:AK 164 a9v:=fo [] 115 0 d0c a0 Tryz.func164
theorem c5G:AK 100 b2y:=fo [] 243 0 d0d (b1 c5E<|b1 b5G<|b1 c5F<|a0) Tryz.func100
theorem c0o:AK 165 b2z:=fo [] 19 0 QH a0 Tryz.func165
theorem c5H:AK 166 b2A:=fo [] 29 0 QH (b1 c0o<|a0) Tryz.func166
theorem c5I:AK 101 a9w:=fo [] 29 0 d0e (b1 c0o<|b1 c5H<|a0) Tryz.func101
theorem d0Y:AK 49 a1e:=fo [] 115 0 QH (b1 c5G<|b1 c5I<|a0) Tryz.func49
theorem c1h:AK 20 a6u:=fo [(6,.pair FV c2A),(22,.pair FV a0F),(27,.pair FV (.pair QI (.pair QU (.pair (.nl Q5) c8c)))),(62,.pair FV a0F)] 16291 4 d4g (b1 c1f<|b1 d0U<|b1 c5B<|b1 c5D<|b1 d0Y<|a0) Tryz.func20
theorem c5J:AK 53 pK:=fo [] 61 0 d4h a0 Tryz.func53
theorem c5K:AK 86 pL:=fo [] 5 0 QH a0 Tryz.func86
theorem c5L:AK 89 eN:=fo [] 5 0 d4i a0 Tryz.func89
theorem c1i:AK 87 eO:=fo [] 51 0 d4j (b1 c5L<|a0) Tryz.func87
theorem c5M:AK 88 jZ:=fo [] 243 0 d4k a0 Tryz.func88
theorem d0Z:AK 90 kA:=fo [] 243 0 d4l (b1 c1i<|a0) Tryz.func90
theorem d1a:AK 43 a1f:=fo [(5,.pair FV d1y)] 1331825411864783514947473805148164057 0 d4m (b1 c1f<|b1 c5J<|b1 c5K<|b1 c1i<|b1 c5M<|b1 c5L<|b1 d0Z<|a0) Tryz.func43
theorem d1S:AK 7 b2B:=fo [] 19 0 QH a0 Tryz.func7
theorem c0p:AK 201 b5e:=fo [] 13 0 d0f a0 Tryz.func201
theorem c5N:AK 144 a9x:=fo [(2,.pair QI d1F),(7,.pair QI c7Z),(18,.pair QI a0r),(29,.pair QI a0r),(40,.pair QI a0r),(96,.pair QI a0r),(110,.pair QI a0r),(115,.pair QI a0r)] 2598684968407909558448516470177657 0 d0g (b1 c5K<|b1 c1i<|b1 c5M<|b1 c5z<|b1 b9Z<|b1 c0p<|a0) Tryz.func144
theorem c5O:AK 145 pM:=fo [] 5 0 QH a0 Tryz.func145
theorem b5I:AK 148 eP:=fo [] 5 0 d0h a0 Tryz.func148
theorem b5J:AK 208 kC:=fo [] 19 0 QH a0 Tryz.func208
theorem a2i:AK 202 kD:=fo [] 115 0 d0i (b1 b5I<|b1 b5J<|a0) Tryz.func202
theorem c5P:AK 265 YJ:=fo [] 51 0 d0j (b1 a2i<|a0) Tryz.func265
theorem b5K:AK 204 pN:=fo [] 455 0 d0k (b1 c5P<|a0) Tryz.func204
theorem c5Q:AK 203 kE:=fo [] 51 0 QH (b1 a2i<|b1 b5K<|a0) Tryz.func203
theorem c5R:AK 303 bG:=fo [] 51 0 d0l (b1 b5I<|b1 b5J<|a0) Tryz.func303
theorem c5S:AK 304 a6v:=fo [] 5 0 QH (b1 c0p<|a0) Tryz.func304
theorem c5T:AK 294 a4n:=fo [] 4039 0 d0m (b1 a2i<|b1 a6z<|b1 c5R<|b1 c5S<|a0) Tryz.func294
theorem c5U:AK 270 b2C:=fo [] 967 0 d0n (b1 a6A<|b1 a2i<|b1 b5K<|b1 a6z<|b1 c5T<|a0) Tryz.func270
theorem c5V:AK 206 a1g:=fo [(9,.pair QI Q3),(24,.pair QI Q3)] 64903 0 d0o (b1 a2i<|b1 b0I<|b1 c0f<|b1 c5U<|a0) Tryz.func206
theorem c5W:AK 271 kF:=fo [] 5 0 QH a0 Tryz.func271
theorem c5X:AK 207 pO:=fo [] 199 0 d0p (b1 c5W<|a0) Tryz.func207
theorem c5Y:AK 146 a4o:=fo [(7,.pair QI d1D),(24,.pair QI c0T),(35,.pair QI c0T),(103,.pair QI c0T),(113,.pair QI c0T),(124,.pair QI c0T),(142,.pair QI c0T),(148,.pair (.list ka QV) .unit),(149,.pair (.list ka QV) .unit),(162,.pair QI c0T)] 37778934257693487251299 0 d0q (b1 c5x<|b1 b5E<|b1 a2i<|b1 c5Q<|b1 b5K<|b1 c0e<|b1 c5V<|b1 c5X<|a0) Tryz.func146
theorem c5Z:AK 147 bH:=fo [] 5 0 d0r (b1 b5J<|a0) Tryz.func147
theorem d1b:AK 91 kG:=fo [(5,.pair QI c2z)] 12249 0 d4n (b1 d1S<|b1 c1g<|b1 c5n<|b1 c5A<|b1 c5N<|b1 c5O<|b1 c5Y<|b1 c5Z<|b1 b5I<|a0) Tryz.func91
theorem d1c:AK 44 kH:=fo [] 26655 64 d4o (b1 d1b<|a0) Tryz.func44
theorem c1j:AK 19 kI:=fo [] 11241 0 d4p (b1 c1h<|b1 d1a<|b1 d1c<|a0) Tryz.func19
theorem c6a:AK 103 kJ:=fo [] 51 0 d0s a0 Tryz.func103
theorem c6b:AK 54 kK:=fo [] 51 12 d4q (b1 c6a<|b1 c0a<|a0) Tryz.func54
theorem c6c:AK 102 kL:=fo [] 115 12 d0t (b1 c6b<|a0) Tryz.func102
theorem c6d:AK 50 pP:=fo [] 21 2 QH (b1 c1h<|b1 c6c<|a0) Tryz.func50
theorem d1d:AK 21 pQ:=fo [] 509 2 d4r (b1 c5B<|b1 c6d<|b1 c5y<|b1 c1g<|b1 c5J<|a0) Tryz.func21
theorem d4w:AK 6 eQ:=fo [] 279441329843 0 H6 (b1 c1j<|b1 c1h<|b1 d1d<|a0) Tryz.func6
theorem d1e:AK 23 a9y:=fo [] 51 0 d4s (b1 c6b<|a0) Tryz.func23
theorem d4x:AK 9 eS:=fo [] 1875 0 H9 (b1 c1j<|b1 d1e<|a0) Tryz.func9
theorem d1f:AK 25 YK:=fo [] 61 2 QH (b1 c5D<|b1 c6d<|a0) Tryz.func25
theorem d1g:AK 11 eU:=fo [] 8019 0 d4t (b1 b8u<|b1 c1j<|b1 d1f<|a0) Tryz.func11
theorem d4y:AK 3 MV:=fo [] 499 0 H3 (b1 d4u<|b1 d4v<|b1 d4w<|b1 d1S<|b1 d1R<|b1 d4x<|b1 c4l<|b1 d1g<|a0) Tryz.func3
end Go.Ab
namespace Go.Ab
open IntKind renaming wrap->zN
section
variable {M β:Type} {f:M->Option (M ⊕ β)}
theorem YL:∀(n m:Nat)(s:M){b:β},IH f n s=kd b->IH f (n+m) s=kd b|0,_,s,b,h=>by simp[IH]at h|n+1,m,s,b,h=>by rw[show n+1+m=n+m+1 from by omega];simp only[IH]at h|-;split at h;cases h;rename_i g k;exact YL n m g h;exact h
theorem a2j{n m:Nat}{s:M}{b g:β}(h:IH f n s=kd b)(a:IH f m s=kd g):b=g:=by have c:=YL n m s h;have k:=YL m n s a;rw[Nat.add_comm,c]at k;exact Option.some.inj k
theorem b5L{n:Nat}{s:M}{b:β}(h:IH f n s=kd b):mJ f s=kd b:=by unfold mJ;have g:∃n b,IH f n s=kd b:=⟨n,b,h⟩;rw[dif_pos g];exact cG kd (a2j g.choose_spec.choose_spec h)
theorem a4p{n:Nat}{s:M}{b:β}(h:IH f n s=kd b):Al f s=kd b:=by unfold Al;split;rename_i g hb;rw[a2j hb h];exact b5L h
theorem a2k{s:M}(h:∀n,IH f n s=ke):Al f s=ke:=by unfold Al;rw[h 400];show mJ f s=ke;unfold mJ;rw[dif_neg];rintro⟨n,b,g⟩;rw[h n]at g;cases g
theorem Ae{s:M}{b:β}(h:f s=kd (.inr b)):Al f s=kd b:=a4p (n:=1) (by simp[IH,h])
theorem Af{s s':M}(h:f s=kd (.inl s')):Al f s=Al f s':=by
 by_cases hx:∃n b,IH f n s'=kd b;obtain⟨n,b,hb⟩:=hx;rw[a4p hb];exact a4p (n:=n+1) (by simp[IH,h,hb]);have g:∀n,IH f n s'=ke:=λn=>by cases hn:IH f n s' with|none=>rfl|some b=>exact absurd ⟨n,b,hn⟩ hx
 rw[a2k g];refine a2k λn=>?_
 cases n with|zero=>rfl|succ n=>simp[IH,h,g n]
theorem b0J(S:Nat->M)(n:Nat){b:β}(g:∀i,i<n->f (S i)=kd (.inl (S (i+1))))(h:f (S n)=kd (.inr b)):∀(k:Nat),k<=n->Al f (S (n-k))=kd b|0,_=>Ae h|k+1,a=>by rw[Af (g (n-(k+1)) (by omega)),show n-(k+1)+1=n-k from by omega];exact b0J S n g h k (by omega)
theorem Bo(S:Nat->M)(n:Nat){b:β}(g:∀i,i<n->f (S i)=kd (.inl (S (i+1))))(h:f (S n)=kd (.inr b)):Al f (S 0)=kd b:=by have:=b0J S n g h n (E1 _);rwa [G6]at this
end
theorem Ac{n:Int}(h:-9223372036854775808<=n/\n<=9223372036854775807):zN .i64 n=n:=by simp only[zN,IntKind.bits,IntKind.signed];simp;split<;>omega
theorem Au{n:Int}(h:0<=n/\n<18446744073709551616):zN .u64 n=n:=by simp only[zN,IntKind.bits,IntKind.signed];simp;omega
theorem GR(n:Int):zN .u8 n=n%256:=by simp[zN,IntKind.bits,IntKind.signed]
def lT:Nat->Nat->List Int|0,_=>[]|k+1,n=>((n%256:Nat):Int)::lT k (n / 256)
theorem Nx:∀k n,(lT k n).length=k|0,_=>rfl|k+1,n=>by simp[lT,Nx k]
theorem VW:∀(k n:Nat),lT (k+1) n=lT k n++[((n / 256^k%256:Nat):Int)]|0,n=>by simp[lT]|k+1,n=>by rw[lT,VW k (n / 256),lT,G9,Nat.pow_succ,G7 (256^k)];rfl
theorem bI(x y:Int):OH x y=min x y:=by simp only[OH,cond_eq_ite,dT];split<;>omega
theorem lU(x y:Int):Fk x y=max x y:=by simp only[Fk,cond_eq_ite,dT];split<;>omega
theorem Ay{n:Nat}(h:n<2147483648):BM n=ka:=by simp[BM,h]
section
variable {α A M β:Type}
def Ni(g:A->α->A ⊕ β):List α->A->A ⊕ β|[],a=>.inl a|x::r,a=>match g a x with|.inl a'=>Ni g r a'|.inr b=>.inr b
def kM(fin:A->β):A ⊕ β->β|.inl a=>fin a|.inr b=>b
theorem VX{f:M->Option (M ⊕ β)}(l:List α)(S:Nat->A->M)(g:A->α->A ⊕ β)(I:Nat->A->Prop)(e:A->β) (d:∀i (h:i<l.length) a,I i a->(∀j,g a l[i]=.inl j->f (S i a)=kd (.inl (S (i+1) j))/\I (i+1) j)/\(∀b,g a l[i]=.inr b->f (S i a)=kd (.inr b))) (c:∀a,I l.length a->f (S l.length a)=kd (.inr (e a))):∀(k i:Nat)(a:A),i+k=l.length->I i a->Al f (S i a)=kd (kM e (Ni g (l.drop i) a))|0,i,a,v,o=>by(obtain rfl:i=l.length:=by omega);rw[E9];exact Ae (c a o)|k+1,i,a,v,o=>by(have m:i<l.length:=by omega);rw[A7 m];obtain⟨p,q⟩:=d i m a o;simp[Ni];cases hg:g a l[i]with|inl j=>(obtain⟨r,u⟩:=p j hg;rw[Af r];exact VX l S g I e d c k (i+1) j (by omega) u)|inr b=>exact Ae (q b hg)
theorem Cm{f:M->Option (M ⊕ β)}(l:List α)(S:Nat->A->M)(g:A->α->A ⊕ β)(I:Nat->A->Prop)(k:A->β) (d:∀i (h:i<l.length) a,I i a->(∀e,g a l[i]=.inl e->f (S i a)=kd (.inl (S (i+1) e))/\I (i+1) e)/\(∀b,g a l[i]=.inr b->f (S i a)=kd (.inr b))) (c:∀a,I l.length a->f (S l.length a)=kd (.inr (k a))){a:A}(j:I 0 a):Al f (S 0 a)=kd (kM k (Ni g l a)):=by have:=VX l S g I k d c l.length 0 a (by omega) j;simp_all
theorem Bp{f:M->Option (M ⊕ β)}(l:List α)(S:Nat->M)(p:α->Bool){bt bf:β} (k:∀i (h:i<l.length),p l[i]=ka->f (S i)=kd (.inl (S (i+1))))(b:∀i (h:i<l.length),p l[i]=kc->f (S i)=kd (.inr bf)) (g:f (S l.length)=kd (.inr bt)):Al f (S 0)=kd (bif l.all p then bt else bf):=by have h:=Cm (A:=Unit) l (λi _=>S i) (λ_ x=>bif p x then .inl ()else .inr bf) (λ_ _=>True) (λ_=>bt) (λi h a _=>?_) (λ_ _=>g) (a:=()) trivial;rw[h];congr 1;clear h k b g;(induction l with|nil=>rfl|cons x l c=>simp[Ni];cases p x with|true=>simp_all|false=>rfl);grind
end
theorem Ad{α:Type}{l:List α}{i:Nat}(h:i<l.length):Ax l (i:Int)=kd l[i]:=by simp_all[Ax]
def Aq(x:Int):Bool:=A3 (-1073741824<=x)&&A3 (x<1073741824)
theorem EG{x:Int}:Aq x=ka↔-1073741824<=x/\x<1073741824:=by simp[Aq]
def short{α:Type}(l:List α):Prop:=l.length<1000000
theorem Aa{i:Nat}(h:i<1000000):zN .i64 ((i:Int)+1)=((i+1:Nat):Int):=by grind[Ac]
theorem Cn{i n:Nat}(h:i<n):A3 ((i:Int)<(n:Int))=ka:=by simp_all
theorem a6C(n:Nat):A3 ((n:Int)<(n:Int))=kc:=by simp
theorem MW{l:LI}(b:short l):GN l=kd (l.all Aq):=by
 unfold GN
 have:=Bp (f:=DT) l (λi=>(l,(l.length:Int),(i:Int),())) Aq (bt:=B7 ()) (bf:=B9 (kc,()))
  (λi h g=>by
   have g:=EG.1 g;have k:A3 (l[i] < -1073741824)=kc:=by simp_all
   have a:A3 (l[i]>=1073741824)=kc:=by simp_all
   simp only[DT,Cn h,cT,Ad h,oB,k,a,cF,Aa (B8 h b)])
  (λi h g=>by
   simp only[DT,Cn h,cT,Ad h,oB];grind[Aq])
  (by simp[DT])
 grind
theorem Qy(x:Int):KM x=kd (Aq x):=by grind[KM,Aq]
theorem TX(x:Int):Oo x=kd (Aq x):=by grind[Oo,Aq]
theorem Ob(x:Int):Mv x=kd (Aq x):=by grind[Mv,Aq]
theorem DN(x:Int):EC x=kd (Aq x):=by grind[EC,Aq]
theorem pT(x:Int):KO x=kd (Aq x):=by grind[KO,Aq]
theorem RG{l:LI}(k:short l):Hn l=kd (l.all Aq):=by unfold Hn;have:=Bp (f:=EU) l (λi=>(l,(l.length:Int),(i:Int),())) Aq (bt:=B7 ()) (bf:=B9 (kc,())) (λi h g=>by simp[EU,Ad h,Qy,g,Aa (B8 h k),h]) (λi h g=>by simp_all[EU,Ad,Qy]) (by simp[EU]);grind
theorem kN{l:LI}(k:short l):Mt l=kd (l.all Aq):=by unfold Mt;have:=Bp (f:=Gr) l (λi=>(l,(l.length:Int),(i:Int),())) Aq (bt:=B7 ()) (bf:=B9 (kc,())) (λi h g=>by simp[Gr,Ad h,TX,g,Aa (B8 h k),h]) (λi h g=>by simp_all[Gr,Ad,TX]) (by simp[Gr]);grind
theorem eV{l:LI}(k:short l):Ll l=kd (l.all Aq):=by unfold Ll;have:=Bp (f:=Fz) l (λi=>(l,(l.length:Int),(i:Int),())) Aq (bt:=B7 ()) (bf:=B9 (kc,())) (λi h g=>by simp[Fz,Ad h,Ob,g,Aa (B8 h k),h]) (λi h g=>by simp_all[Fz,Ad,Ob]) (by simp[Fz]);grind
theorem Ci{l:LI}(k:short l):Ct l=kd (l.all Aq):=by unfold Ct;have:=Bp (f:=Ih) l (λi=>(l,(i:Int),())) Aq (bt:=B7 ()) (bf:=B9 (kc,())) (λi h g=>by simp[Ih,Ad h,DN,g,Aa (B8 h k),h]) (λi h g=>by simp_all[Ih,Ad,DN]) (by simp[Ih]);grind
theorem Sj{l:LI}(h:short l):HK l=kd (l.all Aq):=by have e:UC=DT:=rfl;(have:HK l=GN l:=by rfl);simp_all[MW]
def iA(x:Int):Bool:=A3 (-32768<=x)&&A3 (x<32768)
def UT(c:List Int)(s:Int):Bool:=A3 (1<=c.length)&&(A3 (c.length<=32)&&(A3 (0<=s)&&(A3 (s<=15)&&c.all iA)))
theorem Sk{c:LI}{s:Int}(b:short c):JS (c,s)=kd (UT c s):=by
 have:=Bp (f:=Ic) c (λi=>(c,(c.length:Int),(i:Int),())) iA (bt:=B7 ()) (bf:=B9 (kc,()))
  (λi h g=>by
   simp[iA]at g;have k:¬ c[i] < -32768:=by omega
   have a:¬ c[i]>=32768:=by omega
   simp[Ic,Ad h,Aa (B8 h b),h,k,a])
  (λi h g=>by
   grind[iA,Ic,Ad])
  (by simp[Ic])
 simp at this;unfold JS UT;grind
theorem Ki{c:LI}{s:Int}(b:short c):Gf (c,s)=kd (UT c s):=by
 have:=Bp (f:=FC) c (λi=>(c,s,(i:Int),())) iA (bt:=B7 (c,s,())) (bf:=B9 (kc,()))
  (λi h g=>by
   simp[iA]at g;have k:¬ c[i] < -32768:=by omega
   have a:¬ c[i]>=32768:=by omega
   simp[FC,Ad h,Aa (B8 h b),h,k,a])
  (λi h g=>by
   grind[iA,FC,Ad])
  (by simp[FC])
 simp at this;unfold Gf UT;grind
def kO(x:Int):Bool:=A3 (-64<=x)&&A3 (x<=64)
def VY(lag:Int)(t:List Int):Bool:=A3 (2<=lag)&&(A3 (lag<=1024)&&t.all kO)
theorem iB{t:LI}{lag:Int}(k:t.length=3):Qf (lag,t)=kd (VY lag t):=by
 have:=Bp (f:=KK) t (λi=>(t,(i:Int),())) kO (bt:=B7 ()) (bf:=B9 (kc,()))
  (λi h g=>by
   simp[kO]at g;grind[KK,Ad,Aa])
  (λi h g=>by
   grind[kO,KK,Ad])
  (by simp_all[KK])
 simp at this;unfold Qf VY;grind
theorem VZ{t:LI}{lag:Int}(k:t.length=3):KU (lag,t)=kd (VY lag t):=by
 have:=Bp (f:=Hu) t (λi=>(lag,(i:Int),t,())) kO (bt:=B7 (lag,())) (bf:=B9 (kc,()))
  (λi h g=>by
   simp[kO]at g;grind[Hu,Ad,Aa])
  (λi h g=>by
   grind[kO,Hu,Ad])
  (by simp_all[Hu])
 simp at this;unfold KU VY;grind
def tJ(s:Int×(Int×Unit)):Bool:=A3 (1<=s.1)&&(A3 (s.1<=32)&&(A3 (0<=s.2.1)&&A3 (s.2.1<=8)))
def Qz(l:List (Int×Int×Unit)):Bool:=A3 (l.length<=3)&&l.all tJ
theorem QA(s:Int×(Int×Unit)):KL s=kd (tJ s):=by grind[KL,tJ]
theorem OT(s:Int×(Int×Unit)):Ju s=kd (tJ s):=by grind[Ju,tJ]
theorem bJ{l:List (Int×Int×Unit)}(k:short l):Ol l=kd (Qz l):=by have:=Bp (f:=Jk) l (λi=>(l,(l.length:Int),(i:Int),())) tJ (bt:=B7 ()) (bf:=B9 (kc,())) (λi h g=>by simp[Jk,Ad h,QA,g,Aa (B8 h k),h]) (λi h g=>by simp_all[Jk,Ad,QA]) (by simp[Jk]);simp at this;unfold Ol Qz;grind
theorem UG{l:List (Int×Int×Unit)}(k:short l):Jv l=kd (Qz l):=by have:=Bp (f:=Gy) l (λi=>(l,(i:Int),())) tJ (bt:=B7 (l,())) (bf:=B9 (kc,())) (λi h g=>by simp[Gy,Ad h,OT,g,Aa (B8 h k),h]) (λi h g=>by simp_all[Gy,Ad,OT]) (by simp[Gy]);simp at this;unfold Jv Qz;rw[this];cases l.all tJ with|false=>simp|true=>by_cases h:l.length<=3;all_goals grind
@[reducible] def W(n:Int):Int:=zN .i64 n
theorem Xc(n:Int):zN .i64 n=Int.bmod n 18446744073709551616:=by grind[zN,IntKind.bits,IntKind.signed]
theorem b2G{n:Int}(h:Aq n=ka):W n=n:=by grind[EG,Ac]
def Nj(guess:List Int->Int):List Int->List Int->Option (List Int)|[],out=>kd out|x::r,out=>bif Aq (W (x+guess out))then Nj guess r (out++[W (x+guess out)])else ke
def RH{β:Type}(guess:List Int->Int)(bad:β)(out:List Int)(x:Int):List Int ⊕ β:=bif Aq (W (x+guess out))then .inl (out++[W (x+guess out)])else .inr bad
theorem LF{β:Type}(h:List Int->Int)(g:β)(f:List Int->β):∀(l out:LI),kM f (Ni (RH h g) l out)=match Nj h l out with|some r=>f r|none=>g
 | [],out=>rfl
 |x::l,out=>by
  simp[Ni,RH,Nj];cases Aq (W (x+h out))with
  |true=>simp_all[LF]
  |false=>rfl
theorem TY(g:List Int->Int):∀(l out r:LI),out.all Aq=ka->Nj g l out=kd r->r.all Aq=ka/\r.length=out.length+l.length|[],out,r,h,e=>by simp_all[Nj]|x::l,out,r,h,e=>by simp[Nj]at e;cases hw:Aq (W (x+g out))with|true=>(rw[hw]at e;obtain⟨f,k⟩:=TY g l _ r (by simp_all) e;grind)|false=>simp_all
def QC:Option (List Int)->List Int×Int|some r=>(r,0)|none=>([],6)
def a1h(out:List Int)(i:Nat):Int:=out.getD (out.length-i) 0
def Sl(o:Nat)(out:List Int):Int:=match o with|1=>a1h out 1|2=>2*a1h out 1-a1h out 2|3=>3*a1h out 1-3*a1h out 2+a1h out 3|4=>4*a1h out 1-6*a1h out 2+4*a1h out 3-a1h out 4|_=>0
theorem TZ{out:LI}{i:Nat}(hi:1<=i)(h:i<=out.length)(g:short out):BD ((i:Int),out)=kd (a1h out i,out):=by unfold BD;have g:out.length<1000000:=g;grind[Ac,Ad,a1h]
theorem pU{out:LI}{o:Nat}(j:o<=4)(h:o<=out.length)(b:short out):∃g,NK (out,(o:Int))=kd g/\∀x,W (x+g)=W (x+Sl o out):=by(have k:=λ(f:1<=out.length)=>TZ (i:=1) (by omega) f b;have a:=λ(f:2<=out.length)=>TZ (i:=2) (by omega) f b;have c:=λ(f:3<=out.length)=>TZ (i:=3) (by omega) f b;have d:=λ(f:4<=out.length)=>TZ (i:=4) (by omega) f b;simp at k a c d;unfold NK;have e:o=0\/o=1\/o=2\/o=3\/o=4:=by omega);rcases e with rfl|rfl|rfl|rfl|rfl;exact⟨0,rfl,λx=>rfl⟩;exact⟨_,by simp[k (by omega)];rfl,λx=>rfl⟩;refine⟨_,by simp[k (by omega),a (by omega)];rfl,λx=>?_⟩;simp_all[Xc,Sl];refine⟨_,by simp[k (by omega),a (by omega),c (by omega)];rfl,λx=>?_⟩;simp_all[Xc,Sl];refine⟨_,by simp[k (by omega),a (by omega),c (by omega),d (by omega)];rfl,λx=>?_⟩;simp_all[Xc,Sl]
theorem Br{n:Nat}(h:n<1000000):BM n=ka:=Ay (by omega)
theorem a1i{sF zO:LI}{o:Nat}(y:o<=4)(B:sF.length=o)(A:zO.length<100000):
  Ph (sF,zO,(o:Int))=kd (QC (bif sF.all Aq&&zO.all Aq then Nj (Sl o) zO sF else ke)):=by
 have d:short sF:=by unfold short;omega
 have p:short zO:=by unfold short;omega
 unfold Ph;have r:¬ (o:Int)<0:=by omega
 have u:¬ (o:Int) > 4:=by omega
 have v:(((sF.length:Nat):Int) != (o:Int))=kc:=by simp_all
 simp only[r,u,v,decide_false,cF,oB,Sj d,Sj p];cases hw1:sF.all Aq with
 |false=>rfl
 |true=>
  simp only[bT,cF,oB,C5];cases hw2:zO.all Aq with
  |false=>rfl
  |true=>
   simp[Br d]
   have:=Cm (f:=Lj) zO (λi k=>((o:Int),zO,(zO.length:Int),(i:Int),k,())) (RH (Sl o) (B9 ((6:Int),([]:List Int),())))
    (λi k=>o<=k.length/\k.length<=o+i) (λk=>B7 (k,()))
    (λi h k w=>by
     have l:i<1000000:=by omega
     have m:short k:=by unfold short;omega
     obtain⟨g,x,j⟩:=pU y w.1 m;have e:zN .i64 (zO[i]+g)=W (zO[i]+Sl o k):=j _;have c:HK [W (zO[i]+Sl o k)]=kd (Aq (W (zO[i]+Sl o k))):=by rw[Sj (by simp[short])];simp
     simp only[Lj,Cn h,cT,Ad h,oB,x,e,c,RH];cases hb:Aq (W (zO[i]+Sl o k))with
     |true=>
      simp only[cT,bT,cF,Br (show k.length+1<1000000 by omega),Aa l];refine⟨λz q=>?_,λb hb=>(by grind)⟩;simp at q;subst q;exact⟨rfl,by grind,by grind⟩
     |false=>
      simp)
    (λk _=>by simp[Lj]) (a:=sF) ⟨by omega,by omega⟩
   simp[LF]at this;rw[this];cases Nj (Sl o) zO sF<;>rfl
def kP(o:Nat):List Int:=match o with|1=>[1]|2=>[2,-1]|3=>[3,-3,1]|4=>[4,-6,4,-1]|_=>[]
theorem b2H{o:Nat}(g:o<=4):TO (o:Int)=kd (kP o):=by(have h:o=0\/o=1\/o=2\/o=3\/o=4:=by omega);rcases h with rfl|rfl|rfl|rfl|rfl<;>rfl
theorem a6D{o:Nat}(g:o<=4):(kP o).length=o:=by(have h:o=0\/o=1\/o=2\/o=3\/o=4:=by omega);rcases h with rfl|rfl|rfl|rfl|rfl<;>rfl
def a6E(o:Nat)(out:List Int)(x:Int):Nat->Int|0=>x|k+1=>W (a6E o out x k+W ((kP o).getD k 0*a1h out (k+1)))
theorem kQ{zO out:LI}{o:Nat}{i x:Int}(r:o<=4)(h:o<=out.length)(g:short out)(u:Aq x=ka):
  Al FD (zO,(o:Int),kP o,i,x,(0:Int),out,())=kd (zO,(o:Int),kP o,i,W (x+Sl o out),out,()):=by
 have g:out.length<1000000:=g
 have:=Bo (f:=FD) (λk=>(zO,(o:Int),kP o,i,a6E o out x k,(k:Int),out,()))
  o (b:=(zO,(o:Int),kP o,i,a6E o out x o,out,())) (λk p=>by
   have a:zN .i64 (((out.length:Nat):Int)-1)=((out.length-1:Nat):Int):=by grind[Ac]
   have c:zN .i64 (((out.length-1:Nat):Int)-(k:Int))=((out.length-(k+1):Nat):Int):=by grind[Ac]
   have d:(0:Int)<=((out.length-(k+1):Nat):Int):=by omega
   have e:((out.length-(k+1):Nat):Int)<((out.length:Nat):Int):=by omega
   have j:k<(kP o).length:=by simp_all[a6D]
   have l:(kP o)[k]=(kP o).getD k 0:=by simp_all
   simp only[FD,Cn p,cT,Ad j,oB,a,c,d,e,decide_true,A8,tN,Aa (show k<1000000 by omega),a6E,a1h,l])
  (by simp[FD])
 simp[a6E]at this;rw[this];have q:a6E o out x o=W (x+Sl o out):=by
  have m:o=0\/o=1\/o=2\/o=3\/o=4:=by omega
  rcases m with rfl|rfl|rfl|rfl|rfl;simp_all[a6E,Sl,b2G]
  all_goals
   simp only[a6E,kP,Sl,List.getD_cons_zero,List.getD_cons_succ,Nat.zero_add,Nat.reduceAdd,W,Xc,Int.add_bmod_bmod,Int.bmod_add_bmod];grind
 grind
theorem eW{sF zO:LI}{o:Nat}(p:o<=4)(y:sF.length=o)(x:zO.length<100000):
  Lp (sF,zO,(o:Int))=kd (QC (bif sF.all Aq&&zO.all Aq then Nj (Sl o) zO sF else ke)):=by
 have j:short sF:=by unfold short;omega
 have e:short zO:=by unfold short;omega
 unfold Lp;have q:¬ (o:Int)<0:=by omega
 have r:¬ (o:Int) > 4:=by omega
 have u:(((sF.length:Nat):Int) != (o:Int))=kc:=by simp_all
 simp only[q,r,u,decide_false,cF,oB,Ci j,Ci e];cases hw1:sF.all Aq with
 |false=>rfl
 |true=>
  simp only[bT,cF,oB,C5];cases hw2:zO.all Aq with
  |false=>rfl
  |true=>
   have c:BM (0+sF.length)=ka:=Br (by omega);simp only[bT,cF,cT,c,b2H p,oB,B6,B3]
   have:=Cm (f:=HQ) zO (λi g=>(zO,(o:Int),kP o,(i:Int),g,())) (RH (Sl o) (B9 ((6:Int),([]:List Int),())))
    (λi g=>o<=g.length/\g.length<=o+i) (λg=>B7 (g,()))
    (λi h g v=>by
     have k:i<1000000:=by omega
     have d:short g:=by unfold short;omega
     have l:Aq zO[i]=ka:=lA.1 hw2 _ (B4 h);simp only[HQ,Cn h,cT,Ad h,oB,kQ p v.1 d l,DN,RH];cases hb:Aq (W (zO[i]+Sl o g))with
     |true=>
      simp only[cT,bT,cF,Br (show g.length+1<1000000 by omega),Aa k];refine⟨λw m=>?_,λb hb=>(by grind)⟩;simp at m;subst m;exact⟨rfl,by grind,by grind⟩
     |false=>
      simp)
    (λg _=>by simp[HQ]) (a:=sF) ⟨by omega,by omega⟩
   simp[LF]at this;rw[this];cases Nj (Sl o) zO sF<;>rfl
def a6F(out:List Int):List Int->Nat->Int->Int|[],_,acc=>acc|c::r,i,acc=>bif A3 (i<out.length)then a6F out r (i+1) (W (acc+W (c*a1h out (i+1))))else acc
def bK(c:List Int)(s:Int)(out:List Int):Int:=AR .i64 (a6F out c 0 0) s
theorem b5M{out:LI}{i:Nat}(h:i<out.length)(g:short out):Ax out (zN .i64 (zN .i64 ((out.length:Int)-1)-(i:Int)))=kd (a1h out (i+1)):=by have g:out.length<1000000:=g;grind[Ac,Ad,a1h]
theorem b5N{out:LI}{i:Nat}(h:i<out.length)(g:out.all Aq=ka):Aq (a1h out (i+1))=ka:=by grind[a1h]
theorem bL{out c:LI}{s:Int}(f:short out)(a:short c):∀(k i:Nat)(acc:Int),i+k=c.length->Al EV (out,s,acc,c,(c.length:Int),(i:Int),())=kd (s,a6F out (c.drop i) i acc,())|0,i,acc,h=>by(obtain rfl:i=c.length:=by omega);simp_all[Ae,EV,a6F]|k+1,i,acc,h=>by(have g:i<c.length:=by omega);(have e:out.length<1000000:=f;have d:c.length<1000000:=a;rw[A7 g,a6F];have j:zN .i64 (((out.length:Nat):Int)-1)=((out.length:Nat):Int)-1:=Ac (by omega);have l:zN .i64 (((out.length:Nat):Int)-1-(i:Int))=((out.length:Nat):Int)-1-(i:Int):=Ac (by omega);by_cases hi:i<out.length;have b:A3 (zN .i64 (zN .i64 (((out.length:Nat):Int)-1)-(i:Int))<0)=kc:=by grind);simp[hi];rw[Af (s':=(out,s,W (acc+W (c[i]*a1h out (i+1))),c,(c.length:Int),((i+1:Nat):Int),())) (by simp only[EV,Cn g,cT,Ad g,oB,b,cF,b5M hi f,Aa (show i<1000000 by omega)])];(exact bL f a k (i+1) _ (by omega);have b:A3 (zN .i64 (zN .i64 (((out.length:Nat):Int)-1)-(i:Int))<0)=ka:=by grind);simp[hi];simp_all[Ae,EV,Ad]
theorem a9z{out c:LI}{s:Int}(g:short out)(h:short c)(f:0<=s):JV (out,c,s)=kd (bK c s out):=by have:=bL (s:=s) g h c.length 0 0 (by omega);grind[JV,bK]
theorem pV{out c:LI}{s:Int}(f:short out)(a:short c)(b:out.all Aq=ka):∀(k i:Nat)(acc:Int),i+k=c.length->Al Ek (out,c,s,acc,(i:Int),())=kd (B7 (s,a6F out (c.drop i) i acc,()))|0,i,acc,h=>by(obtain rfl:i=c.length:=by omega);simp_all[Ae,Ek,a6F]|k+1,i,acc,h=>by(have g:i<c.length:=by omega);have j:out.length<1000000:=f;have d:c.length<1000000:=a;rw[A7 g,a6F];by_cases hi:i<out.length;simp[hi];rw[Af (s':=(out,c,s,W (acc+W (c[i]*a1h out (i+1))),((i+1:Nat):Int),())) (by simp only[Ek,Cn g,Cn hi,cT,b5M hi f,oB,DN,b5N hi b,bT,cF,Ad g,Aa (show i<1000000 by omega)])];(exact pV f a b k (i+1) _ (by omega);have e:A3 ((i:Int)<((out.length:Nat):Int))=kc:=by simp_all);simp[hi];exact Ae (by simp only[Ek,Cn g,cT,e,cF])
theorem iC{s:Int}(h:0<=s)(g:s<=64):zN .u64 s=s:=Au (by omega)
theorem YM{out c:LI}{s:Int}(f:short out)(h:short c)(k:out.all Aq=ka)(g:UT c s=ka):IQ (out,c,s)=kd (bK c s out):=by have:=pV (s:=s) f h k c.length 0 0 (by omega);simp at this;unfold IQ;simp[Ki h,g,this];simp only[UT,HC,dT]at g;grind[iC,bK]
def pW(sF zO c:List Int)(s:Int):Option (List Int):=bif sF.all Aq&&zO.all Aq then Nj (bK c s) zO sF else ke
theorem Wa{sF zO c:LI}{s:Int}(q:UT c s=ka)(z:sF.length=c.length)(y:zO.length<100000):
  KN (sF,zO,c,s)=kd (QC (pW sF zO c s)):=by
 have k:=q;simp only[UT,HC,dT]at k;have d:short c:=by unfold short;omega
 have o:short sF:=by unfold short;omega
 have m:short zO:=by unfold short;omega
 unfold KN;have u:(((sF.length:Nat):Int) != ((c.length:Nat):Int))=kc:=by simp_all
 simp only[Sk d,q,oB,bT,cF,u,RG o,RG m,pW];cases hw1:sF.all Aq with
 |false=>rfl
 |true=>
  simp only[bT,cF,oB,C5];cases hw2:zO.all Aq with
  |false=>rfl
  |true=>
   have r:zN .i64 (((sF.length:Nat):Int)+((zO.length:Nat):Int))=((sF.length+zO.length:Nat):Int):=by grind[Ac]
   have v:(0:Int)<=((sF.length+zO.length:Nat):Int):=by omega
   simp only[bT,cF,cT,r,v,decide_true,tN,Br (show sF.length+zO.length<1000000 by omega),Br (show 0+sF.length<1000000 by omega),A8,B6,B3]
   have:=Cm (f:=JW) zO (λi g=>(c,s,zO,(zO.length:Int),(i:Int),g,())) (RH (bK c s) (B9 ((6:Int),([]:List Int),())))
    (λi g=>g.length<=sF.length+i) (λg=>B7 (g,()))
    (λi h g x=>by
     have j:i<1000000:=by omega
     have l:short g:=by unfold short;omega
     have e:zN .i64 (bK c s g+zO[i])=W (zO[i]+bK c s g):=by grind
     simp only[JW,Cn h,cT,Ad h,oB,a9z l d k.2.2.1,e,Qy,RH];cases hb:Aq (W (zO[i]+bK c s g))with
     |true=>
      simp only[cT,bT,cF,Br (show g.length+1<1000000 by omega),Aa j];refine⟨λw p=>?_,λb hb=>(by grind)⟩;simp at p;subst p;exact⟨rfl,by grind⟩
     |false=>
      simp)
    (λg _=>by simp[JW]) (a:=sF) (by omega)
   simp[LF]at this;rw[this];cases Nj (bK c s) zO sF<;>rfl
theorem RI{sF zO c:LI}{s:Int}(d:UT c s=ka)(w:sF.length=c.length)(v:zO.length<100000):
  Hv (sF,zO,c,s)=kd (QC (pW sF zO c s)):=by
 have e:=d;simp only[UT,HC,dT]at e;have k:short c:=by unfold short;omega
 have o:short sF:=by unfold short;omega
 have m:short zO:=by unfold short;omega
 unfold Hv;have q:(((sF.length:Nat):Int) != ((c.length:Nat):Int))=kc:=by simp_all
 simp only[Ki k,d,oB,bT,cF,q,Ci o,Ci m,pW];cases hw1:sF.all Aq with
 |false=>rfl
 |true=>
  simp only[bT,cF,oB,C5];cases hw2:zO.all Aq with
  |false=>rfl
  |true=>
   simp only[bT,cF,cT,Br (show 0+sF.length<1000000 by omega),B6,B3]
   have:=Cm (f:=Hc) zO (λi g=>(zO,c,s,(i:Int),g,())) (RH (bK c s) (B9 ((6:Int),([]:List Int),())))
    (λi g=>g.length<=sF.length+i/\g.all Aq=ka) (λg=>B7 (g,()))
    (λi h g r=>by
     have j:i<1000000:=by omega
     have l:short g:=by unfold short;omega
     simp only[Hc,Cn h,cT,Ad h,oB,YM l k r.2 d,DN,RH];cases hb:Aq (W (zO[i]+bK c s g))with
     |true=>
      simp only[cT,bT,cF,Br (show g.length+1<1000000 by omega),Aa j];refine⟨λu p=>?_,λb hb=>(by grind)⟩;simp at p;subst p;exact⟨rfl,by grind,by simp_all⟩
     |false=>
      simp)
    (λg _=>by simp[Hc]) (a:=sF) ⟨by omega,hw1⟩
   simp[LF]at this;rw[this];cases Nj (bK c s) zO sF<;>rfl
def a6G(out:List Int)(lag:Int):List Int->Nat->Int->Int|[],_,acc=>acc|t::r,i,acc=>a6G out lag r (i+1) (bif A3 (0<=(out.length:Int)-lag-1+i)then W (acc+W (t*out.getD ((out.length:Int)-lag-1+i).toNat 0))else acc)
def SM(lag:Int)(t:List Int)(out:List Int):Int:=AR .i64 (a6G out lag t 0 0) 6
theorem bM{out:LI}{j:Int}(g:0<=j)(h:j<out.length):Ax out j=kd (out.getD j.toNat 0):=by obtain⟨n,rfl⟩:=A6 g;simp_all[Ad]
theorem b0K{n i:Nat}{lag:Int}(h:2<=lag)(g:lag<=1024)(f:n<1000000)(hi:i<3):zN .i64 (zN .i64 (zN .i64 ((n:Int)-lag)-1)+(i:Int))=(n:Int)-lag-1+i:=by grind[Ac]
theorem b2I{l:LI}{n j:Nat}(h:j<n):(l.take n).getD j 0=l.getD j 0:=by simp_all
theorem MX{l t:LI}{lag:Int}{n:Nat}(m:n<=l.length)(j:short l)(o:t.length=3)(a:2<=lag)(b:lag<=1024):∀(k i:Nat)(acc:Int),i+k=3->Al Gs (l,(n:Int),lag,acc,t,(i:Int),())=kd (a6G (l.take n) lag (t.drop i) i acc,())|0,i,acc,h=>by(obtain rfl:i=t.length:=by omega);grind[Ae,Gs,a6G]|k+1,i,acc,h=>by(have g:i<t.length:=by omega);(have f:A3 ((i:Int)<3)=ka:=by grind);(have p:l.length<1000000:=j;have d:(l.take n).length=n:=by simp_all);(have e:=b0K (n:=n) (i:=i) a b (by omega) (by omega);rw[A7 g,a6G,d];by_cases hp:0<=(n:Int)-lag-1+i;have c:A3 ((n:Int)-lag-1+i>=0)=ka:=by simp_all);simp only[hp,decide_true,cT];rw[b2I (show((n:Int)-lag-1+i).toNat<n by omega),Af (s':=(l,(n:Int),lag,W (acc+W (t[i]*l.getD ((n:Int)-lag-1+i).toNat 0)),t,((i+1:Nat):Int),())) (by simp only[Gs,f,cT,Ad g,oB,e,c,bM hp (show(n:Int)-lag-1+(i:Int)<(l.length:Int)by omega),Aa (show i<1000000 by omega)])];(exact MX m j o a b k (i+1) _ (by omega);have c:A3 ((n:Int)-lag-1+i>=0)=kc:=by simp_all);simp[hp];rw[Af (s':=(l,(n:Int),lag,acc,t,((i+1:Nat):Int),())) (by simp only[Gs,f,cT,Ad g,oB,e,c,cF,Aa (show i<1000000 by omega)])];exact MX m j o a b k (i+1) _ (by omega)
theorem kR{l t:LI}{lag:Int}{n:Nat}(f:n<=l.length)(k:short l)(a:t.length=3)(h:2<=lag)(g:lag<=1024):Jl (l,(n:Int),lag,t)=kd (SM lag t (l.take n)):=by have:=MX (t:=t) f k a h g 3 0 0 (by rfl);simp_all[Jl,SM]
theorem kS{out t:LI}{lag:Int}(f:short out)(k:t.length=3)(h:2<=lag)(g:lag<=1024):Jl (out,(out.length:Int),lag,t)=kd (SM lag t out):=by simp_all[kR]
theorem LG{out t:LI}{lag:Int}(d:short out)(l:t.length=3)(a:2<=lag)(b:lag<=1024):∀(k i:Nat)(acc:Int),i+k=3->Al FE (out,lag,acc,(i:Int),t,())=kd (a6G out lag (t.drop i) i acc,())|0,i,acc,h=>by(obtain rfl:i=t.length:=by omega);grind[Ae,FE,a6G]|k+1,i,acc,h=>by(have f:i<t.length:=by omega);(have g:A3 ((i:Int)<3)=ka:=by grind);(have j:out.length<1000000:=d;have e:=b0K (i:=i) a b j (by omega);rw[A7 f,a6G];by_cases hp:0<=(out.length:Int)-lag-1+i;have c:A3 ((out.length:Int)-lag-1+i>=0)=ka:=by simp_all);simp only[hp,decide_true,cT];rw[Af (s':=(out,lag,W (acc+W (t[i]*out.getD ((out.length:Int)-lag-1+i).toNat 0)),((i+1:Nat):Int),t,())) (by simp only[FE,g,cT,Ad f,oB,e,c,bM hp (show(out.length:Int)-lag-1+(i:Int)<(out.length:Int)by omega),Aa (show i<1000000 by omega)])];(exact LG d l a b k (i+1) _ (by omega);have c:A3 ((out.length:Int)-lag-1+i>=0)=kc:=by simp_all);simp[hp];rw[Af (s':=(out,lag,acc,((i+1:Nat):Int),t,())) (by simp only[FE,g,cT,e,c,cF,Aa (show i<1000000 by omega)])];exact LG d l a b k (i+1) _ (by omega)
theorem eX{out t:LI}{lag:Int}(f:short out)(k:t.length=3)(h:2<=lag)(g:lag<=1024):Lq (out,lag,t)=kd (SM lag t out):=by have:=LG (out:=out) (t:=t) f k h g 3 0 0 (by rfl);simp_all[Lq,SM]
def pX(zO:List Int)(lag:Int)(t:List Int):Option (List Int):=bif zO.all Aq then Nj (SM lag t) zO []else ke
theorem a4q{zO t:LI}{lag:Int}(d:VY lag t=ka)(j:t.length=3)(o:zO.length<100000):Ro (zO,lag,t)=kd (QC (pX zO lag t)):=by
 have g:=d;simp only[VY,HC,dT]at g;have k:short zO:=by unfold short;omega
 unfold Ro;simp only[iB j,d,oB,bT,cF,kN k,pX];cases hw2:zO.all Aq with
 |false=>rfl
 |true=>
  have m:(0:Int)<=((zO.length:Nat):Int):=by omega
  simp[Br k]
  have:=Cm (f:=Mu) zO (λi out=>(lag,zO,(zO.length:Int),(i:Int),out,t,())) (RH (SM lag t) (B9 ((6:Int),([]:List Int),())))
   (λi out=>out.length=i) (λout=>B7 (out,()))
   (λi h out l=>by
    have b:i<1000000:=by omega
    have c:short out:=by unfold short;omega
    have e:=kS (out:=out) (t:=t) (lag:=lag) c j g.1 g.2.1;rw[l]at e;simp only[Mu,Cn h,cT,Ad h,oB,e,TX,RH];cases hb:Aq (W (zO[i]+SM lag t out))with
    |true=>
     simp only[cT,bT,cF,Br (show out.length+1<1000000 by omega),Aa b];simp_all
    |false=>
     simp)
   (λout _=>by simp[Mu]) (a:=[]) rfl
  simp[LF]at this;rw[this];cases Nj (SM lag t) zO []<;>rfl
theorem kT{zO t:LI}{lag:Int}(e:VY lag t=ka)(j:t.length=3)(m:zO.length<100000):MI (zO,lag,t)=kd (QC (pX zO lag t)):=by
 have k:=e;simp only[VY,HC,dT]at k;have d:short zO:=by unfold short;omega
 unfold MI;simp only[VZ j,e,oB,bT,cF,Ci d,pX];cases hw2:zO.all Aq with
 |false=>rfl
 |true=>
  simp
  have:=Cm (f:=IR) zO (λi g=>(zO,lag,(i:Int),g,t,())) (RH (SM lag t) (B9 ((6:Int),([]:List Int),())))
   (λi g=>g.length=i) (λg=>B7 (g,()))
   (λi h g l=>by
    have b:i<1000000:=by omega
    have c:short g:=by unfold short;omega
    simp only[IR,Cn h,cT,Ad h,oB,eX c j k.1 k.2.1,DN,RH];cases hb:Aq (W (zO[i]+SM lag t g))with
    |true=>
     simp only[cT,bT,cF,Br (show g.length+1<1000000 by omega),Aa b];simp_all
    |false=>
     simp)
   (λg _=>by simp[IR]) (a:=[]) rfl
  simp[LF]at this;rw[this];cases Nj (SM lag t) zO []<;>rfl
def eY{β:Type}(n:Int)(bad:β)(out:List Int)(x:Int):List Int ⊕ β:=bif Aq x&&Aq (AO .i64 x n)then .inl (out++[AO .i64 x n])else .inr bad
def b2J(n:Int)(l:List Int):Option (List Int):=bif l.all (λx=>Aq x&&Aq (AO .i64 x n))then kd (l.map λx=>AO .i64 x n)else ke
theorem Wb{β:Type}(n:Int)(h:β)(g:List Int->β):∀(l out:LI),kM g (Ni (eY n h) l out)=match b2J n l with|some r=>g (out++r)|none=>h
 | [],out=>by simp[Ni,kM,b2J]
 |x::l,out=>by
  simp only[Ni,eY,b2J,C0];cases hx:(Aq x&&Aq (AO .i64 x n))with
  |true=>
   simp only[cT,C5];rw[Wb n h g l _];simp only[b2J];cases l.all (λx=>Aq x&&Aq (AO .i64 x n))with
   |true=>simp
   |false=>rfl
  |false=>rfl
theorem a4r{l:LI}{n:Int}(e:0<=n)(j:n<=30)(o:l.length<100000):Oq (l,n)=kd (QC (b2J n l)):=by
 have d:short l:=by unfold short;omega
 have k:¬ n<0:=by omega
 have c:¬ n > 30:=by omega
 unfold Oq;simp[k,c]
 have:=Cm (f:=Mw) l (λi g=>(n,l,(l.length:Int),(i:Int),g,())) (eY n (B9 ((6:Int),([]:List Int),())))
  (λi g=>g.length=i) (λg=>B7 (g,()))
  (λi h g m=>by
   have b:i<1000000:=by omega
   simp only[Mw,Cn h,cT,Ad h,oB,pT,eY,k,decide_false,cF];cases hb:Aq l[i]with
   |true=>
    cases hb2:Aq (AO .i64 l[i] n)with
    |true=>
     simp only[cT,bT,cF,oB,k,decide_false,Br (show g.length+1<1000000 by omega),Aa b,A8];simp_all
    |false=>
     simp
   |false=>
    simp)
  (λg _=>by simp[Mw]) (a:=[]) rfl
 simp[Wb]at this;rw[this];cases b2J n l<;>rfl
theorem b2K{l:LI}{n:Int}(e:0<=n)(m:n<=30)(p:l.length<100000):lR (l,n)=kd (QC (b2J n l)):=by
 have j:short l:=by unfold short;omega
 have k:¬ n<0:=by omega
 have d:¬ n > 30:=by omega
 have c:=iC e (by omega);unfold lR;simp[k,d]
 have:=Cm (f:=TQ) l (λi g=>(l,n,(i:Int),g,())) (eY n (B9 ((6:Int),([]:List Int),())))
  (λi g=>g.length=i) (λg=>B7 (g,()))
  (λi h g o=>by
   have b:i<1000000:=by omega
   simp only[TQ,Cn h,cT,Ad h,oB,DN,eY,c,k,decide_false,cF];cases hb:Aq l[i]with
   |true=>
    cases hb2:Aq (AO .i64 l[i] n)with
    |true=>
     simp only[cT,bT,cF,oB,c,k,decide_false,Ad h,Br (show g.length+1<1000000 by omega),Aa b,A8];simp_all
    |false=>
     simp
   |false=>
    simp)
  (λg _=>by simp[TQ]) (a:=[]) rfl
 simp[Wb]at this;rw[this];cases b2J n l<;>rfl
abbrev kU:Type:=Int×((List Int)×((List Int)×Unit))
def Di(x:Int):Int:=OH (Fk x (-1073741824)) 1073741823
def a4s(x:Int):Int:=OH (Fk x (-1048576)) 1048576
theorem bO(x:Int):-1073741824<=Di x/\Di x<=1073741823:=by grind[Di,bI,lU]
theorem a4t(x:Int):-1048576<=a4s x/\a4s x<=1048576:=by grind[a4s,bI,lU]
def b2L:List Int->List Int->Int->Int|a::w,b::h,acc=>b2L w h (W (acc+W (a*b)))|_,_,acc=>acc
def BK(f:kU):Int:=Di (AR .i64 (b2L f.2.1 f.2.2.1 0) 16)
structure uF (f:kU):Prop where
 len:f.2.1.length=f.2.2.1.length
 pos:1<=f.2.1.length
 most:f.2.1.length<=32
 rate:0<=f.1/\f.1<=8
 small:∀x∈f.2.1,-1048576<=x/\x<=1048576
theorem QD{l:LI}{i:Nat}(h:i<l.length):G3 l i 0=l[i]:=by simp_all
theorem SN{f:kU}(c:uF f):∀(k i:Nat)(acc:Int),i+k=f.2.1.length->Al Ez (acc,(f.2.1.length:Int),(i:Int),f,())=kd (b2L (f.2.1.drop i) (f.2.2.1.drop i) acc,f,())|0,i,acc,h=>by(obtain rfl:i=f.2.1.length:=by omega);rw[E9,Ae (b:=(acc,f,())) (by simp[Ez])];rfl|k+1,i,acc,h=>by(have g:i<f.2.1.length:=by omega);(have a:i<f.2.2.1.length:=by rw[<-c.len];omega);(have e:=c.most;rw[A7 g,A7 a,b2L];have d:A3 ((0:Int)<=(i:Int))=ka:=by simp);rw[Af (s':=(W (acc+W (f.2.1[i]*f.2.2.1[i])),(f.2.1.length:Int),((i+1:Nat):Int),f,())) (by simp only[Ez,Cn g,Cn a,d,cT,A8,tN,QD g,QD a,Aa (show i<1000000 by omega)])];exact SN c k (i+1) _ (by omega)
theorem QE{f:kU}(h:uF f):Ei f=kd (BK f,f):=by have:=SN h f.2.1.length 0 0 (by omega);simp at this;unfold Ei;simp only[this,oB,Ie];rfl
theorem Wc{f:kU}(c:uF f):∀(k i:Nat)(acc:Int),i+k=f.2.1.length->Al FJ (acc,(i:Int),f,())=kd (b2L (f.2.1.drop i) (f.2.2.1.drop i) acc,f,())|0,i,acc,h=>by(obtain rfl:i=f.2.1.length:=by omega);rw[E9,Ae (b:=(acc,f,())) (by simp[FJ])];rfl|k+1,i,acc,h=>by(have g:i<f.2.1.length:=by omega);(have a:i<f.2.2.1.length:=by rw[<-c.len];omega);(have e:=c.most;rw[A7 g,A7 a,b2L];have d:A3 ((0:Int)<=(i:Int))=ka:=by simp);rw[Af (s':=(W (acc+W (f.2.1[i]*f.2.2.1[i])),((i+1:Nat):Int),f,())) (by simp only[FJ,Cn g,Cn a,d,cT,A8,tN,QD g,QD a,Aa (show i<1000000 by omega)])];exact Wc c k (i+1) _ (by omega)
theorem Ua{f:kU}(h:uF f):FF f=kd (BK f,f):=by have:=Wc h f.2.1.length 0 0 (by omega);simp at this;unfold FF;simp only[this,oB,Qt];rfl
def OY(x:Int):Int:=if 0<x then 1 else if x<0 then -1 else 0
def XS(r:Int)(x g:Int):Int:=OY (x-g)*2^r.toNat
def kV(st:Int)(w h:Int):Int:=a4s (W (w+OY h*st))
def bP(f:kU)(x:Int):kU:=(f.1,C3 (kV (XS f.1 (Di x) (BK f))) f.2.1 f.2.2.1,Di x::f.2.2.1.take (f.2.2.1.length-1),f.2.2.2)
theorem a6H{f:kU}(k:uF f)(x:Int):uF (bP f x):=by(obtain⟨a,b,c,g,d⟩:=k;have e:(C3 (kV (XS f.1 (Di x) (BK f))) f.2.1 f.2.2.1).length=f.2.1.length:=by simp_all);(refine⟨?_,?_,?_,g,?_⟩;show(C3 _ _ _).length=(Di x::f.2.2.1.take (f.2.2.1.length-1)).length;simp_all;show 1<=(C3 _ _ _).length;omega;show(C3 _ _ _).length<=32;omega;intro y h;have h:y∈C3 (kV (XS f.1 (Di x) (BK f))) f.2.1 f.2.2.1:=h;obtain⟨i,j,rfl⟩:=List.mem_iff_getElem.1 h);simp;exact a4t _
theorem LU(x:Int):(0<x/\OY x=1)\/(x<0/\OY x=-1)\/(x=0/\OY x=0):=by unfold OY;omega
theorem pY{r:Int}(h:0<=r/\r<=8):(2:Int)^r.toNat<=256/\1<=(2:Int)^r.toNat:=by(have:r.toNat=0\/r.toNat=1\/r.toNat=2\/r.toNat=3\/r.toNat=4\/r.toNat=5\/r.toNat=6\/r.toNat=7\/r.toNat=8:=by omega);rcases this with e|e|e|e|e|e|e|e|e<;>rw[e]<;>decide
theorem a2l{r:Int}(h:0<=r/\r<=8){x:Int}(f:-1<=x/\x<=1):AO .i64 x r=x*2^r.toNat:=by
 have g:=pY h;have hb:min r.toNat 64=r.toNat:=by omega
 unfold AO;show zN .i64 (x*2^(min r.toNat 64))=_;rw[hb]
 have:x=-1\/x=0\/x=1:=by omega
 rcases this with rfl|rfl|rfl;all_goals grind[Ac]
theorem a1j{f:kU}(a:uF f)(x:Int):(bif A3 (Di x > BK f)then bif A3 (f.1<0)then(ke:Option (Int×Int×kU×Unit))else kd (Di x,AO .i64 (1:Int) f.1,f,()) else bif A3 (Di x<BK f)then bif A3 (f.1<0)then ke else kd (Di x,zN .i64 (0-(AO .i64 (1:Int) f.1)),f,()) else kd (Di x,(0:Int),f,()))=kd (Di x,XS f.1 (Di x) (BK f),f,()):=by
 have d:¬ f.1<0:=by have:=a.rate;omega
 have e:=pY a.rate;have b:=a2l a.rate (x:=1) (by omega);rw[Int.one_mul]at b;rcases LU (Di x-BK f)with⟨c,h⟩|⟨c,h⟩|⟨c,h⟩;have g:Di x > BK f:=by omega
 simp only[g,d,decide_true,decide_false,cT,cF,XS,h,Int.one_mul,b];have g:¬ Di x > BK f:=by omega
 have k:Di x<BK f:=by omega
 simp only[g,k,d,decide_true,decide_false,cT,cF,XS,h,b];grind[Ac];have g:¬ Di x > BK f:=by omega
 have k:¬ Di x<BK f:=by omega
 simp only[g,k,decide_false,cF,XS,h,Int.zero_mul]
theorem a6I{l z:LI}{i:Nat}(hi:i<l.length)(f:z.length=l.length):(z.take i++l.drop i).set i (z[i]'(by omega))=z.take (i+1)++l.drop (i+1):=by
 have h:(z.take i).length=i:=by grind
 have g:z.take (i+1)=z.take i++[z[i]'(by omega)]:=by simp
 rw[H4 _ _ (by omega),h,G6,A7 hi,I6,g,aA];rfl
theorem b5O{l z:LI}{i:Nat}(hi:i<l.length)(h:z.length=l.length):G3 (z.take i++l.drop i) i 0=l[i]:=by grind
theorem b2M{f:kU}(g:uF f){i:Nat}(h:i<f.2.1.length):-1048576<=f.2.1[i]/\f.2.1[i]<=1048576:=g.small _ (B4 h)
theorem kW{f:kU}(p:uF f){a st:Int}(y:-256<=st/\st<=256):
  Al DC (a,st,(f.2.2.1.length:Int),(0:Int),f,())=kd (a,(f.1,C3 (kV st) f.2.1 f.2.2.1,f.2.2),()):=by
 obtain⟨z,B⟩:∃z,C3 (kV st) f.2.1 f.2.2.1=z:=⟨_,rfl⟩;have u:=p.len;have j:z.length=f.2.1.length:=by grind
 have A:=p.most
 have:=Bo (f:=DC) (λi=>(a,st,(f.2.2.1.length:Int),(i:Int),(f.1,z.take i++f.2.1.drop i,f.2.2),()))
  f.2.2.1.length (b:=(a,(f.1,z,f.2.2),())) (λi r=>by
   have k:i<f.2.1.length:=by omega
   have m:A3 ((0:Int)<=(i:Int))=ka:=by simp
   have w:(z.take i++f.2.1.drop i).length=f.2.1.length:=by grind
   have g:A3 ((i:Int)<((z.take i++f.2.1.drop i).length:Int))=ka:=by simp_all
   have q:z[i]'(by omega)=kV st f.2.1[i] f.2.2.1[i]:=by grind
   have x:=b2M p k;have h:=a6I k j;rw[q]at h;simp only[DC,Cn r,m,g,cT,A8,tN,QD r,b5O k j];rcases LU f.2.2.1[i]with⟨o,c⟩|⟨o,c⟩|⟨o,c⟩;have d:f.2.2.1[i] > 0:=o;simp[kV,c]at h;simp only[d,decide_true,cT,oB,m,g,A8,tN,Aa (show i<1000000 by omega)];exact cG (λl=>kd (B7 (a,st,(f.2.2.1.length:Int),((i+1:Nat):Int),(f.1,l,f.2.2),()))) h;have d:¬ f.2.2.1[i] > 0:=by omega
   have e:f.2.1[i]+-1*st=f.2.1[i]-st:=by omega
   simp only[kV,c,e]at h;simp only[d,o,decide_true,decide_false,cT,cF,oB,m,g,A8,tN,Aa (show i<1000000 by omega)];exact cG (λl=>kd (B7 (a,st,(f.2.2.1.length:Int),((i+1:Nat):Int),(f.1,l,f.2.2),()))) h;have d:¬ f.2.2.1[i] > 0:=by omega
   have v:¬ f.2.2.1[i]<0:=by omega
   have e:W (f.2.1[i]+0*st)=f.2.1[i]:=by rw[Int.zero_mul,Int.add_zero];exact Ac (by omega)
   simp only[kV,c,e]at h;simp only[d,v,decide_false,cF,oB,m,g,cT,A8,tN,Aa (show i<1000000 by omega)];exact cG (λl=>kd (B7 (a,st,(f.2.2.1.length:Int),((i+1:Nat):Int),(f.1,l,f.2.2),()))) h)
  (by
   simp_all[E5,DC])
 simp_all
theorem a6J{f:kU}(k:uF f)(x g:Int):-256<=XS f.1 x g/\XS f.1 x g<=256:=by have a:=pY k.rate;unfold XS;rcases LU (x-g)with⟨-,h⟩|⟨-,h⟩|⟨-,h⟩<;>rw[h]<;>omega
theorem a1k{f:kU}(h:uF f)(x:Int):GZ (f,x)=kd (bP f x):=by
 unfold GZ;have d:=a1j h x;simp only[Ie,oB,QE h];have g:(bif A3 (OH (Fk x (-1073741824)) 1073741823 > BK f)then bif A3 (f.1<0)then(ke:Option (Int×Int×kU×Unit))else kd (OH (Fk x (-1073741824)) 1073741823,AO .i64 (1:Int) f.1,f,()) else bif A3 (OH (Fk x (-1073741824)) 1073741823<BK f)then bif A3 (f.1<0)then ke else kd (OH (Fk x (-1073741824)) 1073741823,zN .i64 (0-(AO .i64 (1:Int) f.1)),f,()) else kd (OH (Fk x (-1073741824)) 1073741823,(0:Int),f,()))=_:=d;rw[g];simp only[oB,kW h (a6J h _ _)];have i:f.2.2.1.length>=1:=by have:=h.pos;have:=h.len;omega
 have b:A3 ((1:Int)<=(f.2.2.1.length:Int))=ka:=by grind
 have e:Zk f.2.2.1 1 (f.2.2.1.length-1) f.2.2.1=f.2.2.1.take 1++f.2.2.1.take (f.2.2.1.length-1):=by simp_all[Zk]
 have j:(f.2.2.1.take 1++f.2.2.1.take (f.2.2.1.length-1)).length=f.2.2.1.length:=by simp_all
 have c:A3 ((0:Int)<((f.2.2.1.take 1++f.2.2.1.take (f.2.2.1.length-1)).length:Int))=ka:=by grind
 simp only[b,cT,e,c];congr 1;have k:(f.2.2.1.take 1++f.2.2.1.take (f.2.2.1.length-1)).set 0 (Di x)=Di x::f.2.2.1.take (f.2.2.1.length-1):=by cases hc:f.2.2.1 with|nil=>simp_all|cons a l=>simp
 rw[k];rfl
theorem iD(x:Int):Qu x=kd (OY x):=by grind[Qu,LU]
theorem a1l{f:kU}(a:uF f){g s:Int}(A:-1<=s/\s<=1):
  Al El (g,s,(0:Int),([]:List Int),([]:List Int),f,())=kd (g,C3 (kV (s*2^f.1.toNat)) f.2.1 f.2.2.1,([]:List Int),f,()):=by
 obtain⟨z,B⟩:∃z,C3 (kV (s*2^f.1.toNat)) f.2.1 f.2.2.1=z:=⟨_,rfl⟩;have l:=a.len;have x:z.length=f.2.1.length:=by grind
 have y:=a.most;have v:=a.rate;have w:zN .u64 f.1=f.1:=Au (by omega);have c:¬ f.1<0:=by omega
 have:=Bo (f:=El) (λi=>(g,s,(i:Int),z.take i,([]:List Int),f,()))
  f.2.1.length (b:=(g,z,([]:List Int),f,())) (λi j=>by
   have h:i<f.2.2.1.length:=by omega
   have r:A3 ((0:Int)<=(i:Int))=ka:=by simp
   have e:z[i]'(by omega)=kV (s*2^f.1.toNat) f.2.1[i] f.2.2.1[i]:=by grind
   have d:-1<=s*OY f.2.2.1[i]/\s*OY f.2.2.1[i]<=1:=by
    rcases LU f.2.2.1[i]with⟨-,k⟩|⟨-,k⟩|⟨-,k⟩<;>rw[k]<;>omega
   have m:zN .i64 (s*OY f.2.2.1[i])=s*OY f.2.2.1[i]:=Ac (by omega);have o:=a2l v d;have p:OH (Fk (zN .i64 (f.2.1[i]+s*OY f.2.2.1[i]*2^f.1.toNat)) (-1048576)) 1048576=z[i]'(by omega):=by
    rw[e,show s*OY f.2.2.1[i]*2^f.1.toNat=OY f.2.2.1[i]*(s*2^f.1.toNat)by grind];rfl
   have q:z.take i++[z[i]'(by omega)]=z.take (i+1):=by simp
   have u:(z.take i).length+1<1000000:=by grind
   simp only[El,Cn j,Cn h,r,cT,A8,tN,QD j,QD h,iD,oB,w,c,decide_false,cF,Br u,m,o,p,B6,q,Aa (show i<1000000 by omega)])
  (by
   simp_all[E5,El])
 simp_all
theorem a4u(f:kU):-1073741824<=BK f/\BK f<=1073741823:=bO _
theorem a6K{f:kU}(h:uF f)(x:Int):IS (f,x)=kd (bP f x):=by
 unfold IS;have m:=bO x;have o:=a4u f;have b:zN .i64 (Di x-BK f)=Di x-BK f:=Ac (by omega);have l:-1<=OY (Di x-BK f)/\OY (Di x-BK f)<=1:=by rcases LU (Di x-BK f)with⟨-,g⟩|⟨-,g⟩|⟨-,g⟩<;>rw[g]<;>omega
 have d:Qt x=kd (Di x):=rfl;have p:=h.most;have k:=h.len;have a:=h.pos;have c:zN .i64 (((f.2.2.1.length:Nat):Int)-1)=((f.2.2.1.length-1:Nat):Int):=by grind[Ac]
 have e:A3 ((0:Int)<=((f.2.2.1.length-1:Nat):Int))=ka:=by simp
 have i:A3 (((f.2.2.1.length-1:Nat):Int)<=((f.2.2.1.length:Nat):Int))=ka:=by simp
 have j:([Di x]:List Int).length+(f.2.2.1.take (f.2.2.1.length-1)).length<1000000:=by grind
 simp only[d,oB,Ua h,b,iD,a1l h l,C1,Br (show 0+1<1000000 by omega),cT,c,e,i,A8,tN,D9,B6,B3,Br j];rfl
abbrev UY:Type:=Int×(Int×Unit)
theorem pZ{l:LI}(h:short l):CO l=kd l:=by have g:BM (0+l.length)=ka:=Br (by unfold short at h;omega);simp_all[CO,Yy]
def bQ(s:UY):kU:=(s.2.1,A4 s.1.toNat 0,A4 s.1.toNat 0,())
theorem b0L{s:UY}(h:tJ s=ka):uF (bQ s):=by simp[tJ]at h;refine⟨by rfl,by simp[bQ];omega,by simp[bQ];omega,⟨h.2.2.1,h.2.2.2⟩,λx g=>?_⟩;simp_all[bQ]
theorem a4v{s:UY}(h:tJ s=ka):Rp s=kd (bQ s,0):=by
 have g:=h;simp[tJ]at g;unfold Rp;have f:A3 ((0:Int)<=s.1)=ka:=by grind
 have k:A3 (s.1<=s.1)=ka:=by simp
 have a:BM s.1.toNat=ka:=Br (by omega);simp only[QA,h,zQ,f,k,a,A8];rfl
theorem SO{s:UY}(h:tJ s=ka):Lr s=kd (bQ s,0):=by
 have g:=h;simp[tJ]at g;unfold Lr;have f:A3 ((0:Int)<=s.1)=ka:=by grind
 have k:A3 (s.1<=s.1)=ka:=by simp
 have a:BM s.1.toNat=ka:=Br (by omega);simp only[OT,h,zQ,f,k,a,A8];rfl
def a9A:List Int->List Int->kU->Option (List Int)|[],dn,_=>kd dn|r::rs,dn,f=>bif Aq (W (BK f+r))then a9A rs (dn++[W (BK f+r)]) (bP f (W (BK f+r)))else ke
theorem Ub:∀(l g:LI)(f:kU){r},a9A l g f=kd r->r.length=g.length+l.length|[],g,f,r,h=>by simp_all[a9A]|x::l,g,f,r,h=>by simp[a9A]at h;cases hw:Aq (W (BK f+x))with|true=>rw[hw]at h;rw[Ub l _ _ h];grind|false=>simp_all
theorem eZ{f g:LI}{i:Nat}(k:f.length=i)(h:i<g.length):G3 (f++g.drop i) i 0=g[i]:=by grind
theorem a6L{f g:LI}{i:Nat}(k:f.length=i)(h:i<g.length)(y:Int):(f++g.drop i).set i y=(f++[y])++g.drop (i+1):=by rw[H4 _ _ (by omega),k,G6,A7 h,I6,aA];rfl
theorem UH{g b4:LI}{b5:Int}(o:short g):∀(k i:Nat)(a:LI)(f:kU),i+k=g.length->a.length=i->uF f->
  ∃z,Al Ig ((g.length:Int),(i:Int),b4,b5,a++g.drop i,f,())=kd z/\
   match a9A (g.drop i) a f with
   |some r=>z=.inl (b4,b5,r,())
   |none=>∃q,z=.inr (([]:List Int),(6:Int),q,())
 |0,i,a,f,h,e,d=>by
  obtain rfl:i=g.length:=by omega
  rw[E9,F1];exact⟨_,Ae (b:=B7 (b4,b5,a,())) (by simp[Ig]),rfl⟩
 |k+1,i,a,f,h,e,d=>by
  have c:i<g.length:=by omega
  have p:g.length<1000000:=o;have l:A3 ((0:Int)<=(i:Int))=ka:=by simp
  have u:(a++g.drop i).length=g.length:=by grind
  have m:A3 ((i:Int)<(((a++g.drop i).length:Nat):Int))=ka:=by simp_all
  have j:a9A (g.drop i) a f=bif Aq (W (BK f+g[i]))then a9A (g.drop (i+1)) (a++[W (BK f+g[i])]) (bP f (W (BK f+g[i])))else ke:=by
   rw[A7 c];rfl
  rw[j];cases hw:Aq (W (BK f+g[i]))with
  |true=>
   rw[Af (s':=((g.length:Int),((i+1:Nat):Int),b4,b5,(a++[W (BK f+g[i])])++g.drop (i+1),bP f (W (BK f+g[i])),())) (by
    simp only[Ig,Cn c,l,m,cT,A8,QE d,oB,tN,eZ e c,Ob,hw,bT,cF,a1k d,a6L e c,Aa (show i<1000000 by omega)])]
   exact UH o k (i+1) _ _ (by omega) (by simp_all) (a6H d _)
  |false=>
   exact⟨_,Ae (b:=B9 (([]:List Int),(6:Int),a++g.drop i,())) (by
    simp only[Ig,Cn c,l,m,cT,A8,QE d,oB,tN,eZ e c,Ob,hw,F7]),_,rfl⟩
theorem XT{g:LI}{st:List UY}{n:Int}(l:short g):∀(k i:Nat)(a:LI)(f:kU),i+k=g.length->a.length=i->uF f->
  Al FG (st,n,(i:Int),a++g.drop i,f,())=kd (match a9A (g.drop i) a f with
   |some r=>.inl (st,n,r,())
   |none=>.inr ((6:Int),([]:List Int),()))
 |0,i,a,f,h,c,d=>by
  obtain rfl:i=g.length:=by omega
  rw[E9,F1];have q:a.length=g.length:=c;exact Ae (b:=B7 (st,n,a,())) (by simp_all[FG])
 |k+1,i,a,f,h,c,d=>by
  have e:i<g.length:=by omega
  have u:g.length<1000000:=l;have m:A3 ((0:Int)<=(i:Int))=ka:=by simp
  have q:(a++g.drop i).length=g.length:=by grind
  have o:A3 ((i:Int)<(((a++g.drop i).length:Nat):Int))=ka:=by simp_all
  have j:a9A (g.drop i) a f=bif Aq (W (BK f+g[i]))then a9A (g.drop (i+1)) (a++[W (BK f+g[i])]) (bP f (W (BK f+g[i])))else ke:=by
   rw[A7 e];rfl
  have p:zN .i64 (g[i]+BK f)=W (BK f+g[i]):=by grind
  rw[j];cases hw:Aq (W (BK f+g[i]))with
  |true=>
   rw[Af (s':=(st,n,((i+1:Nat):Int),(a++[W (BK f+g[i])])++g.drop (i+1),bP f (W (BK f+g[i])),())) (by
    simp only[FG,m,o,cT,A8,Ua d,oB,tN,eZ c e,p,DN,hw,bT,cF,a6K d,a6L c e,Aa (show i<1000000 by omega)])]
   exact XT l k (i+1) _ _ (by omega) (by simp_all) (a6H d _)
  |false=>
   exact Ae (by
    simp_all[FG,Ua,DN])
def lO:List UY->List Int->Option (List Int)|[],row=>kd row|s::r,row=>match a9A row [] (bQ s)with|some row'=>lO r row'|none=>ke
theorem a6M{st:List UY}{s:UY}{k:Int}{b4:LI}{g:LI}(h:tJ s=ka)(c:short g):
  ∃z,Lm k s (st,b4,(0:Int),g,())=kd z/\match a9A g [] (bQ s)with
   |some r=>z=.inl (st,b4,(0:Int),r,())
   |none=>∃q,z=.inr (.ret,st,([]:List Int),(6:Int),q,()):=by
 obtain⟨z,f,a⟩:=UH (b4:=b4) (b5:=0) c g.length 0 [] (bQ s) (by omega) rfl (b0L h);simp at f a;unfold Lm;have b:((0:Int) != 0)=kc:=rfl;simp[a4v h,f];cases hst:a9A g [] (bQ s)with
 |some r=>
  simp_all
 |none=>
  grind
theorem iE{st l:List UY}{b4:LI}(a:∀s∈l,tJ s=ka):∀(n:Nat)(h:LI),n<=l.length->short h->
  ∃z,PY Lm l n (st,b4,(0:Int),h,())=kd z/\match lO (l.take n).reverse h with
   |some r=>z=.inl (st,b4,(0:Int),r,())
   |none=>∃q,z=.inr (.ret,st,([]:List Int),(6:Int),q,())
 |0,h,_,_=>⟨_,rfl,rfl⟩
 |n+1,h,e,b=>by
  have g:n<l.length:=by omega
  obtain⟨z,c,f⟩:=a6M (st:=st) (k:=(n:Int)) (b4:=b4) (a _ (B4 g)) b;have d:(l.take (n+1)).reverse=l[n]::(l.take n).reverse:=by simp
  simp[PY,lG g,c,d,lO];cases hst:a9A h [] (bQ l[n])with
  |some r=>
   rw[hst]at f;simp at f;subst f;exact iE a n r (by omega) (by have:=Ub _ _ _ hst;unfold short at b|-;simp_all)
  |none=>
   grind
def Wd(zO:List Int)(st:List UY):Option (List Int):=bif zO.all Aq then lO st.reverse zO else ke
theorem a1m{zO:LI}{st:List UY}(a:Qz st=ka)(c:zO.length<100000):Pi (zO,st)=kd (QC (Wd zO st)):=by(have f:=a;simp only[Qz,HC,dT]at f;have k:short st:=by unfold short;omega);(have h:short zO:=by unfold short;omega);unfold Pi;simp only[bJ k,a,zQ,eV h,Wd];cases hw:zO.all Aq with|false=>rfl|true=>obtain⟨z,b,g⟩:=iE (st:=st) (b4:=[]) (lA.1 f.2) st.length zO (E1 _) h;rw[C6]at g;simp[pZ h,Br k,b];cases hst:lO st.reverse zO with|some r=>rw[hst]at g;simp at g;subst g;rfl|none=>rw[hst]at g;obtain⟨q,rfl⟩:=g;rfl
theorem qA{l:List UY}(b:∀s∈l,tJ s=ka)(f:l.length<=3):∀(n:Nat)(h:LI),n<=l.length->short h->
  Al HR (l,(n:Int)-1,h,())=kd (match lO (l.take n).reverse h with
   |some r=>.inl (r,())
   |none=>.inr ((6:Int),([]:List Int),()))
 |0,h,_,_=>Ae (by rfl)
 |n+1,h,m,c=>by
  have k:n<l.length:=by omega
  have g:=b _ (B4 k);have a:=XT (st:=l) (n:=(n:Int)) c h.length 0 [] (bQ l[n]) (by omega) rfl (b0L g);simp at a;have e:(l.take (n+1)).reverse=l[n]::(l.take n).reverse:=by simp
  have d:((n+1:Nat):Int)-1=(n:Int):=by omega
  have j:A3 ((n:Int)>=0)=ka:=by simp
  have i:zN .i64 ((n:Int)-1)=(n:Int)-1:=Ac (by omega);rw[e,d];simp[lO];cases hst:a9A h [] (bQ l[n])with
  |some r=>
   rw[hst]at a;rw[Af (s':=(l,(n:Int)-1,r,())) (by simp_all[HR,Ad,SO])];exact qA b f n r (by omega) (by have:=Ub _ _ _ hst;unfold short at c|-;simp_all)
  |none=>
   simp_all[Ae,HR,Ad,SO]
theorem fA{zO:LI}{st:List UY}(a:Qz st=ka)(c:zO.length<100000):Lu (zO,st)=kd (QC (Wd zO st)):=by(have h:=a;simp only[Qz,HC,dT]at h;have f:short st:=by unfold short;omega);(have g:short zO:=by unfold short;omega);unfold Lu;simp only[UG f,a,zQ,Ci g,Wd];cases hw:zO.all Aq with|false=>rfl|true=>have k:=qA (lA.1 h.2) h.1 st.length zO (E1 _) g;rw[C6]at k;have b:zN .i64 ((st.length:Int)-1)=(st.length:Int)-1:=Ac (by omega);simp only[zQ,Br (show 0+zO.length<1000000 by omega),b,B6,B3,k];cases lO st.reverse zO<;>rfl
def SP(n sF:Int):Bool:=A3 (1<=n)&&(A3 (n<=4096)&&(A3 (0<=sF)&&A3 (sF<=n)))
theorem Pv(n sF:Int):LO (n,sF)=kd (SP n sF):=by grind[LO,SP]
theorem qB(n sF:Int):VU (n,sF)=kd (SP n sF):=by grind[VU,SP]
theorem c1k{o:Nat}(h:o<=8):1<=2^o/\2^o<=256:=by(have:o=0\/o=1\/o=2\/o=3\/o=4\/o=5\/o=6\/o=7\/o=8:=by omega);grind
theorem bR{N o:Nat}(h:o<=64):AR .i64 (N:Int) (o:Int)=((N / 2^o:Nat):Int):=by unfold AR;show Int.fdiv (N:Int) (2^(min (o:Int).toNat 64))=_;grind
theorem bS{N o:Nat}(h:o<=64)(g:N*2^o<9223372036854775808):AO .i64 (N:Int) (o:Int)=((N*2^o:Nat):Int):=by unfold AO;show zN .i64 ((N:Int)*2^(min (o:Int).toNat 64))=_;grind[Ac]
def We(o N:Nat)(sF:Int):List Int:=if N%2^o=0/\sF<=((N / 2^o:Nat):Int)then(((N / 2^o:Nat):Int)-sF)::A4 (2^o-1) ((N / 2^o:Nat):Int)else[]
def ES(order n sF:Int):List Int:=bif SP n sF&&(A3 (0<=order)&&A3 (order<=8))then We order.toNat n.toNat sF else[]
theorem JF(h n sF:Int):GO (h,n,sF)=kd (ES h n sF):=by
 unfold GO ES;simp only[Pv,oB];cases hr:SP n sF with
 |false=>rfl
 |true=>
  simp[SP]at hr;simp only[bT,cF,C5];by_cases h1:h<0;grind;by_cases h2:h > 8;grind;obtain⟨o,rfl⟩:=A6 (show 0<=h by omega);obtain⟨N,rfl⟩:=A6 (show 0<=n by omega);have q:o<=8:=by omega
  have r:N<=4096:=by omega
  have v:=c1k q;have p:N / 2^o*2^o<=N:=I4 N _;have m:(0:Int)<=(o:Int):=by omega
  have g8:(o:Int)<=8:=by omega
  simp only[h1,h2,m,g8,decide_true,decide_false,cF,cT,A8,oB,bR (N:=N) (show o<=64 by omega),bS (N:=N / 2^o) (show o<=64 by omega) (by omega),tN];have k:=H0 N (2^o);rw[G7]at k;by_cases hm:N%2^o=0;have a:(((N / 2^o*2^o:Nat):Int) != (N:Int))=kc:=by simp_all
  by_cases hw:sF<=((N / 2^o:Nat):Int);have d:A3 (((N / 2^o:Nat):Int)<sF)=kc:=dF (Int.not_lt.2 hw);have j:zN .i64 (((N / 2^o:Nat):Int)-sF)=((N / 2^o:Nat):Int)-sF:=Ac (by have:=C4 N (2^o);omega);simp only[a,d,j,cF,oB,We,hm,hw,and_self,if_true];have e:AO .i64 (1:Int) (o:Int)=((2^o:Nat):Int):=by have:=bS (N:=1) (show o<=64 by omega) (by omega);simp_all
  have:=Bo (f:=JU) (λi=>((o:Int),((N / 2^o:Nat):Int),(((N / 2^o:Nat):Int)-sF)::A4 i ((N / 2^o:Nat):Int),())) (2^o-1)
   (b:=((((N / 2^o:Nat):Int)-sF)::A4 (2^o-1) ((N / 2^o:Nat):Int),())) (λi u=>by
    have c:A3 ((((((N / 2^o:Nat):Int)-sF)::A4 i ((N / 2^o:Nat):Int)).length:Int)<((2^o:Nat):Int))=ka:=by
     grind
    have g:BM (((((N / 2^o:Nat):Int)-sF)::A4 i ((N / 2^o:Nat):Int)).length+1)=ka:=Br (by grind);have l:A4 i ((N / 2^o:Nat):Int)++[((N / 2^o:Nat):Int)]=A4 (i+1) ((N / 2^o:Nat):Int):=by grind[D5]
    simp only[JU,h1,decide_false,cF,e,c,cT,g,B6,J2,l])
   (by
    have c:A3 ((((((N / 2^o:Nat):Int)-sF)::A4 (2^o-1) ((N / 2^o:Nat):Int)).length:Int)<((2^o:Nat):Int))=kc:=by
     simp_all
    simp only[JU,h1,decide_false,cF,e,c])
  simp_all;have d:A3 (((N / 2^o:Nat):Int)<sF)=ka:=dE (Int.not_le.1 hw);simp_all[We];have a:(((N / 2^o*2^o:Nat):Int) != (N:Int))=ka:=by grind
  simp only[a,cT,oB,We,hm,false_and,if_false]
theorem Ja(h n sF:Int):EP (h,n,sF)=kd (ES h n sF):=by
 unfold EP ES;simp only[qB,oB];cases hr:SP n sF with
 |false=>rfl
 |true=>
  simp[SP]at hr;simp only[bT,cF,C5];by_cases h1:h<0;grind;by_cases h2:h > 8;grind;obtain⟨o,rfl⟩:=A6 (show 0<=h by omega);obtain⟨N,rfl⟩:=A6 (show 0<=n by omega);have m:o<=8:=by omega
  have v:N<=4096:=by omega
  have y:=c1k m;have l:(0:Int)<=(o:Int):=by omega
  have g8:(o:Int)<=8:=by omega
  have d:zN .u64 (o:Int)=(o:Int):=Au (by omega);have c:AO .i64 (1:Int) (o:Int)=((2^o:Nat):Int):=by have:=bS (N:=1) (show o<=64 by omega) (by omega);simp_all
  have r:(((2^o:Nat):Int)==0)=kc:=by grind
  have p:C7 (N:Int) ((2^o:Nat):Int)=((N%2^o:Nat):Int):=by rfl
  simp only[h1,h2,l,g8,decide_true,decide_false,cF,cT,A8,d,c,r,p,bR (N:=N) (show o<=64 by omega),tN];by_cases hm:N%2^o=0;have k:(((0:Nat):Int) != 0)=kc:=rfl;by_cases hw:sF<=((N / 2^o:Nat):Int);have e:A3 (((N / 2^o:Nat):Int)<sF)=kc:=dF (Int.not_lt.2 hw);have u:zN .i64 (((N / 2^o:Nat):Int)-sF)=((N / 2^o:Nat):Int)-sF:=Ac (by have:=C4 N (2^o);omega);simp only[k,e,cF,oB,We,hm,hw,and_self,if_true]
  have:=Bo (f:=HP) (λi=>((o:Int),(N:Int),sF,(i:Int),A4 i ((N / 2^o:Nat):Int),())) (2^o)
   (b:=(sF,A4 (2^o) ((N / 2^o:Nat):Int),())) (λi w=>by
    have a:A3 ((i:Int)<((2^o:Nat):Int))=ka:=by grind
    have g:BM ((A4 i ((N / 2^o:Nat):Int)).length+1)=ka:=Br (by grind);have j:A4 i ((N / 2^o:Nat):Int)++[((N / 2^o:Nat):Int)]=A4 (i+1) ((N / 2^o:Nat):Int):=by grind[D5]
    simp only[HP,d,h1,decide_false,cF,c,a,cT,g,bR (N:=N) (show o<=64 by omega),B6,j,Aa (show i<1000000 by omega)])
   (by
    have a:A3 (((2^o:Nat):Int)<((2^o:Nat):Int))=kc:=by simp
    simp only[HP,d,h1,decide_false,cF,c,a])
  simp only[nZ,List.replicate_zero]at this;have x:A3 ((0:Int)<(((A4 (2^o) ((N / 2^o:Nat):Int)).length:Nat):Int))=ka:=by grind
  obtain⟨q,z⟩:∃q,2^o=q+1:=⟨2^o-1,by omega⟩;grind;have e:A3 (((N / 2^o:Nat):Int)<sF)=ka:=dE (Int.not_le.1 hw);simp_all[We];have k:(((N%2^o:Nat):Int) != 0)=ka:=by grind
  simp only[k,cT,oB,We,hm,false_and,if_false]
abbrev YN:Type:=Int×((List Int)×Unit)
def kB(k:Int):Bool:=(A3 (0<=k)&&A3 (k<=25)) || (k==31)
def MY(p:YN)(n sF:Int):Bool:=!((ES p.1 n sF).length==0)&&((ES p.1 n sF).length==p.2.1.length&&p.2.1.all kB)
theorem Uc{p:YN}{n sF:Int}(k:short p.2.1):On (p,n,sF)=kd (MY p n sF):=by
 have:=Bp (f:=Hm) p.2.1 (λi=>(p.2.1,(p.2.1.length:Int),(i:Int),())) kB (bt:=B7 ()) (bf:=B9 (kc,()))
  (λi h g=>by
   simp[kB]at g;by_cases h1:p.2.1[i]<0;omega;by_cases h2:p.2.1[i] > 25;have c:p.2.1[i]=31:=by omega
   have b:(p.2.1[i] != 31)=kc:=by simp_all
   simp[Hm,Ad h,h,h1,h2,b,Aa (B8 h k)];simp[Hm,Ad h,h,h1,h2,Aa (B8 h k)])
  (λi h g=>by
   have g:¬ (kB p.2.1[i]=ka):=by simp_all
   simp only[kB,J5,HC,dT,beq_iff_eq]at g;grind[Hm,Ad])
  (by simp[Hm])
 simp at this;unfold On MY;simp[JF];by_cases h0:(ES p.1 n sF).length=0;simp_all
 ·have e:(((ES p.1 n sF).length:Int)==0)=kc:=by simp_all
  have a:((ES p.1 n sF).length==0)=kc:=by simp_all
  simp[e,a];by_cases h1:(ES p.1 n sF).length=p.2.1.length;all_goals grind
theorem OU{p:YN}{n sF:Int}(a:short p.2.1):IA (p,n,sF)=kd (MY p n sF):=by
 have g:∀k:Int,BW k=kd (A3 (0<=k)&&A3 (k<=25)):=λk=>by
  grind[BW]
 have:=Bp (f:=Fl) p.2.1 (λi=>((i:Int),p,())) kB (bt:=B7 ()) (bf:=B9 (kc,()))
  (λi h b=>by
   simp only[kB,J5]at b;cases hc:(A3 (0<=p.2.1[i])&&A3 (p.2.1[i]<=25))with
   |true=>simp[Fl,Ad h,h,g,hc,Aa (B8 h a)]
   |false=>
    have j:p.2.1[i]=31:=by simp_all
    have d:(p.2.1[i] != 31)=kc:=by simp_all
    simp[Fl,Ad h,h,g,hc,d,Aa (B8 h a)])
  (λi h b=>by
   grind[kB,Fl,Ad])
  (by simp[Fl])
 simp at this;unfold IA MY;simp[Ja];by_cases h0:(ES p.1 n sF).length=0;simp_all
 ·have e:(((ES p.1 n sF).length:Int)==0)=kc:=by simp_all
  have c:((ES p.1 n sF).length==0)=kc:=by simp_all
  simp[e,c];by_cases h1:(ES p.1 n sF).length=p.2.1.length;all_goals grind
abbrev CP:Type:=Int×(Int×(Int×(Int×(Int×((List Int)×((List Int)×((List UY)×((List Int)×(YN×((List Int)×Unit))))))))))
structure sM (s:CP):Prop where
 uJ:s.2.2.2.2.2.1.length<=40
 taps:s.2.2.2.2.2.2.1.length=3
 stages:s.2.2.2.2.2.2.2.1.length<=6
 sF:s.2.2.2.2.2.2.2.2.1.length<=5000
 rest:s.2.2.2.2.2.2.2.2.2.2.1.length<=5000
 ks:s.2.2.2.2.2.2.2.2.2.1.2.1.length<=300
theorem SQ(x y:LI):Xm (.arr 3 (.int .i64)) x y=A3 (x=y):=by(show((C3 (λ(a b:Int)=>a==b) x y).all id&&x.length==y.length)=_);induction x generalizing y with|nil=>(cases y<;>simp)|cons a x h=>cases y with|nil=>simp|cons b y=>grind[List.zipWith_cons_cons]
theorem qC{l:LI}(h:short l):Fy l=kd l:=pZ h
theorem a6N{l:List UY}(h:short l):BG l=kd l:=by have g:BM (0+l.length)=ka:=Br (by unfold short at h;omega);simp_all[BG,Yy]
def Wg(k:Int)(s:CP)(n:Int):Prop:=k=0\/k=1\/(k=2/\0<=s.2.2.1/\s.2.2.1<=4/\s.2.2.1<=n)\/(k=3/\UT s.2.2.2.2.2.1 s.2.2.2.1=ka/\(s.2.2.2.2.2.1.length:Int)<=n)\/(k=4/\UT s.2.2.2.2.2.1 s.2.2.2.1=ka/\(s.2.2.2.2.2.1.length:Int)<=n/\VY s.2.2.2.2.1 s.2.2.2.2.2.2.1=ka)\/(k=5/\0<s.2.2.2.2.2.2.2.1.length/\Qz s.2.2.2.2.2.2.2.1=ka)
open Classical in
def a6O (k:Int) (s:CP) (n:Int):Bool:=decide (Wg k s n)
theorem qD{s:CP}(h:sM s)(k n:Int):PG (k,s,n)=kd (a6O k s n):=by
 have a:short s.2.2.2.2.2.1:=by have:=h.uJ;unfold short;omega
 have b:short s.2.2.2.2.2.2.2.1:=by have:=h.stages;unfold short;omega
 unfold PG a6O Wg;by_cases k0:k=0;simp_all;by_cases k1:k=1;simp_all;have g:(k==0)=kc:=by grind
 have f:(k==1)=kc:=by grind
 simp only[g,f,zQ];by_cases k2:k=2;subst k2;grind;by_cases k3:k=3;subst k3;grind[Sk];by_cases k4:k=4;subst k4;cases hl:UT s.2.2.2.2.2.1 s.2.2.2.1<;>by_cases h2:(s.2.2.2.2.2.1.length:Int)<=n<;>simp[Sk a,iB h.taps,hl,h2];by_cases k5:k=5
 ·subst k5;by_cases h1:0<s.2.2.2.2.2.2.2.1.length;all_goals simp_all[bJ]
 grind
def Cp(s:CP)(n:Int):Int:=if s.1=0 then 1 else if s.1=1 then n else if s.1=2 then s.2.2.1 else if s.1=3\/s.1=4 then(s.2.2.2.2.2.1.length:Int)else 0
theorem fB(s:CP)(n:Int):JT (s,n)=kd (Cp s n):=by grind[JT,Cp]
def fC(s:CP):Prop:=(s.1≠2->s.2.2.1=0)/\(s.1≠3/\s.1≠4->s.2.2.2.1=0)/\(s.1≠4->s.2.2.2.2.1=0)/\(s.1≠4->s.2.2.2.2.2.2.1=[0,0,0])/\(s.1≠3/\s.1≠4->s.2.2.2.2.2.1=[])/\(s.1≠5->s.2.2.2.2.2.2.2.1=[])
open Classical in
def fD (s:CP):Bool:=decide (fC s)
theorem QF{c x:Bool}:(bif c then kd x else kd kc)=kd (c&&x):=by grind
theorem c6e{α:Type}(l:List α):((l.length:Int)==0)=A3 (l=[]):=by cases l with|nil=>rfl|cons a l=>rfl
theorem b2N(x:Int):(x==0)=A3 (x=0):=rfl
theorem a6P{s:CP}(h:sM s):Rl s=kd (fD s):=by
 have e:short s.2.2.2.2.2.1:=by have:=h.uJ;unfold short;omega
 have g:short s.2.2.2.2.2.2.2.1:=by have:=h.stages;unfold short;omega
 obtain⟨k,w,o,l,j,c,t,m,q,p,r,u⟩:=s;simp only at e g;unfold Rl TF fD fC;have i:(A4 3 (0:Int))=[0,0,0]:=rfl;by_cases k2:k=2;simp_all[SQ,QF,b2N];by_cases k4:k=4;simp_all[SQ,QF,b2N,qC];by_cases k3:k=3;simp_all[SQ,QF,b2N,qC];by_cases k5:k=5;simp_all[SQ,QF,b2N,a6N];have f:(k==2)=kc:=by grind
 have a:(k==3)=kc:=by grind
 have b:(k==4)=kc:=by grind
 have d:(k==5)=kc:=by grind
 simp[f,a,b,d,k2,k3,k4,k5,SQ,i,QF,c6e,b2N]
theorem Kj(k:Int):JR k=kd (A3 (k≠0/\k≠1)):=by
 unfold JR;by_cases h0:k=0;simp_all
 ·by_cases h1:k=1;all_goals grind
def DF(s:CP)(n:Int):Prop:=1<=n/\n<=4096/\Wg s.1 s n/\fC s/\0<=s.2.1/\s.2.1<=30/\(s.1=0->s.2.1=0)/\(s.2.2.2.2.2.2.2.2.1.length:Int)=Cp s n/\s.2.2.2.2.2.2.2.2.1.all Aq=ka/\s.2.2.2.2.2.2.2.2.2.2.1.all Aq=ka/\(s.1=0\/s.1=1->s.2.2.2.2.2.2.2.2.2.2.1=[]/\s.2.2.2.2.2.2.2.2.2.1.1=0/\s.2.2.2.2.2.2.2.2.2.1.2.1=[])/\(s.1≠0/\s.1≠1->(s.2.2.2.2.2.2.2.2.2.2.1.length:Int)=n-Cp s n/\MY s.2.2.2.2.2.2.2.2.2.1 n (Cp s n)=ka)
theorem Wh{s:CP}(h:sM s){n:Int}(a:1<=n)(b:n<=4096)(f:Wg s.1 s n):0<=Cp s n/\Cp s n<=4096:=by have c:=h.uJ;unfold Cp;rcases f with k|k|⟨k,g⟩|⟨k,g⟩|⟨k,g⟩|⟨k,g⟩<;>simp[k]<;>omega
open Classical in
theorem b2O {s:CP} (h:sM s) (n:Int):Pg (s,n)=kd (decide (DF s n)):=by
 have hw:short s.2.2.2.2.2.2.2.2.1:=by have:=h.sF;unfold short;omega
 have hr:short s.2.2.2.2.2.2.2.2.2.2.1:=by have:=h.rest;unfold short;omega
 have hk:short s.2.2.2.2.2.2.2.2.2.1.2.1:=by have:=h.ks;unfold short;omega
 unfold Pg
 by_cases h1:1<=n
 rotate_left
 ·have e1:decide (n<1)=ka:=by simp_all
  have:¬ DF s n:=λhp=>h1 hp.1
  simp_all
 have e1:decide (n<1)=kc:=by simp_all
 by_cases h2:n<=4096
 rotate_left
 ·have e2:decide (n > 4096)=ka:=by simp_all
  have:¬ DF s n:=λhp=>h2 hp.2.1
  simp_all
 have e2:decide (n > 4096)=kc:=by simp_all
 by_cases h3:Wg s.1 s n
 rotate_left
 ·have e3:a6O s.1 s n=kc:=by simp[a6O,h3]
  have:¬ DF s n:=λhp=>h3 hp.2.2.1
  simp_all[qD]
 have e3:a6O s.1 s n=ka:=by simp[a6O,h3]
 by_cases h4:fC s
 rotate_left
 ·have e4:fD s=kc:=by simp[fD,h4]
  have:¬ DF s n:=λhp=>h4 hp.2.2.2.1
  simp_all[qD,a6P]
 have e4:fD s=ka:=by simp[fD,h4]
 simp only[e1,e2,qD h,e3,a6P h,e4,cF,bT,oB]
 by_cases h5:0<=s.2.1
 rotate_left
 ·have e5:decide (s.2.1<0)=ka:=by simp_all
  have:¬ DF s n:=λhp=>h5 hp.2.2.2.2.1
  simp_all
 have e5:decide (s.2.1<0)=kc:=by simp_all
 by_cases h6:s.2.1<=30
 rotate_left
 ·have e6:decide (s.2.1 > 30)=ka:=by simp_all
  have:¬ DF s n:=λhp=>h6 hp.2.2.2.2.2.1
  simp_all
 have e6:decide (s.2.1 > 30)=kc:=by simp_all
 simp only[e5,e6,cF]
 by_cases h7:s.1=0->s.2.1=0
 rotate_left
 ·have h7a:s.1=0:=Classical.byContradiction λhc=>h7 λe=>absurd e hc
  have h7b:(s.2.1 != 0)=ka:=by
   simp_all
  have e7:(s.1==0)=ka:=by simp_all
  have:¬ DF s n:=λhp=>h7 hp.2.2.2.2.2.2.1
  grind
 have e7:(bif s.1==0 then kd (n,(s.2.1 != 0,(s,())))else kd (n,(kc,(s,()))))=kd (n,(kc,(s,()))):=by
  grind
 simp only[e7,oB,cF,fB]
 by_cases h8:(s.2.2.2.2.2.2.2.2.1.length:Int)=Cp s n
 rotate_left
 ·have e8:(((s.2.2.2.2.2.2.2.2.1.length:Nat):Int) != Cp s n)=ka:=by simp_all
  have:¬ DF s n:=λhp=>h8 hp.2.2.2.2.2.2.2.1
  grind
 have e8:(((s.2.2.2.2.2.2.2.2.1.length:Nat):Int) != Cp s n)=kc:=by simp_all
 simp only[e8,cF,MW hw,MW hr,oB]
 cases h9:s.2.2.2.2.2.2.2.2.1.all Aq with
 |false=>
  have:¬ DF s n:=λhp=>by rw[hp.2.2.2.2.2.2.2.2.1]at h9;grind
  simp_all
 |true=>
  cases h10:s.2.2.2.2.2.2.2.2.2.2.1.all Aq with
  |false=>
   have:¬ DF s n:=λhp=>by rw[hp.2.2.2.2.2.2.2.2.2.1]at h10;grind
   simp_all
  |true=>
   simp only[bT,cF,oB,Kj]
   have hwr:=Wh h h1 h2 h3
   by_cases k01:s.1≠0/\s.1≠1
   ·have e11:zN .i64 (n-Cp s n)=n-Cp s n:=Ac (by omega)
    simp[k01,e11,Uc hk]
    by_cases h11:(s.2.2.2.2.2.2.2.2.2.2.1.length:Int)=n-Cp s n
    ·have e12:(((s.2.2.2.2.2.2.2.2.2.2.1.length:Nat):Int)==n-Cp s n)=ka:=by simp_all
     simp only[e12,cT]
     congr 1
     rw[J6,dT]
     constructor
     ·intro hp
      exact⟨h1,h2,h3,h4,h5,h6,h7,h8,h9,h10,λhc=>absurd hc (by omega),λ_=>⟨h11,hp⟩⟩
     ·intro hp;exact(hp.2.2.2.2.2.2.2.2.2.2.2 k01).2
    ·have e12:(((s.2.2.2.2.2.2.2.2.2.2.1.length:Nat):Int)==n-Cp s n)=kc:=by simp_all
     have:¬ DF s n:=λhp=>h11 (hp.2.2.2.2.2.2.2.2.2.2.2 k01).1
     grind
   ·have k01':s.1=0\/s.1=1:=by omega
    simp[k01,c6e]
    simp only[b2N,QF]
    congr 1
    rw[J6,dT]
    simp
    constructor
    ·rintro⟨g1,g2,g3⟩
     exact⟨h1,h2,h3,h4,h5,h6,h7,h8,h9,h10,λ_=>⟨g1,g2,g3⟩,λhc=>absurd hc k01⟩
    ·intro hp;exact hp.2.2.2.2.2.2.2.2.2.2.1 k01'
theorem YO{α:Type}[DecidableEq α](q:α->α->Bool)(hq:∀a b,q a b=A3 (a=b)):∀(x y:List α),x.length=y.length->((x.zip y).all λp=>q p.1 p.2)=A3 (x=y)|[],[],_=>by simp|a::x,b::y,h=>by have g:=YO q hq x y (by simp_all);simp_all
theorem RJ{x y:LI}(h:short x):CI (x,y)=kd (A3 (x=y)):=by
 unfold CI;by_cases hl:x.length=y.length;have e:(((x.length:Nat):Int) != ((y.length:Nat):Int))=kc:=by simp_all
 have m:(x.zip y).length=x.length:=by simp_all
 have:=Bp (f:=CM) (x.zip y) (λi=>(x,y,(i:Int),())) (λp=>p.1==p.2) (bt:=B7 ()) (bf:=B9 (kc,()))
  (λi j c=>by
   have k:i<x.length:=by omega
   have d:i<y.length:=by omega
   rw[F3]at c;have c:x[i]=y[i]:=by simp_all
   have g:(x[i] != y[i])=kc:=by simp_all
   simp only[CM,Cn k,cT,Ad k,Ad d,oB,g,cF,Aa (B8 k h)])
  (λi j c=>by
   have k:i<x.length:=by omega
   have d:i<y.length:=by omega
   rw[F3]at c;have g:(x[i] != y[i])=ka:=by simp_all
   simp only[CM,Cn k,cT,Ad k,Ad d,oB,g])
  (by simp_all[CM])
 simp at this;simp only[e,cF,this,YO (λ(a b:Int)=>a==b) (λ_ _=>rfl) x y hl];grind;have e:(((x.length:Nat):Int) != ((y.length:Nat):Int))=ka:=by grind
 have:¬ x=y:=λl=>hl (by grind)
 grind
theorem a1n{x y:List UY}(h:short x):JZ (x,y)=kd (A3 (x=y)):=by
 have k:∀a b:UY,Xm (.pair (.int .i64) (.pair (.int .i64) .unit)) a b=A3 (a=b):=by
  rintro⟨a1,a2,⟨⟩⟩ ⟨b1,b2,⟨⟩⟩;show((a1==b1)&&((a2==b2)&&ka))=_;grind
 unfold JZ;by_cases hl:x.length=y.length;have e:(((x.length:Nat):Int) != ((y.length:Nat):Int))=kc:=by simp_all
 have m:(x.zip y).length=x.length:=by simp_all
 have:=Bp (f:=EW) (x.zip y) (λi=>(x,y,(i:Int),())) (λp=>A3 (p.1=p.2)) (bt:=B7 ()) (bf:=B9 (kc,()))
  (λi j c=>by
   have g:i<x.length:=by omega
   have d:i<y.length:=by omega
   rw[F3]at c;simp only[EW,Cn g,cT,Ad g,Ad d,oB,k,c,bT,cF,Aa (B8 g h)])
  (λi j c=>by
   have g:i<x.length:=by omega
   have d:i<y.length:=by omega
   rw[F3]at c;simp only[EW,Cn g,cT,Ad g,Ad d,oB,k,c,F7])
  (by simp_all[EW])
 simp at this;simp only[e,cF,this,YO (λ(a b:UY)=>A3 (a=b)) (λ_ _=>rfl) x y hl];grind;have e:(((x.length:Nat):Int) != ((y.length:Nat):Int))=ka:=by grind
 have:¬ x=y:=λl=>hl (by grind)
 grind
open Classical in
theorem Ud {a b:CP} (h:sM a):KT (a,b)=kd (decide (a=b)):=by
 have hc:short a.2.2.2.2.2.1:=by have:=h.uJ;unfold short;omega
 have hst:short a.2.2.2.2.2.2.2.1:=by have:=h.stages;unfold short;omega
 have hw:short a.2.2.2.2.2.2.2.2.1:=by have:=h.sF;unfold short;omega
 have hr:short a.2.2.2.2.2.2.2.2.2.2.1:=by have:=h.rest;unfold short;omega
 have hk:short a.2.2.2.2.2.2.2.2.2.1.2.1:=by have:=h.ks;unfold short;omega
 unfold KT Qs;simp only[RJ hc,RJ hw,RJ hr,RJ hk,a1n hst,SQ,oB,QF];congr 1;grind
def YP(s:CP):CP:=
 let z:List Int:=A4 3 0
 if s.1=0 then(0,0,0,0,0,[],z,[],s.2.2.2.2.2.2.2.2.1,(0,[],()),[],())
 else if s.1=1 then(1,s.2.1,0,0,0,[],z,[],s.2.2.2.2.2.2.2.2.1,(0,[],()),[],())
 else if s.1=2 then(2,s.2.1,s.2.2.1,0,0,[],z,[],s.2.2.2.2.2.2.2.2.1,s.2.2.2.2.2.2.2.2.2.1,s.2.2.2.2.2.2.2.2.2.2.1,())
 else if s.1=3 then(3,s.2.1,0,s.2.2.2.1,0,s.2.2.2.2.2.1,z,[],s.2.2.2.2.2.2.2.2.1,s.2.2.2.2.2.2.2.2.2.1,s.2.2.2.2.2.2.2.2.2.2.1,())
 else if s.1=4 then(4,s.2.1,0,s.2.2.2.1,s.2.2.2.2.1,s.2.2.2.2.2.1,s.2.2.2.2.2.2.1,[],s.2.2.2.2.2.2.2.2.1,s.2.2.2.2.2.2.2.2.2.1,s.2.2.2.2.2.2.2.2.2.2.1,())
 else if s.1=5 then(5,s.2.1,0,0,0,[],z,s.2.2.2.2.2.2.2.1,[],s.2.2.2.2.2.2.2.2.2.1,s.2.2.2.2.2.2.2.2.2.2.1,())
 else(s.1,s.2.1,0,0,0,[],z,[],s.2.2.2.2.2.2.2.2.1,s.2.2.2.2.2.2.2.2.2.1,s.2.2.2.2.2.2.2.2.2.2.1,())
theorem b5P(s:CP):RD s=kd (YP s):=by obtain⟨k,w,o,g,h,c,t,f,a,p,r,u⟩:=s;unfold RD YP;grind
open Classical in
def YQ (s:CP) (n:Int):Int:=if Wg s.1 s n then Cp s n else -1
theorem a6Q{s:CP}(h:sM s)(n:Int):LS (s,n)=kd (YQ s n):=by
 have f:short s.2.2.2.2.2.1:=by have:=h.uJ;unfold short;omega
 have g:short s.2.2.2.2.2.2.2.1:=by have:=h.stages;unfold short;omega
 have a:=h.taps;obtain⟨k,w,o,d,b,c,t,e,i,p,r,u⟩:=s;simp only at f g a;unfold LS YQ Cp Wg;by_cases k0:k=0;simp_all;by_cases k1:k=1;simp_all;by_cases k2:k=2;grind;by_cases k3:k=3;grind[Ki];by_cases k4:k=4;grind[Ki,VZ];grind[UG]
theorem JG(k:Int):GQ k=kd (A3 (2<=k/\k<=5)):=by grind[GQ]
def b8v(s:CP)(n:Int):Prop:=1<=n/\n<=4096/\0<=s.1/\s.1<=5/\s=YP s/\0<=s.2.1/\s.2.1<=30/\Wg s.1 s n/\(s.2.2.2.2.2.2.2.2.1.length:Int)=Cp s n/\s.2.2.2.2.2.2.2.2.1.all Aq=ka/\s.2.2.2.2.2.2.2.2.2.2.1.all Aq=ka/\(2<=s.1/\s.1<=5->(s.2.2.2.2.2.2.2.2.2.2.1.length:Int)=n-Cp s n/\MY s.2.2.2.2.2.2.2.2.2.1 n (Cp s n)=ka)
theorem Xd{k:Int}{s:CP}{n:Int}(h:Wg k s n):k=0\/k=1\/k=2\/k=3\/k=4\/k=5:=by unfold Wg at h;omega
theorem a6R(s:CP)(n:Int):DF s n↔b8v s n:=by(have f:Wg s.1 s n->((fC s/\(s.1=0->s.2.1=0)/\(s.2.2.2.2.2.2.2.2.1.length:Int)=Cp s n/\(s.1=0\/s.1=1->s.2.2.2.2.2.2.2.2.2.2.1=[]/\s.2.2.2.2.2.2.2.2.2.1.1=0/\s.2.2.2.2.2.2.2.2.2.1.2.1=[]))↔(s=YP s/\(s.2.2.2.2.2.2.2.2.1.length:Int)=Cp s n)):=by intro h;have g:(A4 3 (0:Int))=[0,0,0]:=rfl;obtain⟨k,w,o,sh,lag,c,t,st,wm,⟨po,ks,⟨⟩⟩,r,⟨⟩⟩:=s;rcases Xd h with k0|k0|k0|k0|k0|k0<;>simp only at k0<;>subst k0<;>simp[fC,YP,Cp,g]<;>(try constructor)<;>(try intros)<;>(try simp_all)<;>(try exact and_left_comm)<;>(grind));unfold DF b8v;grind[Xd]
def b2P(sF zO:List Int)(o:Int):Option (List Int):=bif sF.all Aq&&zO.all Aq then Nj (Sl o.toNat) zO sF else ke
def uG(s:CP):Option (List Int):=
 if s.1=1 then Option.some s.2.2.2.2.2.2.2.2.1
 else if s.1=2 then b2P s.2.2.2.2.2.2.2.2.1 s.2.2.2.2.2.2.2.2.2.2.1 s.2.2.1
 else if s.1=3 then pW s.2.2.2.2.2.2.2.2.1 s.2.2.2.2.2.2.2.2.2.2.1 s.2.2.2.2.2.1 s.2.2.2.1
 else if s.1=4 then(pW s.2.2.2.2.2.2.2.2.1 s.2.2.2.2.2.2.2.2.2.2.1 s.2.2.2.2.2.1 s.2.2.2.1).bind λl=>pX l s.2.2.2.2.1 s.2.2.2.2.2.2.1
 else Wd s.2.2.2.2.2.2.2.2.2.2.1 s.2.2.2.2.2.2.2.1
def b2Q(s:CP)(n:Int):Option (List Int):=if s.1=0 then kd (A4 n.toNat (s.2.2.2.2.2.2.2.2.1.getD 0 0))else(uG s).bind (b2J s.2.1)
theorem LV{w r c:LI}{s:Int}{l}(h:pW w r c s=kd l):l.length=w.length+r.length:=by unfold pW at h;cases hc:(w.all Aq&&r.all Aq)with|false=>simp_all|true=>rw[hc]at h;exact(TY _ r w l (I3.1 hc).1 h).2
theorem iF{w r:LI}{o:Int}{l}(h:b2P w r o=kd l):l.length=w.length+r.length:=by unfold b2P at h;cases hc:(w.all Aq&&r.all Aq)with|false=>simp_all|true=>rw[hc]at h;exact(TY _ r w l (I3.1 hc).1 h).2
theorem bU{r t:LI}{lag:Int}{l}(h:pX r lag t=kd l):l.length=r.length:=by unfold pX at h;cases hc:r.all Aq with|false=>simp_all|true=>rw[hc]at h;have:=(TY _ r [] l rfl h).2;simp_all
theorem a2m:∀(st:List UY)(r:LI){l},lO st r=kd l->l.length=r.length|[],r,l,h=>by simp_all[lO]|s::st,r,l,h=>by simp only[lO]at h;split at h;rename_i f g;rw[a2m st f h,Ub _ _ _ g];simp;cases h
theorem XU{r:LI}{st:List UY}{l}(h:Wd r st=kd l):l.length=r.length:=by grind[Wd,a2m]
theorem bV{s:CP}(h:sM s){l}(g:uG s=kd l):l.length<100000:=by have b:=h.sF;have a:=h.rest;unfold uG at g;split at g;grind;split at g;grind[iF];split at g;grind[LV];split at g;obtain⟨c,f,k⟩:=G8.1 g;rw[bU k,LV f];omega;grind[XU]
theorem b2R{s:CP}{n:Int}(c:1<=n)(d:n<=4096)(e:s.2.2.2.2.2.2.2.2.1.length=1):
  Al KP (n,(0:Int),([]:List Int),s,())=kd (A4 n.toNat (s.2.2.2.2.2.2.2.2.1.getD 0 0),()):=by
 obtain⟨N,rfl⟩:=A6 (show 0<=n by omega);have k:Ax s.2.2.2.2.2.2.2.2.1 (0:Int)=kd (s.2.2.2.2.2.2.2.2.1.getD 0 0):=bM (by omega) (by omega)
 have:=Bo (f:=KP) (λi=>((N:Int),(i:Int),A4 i (s.2.2.2.2.2.2.2.2.1.getD 0 0),s,())) N
  (b:=(A4 N (s.2.2.2.2.2.2.2.2.1.getD 0 0),())) (λi a=>by
   have h:BM ((A4 i (s.2.2.2.2.2.2.2.2.1.getD 0 0)).length+1)=ka:=Br (by grind);have g:A4 i (s.2.2.2.2.2.2.2.2.1.getD 0 0)++[s.2.2.2.2.2.2.2.2.1.getD 0 0]=A4 (i+1) (s.2.2.2.2.2.2.2.2.1.getD 0 0):=by grind[D5]
   simp only[KP,Cn a,cT,k,oB,h,B6,g,Aa (show i<1000000 by omega)])
  (by simp[KP])
 simp_all
theorem a1o{s:CP}{n:Int}(m:1<=n)(o:n<=4096)(q:s.2.2.2.2.2.2.2.2.1.length=1):
  Al Ii (n,(0:Int),A4 n.toNat (0:Int),s,())=kd (A4 n.toNat (s.2.2.2.2.2.2.2.2.1.getD 0 0),()):=by
 obtain⟨N,rfl⟩:=A6 (show 0<=n by omega);have j:Ax s.2.2.2.2.2.2.2.2.1 (0:Int)=kd (s.2.2.2.2.2.2.2.2.1.getD 0 0):=bM (by omega) (by omega);obtain⟨z,r⟩:∃z,A4 N (s.2.2.2.2.2.2.2.2.1.getD 0 0)=z:=⟨_,rfl⟩;have k:z.length=(A4 N (0:Int)).length:=by grind
 have d:(A4 N (0:Int)).length=N:=by simp
 have:=Bo (f:=Ii) (λi=>((N:Int),(i:Int),z.take i++(A4 N (0:Int)).drop i,s,())) N
  (b:=(z,())) (λi l=>by
   have h:i<(A4 N (0:Int)).length:=by omega
   have p:(z.take i++(A4 N (0:Int)).drop i).length=N:=by grind
   have e:A3 ((i:Int)<(((z.take i++(A4 N (0:Int)).drop i).length:Nat):Int))=ka:=by simp_all
   have c:A3 ((0:Int)<=(i:Int))=ka:=by simp
   have a:=a6I h k;have g:z[i]'(by omega)=s.2.2.2.2.2.2.2.2.1.getD 0 0:=by grind
   rw[g]at a;simp only[Ii,Cn l,cT,j,oB,c,e,A8,tN,a,Aa (show i<1000000 by omega)])
  (by
   simp_all[E5,Ii])
 simp_all
theorem a6S{s:CP}(h:sM s){n:Int}(hp:DF s n)(z:s.1≠0):TP s=kd (QC (uG s)):=by
 obtain⟨A,B,m,-,-,-,-,a,E,C,-⟩:=hp;have q:=h.rest;have v:=h.sF;have D:=h.taps;obtain⟨k,w,o,y,x,c,t,F,d,p,r,u⟩:=s;simp only at *;unfold TP uG;rcases m with g|g|⟨g,f,b,e⟩|⟨g,f,b⟩|⟨g,f,b,e⟩|⟨g,f,b⟩;omega;subst g;rfl;subst g;obtain⟨O,rfl⟩:=A6 f;grind[Cp,eW,b2P];grind[Cp,RI];subst g;simp only[Cp]at a;have j:d.length=c.length:=by grind
 have i:=RI (zO:=r) f j (by omega);simp only[show((4:Int)==2)=kc from rfl,show((4:Int)==3)=kc from rfl,show((4:Int)==4)=ka from rfl,zQ,i];cases hl:pW d r c y with|none=>rfl|some l=>grind[LV,kT,QC]
 grind[fA]
theorem a6T{s:CP}(h:sM s){n:Int}(hp:DF s n):TH (s,n)=kd (QC (b2Q s n)):=by
 have a:=λl (d:uG s=kd l)=>bV h d;obtain⟨A,B,D,-,x,v,-,g,N,M,-⟩:=hp;have G:=h.rest;have H:=h.sF;have I:=h.taps;have E:=b2R (s:=s) A B;obtain⟨k,w,o,z,K,c,t,L,f,p,r,u⟩:=s;simp only at *;have P:∀l,l.length<100000->Oq (l,w)=kd (QC (b2J w l)):=λl d=>a4r x v d;unfold TH b2Q;rcases D with b|b|⟨b,j,m,y⟩|⟨b,j,m⟩|⟨b,j,m,y⟩|⟨b,j,m⟩;grind[Cp,QC];simp_all[uG]
 subst b;obtain⟨O,rfl⟩:=A6 j;have m:(O:Int)<=4:=m;simp only[Cp]at g;have q:f.length=O:=by grind
 have i:=a1i (sF:=f) (zO:=r) (o:=O) (by omega) q (by omega);simp only[uG]at a|-;simp[i];have e:(bif f.all Aq&&r.all Aq then Nj (Sl O) r f else ke)=b2P f r (O:Int):=rfl;rw[e];cases d:b2P f r (O:Int)with|none=>rfl|some l=>simp_all[QC]
 subst b;simp only[Cp]at g;have q:f.length=c.length:=by grind
 have i:=Wa (zO:=r) j q (by omega);simp only[uG]at a|-;simp[i];cases d:pW f r c z with|none=>rfl|some l=>simp_all[QC]
 subst b;simp only[Cp]at g;have q:f.length=c.length:=by grind
 have i:=Wa (zO:=r) j q (by omega);simp only[uG]at a|-;simp[i];cases d:pW f r c z with|none=>rfl|some l=>have F:=LV d;have C:=a4q (zO:=l) y I (by omega);simp[QC,C];grind[QC]
 subst b;have i:=a1m (zO:=r) m (by omega);simp only[uG]at a|-;simp[i];cases d:Wd r L with|none=>rfl|some l=>simp_all[QC]
open Classical in
def FY (s:CP) (n:Int):Option (List Int):=if DF s n then b2Q s n else ke
theorem qE{s:CP}(h:sM s)(n:Int):SE (s,n)=kd (match FY s n with|some r=>(r,0)|none=>([],1)):=by unfold SE FY;simp only[b2O h,oB];by_cases hp:DF s n;simp[hp,a6T h hp];grind[QC];simp_all
theorem Ue{s:CP}(h:sM s)(n:Int):Nu (s,n)=kd (FY s n).isSome:=by unfold Nu;simp only[qE h,oB];cases FY s n<;>rfl
open Classical in
theorem XV {s:CP} (h:sM s) (n:Int):MJ (s,n)=kd (match FY s n with|some r=>(r,ka)|none=>([],kc)):=by
 have hw:short s.2.2.2.2.2.2.2.2.1:=by have:=h.sF;unfold short;omega
 have hr:short s.2.2.2.2.2.2.2.2.2.2.1:=by have:=h.rest;unfold short;omega
 have hk:short s.2.2.2.2.2.2.2.2.2.1.2.1:=by have:=h.ks;unfold short;omega
 have hiff:=a6R s n
 unfold MJ
 have no:¬ b8v s n->FY s n=ke:=λhc=>by
  simp_all[FY]
 by_cases h1:1<=n
 rotate_left
 ·have e1:decide (n<1)=ka:=by simp_all
  rw[no λhp=>h1 hp.1]
  simp_all
 have e1:decide (n<1)=kc:=by simp_all
 by_cases h2:n<=4096
 rotate_left
 ·have e2:decide (n > 4096)=ka:=by simp_all
  rw[no λhp=>h2 hp.2.1]
  simp_all
 have e2:decide (n > 4096)=kc:=by simp_all
 by_cases h3:0<=s.1
 rotate_left
 ·have e3:decide (s.1<0)=ka:=by simp_all
  rw[no λhp=>h3 hp.2.2.1]
  simp_all
 have e3:decide (s.1<0)=kc:=by simp_all
 by_cases h4:s.1<=5
 rotate_left
 ·have e4:decide (s.1 > 5)=ka:=by simp_all
  rw[no λhp=>h4 hp.2.2.2.1]
  simp_all
 have e4:decide (s.1 > 5)=kc:=by simp_all
 simp only[e1,e2,e3,e4,cF,b5P,Ud h,oB]
 by_cases h5:s=YP s
 rotate_left
 ·rw[no λhp=>h5 hp.2.2.2.2.1]
  simp_all
 have e5:decide (s=YP s)=ka:=dE h5
 simp only[e5,bT,cF]
 by_cases h6:0<=s.2.1
 rotate_left
 ·have e6:decide (s.2.1<0)=ka:=by grind
  rw[no λhp=>h6 hp.2.2.2.2.2.1]
  grind
 have e6:decide (s.2.1<0)=kc:=by grind
 by_cases h7:s.2.1<=30
 rotate_left
 ·have e7:decide (s.2.1 > 30)=ka:=by grind
  rw[no λhp=>h7 hp.2.2.2.2.2.2.1]
  grind
 have e7:decide (s.2.1 > 30)=kc:=by grind
 simp only[e6,e7,cF,oB,a6Q h]
 by_cases h8:Wg s.1 s n
 rotate_left
 ·have e8:decide (YQ s n<0)=ka:=by simp[YQ,h8]
  rw[no λhp=>h8 hp.2.2.2.2.2.2.2.1]
  grind
 have hwr:=Wh h h1 h2 h8
 have e8':YQ s n=Cp s n:=by simp[YQ,h8]
 have e8:decide (Cp s n<0)=kc:=by grind
 simp only[e8',e8,cF]
 by_cases h9:(s.2.2.2.2.2.2.2.2.1.length:Int)=Cp s n
 rotate_left
 ·have e9:(((s.2.2.2.2.2.2.2.2.1.length:Nat):Int) != Cp s n)=ka:=by grind
  rw[no λhp=>h9 hp.2.2.2.2.2.2.2.2.1]
  grind
 have e9:(((s.2.2.2.2.2.2.2.2.1.length:Nat):Int) != Cp s n)=kc:=by grind
 simp only[e9,cF,Ci hw,Ci hr,oB]
 cases h10:s.2.2.2.2.2.2.2.2.1.all Aq with
 |false=>
  rw[no λhp=>by rw[hp.2.2.2.2.2.2.2.2.2.1]at h10;grind]
  rfl
 |true=>
  cases h11:s.2.2.2.2.2.2.2.2.2.2.1.all Aq with
  |false=>
   rw[no λhp=>by rw[hp.2.2.2.2.2.2.2.2.2.2.1]at h11;grind]
   rfl
  |true=>
   simp only[bT,cF,oB,JG]
   have e11:zN .i64 (n-Cp s n)=n-Cp s n:=Ac (by omega)
   by_cases h12:2<=s.1/\s.1<=5->(s.2.2.2.2.2.2.2.2.2.2.1.length:Int)=n-Cp s n/\MY s.2.2.2.2.2.2.2.2.2.1 n (Cp s n)=ka
   rotate_left
   ·have hg:2<=s.1/\s.1<=5:=Classical.byContradiction λhc=>h12 λe=>absurd e hc
    have hn:¬ ((s.2.2.2.2.2.2.2.2.2.2.1.length:Int)=n-Cp s n/\MY s.2.2.2.2.2.2.2.2.2.1 n (Cp s n)=ka):=λhc=>h12 λ_=>hc
    rw[no λhp=>h12 hp.2.2.2.2.2.2.2.2.2.2.2]
    simp only[hg,and_self,decide_true,cT,e11,Uc hk,OU hk,oB]
    grind
   have hrp:b8v s n:=⟨h1,h2,h3,h4,h5,h6,h7,h8,h9,h10,h11,h12⟩
   have hsp:=hiff.2 hrp
   have e12:(bif decide (2<=s.1/\s.1<=5)then bif (((s.2.2.2.2.2.2.2.2.2.2.1.length:Nat):Int) != zN .i64 (n-Cp s n))then kd (n,(ka,(s,())))else(IA (s.2.2.2.2.2.2.2.2.2.1,(n,Cp s n))).bind λy9=>kd (n,(!y9,(s,())))
     else kd (n,(kc,(s,()))))=kd (n,(kc,(s,()))):=by
    by_cases hg:2<=s.1/\s.1<=5
    ·obtain⟨g1,g2⟩:=h12 hg
     have e13:(((s.2.2.2.2.2.2.2.2.2.2.1.length:Nat):Int) != n-Cp s n)=kc:=by grind
     simp only[hg,and_self,decide_true,cT,e11,e13,cF,OU hk,g2,oB,bT]
    grind
   simp only[e12,oB,cF]
   have hsub:FY s n=b2Q s n:=by unfold FY;grind
   rw[hsub]
   unfold b2Q
   by_cases k0:s.1=0
   ·have ek:(s.1==0)=ka:=by grind
    have hl1:s.2.2.2.2.2.2.2.2.1.length=1:=by
     have:=h9;unfold Cp at this;omega
    have g1:decide ((0:Int)<=n)=ka:=by grind
    have g2:decide (n<=n)=ka:=by simp
    have g3:BM n.toNat=ka:=Br (by omega)
    simp only[ek,cT,g1,g2,g3,A8,a1o h1 h2 hl1,oB,k0,if_true]
    rfl
   ·have ek:(s.1==0)=kc:=by grind
    simp[ek,a6S h hsp k0,k0]
    cases hb:uG s with
    |none=>rfl
    |some l=>
     have hll:=bV h hb
     simp only[QC,b2K h6 h7 hll,oB]
     cases b2J s.2.1 l<;>simp[QC]
theorem a1p{s:CP}(h:sM s)(n:Int):Pr (s,n)=kd (FY s n).isSome:=by grind[Pr,XV]
abbrev Wr:Type:=(List Int)×(Int×Unit)
def a6U(w:Wr)(b:Int):Wr:=
 let bs:=if w.2.1%8=0 then w.1++[0]else w.1
 (bs.set (w.2.1 / 8).toNat (bits .u8 .or (bs.getD (w.2.1 / 8).toNat 0) (AO .u8 b (7-w.2.1%8))),w.2.1+1,())
def wL(L:List Int):Wr:=L.foldl a6U ([],0,())
theorem bW(L:LI)(b:Int):wL (L++[b])=a6U (wL L) b:=by simp[wL]
theorem qF:∀(n:Nat)(L:LI),L.length=n->(wL L).2.1=L.length/\(wL L).1.length=(L.length+7) / 8|0,L,h=>by rw[E3.1 h];exact⟨rfl,rfl⟩|n+1,L,h=>by(obtain⟨g,b,rfl⟩:∃g b,L=g++[b]:=by rcases E7 L with rfl|⟨g,b,e⟩;all_goals simp_all);obtain⟨f,k⟩:=qF n g (by simp_all);rw[bW];simp only[a6U,List.length_set,lN,H7,f];grind
theorem EZ(L:LI):(wL L).2.1=L.length/\(wL L).1.length=(L.length+7) / 8:=qF _ L rfl
theorem a4w{L:LI}(l:L.length<1000000000)(b:Int):DE (wL L,b)=kd (wL (L++[b])):=by
 obtain⟨g,k⟩:=EZ L;have p:C7 (L.length:Int) 8=(L.length:Int)%8:=D2 (by omega);have m:E6 (L.length:Int) 8=(L.length:Int) / 8:=D3 (by omega);have c:zN .i64 ((L.length:Int) / 8)=(L.length:Int) / 8:=Ac (by omega);have d:zN .i64 (7-(L.length:Int)%8)=7-(L.length:Int)%8:=Ac (by omega);have e:zN .i64 ((L.length:Int)+1)=(L.length:Int)+1:=Ac (by omega);have i:A3 ((0:Int)<=(L.length:Int) / 8)=ka:=by rfl
 have j:A3 (7-(L.length:Int)%8<0)=kc:=by grind
 rw[bW];generalize wL L=wr at g k|-;obtain⟨f,n,u⟩:=wr;have g:n=(L.length:Int):=g;have k:f.length=(L.length+7) / 8:=k;subst g;unfold DE a6U;by_cases h:(L.length:Int)%8=0;have hb:((L.length:Int)%8==0)=ka:=by grind
 have o:BM (f.length+1)=ka:=Ay (by omega);have a:A3 ((L.length:Int) / 8<((f++[0]).length:Int))=ka:=by grind
 simp_all;grind
def HF(v:Int)(i:Nat):Int:=zN .u8 (bits .u64 .and (AR .u64 v (i:Int)) 1)
def pb(v:Int):Nat->List Int|0=>[]|i+1=>HF v i::pb v i
theorem LW(v:Int):∀n,(pb v n).length=n|0=>rfl|n+1=>by simp[pb,LW v n]
def AP(v:Int)(n:Nat)(L:List Int):List Int:=bif AR .u64 v (n:Int) != 0 then L else L++pb v n
theorem AD(v:Int)(n:Nat)(L:LI):L.length<=(AP v n L).length/\(AP v n L).length<=L.length+n:=by grind[AP,LW]
def Kk(v:Int)(n:Nat):Int:=bif AR .u64 v (n:Int) != 0 then 1 else 0
theorem a6V{v:Int}:∀(n:Nat)(L:LI),L.length+n<1000000000->Al Gv (v,(n:Int)-1,wL L,())=kd (wL (L++pb v n),())|0,L,_=>by simp_all[Ae,Gv,pb]|n+1,L,h=>by(have e:((n+1:Nat):Int)-1=(n:Int):=by omega);(have g:zN .i64 ((n:Int)-1)=(n:Int)-1:=Ac (by omega);have f:A3 ((n:Int)>=0)=ka:=by simp);(have k:A3 ((n:Int)<0)=kc:=by simp);rw[e,Af (s':=(v,(n:Int)-1,wL (L++[HF v n]),())) (by simp only[Gv,f,k,cT,cF,show zN .u8 (bits .u64 .and (AR .u64 v (n:Int)) 1)=HF v n from rfl,a4w (show L.length<1000000000 by omega),oB,g])];rw[a6V n (L++[HF v n]) (by simp;omega),pb];simp
theorem IE{L:LI}{v:Int}{n:Nat}(a:n<=63)(k:L.length<999999000):Av (wL L,v,(n:Int))=kd (Kk v n,wL (AP v n L)):=by(unfold Av Kk AP;have g:A3 ((n:Int)<0)=kc:=by simp);(have f:A3 ((n:Int) > 64)=kc:=by grind);have h:zN .i64 ((n:Int)-1)=(n:Int)-1:=Ac (by omega);simp[g,f];cases (AR .u64 v (n:Int) != 0)with|true=>rfl|false=>simp only[cF,h,a6V n L (by omega),oB]
theorem bX{v:Int}:∀(n:Nat)(L:LI),n<=64->L.length+n<1000000000->Al HS (v,(n:Int)-1,(L,()),())=kd ((L++pb v n,()),())|0,L,_,_=>by simp_all[Ae,HS,pb]|n+1,L,h64,h=>by(have e:((n+1:Nat):Int)-1=(n:Int):=by omega);(have g:zN .i64 ((n:Int)-1)=(n:Int)-1:=Ac (by omega);have f:zN .u64 (n:Int)=(n:Int):=Au (by omega);have k:A3 ((n:Int)>=0)=ka:=by simp);(have a:A3 ((n:Int)<0)=kc:=by simp);have b:BM (L.length+1)=ka:=Ay (by omega);rw[e,Af (s':=(v,(n:Int)-1,(L++[HF v n],()),())) (by simp only[HS,k,a,f,b,cT,cF,show zN .u8 (bits .u64 .and (AR .u64 v (n:Int)) 1)=HF v n from rfl,B6,g])];rw[bX n (L++[HF v n]) (by omega) (by simp;omega),pb];simp
theorem CE{L:LI}{v:Int}{n:Nat}(c:n<=63)(b:L.length<999999000):Aw ((L,()),v,(n:Int))=kd (Kk v n,AP v n L,()):=by
 unfold Aw Kk AP;have f:A3 ((n:Int)<0)=kc:=by simp
 have k:A3 ((n:Int) > 64)=kc:=by grind
 have a:A3 ((n:Int)<64)=ka:=by grind
 have h:zN .i64 ((n:Int)-1)=(n:Int)-1:=Ac (by omega);have g:zN .u64 (n:Int)=(n:Int):=Au (by omega);simp[f,k,a,g];cases (AR .u64 v (n:Int) != 0)with|true=>rfl|false=>simp only[cF,h,bX n L (by omega) (by omega),oB]
def a0s(n:Nat)(L:List Int):List Int:=L++A4 n 0++[1]
theorem a6W{L:LI}{n:Nat}(d:n<=4096)(c:L.length<999990000):DH (wL L,(n:Int))=kd (0,wL (a0s n L)):=by
 unfold DH a0s;have g:A3 ((n:Int)<0)=kc:=by simp
 have k:A3 ((n:Int) > 4096)=kc:=by grind
 simp only[g,k,cF,oB]
 have:=Bo (f:=Fc) (λi=>((n:Int),(i:Int),wL (L++A4 i 0),())) n (b:=(wL (L++A4 n 0),())) (λi a=>by
   have h:L++A4 i (0:Int)++[0]=L++A4 (i+1) 0:=by simp_all[D5]
   simp only[Fc,Cn a,cT,a4w (show(L++A4 i (0:Int)).length<1000000000 by grind),oB,h,Aa (show i<1000000 by omega)])
  (by simp[Fc])
 grind[a4w]
theorem bY{L:LI}{n:Nat}(e:n<=4096)(d:L.length<999990000):EE ((L,()),(n:Int))=kd (0,a0s n L,()):=by
 unfold EE a0s;have k:A3 ((n:Int)<0)=kc:=by simp
 have a:A3 ((n:Int) > 4096)=kc:=by grind
 simp only[k,a,zQ]
 have:=Bo (f:=GA) (λi=>((n:Int),(i:Int),(L++A4 i 0,()),())) n (b:=((L++A4 n 0,()),())) (λi c=>by
   have g:L++A4 i (0:Int)++[0]=L++A4 (i+1) 0:=by simp_all[D5]
   have h:BM ((L++A4 i (0:Int)).length+1)=ka:=Ay (by grind);simp only[GA,Cn c,cT,h,B6,g,Aa (show i<1000000 by omega)])
  (by simp[GA])
 have h:BM ((L++A4 n (0:Int)).length+1)=ka:=Ay (by grind);simp_all
theorem QG(n:Nat)(L:LI):(a0s n L).length=L.length+n+1:=by simp[a0s];rfl
def BQ(x:Int)(n:Nat):Int:=bits .u64 .and (zN .u64 x) (zN .u64 ((AO .u64 1 (n:Int))-1))
def FH(n:Nat)(l:List Int)(L:List Int):List Int:=l.foldl (λL x=>AP (BQ x n) n L) L
theorem GF(n:Nat):∀(l L:LI),L.length<=(FH n l L).length/\(FH n l L).length<=L.length+n*l.length|[],L=>by simp[FH]|x::l,L=>by have h:=AD (BQ x n) n L;have g:=GF n l (AP (BQ x n) n L);have e:FH n (x::l) L=FH n l (AP (BQ x n) n L):=rfl;rw[e,lC,Nat.mul_add,Nat.mul_one];omega
theorem Ug{L:LI}{x:Int}{n:Nat}(f:n<=63)(g:L.length<999999000):EO (wL L,x,(n:Int))=kd (wL (AP (BQ x n) n L)):=by(unfold EO;have h:A3 ((n:Int)<0)=kc:=by simp);simp only[h,cF,show bits .u64 .and (zN .u64 x) (zN .u64 ((AO .u64 1 (n:Int))-1))=BQ x n from rfl,IE f g,oB]
theorem Kl{l L:LI}{n:Nat}(d:n<=63)(m:l.length<10000)(j:L.length<900000000):Em ((L,()),l,(n:Int))=kd (FH n l L,()):=by(have a:zN .u64 (n:Int)=(n:Int):=Au (by omega);have b:A3 ((n:Int)<0)=kc:=by simp);(have f:∀(k i:Nat)(h:LI),i+k=l.length->h.length+64*k<999990000->Al IU (l,(n:Int),(i:Int),(h,()),())=kd ((FH n (l.drop i) h,()),()):=by intro k;induction k with|zero=>(intro i h c _;obtain rfl:i=l.length:=by omega);simp_all[Ae,IU,FH]|succ k e=>(intro i h c hb;have g:i<l.length:=by omega);have o:=AD (BQ l[i] n) n h;rw[A7 g,Af (s':=(l,(n:Int),((i+1:Nat):Int),(AP (BQ l[i] n) n h,()),())) (by simp only[IU,Cn g,cT,Ad g,oB,a,b,cF,show bits .u64 .and (zN .u64 l[i]) (zN .u64 ((AO .u64 1 (n:Int))-1))=BQ l[i] n from rfl,CE d (show h.length<999999000 by omega),Aa (show i<1000000 by omega)])];exact e (i+1) _ (by omega) (by omega));have:=f l.length 0 L (by omega) (by omega);simp_all[Em]
def Eo(x w:Int):Bool:=A3 (1<=w)&&(A3 (w<=31)&&(A3 (AO .i64 (-1) (w-1)<=x)&&A3 (x<=zN .i64 (AO .i64 1 (w-1)-1))))
theorem QJ{x:Int}{w:Nat}(a:w<=32):GK (x,(w:Int))=kd (Eo x w):=by
 unfold GK Eo TE Sb;by_cases h1:1<=(w:Int);by_cases h2:(w:Int)<=31;have h:A3 ((w:Int)<1)=kc:=by simp_all
 have g:A3 ((w:Int) > 31)=kc:=by simp_all
 have e:zN .i64 ((w:Int)-1)=(w:Int)-1:=Ac (by omega);have f:A3 ((w:Int)-1<0)=kc:=by simp_all
 have k:A3 ((w:Int)>=1)=ka:=by simp_all
 simp[h1,h2,h,g,f,e];grind;grind;grind
theorem Wi{x:Int}{w:Nat}(b:w<=32):Nv (x,(w:Int))=kd (Eo x w):=by
 unfold Nv Eo pC eJ;by_cases h1:1<=(w:Int);by_cases h2:(w:Int)<=31;have f:A3 ((w:Int)<1)=kc:=by simp_all
 have k:A3 ((w:Int) > 31)=kc:=by simp_all
 have e:zN .i64 ((w:Int)-1)=(w:Int)-1:=Ac (by omega);have g:zN .u64 ((w:Int)-1)=(w:Int)-1:=Au (by omega);have a:A3 ((w:Int)-1<0)=kc:=by simp_all
 have h:A3 ((w:Int)>=1)=ka:=by simp_all
 simp only[h,h1,h2,f,k,a,e,g,decide_true,zQ,C5];grind;grind;grind
def EH(x:Int):Nat->Nat->Nat|0,w=>w|k+1,w=>bif (x != 0)&&!Eo x w then EH x k (w+1)else w
theorem bZ(x:Int):∀(k w:Nat),EH x k w<=w+k|0,w=>E1 _|k+1,w=>by simp[EH];cases (x != 0)&&!Eo x w with|true=>have:=bZ x k (w+1);grind|false=>simp
def Ap(l:List Int):Nat:=l.foldl (λw x=>EH x (32-w) w) 0
theorem XW:∀(l:LI)(w:Nat),w<=32->l.foldl (λw x=>EH x (32-w) w) w<=32|[],w,h=>h|x::l,w,h=>XW l _ (show EH x (32-w) w<=32 by grind[bZ])
theorem Hy(l:LI):Ap l<=32:=XW l 0 (by omega)
theorem a2n{x:Int}{l:LI}{n i:Int}:∀(k w:Nat),w+k=32->Al EA ((w:Int),x,l,n,i,())=kd (((EH x k w:Nat):Int),l,n,i,())|0,w,h=>by(obtain rfl:w=32:=by omega);simp_all[Ae,EA,EH]|k+1,w,h=>by(have g:A3 ((w:Int)<32)=ka:=by grind);simp[EH];cases hx:(x != 0)with|false=>simp_all[Ae,EA]|true=>cases hf:Eo x w with|true=>exact Ae (by simp only[EA,hx,g,QJ (show w<=32 by omega),hf,oB,cT,cF,bT,J8])|false=>rw[Af (s':=(((w+1:Nat):Int),x,l,n,i,())) (by simp only[EA,hx,g,QJ (show w<=32 by omega),hf,oB,cT,F7,Aa (show w<1000000 by omega)])];exact a2n k (w+1) (by omega)
theorem BU{l:LI}(c:short l):Cg l=kd ((Ap l:Nat):Int):=by
 have c:l.length<1000000:=c
 have:=Cm (f:=IL) l (λi (w:Nat)=>((w:Int),l,(l.length:Int),(i:Int),())) (λw x=>(.inl (EH x (32-w) w):Nat ⊕ (Int×Unit))) (λ_ w=>w<=32) (λw=>((w:Int),()))
  (λi h w e=>⟨λd k=>by
   simp at k;subst k;refine⟨?_,by grind[bZ]⟩;simp only[IL,Cn h,cT,Ad h,oB,a2n (32-w) w (by omega),Aa (show i<1000000 by omega)],λb hb=>(by grind)⟩)
  (λw _=>by simp[IL]) (a:=0) (by omega)
 simp at this;unfold Cg;rw[this];have g:∀(l:LI)(w:Nat),Ni (λw x=>(.inl (EH x (32-w) w):Nat ⊕ (Int×Unit))) l w=.inl (l.foldl (λw x=>EH x (32-w) w) w):=by
  intro l
  induction l with
  |nil=>intro w;rfl
  |cons x l j=>simp_all[Ni]
 rw[g];rfl
theorem XX{l:LI}{i:Nat}(hi:i<l.length):∀(k w:Nat),w+k=32->Al KW (l,(w:Int),(i:Int),())=kd (l,((EH l[i] k w:Nat):Int),(i:Int),())|0,w,h=>by(obtain rfl:w=32:=by omega);rfl|k+1,w,h=>by(have g:A3 ((w:Int)<32)=ka:=by grind);simp[EH];cases hx:(l[i] != 0)with|false=>simp_all[Ae,KW,Ad]|true=>cases hf:Eo l[i] w with|true=>exact Ae (by simp only[KW,Ad hi,hx,g,Wi (show w<=32 by omega),hf,oB,cT,cF,bT,J8])|false=>rw[Af (s':=(l,((w+1:Nat):Int),(i:Int),())) (by simp only[KW,Ad hi,hx,g,Wi (show w<=32 by omega),hf,oB,cT,F7,Aa (show w<1000000 by omega)])];exact XX hi k (w+1) (by omega)
theorem Km{l:LI}(c:short l):Jz l=kd ((Ap l:Nat):Int):=by
 have c:l.length<1000000:=c
 have:=Cm (f:=NQ) l (λi (w:Nat)=>(l,(w:Int),(i:Int),())) (λw x=>(.inl (EH x (32-w) w):Nat ⊕ (Int×Unit))) (λ_ w=>w<=32) (λw=>((w:Int),()))
  (λi h w e=>⟨λd k=>by
   simp at k;subst k;refine⟨?_,by grind[bZ]⟩;simp only[NQ,Cn h,cT,oB,XX h (32-w) w (by omega),Aa (show i<1000000 by omega)],λb hb=>(by grind)⟩)
  (λw _=>by simp[NQ]) (a:=0) (by omega)
 simp at this;unfold Jz;rw[this];have g:∀(l:LI)(w:Nat),Ni (λw x=>(.inl (EH x (32-w) w):Nat ⊕ (Int×Unit))) l w=.inl (l.foldl (λw x=>EH x (32-w) w) w):=by
  intro l
  induction l with
  |nil=>intro w;rfl
  |cons x l j=>simp_all[Ni]
 rw[g];rfl
theorem Uh(x:Int):LQ x=kd (Aq x):=by grind[LQ,Aq]
def AN(x:Int):Nat:=if 0<=x then(2*x).toNat else(-2*x-1).toNat
theorem QK{x:Int}(h:Aq x=ka):AN x<2147483648:=by grind[EG,AN]
theorem Ui{x:Int}(h:Aq x=ka):Ov x=kd (AN x:Int):=by
 have f:=EG.1 h;unfold Ov AN;simp only[Uh,h,zQ];by_cases h0:0<=x;have g:A3 (x>=0)=ka:=by simp_all
 simp only[g,cT,if_pos h0];grind[Ac,Au];have g:A3 (x>=0)=kc:=by simp_all
 simp only[g,cF,if_neg h0];grind[Ac,Au]
theorem b0M{y:Nat}(h:y<18446744073709551616):bits .u64 .xor (IntKind.max .u64) (y:Int)=((18446744073709551615-y:Nat):Int):=by(show zN .u64 (((A9 64 (IntKind.max .u64)) ^^^ (A9 64 (y:Int))).toNat:Int)=_;have g:A9 64 (IntKind.max .u64)=BitVec.allOnes 64:=by rfl);have f:A9 64 (y:Int)=BitVec.ofNat 64 y:=D6 64 y;rw[g,f,BitVec.allOnes_xor,BitVec.toNat_not,E4,C8 h];rw[Au (by omega)]
theorem Wj{x:Int}(h:Aq x=ka):SJ x=kd (AN x:Int):=by
 have k:=EG.1 h;unfold SJ SI AN;simp only[DN,h,zQ];have f:∀y:Int,AO .u64 y 1=zN .u64 (y*2):=λy=>rfl;by_cases h0:0<=x;have g:A3 (x<0)=kc:=by simp_all
 simp only[g,zQ,if_pos h0,f];grind[Au];have g:A3 (x<0)=ka:=by simp_all
 simp only[g,zQ,if_neg h0,f];grind[zN,IntKind.bits,IntKind.signed,b0M]
theorem EI{N o:Nat}(h:o<=64):AR .u64 (N:Int) (o:Int)=((N / 2^o:Nat):Int):=bR h
theorem LX{N o:Nat}(h:o<=64)(g:N*2^o<9223372036854775808):AO .u64 (N:Int) (o:Int)=((N*2^o:Nat):Int):=by unfold AO;show zN .u64 ((N:Int)*2^(min (o:Int).toNat 64))=_;grind[Au]
theorem Wk{y k:Nat}(c:y<18446744073709551616)(f:k<=62):bits .u64 .and (y:Int) (zN .u64 (AO .u64 1 (k:Int)-1))=((y%2^k:Nat):Int):=by
 have d:2^k<=2^62:=C2 (by simp) f;have a:1<=2^k:=Nat.one_le_two_pow;have b:(2:Nat)^62=4611686018427387904:=by rfl
 have h:AO .u64 1 (k:Int)=((2^k:Nat):Int):=by have:=LX (N:=1) (o:=k) (by omega) (by omega);simp_all
 have g:zN .u64 (((2^k:Nat):Int)-1)=((2^k-1:Nat):Int):=by grind[Au]
 rw[h,g];show zN .u64 (((A9 64 (y:Int)) &&& (A9 64 ((2^k-1:Nat):Int))).toNat:Int)=_;rw[D6,D6,BitVec.toNat_and,E4,E4,C8 c,C8 (by omega),Nat.and_two_pow_sub_one_eq_mod]
 have:y%2^k<2^k:=F2 _ (by omega);exact Au (by omega)
theorem SR{q:Nat}(h:q<2147483648):zN .i64 (q:Int)=(q:Int):=Ac (by omega)
def QM(k:Nat)(x:Int)(L:List Int):List Int:=if AN x / 2^k<32 then AP ((AN x%2^k:Nat):Int) k (a0s (AN x / 2^k) L)else AP ((AN x:Nat):Int) 32 (a0s 32 L)
def LH(k:Nat)(l:List Int)(L:List Int):List Int:=l.foldl (λL x=>QM k x L) L
theorem Uj{k:Nat}(h:k<=25)(x:Int)(L:LI):L.length<=(QM k x L).length/\(QM k x L).length<=L.length+100:=by grind[QM,AD,QG]
theorem XY{k:Nat}(h:k<=25):∀(l L:LI),L.length<=(LH k l L).length/\(LH k l L).length<=L.length+100*l.length|[],L=>by simp[LH]|x::l,L=>by have g:=Uj h x L;have f:=XY h l (QM k x L);have e:LH k (x::l) L=LH k l (QM k x L):=rfl;grind
theorem RK{k:Nat}(h:k<=25):Cl (k:Int)=kd ka:=by unfold Cl;grind
theorem SS{k:Nat}(h:k<=25):BW (k:Int)=kd ka:=by unfold BW;grind
theorem a6X{k:Nat}{l L:LI}(B:k<=25)(I:l.length<10000)(x:l.all Aq=ka)(H:L.length<900000000):TK (wL L,(k:Int),l)=kd (0,wL (LH k l L)):=by
 have F:=Bp (f:=NO) l (λi=>((k:Int),l,l,(l.length:Int),(i:Int),wL L,())) (λ_=>ka) (bt:=B7 ((k:Int),l,wL L,())) (bf:=B7 ((k:Int),l,wL L,()))
  (λi h _=>by
   have:=lA.1 x _ (B4 h)
   simp only[NO,Cn h,cT,Ad h,oB,Uh,this,bT,cF,Aa (show i<1000000 by omega)])
  (λi h m=>by simp_all) (by simp[NO])
 have q:∀(j i:Nat)(g:LI),i+j=l.length->g.length+100*j<999990000->Al KQ ((k:Int),l,(l.length:Int),(i:Int),wL g,())=kd (wL (LH k (l.drop i) g),()):=by
  intro j
  induction j with
  |zero=>
   intro i g A _;obtain rfl:i=l.length:=by omega
   simp_all[Ae,KQ,LH]
  |succ j E=>
   intro i g A hb;have a:i<l.length:=by omega
   have c:=lA.1 x _ (B4 a);have D:=QK c;have C:=Uj B l[i] g;have e:A3 ((k:Int)<0)=kc:=by simp
   have r:AR .u64 ((AN l[i]:Nat):Int) (k:Int)=((AN l[i] / 2^k:Nat):Int):=EI (by omega);have p:=C4 (AN l[i]) (2^k);have u:=H0 (AN l[i]) (2^k);have d:AO .u64 ((AN l[i] / 2^k:Nat):Int) (k:Int)=((AN l[i] / 2^k*2^k:Nat):Int):=LX (by omega) (by grind);have y:zN .u64 (((AN l[i]:Nat):Int)-((AN l[i] / 2^k*2^k:Nat):Int))=((AN l[i]%2^k:Nat):Int):=by
    rw[G7 (AN l[i] / 2^k)];grind[Au]
   have z:zN .i64 ((AN l[i] / 2^k:Nat):Int)=((AN l[i] / 2^k:Nat):Int):=SR (D0 p D);rw[A7 a,Af (s':=((k:Int),l,(l.length:Int),((i+1:Nat):Int),wL (QM k l[i] g),())) (by
    by_cases hq:AN l[i] / 2^k<32;have o:A3 (((AN l[i] / 2^k:Nat):Int)<32)=ka:=dE (by omega);have w:(a0s (AN l[i] / 2^k) g).length<999999000:=by
     rw[QG];omega
    have b:=a6W (L:=g) (n:=AN l[i] / 2^k) (I7 (B8 hq (by simp))) (by omega);have m:=IE (L:=a0s (AN l[i] / 2^k) g) (v:=((AN l[i]%2^k:Nat):Int)) (n:=k) (by omega) w;simp only[KQ,Cn a,cT,Ad a,oB,Ui c,e,cF,r,o,z,b,d,y,m,QM,if_pos hq,Aa (show i<1000000 by omega)];have o:A3 (((AN l[i] / 2^k:Nat):Int)<32)=kc:=dF (by omega);have w:=QG 32 g;have b:DH (wL g,(32:Int))=kd (0,wL (a0s 32 g)):=a6W (L:=g) (n:=32) (by omega) (by omega);have m:Av (wL (a0s 32 g),((AN l[i]:Nat):Int),(32:Int))=kd (Kk ((AN l[i]:Nat):Int) 32,wL (AP ((AN l[i]:Nat):Int) 32 (a0s 32 g))):=IE (L:=a0s 32 g) (v:=((AN l[i]:Nat):Int)) (n:=32) (by omega) (by omega);simp only[KQ,Cn a,cT,Ad a,oB,Ui c,e,cF,r,o,b,m,QM,if_neg hq,Aa (show i<1000000 by omega)])]
   exact E (i+1) _ (by omega) (by omega)
 have G:=q l.length 0 L (by omega) (by omega);simp_all[TK,RK]
theorem qG{k:Nat}{l L:LI}(u:k<=25)(G:l.length<10000)(x:l.all Aq=ka)(F:L.length<900000000):Pt ((L,()),(k:Int),l)=kd (0,LH k l L,()):=by(have p:zN .u64 (k:Int)=(k:Int):=Au (by omega);have m:∀(j i:Nat)(h:LI),i+j=l.length->h.length+100*j<999990000->Al Ik ((k:Int),l,(i:Int),(h,()),())=kd ((LH k (l.drop i) h,()),()):=by intro j;induction j with|zero=>(intro i h A _;obtain rfl:i=l.length:=by omega);simp_all[Ae,Ik,LH]|succ j E=>(intro i h A hb;have g:i<l.length:=by omega);(have a:=lA.1 x _ (B4 g);have D:=QK a;have B:=Uj u l[i] h;have b:A3 ((k:Int)<0)=kc:=by simp);have o:AR .u64 ((AN l[i]:Nat):Int) (k:Int)=((AN l[i] / 2^k:Nat):Int):=EI (by omega);have e:=C4 (AN l[i]) (2^k);have z:=Wk (y:=AN l[i]) (k:=k) (by omega) (by omega);have q:zN .i64 ((AN l[i] / 2^k:Nat):Int)=((AN l[i] / 2^k:Nat):Int):=SR (D0 e D);rw[A7 g,Af (s':=((k:Int),l,((i+1:Nat):Int),(QM k l[i] h,()),())) (by(by_cases hq:AN l[i] / 2^k<32;have c:A3 (((AN l[i] / 2^k:Nat):Int)<32)=ka:=dE (by omega);have w:(a0s (AN l[i] / 2^k) h).length<999999000:=by rw[QG];omega);have f:=bY (L:=h) (n:=AN l[i] / 2^k) (I7 (B8 hq (by simp))) (by omega);have d:=CE (L:=a0s (AN l[i] / 2^k) h) (v:=((AN l[i]%2^k:Nat):Int)) (n:=k) (by omega) w;simp only[Ik,Cn g,cT,Ad g,oB,Wj a,p,b,cF,o,c,q,f,z,d,QM,if_pos hq,Aa (show i<1000000 by omega)];have c:A3 (((AN l[i] / 2^k:Nat):Int)<32)=kc:=dF (by omega);have w:=QG 32 h;have f:EE ((h,()),(32:Int))=kd (0,a0s 32 h,()):=bY (L:=h) (n:=32) (by omega) (by omega);have d:Aw ((a0s 32 h,()),((AN l[i]:Nat):Int),(32:Int))=kd (Kk ((AN l[i]:Nat):Int) 32,AP ((AN l[i]:Nat):Int) 32 (a0s 32 h),()):=CE (L:=a0s 32 h) (v:=((AN l[i]:Nat):Int)) (n:=32) (by omega) (by omega);simp only[Ik,Cn g,cT,Ad g,oB,Wj a,p,b,cF,o,c,q,f,d,QM,if_neg hq,Aa (show i<1000000 by omega)])];exact E (i+1) _ (by omega) (by omega));(have r:=m l.length 0 L (by omega) (by omega);simp at r;have C:short l:=by unfold short;omega);unfold Pt;simp only[SS u,oB,bT,cF,Ci C,x,r]
def Cq(zn:List Nat):List Int:=zn.map λ(a:Nat)=>(a:Int)
theorem a1q(n M:Nat):(A4 n M).sum=n*M:=by simp
theorem iG{o n sF:Int}(h:(ES o n sF).length≠0):∃k:List Nat,ES o n sF=Cq k/\(k.sum:Int)=n-sF/\k.length<=256:=by unfold ES at h|-;cases hr:(SP n sF&&(A3 (0<=o)&&A3 (o<=8)))with|false=>simp_all|true=>(rw[hr]at h;simp only[cT]at h|-;simp[SP]at hr;unfold We at h|-;split at h;rename_i g;rw[if_pos g];obtain⟨O,rfl⟩:=A6 hr.2.1;obtain⟨N,rfl⟩:=A6 (show 0<=n by omega);obtain⟨w,rfl⟩:=A6 (show 0<=sF by omega);simp only[tN]at g|-;have a:=c1k (o:=O) (by omega);have f:=H0 N (2^O);rw[g.1,Nat.add_zero]at f;have b:w<=N / 2^O:=by omega);generalize N / 2^O=M at g b f|-;generalize 2^O=P at a f|-;refine⟨(M-w)::A4 (P-1) M,?_,?_,?_⟩;grind[Cq,List.map_replicate];rw[List.sum_cons,a1q];obtain⟨q,rfl⟩:∃q,P=q+1:=⟨P-1,by omega⟩;grind;simp_all;simp_all
def SU(k:Int)(part L:List Int):List Int:=if k=31 then FH (Ap part) part (AP ((Ap part:Nat):Int) 5 (AP (zN .u64 k) 5 L))else LH k.toNat part (AP (zN .u64 k) 5 L)
def Ku:List Nat->List Int->List Int->List Int->List Int|z::zs,k::ks,l,L=>Ku zs ks (l.drop z) (SU k (l.take z) L)|_,_,_,L=>L
theorem Uk{k:Int}(h:kB k=ka)(part L:LI):L.length<=(SU k part L).length/\(SU k part L).length<=L.length+10+100*part.length:=by unfold SU;have a:=AD (zN .u64 k) 5 L;split;have b:=AD (Ap part:Int) 5 (AP (zN .u64 k) 5 L);have c:=GF (Ap part) part (AP (Ap part:Int) 5 (AP (zN .u64 k) 5 L));have f:=Hy part;have:Ap part*part.length<=32*part.length:=F5 _ f;omega;rename_i g;simp[kB]at h;grind[XY]
theorem Ny{g:List Nat}{i:Nat}(h:i<g.length):G3 (Cq g) i 0=(g[i]:Int):=by simp_all[Cq]
theorem Cu(h:List Nat):(Cq h).length=h.length:=by simp[Cq]
theorem cB{g:List Nat}{i:Nat}(h:i<g.length):(g.drop i).sum=g[i]+(g.drop (i+1)).sum:=by grind[A7]
theorem a6Y{part zO:LI}{wd:Nat}{a b:Int}{z:LI}{p:YN}(c:wd<=32)(hp:part.length<10000):∀(j i:Nat)(L:LI),i+j=part.length->L.length+64*j<999990000->Al MA (zO,(wd:Int),a,b,part,(part.length:Int),(i:Int),z,wL L,p,())=kd (zO,a,b,z,wL (FH wd (part.drop i) L),p,())|0,i,L,f,_=>by(obtain rfl:i=part.length:=by omega);simp_all[Ae,MA,FH]|j+1,i,L,f,hb=>by(have h:i<part.length:=by omega);(have g:A3 ((wd:Int)<0)=kc:=by simp);have k:=AD (BQ part[i] wd) wd L;rw[A7 h,Af (s':=(zO,(wd:Int),a,b,part,(part.length:Int),((i+1:Nat):Int),z,wL (AP (BQ part[i] wd) wd L),p,())) (by simp only[MA,Cn h,cT,Ad h,oB,g,cF,show bits .u64 .and (zN .u64 part[i]) (zN .u64 ((AO .u64 1 (wd:Int))-1))=BQ part[i] wd from rfl,IE (show wd<=63 by omega) (show L.length<999999000 by omega),Aa (show i<1000000 by omega)])];exact a6Y c hp j (i+1) _ (by omega) (by omega)
theorem Wl{h:List Nat}{p:YN}(S:p.2.1.length=h.length)(d:p.2.1.all kB=ka)(X:h.length<=256):∀(j i:Nat)(l L:LI),i+j=h.length->(h.drop i).sum=l.length->l.all Aq=ka->l.length<=5000->L.length+10*j+100*l.length<800000000->Al Hs (l,(h.length:Int),(i:Int),Cq h,wL L,p,())=kd (wL (Ku (h.drop i) (p.2.1.drop i) l L),())|0,i,l,L,R,_,_,_,_=>by(obtain rfl:i=h.length:=by omega);simp_all[Ae,Hs,Ku]|j+1,i,l,L,R,hsum,I,hl5,hb=>by(have g:i<h.length:=by omega);(have c:i<p.2.1.length:=by omega);(have v:=lA.1 d _ (B4 c);rw[cB g]at hsum;have E:A3 ((0:Int)<=(i:Int))=ka:=by simp);(have F:A3 ((i:Int)<(((Cq h).length:Nat):Int))=ka:=by simp_all[Cu]);(have G:A3 ((0:Int)<=((h[i]:Nat):Int))=ka:=by simp);(have H:A3 (((h[i]:Nat):Int)<=((l.length:Nat):Int))=ka:=by grind);(have w:(l.take h[i]).length=h[i]:=by simp_all);(have r:(l.drop h[i]).length=(h.drop (i+1)).sum:=by grind);(have B:(l.take h[i]).all Aq=ka:=lA.2 λx D=>lA.1 I x (D7 D);have C:(l.drop h[i]).all Aq=ka:=lA.2 λx D=>lA.1 I x (D8 D);have V:=Uk v (l.take h[i]) L;have T:=AD (zN .u64 p.2.1[i]) 5 L;have e:Av (wL L,zN .u64 p.2.1[i],(5:Int))=kd (Kk (zN .u64 p.2.1[i]) 5,wL (AP (zN .u64 p.2.1[i]) 5 L)):=IE (n:=5) (by omega) (by omega);have N:h.drop i=h[i]::h.drop (i+1):=A7 g;have O:p.2.1.drop i=p.2.1[i]::p.2.1.drop (i+1):=A7 c;rw[N,O,Ku];have u:Hs (l,(h.length:Int),(i:Int),Cq h,wL L,p,())=kd (.inl (l.drop h[i],(h.length:Int),((i+1:Nat):Int),Cq h,wL (SU p.2.1[i] (l.take h[i]) L),p,())):=by(by_cases h31:p.2.1[i]=31;have o:(p.2.1[i] != 31)=kc:=by simp_all);(have A:=Hy (l.take h[i]);have y:=BU (l:=l.take h[i]) (by unfold short;omega);have U:=AD ((Ap (l.take h[i]):Nat):Int) 5 (AP (zN .u64 p.2.1[i]) 5 L);have P:zN .u64 ((Ap (l.take h[i]):Nat):Int)=((Ap (l.take h[i]):Nat):Int):=Au (by omega);have q:Av (wL (AP (zN .u64 p.2.1[i]) 5 L),((Ap (l.take h[i]):Nat):Int),(5:Int))=kd (Kk ((Ap (l.take h[i]):Nat):Int) 5,wL (AP ((Ap (l.take h[i]):Nat):Int) 5 (AP (zN .u64 p.2.1[i]) 5 L))):=IE (n:=5) (by omega) (by omega);have m:=a6Y (part:=l.take h[i]) (zO:=l.drop h[i]) (a:=(h.length:Int)) (b:=(i:Int)) (z:=Cq h) (p:=p) A (by omega) (l.take h[i]).length 0 (AP ((Ap (l.take h[i]):Nat):Int) 5 (AP (zN .u64 p.2.1[i]) 5 L)) (by omega) (by omega);simp only[nZ,D9]at m;simp only[Hs,Cn g,E,F,Ny g,G,H,cT,A8,tN,Ad c,oB,e,o,cF,y,P,q,C6,m,Aa (show i<1000000 by omega),SU,if_pos h31];have o:(p.2.1[i] != 31)=ka:=by simp_all);(simp[kB]at v;obtain⟨K,Q⟩:=A6 (show 0<=p.2.1[i]by omega);have f:=a6X (k:=K) (l:=l.take h[i]) (L:=AP (zN .u64 p.2.1[i]) 5 L) (by omega) (by omega) B (by omega);rw[<-Q]at f;have M:K=p.2.1[i].toNat:=by omega);simp only[Hs,Cn g,E,F,Ny g,G,H,cT,A8,tN,Ad c,oB,e,o,f,C6,Aa (show i<1000000 by omega),SU,if_neg h31,M]);rw[Af u];exact Wl S d X j (i+1) (l.drop h[i]) _ (by omega) r.symm C (by omega) (by omega)
theorem QN{h:List Nat}{p:YN}{l:LI}(R:p.2.1.length=h.length)(c:p.2.1.all kB=ka)(Y:h.length<=256)(H:l.all Aq=ka)(v:l.length<=5000):∀(j i off:Nat)(L:LI),i+j=h.length->off+(h.drop i).sum=l.length->L.length+10*j+100*(l.length-off)<800000000->Al Fm (l,(off:Int),(i:Int),Cq h,(L,()),p,())=kd ((Ku (h.drop i) (p.2.1.drop i) (l.drop off) L,()),())|0,i,off,L,Q,_,_=>by(obtain rfl:i=h.length:=by omega);simp_all[Ae,Fm,Ku,Cu]|j+1,i,off,L,Q,hsum,hb=>by(have b:i<h.length:=by omega);(have a:i<p.2.1.length:=by omega);(have r:=lA.1 c _ (B4 a);rw[cB b]at hsum;have B:A3 ((0:Int)<=(i:Int))=ka:=by simp);(have C:A3 ((i:Int)<(((Cq h).length:Nat):Int))=ka:=by simp_all[Cu]);(have A:zN .i64 ((off:Int)+((h[i]:Nat):Int))=((off+h[i]:Nat):Int):=by grind[Ac]);(have D:A3 ((0:Int)<=((off+h[i]:Nat):Int))=ka:=by rfl);(have E:A3 (((off+h[i]:Nat):Int)<=((l.length:Nat):Int))=ka:=by grind);(have F:A3 ((0:Int)<=(off:Int))=ka:=by simp);(have G:A3 ((off:Int)<=((off+h[i]:Nat):Int))=ka:=by grind);(have g:H8 off (F6 (off+h[i]) l)=(l.drop off).take h[i]:=by grind);(have e:(l.drop off).drop h[i]=l.drop (off+h[i]):=by simp);(have w:((l.drop off).take h[i]).length=h[i]:=by rw[F4,F0];omega);(have z:((l.drop off).take h[i]).all Aq=ka:=lA.2 λx X=>lA.1 H x (D8 (D7 X));have U:=Uk r ((l.drop off).take h[i]) L;have S:=AD (zN .u64 p.2.1[i]) 5 L;have d:Aw ((L,()),zN .u64 p.2.1[i],(5:Int))=kd (Kk (zN .u64 p.2.1[i]) 5,AP (zN .u64 p.2.1[i]) 5 L,()):=CE (n:=5) (by omega) (by omega);have M:h.drop i=h[i]::h.drop (i+1):=A7 b;have N:p.2.1.drop i=p.2.1[i]::p.2.1.drop (i+1):=A7 a;rw[M,N,Ku,e];have q:Fm (l,(off:Int),(i:Int),Cq h,(L,()),p,())=kd (.inl (l,((off+h[i]:Nat):Int),((i+1:Nat):Int),Cq h,(SU p.2.1[i] ((l.drop off).take h[i]) L,()),p,())):=by(by_cases h31:p.2.1[i]=31;have m:(p.2.1[i]==31)=ka:=by simp_all);(have V:=Hy ((l.drop off).take h[i]);have y:=Km (l:=(l.drop off).take h[i]) (by unfold short;omega);have T:=AD ((Ap ((l.drop off).take h[i]):Nat):Int) 5 (AP (zN .u64 p.2.1[i]) 5 L);have O:zN .u64 ((Ap ((l.drop off).take h[i]):Nat):Int)=((Ap ((l.drop off).take h[i]):Nat):Int):=Au (by omega);have o:Aw ((AP (zN .u64 p.2.1[i]) 5 L,()),((Ap ((l.drop off).take h[i]):Nat):Int),(5:Int))=kd (Kk ((Ap ((l.drop off).take h[i]):Nat):Int) 5,AP ((Ap ((l.drop off).take h[i]):Nat):Int) 5 (AP (zN .u64 p.2.1[i]) 5 L),()):=CE (n:=5) (by omega) (by omega);have u:=Kl (l:=(l.drop off).take h[i]) (L:=AP ((Ap ((l.drop off).take h[i]):Nat):Int) 5 (AP (zN .u64 p.2.1[i]) 5 L)) (n:=Ap ((l.drop off).take h[i])) (by omega) (by omega) (by omega);simp only[Fm,B,C,Ny b,A,D,E,F,G,cT,A8,tN,Ad a,oB,d,m,g,y,O,o,u,Aa (show i<1000000 by omega),SU,if_pos h31];have m:(p.2.1[i]==31)=kc:=by simp_all);(simp[kB]at r;obtain⟨K,P⟩:=A6 (show 0<=p.2.1[i]by omega);have f:=qG (k:=K) (l:=(l.drop off).take h[i]) (L:=AP (zN .u64 p.2.1[i]) 5 L) (by omega) (by omega) z (by omega);rw[<-P]at f;have I:K=p.2.1[i].toNat:=by omega);simp only[Fm,B,C,Ny b,A,D,E,F,G,cT,cF,A8,tN,Ad a,oB,d,m,g,f,Aa (show i<1000000 by omega),SU,if_neg h31,I]);rw[Af q];exact QN R c Y H v j (i+1) (off+h[i]) _ (by omega) (by omega) (by omega)
theorem qH{k:Nat}(d:k<=25){x:Int}(g:Aq x=ka):∃c,Rv ((k:Int),x)=kd c/\0<=c/\c<=65:=by(have e:=QK g;have f:AR .u64 ((AN x:Nat):Int) (k:Int)=((AN x / 2^k:Nat):Int):=EI (by omega);have a:zN .i64 ((AN x / 2^k:Nat):Int)=((AN x / 2^k:Nat):Int):=SR (D0 (C4 _ _) e);have h:A3 ((k:Int)<0)=kc:=by simp);unfold Rv;simp only[RK d,Uh,g,oB,bT,cF,Ui g,h,f,a];generalize AN x / 2^k=q;by_cases hq:q<32;have b:A3 ((q:Int)<32)=ka:=dE (by omega);refine⟨(q:Int)+1+k,?_,by omega,by omega⟩;simp only[b,cT];grind[Ac];grind
theorem cC{k:Nat}(e:k<=25){x:Int}(g:Aq x=ka):∃c,NR ((k:Int),x)=kd c/\0<=c/\c<=65:=by(have i:=QK g;have f:AR .u64 ((AN x:Nat):Int) (k:Int)=((AN x / 2^k:Nat):Int):=EI (by omega);have b:zN .i64 ((AN x / 2^k:Nat):Int)=((AN x / 2^k:Nat):Int):=SR (D0 (C4 _ _) i);have a:zN .u64 (k:Int)=(k:Int):=Au (by omega);have h:A3 ((k:Int)<0)=kc:=by simp);unfold NR;simp only[SS e,DN,g,oB,bT,cF,Wj g,a,h,f,b];generalize AN x / 2^k=q;by_cases hq:q<32;have d:A3 ((q:Int)<32)=ka:=dE (by omega);refine⟨(q:Int)+1+k,?_,by omega,by omega⟩;simp only[d,cT];grind[Ac];grind
theorem a1r{k:Nat}(r:k<=25){l:LI}(u:l.all Aq=ka)(y:l.length<10000):∃c,Qj ((k:Int),l)=kd c/\0<=c/\c<=65*l.length:=by(have f:∀(j i:Nat)(c:Int),i+j=l.length->0<=c->c<=65*i->∃g,Al NN ((k:Int),c,l,(l.length:Int),(i:Int),())=kd (g,())/\0<=g/\g<=65*l.length:=by intro j;induction j with|zero=>(intro i c q b a;obtain rfl:i=l.length:=by omega);simp_all[Ae,NN]|succ j v=>(intro i c q b a;have h:i<l.length:=by omega);obtain⟨d,m,o,p⟩:=qH r (lA.1 u _ (B4 h));have e:zN .i64 (c+d)=c+d:=Ac (by omega);rw[Af (s':=((k:Int),c+d,l,(l.length:Int),((i+1:Nat):Int),())) (by simp only[NN,Cn h,cT,Ad h,oB,m,e,Aa (show i<1000000 by omega)])];exact v (i+1) _ (by omega) (by omega) (by omega));obtain⟨c,a,w,x⟩:=f l.length 0 0 (by omega) (by omega) (by omega);simp_all[Qj]
theorem fE{k:Nat}(r:k<=25){l:LI}(u:l.all Aq=ka)(y:l.length<10000):∃c,Ps ((k:Int),l)=kd c/\0<=c/\c<=65*l.length:=by(have f:∀(j i:Nat)(c:Int),i+j=l.length->0<=c->c<=65*i->∃g,Al Lw ((k:Int),l,c,(i:Int),())=kd (g,())/\0<=g/\g<=65*l.length:=by intro j;induction j with|zero=>(intro i c q b a;obtain rfl:i=l.length:=by omega);simp_all[Ae,Lw]|succ j v=>(intro i c q b a;have h:i<l.length:=by omega);obtain⟨d,m,o,p⟩:=cC r (lA.1 u _ (B4 h));have e:zN .i64 (c+d)=c+d:=Ac (by omega);rw[Af (s':=((k:Int),l,c+d,((i+1:Nat):Int),())) (by simp only[Lw,Cn h,cT,Ad h,oB,m,e,Aa (show i<1000000 by omega)])];exact v (i+1) _ (by omega) (by omega) (by omega));obtain⟨c,a,w,x⟩:=f l.length 0 0 (by omega) (by omega) (by omega);simp_all[Ps]
theorem a2o{w n:Nat}(g:w<=32)(f:n<10000):0<=(w:Int)*(n:Int)/\(w:Int)*(n:Int)<=32*n:=by have h:w*n<=32*n:=F5 _ g;omega
theorem qI{l:LI}(h:l.length<10000):∃c,Ou l=kd c/\0<=c/\c<=5+32*l.length:=by have g:=a2o (Hy l) h;refine⟨5+(Ap l:Int)*(l.length:Int),?_,by omega,by omega⟩;unfold Ou;simp only[BU (show short l by unfold short;omega),oB];grind[Ac]
theorem UI{h:List Nat}{p:YN}(R:p.2.1.length=h.length)(f:p.2.1.all kB=ka)(S:h.length<=256):∀(j i:Nat)(l:LI)(c:Int),i+j=h.length->(h.drop i).sum=l.length->l.all Aq=ka->l.length<=5000->4<=c->c+10*j+65*l.length<1000000->∃D,Al Gd (l,c,(h.length:Int),(i:Int),Cq h,p,())=kd (D,())/\4<=D|0,i,l,c,Q,_,_,_,M,_=>by(obtain rfl:i=h.length:=by omega);simp_all[Ae,Gd]|j+1,i,l,c,Q,hsum,I,hl5,M,hb=>by(have g:i<h.length:=by omega);(have a:i<p.2.1.length:=by omega);(have v:=lA.1 f _ (B4 a);rw[cB g]at hsum;have E:A3 ((0:Int)<=(i:Int))=ka:=by simp);(have F:A3 ((i:Int)<(((Cq h).length:Nat):Int))=ka:=by simp_all[Cu]);(have G:A3 ((0:Int)<=((h[i]:Nat):Int))=ka:=by simp);(have H:A3 (((h[i]:Nat):Int)<=((l.length:Nat):Int))=ka:=by grind);(have w:(l.take h[i]).length=h[i]:=by simp_all);(have e:(l.drop h[i]).length=(h.drop (i+1)).sum:=by grind);(have A:(l.take h[i]).all Aq=ka:=lA.2 λx C=>lA.1 I x (D7 C);have B:(l.drop h[i]).all Aq=ka:=lA.2 λx C=>lA.1 I x (D8 C);have m:∃d,Gd (l,c,(h.length:Int),(i:Int),Cq h,p,())=kd (.inl (l.drop h[i],c+d,(h.length:Int),((i+1:Nat):Int),Cq h,p,()))/\0<=d/\d<=10+65*h[i]:=by(by_cases h31:p.2.1[i]=31;have b:(p.2.1[i]==31)=ka:=by simp_all);(obtain⟨r,o,y,z⟩:=qI (l:=l.take h[i]) (by omega);have q:zN .i64 (5+r)=5+r:=Ac (by omega);have u:zN .i64 (c+(5+r))=c+(5+r):=Ac (by omega);refine⟨5+r,?_,by omega,by omega⟩;simp only[Gd,Cn g,E,F,Ny g,G,H,cT,A8,tN,Ad a,oB,b,o,q,u,C6,Aa (show i<1000000 by omega)];have b:(p.2.1[i]==31)=kc:=by simp_all);simp[kB]at v;obtain⟨K,L⟩:=A6 (show 0<=p.2.1[i]by omega);obtain⟨r,o,y,z⟩:=a1r (k:=K) (by omega) A (by omega);rw[<-L]at o;have q:zN .i64 (5+r)=5+r:=Ac (by omega);have u:zN .i64 (c+(5+r))=c+(5+r):=Ac (by omega);refine⟨5+r,?_,by omega,by omega⟩;simp only[Gd,Cn g,E,F,Ny g,G,H,cT,cF,A8,tN,Ad a,oB,b,o,q,u,C6,Aa (show i<1000000 by omega)]);obtain⟨d,N,O,P⟩:=m;rw[Af N];exact UI R f S j (i+1) (l.drop h[i]) _ (by omega) e.symm B (by omega) (by omega) (by omega)
theorem OZ{h:List Nat}{p:YN}{l:LI}(P:p.2.1.length=h.length)(g:p.2.1.all kB=ka)(T:h.length<=256)(y:l.all Aq=ka)(q:l.length<=5000):∀(j i off:Nat)(c:Int),i+j=h.length->off+(h.drop i).sum=l.length->4<=c->c+10*j+65*(l.length-off:Nat)<1000000->∃w,Al IV (l,c,(off:Int),(i:Int),Cq h,p,())=kd (w,())/\4<=w|0,i,off,c,O,_,I,_=>by(obtain rfl:i=h.length:=by omega);simp_all[Ae,IV,Cu]|j+1,i,off,c,O,hsum,I,hb=>by(have e:i<h.length:=by omega);(have b:i<p.2.1.length:=by omega);(have o:=lA.1 g _ (B4 b);rw[cB e]at hsum;have C:A3 ((0:Int)<=(i:Int))=ka:=by simp);(have D:A3 ((i:Int)<(((Cq h).length:Nat):Int))=ka:=by simp_all[Cu]);(have B:zN .i64 ((off:Int)+((h[i]:Nat):Int))=((off+h[i]:Nat):Int):=by grind[Ac]);(have E:A3 ((0:Int)<=((off+h[i]:Nat):Int))=ka:=by rfl);(have F:A3 (((off+h[i]:Nat):Int)<=((l.length:Nat):Int))=ka:=by grind);(have G:A3 ((0:Int)<=(off:Int))=ka:=by simp);(have H:A3 ((off:Int)<=((off+h[i]:Nat):Int))=ka:=by grind);(have f:H8 off (F6 (off+h[i]) l)=(l.drop off).take h[i]:=by grind);(have u:((l.drop off).take h[i]).length=h[i]:=by rw[F4,F0];omega);(have v:((l.drop off).take h[i]).all Aq=ka:=lA.2 λx S=>lA.1 y x (D8 (D7 S));have a:∃d,NS (p.2.1[i],(l.drop off).take h[i])=kd d/\0<=d/\d<=5+65*h[i]:=by(unfold NS;by_cases h31:p.2.1[i]=31;have m:(p.2.1[i]==31)=ka:=by simp_all);(have V:=a2o (Hy ((l.drop off).take h[i])) (show((l.drop off).take h[i]).length<10000 by omega);refine⟨5+((Ap ((l.drop off).take h[i]):Nat):Int)*((((l.drop off).take h[i]).length:Nat):Int),?_,by omega,by omega⟩;simp only[m,cT,Km (show short ((l.drop off).take h[i])by unfold short;omega),oB];rw[Int.mul_comm (((((l.drop off).take h[i]).length:Nat):Int)),Ac (n:=((Ap ((l.drop off).take h[i]):Nat):Int)*((((l.drop off).take h[i]).length:Nat):Int)) (by omega),Ac (by omega)];have m:(p.2.1[i]==31)=kc:=by simp_all);simp[kB]at o;obtain⟨K,U⟩:=A6 (show 0<=p.2.1[i]by omega);obtain⟨r,X,Q,R⟩:=fE (k:=K) (by omega) v (by omega);grind);obtain⟨d,L,M,N⟩:=a;have z:zN .i64 (c+5)=c+5:=Ac (by omega);have A:zN .i64 (c+5+d)=c+5+d:=Ac (by omega);rw[Af (s':=(l,c+5+d,((off+h[i]:Nat):Int),((i+1:Nat):Int),Cq h,p,())) (by simp only[IV,C,D,Ny e,B,E,F,G,H,cT,A8,tN,Ad b,oB,f,L,z,A,Aa (show i<1000000 by omega)])];exact OZ P g T y q j (i+1) (off+h[i]) _ (by omega) (by omega) (by omega) (by omega)
structure sS (p:YN) (n sF:Int) (l:List Int) (zn:List Nat):Prop where
 may:MY p n sF=ka
 sizes:ES p.1 n sF=Cq zn
 sum:zn.sum=l.length
 len:zn.length<=256
 ks:p.2.1.length=zn.length
 all:p.2.1.all kB=ka
 wide:l.all Aq=ka
 short:l.length<=5000
 row:SP n sF=ka
 rest:(l.length:Int)=n-sF
 order:0<=p.1/\p.1<=8
theorem sS.of{p:YN}{n sF:Int}{l:LI}(h:MY p n sF=ka)(i:(l.length:Int)=n-sF)(j:l.all Aq=ka)(e:l.length<=5000):∃g,sS p n sF l g:=by(have f:=h;simp only[MY,HC,G4,beq_eq_false_iff_ne,ne_eq,beq_iff_eq]at f;obtain⟨c,o,d⟩:=f;obtain⟨g,a,m,b⟩:=iG c;have k:SP n sF=ka/\0<=p.1/\p.1<=8:=by grind[ES]);exact⟨g,h,a,by omega,b,by simp_all[Cu],d,j,e,k.1,i,k.2⟩
theorem qJ{n sF:Int}{l:LI}(h:SP n sF=ka)(c:(l.length:Int)=n-sF)(d:l.all Aq=ka)(a:l.length<=5000):NM (n,sF,l)=kd ka:=by
 have e:zN .i64 (n-sF)=n-sF:=by simp[SP]at h;exact Ac (by omega)
 have k:((l.length:Int) != n-sF)=kc:=by simp_all
 have f:SF=DT:=rfl;have g:short l:=by unfold short;omega
 have b:=MW g;simp_all[GN,NM,Pv]
theorem kX{p:YN}{n sF:Int}{l:LI}{f:List Nat}(h:sS p n sF l f):∃c,Pl (p,n,sF,l)=kd c/\4<=c:=by(have a:Go.Ab.short p.2.1:=by have:=h.ks;have:=h.len;unfold Go.Ab.short;omega);have b:=h.short;have d:=h.len;obtain⟨c,g,k⟩:=UI h.ks h.all h.len f.length 0 l 4 (by omega) (by rw[D9];exact h.sum) h.wide h.short (by omega) (by omega);simp at g;refine⟨c,?_,k⟩;unfold Pl;simp only[Uc a,h.may,qJ h.row h.rest h.wide h.short,oB,bT,cF,JF,h.sizes,Cu,g]
theorem YR{p:YN}{n sF:Int}{l:LI}{f:List Nat}(h:sS p n sF l f):∃c,ML (p,n,sF,l)=kd c/\4<=c:=by
 have b:Go.Ab.short p.2.1:=by have:=h.ks;have:=h.len;unfold Go.Ab.short;omega
 have i:Go.Ab.short l:=by have:=h.short;unfold Go.Ab.short;omega
 have j:=h.short;have m:=h.len;have d:=h.row;simp[SP]at d;have e:zN .i64 (n-sF)=n-sF:=Ac (by omega);have a:(((l.length:Nat):Int) != n-sF)=kc:=by rw[h.rest];simp
 obtain⟨c,g,k⟩:=OZ h.ks h.all h.len h.wide h.short f.length 0 0 4 (by omega) (by rw[D9,h.sum];omega) (by omega) (by omega);simp at g;refine⟨c,?_,k⟩;unfold ML;simp only[OU b,h.may,oB,bT,cF,e,a,Ci i,h.wide,Ja,h.sizes,g]
def Fo(p:YN)(zn:List Nat)(l L:List Int):List Int:=Ku zn p.2.1 l (AP (zN .u64 p.1) 4 L)
theorem a4x{p:YN}{n sF:Int}{l L:LI}{a:List Nat}(h:sS p n sF l a)(j:L.length<700000000):Rw (wL L,p,n,sF,l)=kd (0,wL (Fo p a l L)):=by(have i:=h.short;have m:=h.len;obtain⟨c,b,d⟩:=kX h;have k:(c==0)=kc:=by grind);have e:=AD (zN .u64 p.1) 4 L;have f:Av (wL L,zN .u64 p.1,(4:Int))=kd (Kk (zN .u64 p.1) 4,wL (AP (zN .u64 p.1) 4 L)):=IE (n:=4) (by omega) (by omega);have g:=Wl h.ks h.all h.len a.length 0 l (AP (zN .u64 p.1) 4 L) (by omega) (by rw[D9];exact h.sum) h.wide h.short (by omega);simp at g;unfold Rw;simp only[b,oB,k,cF,f,JF,h.sizes,Cu,g,Fo]
theorem kY{p:YN}{n sF:Int}{l L:LI}{a:List Nat}(h:sS p n sF l a)(j:L.length<700000000):NT ((L,()),p,n,sF,l)=kd (0,Fo p a l L,()):=by(have i:=h.short;have m:=h.len;obtain⟨c,b,d⟩:=YR h;have k:(c==0)=kc:=by grind);have e:=AD (zN .u64 p.1) 4 L;have f:Aw ((L,()),zN .u64 p.1,(4:Int))=kd (Kk (zN .u64 p.1) 4,AP (zN .u64 p.1) 4 L,()):=CE (n:=4) (by omega) (by omega);have g:=QN h.ks h.all h.len h.wide h.short a.length 0 0 (AP (zN .u64 p.1) 4 L) (by omega) (by rw[D9,h.sum];omega) (by omega);simp at g;unfold NT;simp only[b,oB,k,cF,f,Ja,h.sizes,g,Fo]
theorem qK{c:LI}{wd:Nat}(a:wd<=32)(g:c.length<10000):∀(j i:Nat)(L:LI),i+j=c.length->L.length+64*j<999990000->Al IM ((wd:Int),c,(c.length:Int),(i:Int),wL L,())=kd (wL (FH wd (c.drop i) L),())|0,i,L,f,_=>by(obtain rfl:i=c.length:=by omega);simp_all[Ae,IM,FH]|j+1,i,L,f,hb=>by(have h:i<c.length:=by omega);have k:=AD (BQ c[i] wd) wd L;rw[A7 h,Af (s':=((wd:Int),c,(c.length:Int),((i+1:Nat):Int),wL (AP (BQ c[i] wd) wd L),())) (by simp only[IM,Cn h,cT,Ad h,oB,Ug (show wd<=63 by omega) (show L.length<999999000 by omega),Aa (show i<1000000 by omega)])];exact qK a g j (i+1) _ (by omega) (by omega)
theorem a2p{t:LI}{n wd:Int}{s:CP}(b:t.length=3):∀(j i:Nat)(L:LI),i+j=3->L.length+64*j<999990000->Al Pm (n,wd,t,(i:Int),wL L,s,())=kd (n,wd,wL (FH 8 (t.drop i) L),s,())|0,i,L,k,_=>by(obtain rfl:i=t.length:=by omega);grind[Ae,Pm,FH]|j+1,i,L,k,hb=>by(have h:i<t.length:=by omega);(have f:A3 ((i:Int)<3)=ka:=by grind);have a:=AD (BQ t[i] 8) 8 L;have g:EO (wL L,t[i],(8:Int))=kd (wL (AP (BQ t[i] 8) 8 L)):=Ug (n:=8) (by omega) (by omega);rw[A7 h,Af (s':=(n,wd,t,((i+1:Nat):Int),wL (AP (BQ t[i] 8) 8 L),s,())) (by simp only[Pm,f,cT,Ad h,oB,g,Aa (show i<1000000 by omega)])];exact a2p b j (i+1) _ (by omega) (by omega)
theorem a2q{l:LI}{n:Int}{wd:Nat}{s:CP}(a:wd<=32)(f:l.length<10000):∀(j i:Nat)(L:LI),i+j=l.length->L.length+64*j<999990000->Al Po (n,(wd:Int),l,(l.length:Int),(i:Int),wL L,s,())=kd (n,wL (FH wd (l.drop i) L),s,())|0,i,L,g,_=>by(obtain rfl:i=l.length:=by omega);simp_all[Ae,Po,FH]|j+1,i,L,g,hb=>by(have h:i<l.length:=by omega);have k:=AD (BQ l[i] wd) wd L;rw[A7 h,Af (s':=(n,(wd:Int),l,(l.length:Int),((i+1:Nat):Int),wL (AP (BQ l[i] wd) wd L),s,())) (by simp only[Po,Cn h,cT,Ad h,oB,Ug (show wd<=63 by omega) (show L.length<999999000 by omega),Aa (show i<1000000 by omega)])];exact a2q a f j (i+1) _ (by omega) (by omega)
def QP(s:UY)(L:List Int):List Int:=AP (zN .u64 s.2.1) 4 (AP (zN .u64 (zN .i64 (s.1-1))) 5 L)
def Jb(st:List UY)(L:List Int):List Int:=st.foldl (λL s=>QP s L) L
theorem Sm(s:UY)(L:LI):(QP s L).length<=L.length+9:=by grind[AD,QP]
theorem Wm:∀(st:List UY)(L:LI),(Jb st L).length<=L.length+9*st.length|[],L=>by simp[Jb]|s::st,L=>by have h:=Sm s L;have g:=Wm st (QP s L);have e:Jb (s::st) L=Jb st (QP s L):=rfl;grind
theorem iH{st:List UY}{n wd:Int}{s:CP}(b:st.length<10000):∀(j i:Nat)(L:LI),i+j=st.length->L.length+64*j<999990000->Al Pn (n,wd,st,(st.length:Int),(i:Int),wL L,s,())=kd (n,wd,wL (Jb (st.drop i) L),s,())|0,i,L,k,_=>by(obtain rfl:i=st.length:=by omega);simp_all[Ae,Pn,Jb]|j+1,i,L,k,hb=>by(have h:i<st.length:=by omega);have a:=AD (zN .u64 (zN .i64 (st[i].1-1))) 5 L;have c:=Sm st[i] L;have g:Av (wL L,zN .u64 (zN .i64 (st[i].1-1)),(5:Int))=kd (Kk (zN .u64 (zN .i64 (st[i].1-1))) 5,wL (AP (zN .u64 (zN .i64 (st[i].1-1))) 5 L)):=IE (n:=5) (by omega) (by omega);have f:Av (wL (AP (zN .u64 (zN .i64 (st[i].1-1))) 5 L),zN .u64 st[i].2.1,(4:Int))=kd (Kk (zN .u64 st[i].2.1) 4,wL (QP st[i] L)):=IE (n:=4) (by omega) (by omega);rw[A7 h,Af (s':=(n,wd,st,(st.length:Int),((i+1:Nat):Int),wL (QP st[i] L),s,())) (by simp only[Pn,Cn h,cT,Ad h,oB,g,f,Aa (show i<1000000 by omega)])];exact iH b j (i+1) _ (by omega) (by omega)
theorem UJ{n wd:Int}{s:CP}(b:s.2.2.2.2.2.2.2.1.length<10000):∀(j i:Nat)(L:LI),i+j=s.2.2.2.2.2.2.2.1.length->L.length+64*j<999990000->Al Lx (n,wd,(i:Int),(L,()),s,())=kd (n,wd,(Jb (s.2.2.2.2.2.2.2.1.drop i) L,()),s,())|0,i,L,k,_=>by(obtain rfl:i=s.2.2.2.2.2.2.2.1.length:=by omega);simp_all[Ae,Lx,Jb]|j+1,i,L,k,hb=>by(have h:i<s.2.2.2.2.2.2.2.1.length:=by omega);have a:=AD (zN .u64 (zN .i64 (s.2.2.2.2.2.2.2.1[i].1-1))) 5 L;have c:=Sm s.2.2.2.2.2.2.2.1[i] L;have g:Aw ((L,()),zN .u64 (zN .i64 (s.2.2.2.2.2.2.2.1[i].1-1)),(5:Int))=kd (Kk (zN .u64 (zN .i64 (s.2.2.2.2.2.2.2.1[i].1-1))) 5,AP (zN .u64 (zN .i64 (s.2.2.2.2.2.2.2.1[i].1-1))) 5 L,()):=CE (n:=5) (by omega) (by omega);have f:Aw ((AP (zN .u64 (zN .i64 (s.2.2.2.2.2.2.2.1[i].1-1))) 5 L,()),zN .u64 s.2.2.2.2.2.2.2.1[i].2.1,(4:Int))=kd (Kk (zN .u64 s.2.2.2.2.2.2.2.1[i].2.1) 4,QP s.2.2.2.2.2.2.2.1[i] L,()):=CE (n:=4) (by omega) (by omega);rw[A7 h,Af (s':=(n,wd,((i+1:Nat):Int),(QP s.2.2.2.2.2.2.2.1[i] L,()),s,())) (by simp only[Lx,Cn h,cT,Ad h,oB,g,f,Aa (show i<1000000 by omega)])];exact UJ b j (i+1) _ (by omega) (by omega)
def MZ(s:CP)(L:List Int):List Int:=FH (Ap s.2.2.2.2.2.1) s.2.2.2.2.2.1 (AP ((Ap s.2.2.2.2.2.1:Nat):Int) 5 (AP (zN .u64 s.2.2.2.1) 4 (AP (zN .u64 (zN .i64 (((s.2.2.2.2.2.1.length:Nat):Int)-1))) 5 L)))
theorem a1s{s:CP}(h:s.2.2.2.2.2.1.length<=40)(L:LI):(MZ s L).length<=L.length+2000:=by unfold MZ;have f:=AD (zN .u64 (zN .i64 ((s.2.2.2.2.2.1.length:Int)-1))) 5 L;have k:=AD (zN .u64 s.2.2.2.1) 4 (AP (zN .u64 (zN .i64 ((s.2.2.2.2.2.1.length:Int)-1))) 5 L);have a:=AD (Ap s.2.2.2.2.2.1:Int) 5 (AP (zN .u64 s.2.2.2.1) 4 (AP (zN .u64 (zN .i64 ((s.2.2.2.2.2.1.length:Int)-1))) 5 L));have b:=GF (Ap s.2.2.2.2.2.1) s.2.2.2.2.2.1 (AP (Ap s.2.2.2.2.2.1:Int) 5 (AP (zN .u64 s.2.2.2.1) 4 (AP (zN .u64 (zN .i64 ((s.2.2.2.2.2.1.length:Int)-1))) 5 L)));have g:=Hy s.2.2.2.2.2.1;have:Ap s.2.2.2.2.2.1*s.2.2.2.2.2.1.length<=32*40:=F8 g h;omega
theorem iI{s:CP}(h:s.2.2.2.2.2.1.length<=40){L:LI}(l:L.length<900000000):Mz (wL L,s)=kd (wL (MZ s L)):=by have e:=AD (zN .u64 (zN .i64 ((s.2.2.2.2.2.1.length:Int)-1))) 5 L;have i:=AD (zN .u64 s.2.2.2.1) 4 (AP (zN .u64 (zN .i64 ((s.2.2.2.2.2.1.length:Int)-1))) 5 L);have j:=AD (Ap s.2.2.2.2.2.1:Int) 5 (AP (zN .u64 s.2.2.2.1) 4 (AP (zN .u64 (zN .i64 ((s.2.2.2.2.2.1.length:Int)-1))) 5 L));have k:=Hy s.2.2.2.2.2.1;have f:zN .u64 (Ap s.2.2.2.2.2.1:Int)=(Ap s.2.2.2.2.2.1:Int):=Au (by omega);have a:Av (wL L,zN .u64 (zN .i64 ((s.2.2.2.2.2.1.length:Int)-1)),(5:Int))=kd (Kk (zN .u64 (zN .i64 ((s.2.2.2.2.2.1.length:Int)-1))) 5,wL (AP (zN .u64 (zN .i64 ((s.2.2.2.2.2.1.length:Int)-1))) 5 L)):=IE (n:=5) (by omega) (by omega);have b:Av (wL (AP (zN .u64 (zN .i64 ((s.2.2.2.2.2.1.length:Int)-1))) 5 L),zN .u64 s.2.2.2.1,(4:Int))=kd (Kk (zN .u64 s.2.2.2.1) 4,wL (AP (zN .u64 s.2.2.2.1) 4 (AP (zN .u64 (zN .i64 ((s.2.2.2.2.2.1.length:Int)-1))) 5 L))):=IE (n:=4) (by omega) (by omega);have d:Av (wL (AP (zN .u64 s.2.2.2.1) 4 (AP (zN .u64 (zN .i64 ((s.2.2.2.2.2.1.length:Int)-1))) 5 L)),(Ap s.2.2.2.2.2.1:Int),(5:Int))=kd (Kk (Ap s.2.2.2.2.2.1:Int) 5,wL (AP (Ap s.2.2.2.2.2.1:Int) 5 (AP (zN .u64 s.2.2.2.1) 4 (AP (zN .u64 (zN .i64 ((s.2.2.2.2.2.1.length:Int)-1))) 5 L)))):=IE (n:=5) (by omega) (by omega);have g:=qK (c:=s.2.2.2.2.2.1) k (by omega) s.2.2.2.2.2.1.length 0 (AP (Ap s.2.2.2.2.2.1:Int) 5 (AP (zN .u64 s.2.2.2.1) 4 (AP (zN .u64 (zN .i64 ((s.2.2.2.2.2.1.length:Int)-1))) 5 L))) (by omega) (by omega);simp at g;unfold Mz;simp only[a,b,BU (show short s.2.2.2.2.2.1 by unfold short;omega),f,d,g,oB,MZ]
theorem SW{s:CP}(h:s.2.2.2.2.2.1.length<=40){L:LI}(i:L.length<800000000):Ij ((L,()),s)=kd (MZ s L,()):=by have c:=AD (zN .u64 (zN .i64 ((s.2.2.2.2.2.1.length:Int)-1))) 5 L;have d:=AD (zN .u64 s.2.2.2.1) 4 (AP (zN .u64 (zN .i64 ((s.2.2.2.2.2.1.length:Int)-1))) 5 L);have e:=AD (Ap s.2.2.2.2.2.1:Int) 5 (AP (zN .u64 s.2.2.2.1) 4 (AP (zN .u64 (zN .i64 ((s.2.2.2.2.2.1.length:Int)-1))) 5 L));have j:=Hy s.2.2.2.2.2.1;have f:zN .u64 (Ap s.2.2.2.2.2.1:Int)=(Ap s.2.2.2.2.2.1:Int):=Au (by omega);have k:Aw ((L,()),zN .u64 (zN .i64 ((s.2.2.2.2.2.1.length:Int)-1)),(5:Int))=kd (Kk (zN .u64 (zN .i64 ((s.2.2.2.2.2.1.length:Int)-1))) 5,AP (zN .u64 (zN .i64 ((s.2.2.2.2.2.1.length:Int)-1))) 5 L,()):=CE (n:=5) (by omega) (by omega);have a:Aw ((AP (zN .u64 (zN .i64 ((s.2.2.2.2.2.1.length:Int)-1))) 5 L,()),zN .u64 s.2.2.2.1,(4:Int))=kd (Kk (zN .u64 s.2.2.2.1) 4,AP (zN .u64 s.2.2.2.1) 4 (AP (zN .u64 (zN .i64 ((s.2.2.2.2.2.1.length:Int)-1))) 5 L),()):=CE (n:=4) (by omega) (by omega);have b:Aw ((AP (zN .u64 s.2.2.2.1) 4 (AP (zN .u64 (zN .i64 ((s.2.2.2.2.2.1.length:Int)-1))) 5 L),()),(Ap s.2.2.2.2.2.1:Int),(5:Int))=kd (Kk (Ap s.2.2.2.2.2.1:Int) 5,AP (Ap s.2.2.2.2.2.1:Int) 5 (AP (zN .u64 s.2.2.2.1) 4 (AP (zN .u64 (zN .i64 ((s.2.2.2.2.2.1.length:Int)-1))) 5 L)),()):=CE (n:=5) (by omega) (by omega);have g:=Kl (l:=s.2.2.2.2.2.1) (n:=Ap s.2.2.2.2.2.1) (L:=AP (Ap s.2.2.2.2.2.1:Int) 5 (AP (zN .u64 s.2.2.2.1) 4 (AP (zN .u64 (zN .i64 ((s.2.2.2.2.2.1.length:Int)-1))) 5 L))) (by omega) (by omega) (by omega);unfold Ij;simp only[k,a,Km (show short s.2.2.2.2.2.1 by unfold short;omega),f,b,g,oB,MZ]
def UK(s:CP)(L:List Int):List Int:=AP ((Ap s.2.2.2.2.2.2.2.2.1:Nat):Int) 5 (AP (zN .u64 s.2.1) 5 (AP (zN .u64 s.1) 3 L))
def Eb(s:CP)(L:List Int):List Int:=
 if s.1=2 then AP (zN .u64 s.2.2.1) 3 L
 else if s.1=3 then MZ s L
 else if s.1=4 then MZ s (FH 8 s.2.2.2.2.2.2.1 (AP (zN .u64 (zN .i64 (s.2.2.2.2.1-1))) 10 L))
 else if s.1=5 then Jb s.2.2.2.2.2.2.2.1 (AP (zN .u64 ((s.2.2.2.2.2.2.2.1.length:Nat):Int)) 2 L)
 else L
theorem cD{s:CP}(h:sM s)(L:LI):(Eb s L).length<=L.length+3000:=by have f:=h.uJ;have k:=h.taps;have g:=h.stages;grind[Eb,AD,a1s,GF,Wm]
theorem Sn:∀(f:List Nat)(g l L:LI),g.all kB=ka->(Ku f g l L).length<=L.length+10*f.length+100*l.length|z::f,k::g,l,L,h=>by simp only[C0,HC]at h;have a:=Uk h.1 (l.take z) L;have b:=Sn f g (l.drop z) (SU k (l.take z) L) h.2;rw[F4]at a;rw[F0]at b;simp only[Ku,lC];omega|[],_,_,_,_=>by simp_all[Ku]|_::_,[],_,_,_=>by grind[Ku]
def GG(s:CP)(zn:List Nat)(L:List Int):List Int:=
 if s.1=0\/s.1=1 then FH (Ap s.2.2.2.2.2.2.2.2.1) s.2.2.2.2.2.2.2.2.1 (Eb s (UK s L))
 else Fo s.2.2.2.2.2.2.2.2.2.1 zn s.2.2.2.2.2.2.2.2.2.2.1 (FH (Ap s.2.2.2.2.2.2.2.2.1) s.2.2.2.2.2.2.2.2.1 (Eb s (UK s L)))
theorem qL{s:CP}(h:sM s){n:Int}{L:LI}(U:L.length<100000000):
  ∃(e:Int)(d:LI),PH (wL L,s,n)=kd (e,wL d)/\(e=0\/d=L)/\d.length<=L.length+700000/\
   ((FY s n).isSome=ka->e=0/\∃a,d=GG s a L/\(s.1≠0/\s.1≠1->sS s.2.2.2.2.2.2.2.2.2.1 n ((s.2.2.2.2.2.2.2.2.1.length:Nat):Int) s.2.2.2.2.2.2.2.2.2.2.1 a))/\((FY s n).isSome=kc->e=1/\d=L):=by
 unfold PH;simp only[Ue h,oB];cases hs:(FY s n).isSome with
 |false=>exact⟨1,L,rfl,.inr rfl,by omega,λh=>(by grind),λ_=>⟨rfl,rfl⟩⟩
 |true=>
  have C:DF s n:=by
   grind[FY]
  obtain⟨S,T,B,-,-,-,-,w,G,D,-,q⟩:=C;have b:=Xd B;have o:=Hy s.2.2.2.2.2.2.2.2.1;have v:short s.2.2.2.2.2.2.2.2.1:=by have:=h.sF;unfold short;omega
  have c:=h.sF;have u:=h.rest;have E:=h.stages;have F:=h.taps;have V:=AD (zN .u64 s.1) 3 L;have X:=AD (zN .u64 s.2.1) 5 (AP (zN .u64 s.1) 3 L);have Y:=AD ((Ap s.2.2.2.2.2.2.2.2.1:Nat):Int) 5 (AP (zN .u64 s.2.1) 5 (AP (zN .u64 s.1) 3 L));have A:zN .u64 ((Ap s.2.2.2.2.2.2.2.2.1:Nat):Int)=((Ap s.2.2.2.2.2.2.2.2.1:Nat):Int):=Au (by omega);have N:Av (wL L,zN .u64 s.1,(3:Int))=kd (Kk (zN .u64 s.1) 3,wL (AP (zN .u64 s.1) 3 L)):=IE (n:=3) (by omega) (by omega);have O:Av (wL (AP (zN .u64 s.1) 3 L),zN .u64 s.2.1,(5:Int))=kd (Kk (zN .u64 s.2.1) 5,wL (AP (zN .u64 s.2.1) 5 (AP (zN .u64 s.1) 3 L))):=IE (n:=5) (by omega) (by omega);have x:Av (wL (AP (zN .u64 s.2.1) 5 (AP (zN .u64 s.1) 3 L)),((Ap s.2.2.2.2.2.2.2.2.1:Nat):Int),(5:Int))=kd (Kk ((Ap s.2.2.2.2.2.2.2.2.1:Nat):Int) 5,wL (UK s L)):=IE (n:=5) (by omega) (by omega);have P:(UK s L).length<=L.length+13:=by unfold UK;omega
  generalize hM:UK s L=M at x P;have Z:=cD h M;have Q:=GF (Ap s.2.2.2.2.2.2.2.2.1) s.2.2.2.2.2.2.2.2.1 (Eb s M);have q7:Ap s.2.2.2.2.2.2.2.2.1*s.2.2.2.2.2.2.2.2.1.length<=32*5000:=F8 o c;have g:=a2q (l:=s.2.2.2.2.2.2.2.2.1) (n:=n) (s:=s) o (by omega) s.2.2.2.2.2.2.2.2.1.length 0 (Eb s M) (by omega) (by omega);simp at g

  have j:=iH (st:=s.2.2.2.2.2.2.2.1) (n:=n) (wd:=((Ap s.2.2.2.2.2.2.2.2.1:Nat):Int)) (s:=s) (by omega) s.2.2.2.2.2.2.2.1.length 0 (AP (zN .u64 ((s.2.2.2.2.2.2.2.1.length:Nat):Int)) 2 M) (by omega) (by grind[AD]);have q8:=AD (zN .u64 (zN .i64 (s.2.2.2.2.1-1))) 10 M;have q9:=GF 8 s.2.2.2.2.2.2.1 (AP (zN .u64 (zN .i64 (s.2.2.2.2.1-1))) 10 M);have m:=a2p (t:=s.2.2.2.2.2.2.1) (n:=n) (wd:=((Ap s.2.2.2.2.2.2.2.2.1:Nat):Int)) (s:=s) F 3 0 (AP (zN .u64 (zN .i64 (s.2.2.2.2.1-1))) 10 M) (by rfl) (by omega);simp at j m;have H:Av (wL M,zN .u64 s.2.2.1,(3:Int))=kd (Kk (zN .u64 s.2.2.1) 3,wL (AP (zN .u64 s.2.2.1) 3 M)):=IE (n:=3) (by omega) (by omega);have I:Av (wL M,zN .u64 (zN .i64 (s.2.2.2.2.1-1)),(10:Int))=kd (Kk (zN .u64 (zN .i64 (s.2.2.2.2.1-1))) 10,wL (AP (zN .u64 (zN .i64 (s.2.2.2.2.1-1))) 10 M)):=IE (n:=10) (by omega) (by omega);have K:Av (wL M,zN .u64 ((s.2.2.2.2.2.2.2.1.length:Nat):Int),(2:Int))=kd (Kk (zN .u64 ((s.2.2.2.2.2.2.2.1.length:Nat):Int)) 2,wL (AP (zN .u64 ((s.2.2.2.2.2.2.2.1.length:Nat):Int)) 2 M)):=IE (n:=2) (by omega) (by omega);have y:=iI (s:=s) h.uJ (L:=M) (by omega);have z:=iI (s:=s) h.uJ (L:=FH 8 s.2.2.2.2.2.2.1 (AP (zN .u64 (zN .i64 (s.2.2.2.2.1-1))) 10 M)) (by omega);simp only[bT,cF,BU v,oB,N,O,A,x];generalize hPM:FH (Ap s.2.2.2.2.2.2.2.2.1) s.2.2.2.2.2.2.2.2.1 (Eb s M)=PM at g Q

  have p:∀(i:s.1≠0/\s.1≠1),∃a,sS s.2.2.2.2.2.2.2.2.2.1 n ((s.2.2.2.2.2.2.2.2.1.length:Nat):Int) s.2.2.2.2.2.2.2.2.2.2.1 a:=λi=>by
   simp_all[sS.of]
  rcases b with k|k|k|k|k|k;have f:Eb s M=M:=by unfold Eb;grind
  rw[f]at g;refine⟨0,PM,?_,.inl rfl,by omega,λ_=>⟨rfl,[],by simp_all[GG],λh=>absurd k (by omega)⟩,λh=>by grind⟩;simp only[k,show((0:Int)==2)=kc from rfl,show((0:Int)==4)=kc from rfl,show((0:Int)==3)=kc from rfl,show((0:Int)==5)=kc from rfl,cF,oB,g,Kj]
  simp
  have f:Eb s M=M:=by unfold Eb;grind
  rw[f]at g;refine⟨0,PM,?_,.inl rfl,by omega,λ_=>⟨rfl,[],by simp_all[GG],λh=>absurd k (by omega)⟩,λh=>by grind⟩;simp only[k,show((1:Int)==2)=kc from rfl,show((1:Int)==4)=kc from rfl,show((1:Int)==3)=kc from rfl,show((1:Int)==5)=kc from rfl,cF,oB,g,Kj]
  simp
  all_goals
   obtain⟨a,r⟩:=p (by omega);have t1:=a4x (L:=PM) r (by omega);have R:(Fo s.2.2.2.2.2.2.2.2.2.1 a s.2.2.2.2.2.2.2.2.2.2.1 PM).length<=L.length+700000:=by
    have z1:=AD (zN .u64 s.2.2.2.2.2.2.2.2.2.1.1) 4 PM;have z2:=Sn a s.2.2.2.2.2.2.2.2.2.1.2.1 s.2.2.2.2.2.2.2.2.2.2.1 (AP (zN .u64 s.2.2.2.2.2.2.2.2.2.1.1) 4 PM) r.all;have z3:=r.len;grind[Fo]
   refine⟨0,Fo s.2.2.2.2.2.2.2.2.2.1 a s.2.2.2.2.2.2.2.2.2.2.1 PM,?_,.inl rfl,R,λ_=>⟨rfl,a,by simp_all[GG],λ_=>r⟩,λh=>by grind⟩
  have f:Eb s M=AP (zN .u64 s.2.2.1) 3 M:=by unfold Eb;grind
  rw[f]at g;simp only[k,show((2:Int)==2)=ka from rfl,cT,H,oB,g,Kj];grind;have f:Eb s M=MZ s M:=by unfold Eb;grind
  rw[f]at g;simp only[k,show((3:Int)==2)=kc from rfl,show((3:Int)==4)=kc from rfl,show((3:Int)==3)=ka from rfl,cT,cF,y,oB,g,Kj];grind;have f:Eb s M=MZ s (FH 8 s.2.2.2.2.2.2.1 (AP (zN .u64 (zN .i64 (s.2.2.2.2.1-1))) 10 M)):=by unfold Eb;grind
  rw[f]at g;simp only[k,show((4:Int)==2)=kc from rfl,show((4:Int)==4)=ka from rfl,cT,cF,I,m,z,oB,g,Kj];grind;have f:Eb s M=Jb s.2.2.2.2.2.2.2.1 (AP (zN .u64 ((s.2.2.2.2.2.2.2.1.length:Nat):Int)) 2 M):=by unfold Eb;grind
  rw[f]at g;simp only[k,show((5:Int)==2)=kc from rfl,show((5:Int)==4)=kc from rfl,show((5:Int)==3)=kc from rfl,show((5:Int)==5)=ka from rfl,cT,cF,K,j,oB,g,Kj];grind
theorem qM{s:CP}(h:sM s){n:Int}{L:LI}(U:L.length<100000000):
  ∃(e:Int)(i:LI),Ee ((L,()),s,n)=kd (e,i,())/\(e=0\/i=L)/\i.length<=L.length+700000/\
   ((FY s n).isSome=ka->e=0/\∃a,i=GG s a L/\(s.1≠0/\s.1≠1->sS s.2.2.2.2.2.2.2.2.2.1 n ((s.2.2.2.2.2.2.2.2.1.length:Nat):Int) s.2.2.2.2.2.2.2.2.2.2.1 a))/\((FY s n).isSome=kc->e=1/\i=L):=by
 unfold Ee;simp only[a1p h,oB];cases hs:(FY s n).isSome with
 |false=>grind
 |true=>
  have G:DF s n:=by
   grind[FY]
  obtain⟨S,T,F,-,-,-,-,C,K,H,-,p⟩:=G;have c:=Xd F;have y:=Hy s.2.2.2.2.2.2.2.2.1;have x:short s.2.2.2.2.2.2.2.2.1:=by have:=h.sF;unfold short;omega
  have d:=h.sF;have w:=h.rest;have I:=h.stages;have V:=h.taps;have X:=AD (zN .u64 s.1) 3 L;have Y:=AD (zN .u64 s.2.1) 5 (AP (zN .u64 s.1) 3 L);have Z:=AD ((Ap s.2.2.2.2.2.2.2.2.1:Nat):Int) 5 (AP (zN .u64 s.2.1) 5 (AP (zN .u64 s.1) 3 L));have E:zN .u64 ((Ap s.2.2.2.2.2.2.2.2.1:Nat):Int)=((Ap s.2.2.2.2.2.2.2.2.1:Nat):Int):=Au (by omega);have P:Aw ((L,()),zN .u64 s.1,(3:Int))=kd (Kk (zN .u64 s.1) 3,AP (zN .u64 s.1) 3 L,()):=CE (n:=3) (by omega) (by omega);have Q:Aw ((AP (zN .u64 s.1) 3 L,()),zN .u64 s.2.1,(5:Int))=kd (Kk (zN .u64 s.2.1) 5,AP (zN .u64 s.2.1) 5 (AP (zN .u64 s.1) 3 L),()):=CE (n:=5) (by omega) (by omega);have D:Aw ((AP (zN .u64 s.2.1) 5 (AP (zN .u64 s.1) 3 L),()),((Ap s.2.2.2.2.2.2.2.2.1:Nat):Int),(5:Int))=kd (Kk ((Ap s.2.2.2.2.2.2.2.2.1:Nat):Int) 5,UK s L,()):=CE (n:=5) (by omega) (by omega);have N:(UK s L).length<=L.length+13:=by unfold UK;omega
  generalize hM:UK s L=M at D N;have q5:=cD h M;have O:=GF (Ap s.2.2.2.2.2.2.2.2.1) s.2.2.2.2.2.2.2.2.1 (Eb s M);have q7:Ap s.2.2.2.2.2.2.2.2.1*s.2.2.2.2.2.2.2.2.1.length<=32*5000:=F8 y d;have g:=Kl (l:=s.2.2.2.2.2.2.2.2.1) (n:=Ap s.2.2.2.2.2.2.2.2.1) (L:=Eb s M) (by omega) (by omega) (by omega)

  have b:=UJ (n:=n) (wd:=((Ap s.2.2.2.2.2.2.2.2.1:Nat):Int)) (s:=s) (by omega) s.2.2.2.2.2.2.2.1.length 0 (AP (zN .u64 ((s.2.2.2.2.2.2.2.1.length:Nat):Int)) 2 M) (by omega) (by grind[AD]);have q8:=AD (zN .u64 (zN .i64 (s.2.2.2.2.1-1))) 10 M;have q9:=GF 8 s.2.2.2.2.2.2.1 (AP (zN .u64 (zN .i64 (s.2.2.2.2.1-1))) 10 M);have m:Em ((AP (zN .u64 (zN .i64 (s.2.2.2.2.1-1))) 10 M,()),s.2.2.2.2.2.2.1,(8:Int))=kd (FH 8 s.2.2.2.2.2.2.1 (AP (zN .u64 (zN .i64 (s.2.2.2.2.1-1))) 10 M),()):=Kl (n:=8) (by omega) (by omega) (by omega);have v:F6 3 s.2.2.2.2.2.2.1=s.2.2.2.2.2.2.1:=E5 (by omega);simp at b;have z:Aw ((M,()),zN .u64 s.2.2.1,(3:Int))=kd (Kk (zN .u64 s.2.2.1) 3,AP (zN .u64 s.2.2.1) 3 M,()):=CE (n:=3) (by omega) (by omega);have A:Aw ((M,()),zN .u64 (zN .i64 (s.2.2.2.2.1-1)),(10:Int))=kd (Kk (zN .u64 (zN .i64 (s.2.2.2.2.1-1))) 10,AP (zN .u64 (zN .i64 (s.2.2.2.2.1-1))) 10 M,()):=CE (n:=10) (by omega) (by omega);have B:Aw ((M,()),zN .u64 ((s.2.2.2.2.2.2.2.1.length:Nat):Int),(2:Int))=kd (Kk (zN .u64 ((s.2.2.2.2.2.2.2.1.length:Nat):Int)) 2,AP (zN .u64 ((s.2.2.2.2.2.2.2.1.length:Nat):Int)) 2 M,()):=CE (n:=2) (by omega) (by omega);have r:=SW (s:=s) h.uJ (L:=M) (by omega);have u:=SW (s:=s) h.uJ (L:=FH 8 s.2.2.2.2.2.2.1 (AP (zN .u64 (zN .i64 (s.2.2.2.2.1-1))) 10 M)) (by omega);simp only[bT,cF,Km x,oB,P,Q,E,D];generalize hPM:FH (Ap s.2.2.2.2.2.2.2.2.1) s.2.2.2.2.2.2.2.2.1 (Eb s M)=PM at g O

  have o:∀(j:s.1≠0/\s.1≠1),∃a,sS s.2.2.2.2.2.2.2.2.2.1 n ((s.2.2.2.2.2.2.2.2.1.length:Nat):Int) s.2.2.2.2.2.2.2.2.2.2.1 a:=λj=>by
   simp_all[sS.of]
  rcases c with k|k|k|k|k|k;have f:Eb s M=M:=by unfold Eb;grind
  rw[f]at g;refine⟨0,PM,?_,.inl rfl,by omega,λ_=>⟨rfl,[],by simp_all[GG],λh=>absurd k (by omega)⟩,λh=>by grind⟩;simp only[k,show((0:Int)==2)=kc from rfl,show((0:Int)==4)=kc from rfl,show((0:Int)==3)=kc from rfl,show((0:Int)==5)=kc from rfl,cF,oB,g,JG]
  simp
  have f:Eb s M=M:=by unfold Eb;grind
  rw[f]at g;refine⟨0,PM,?_,.inl rfl,by omega,λ_=>⟨rfl,[],by simp_all[GG],λh=>absurd k (by omega)⟩,λh=>by grind⟩;simp only[k,show((1:Int)==2)=kc from rfl,show((1:Int)==4)=kc from rfl,show((1:Int)==3)=kc from rfl,show((1:Int)==5)=kc from rfl,cF,oB,g,JG]
  simp
  all_goals
   obtain⟨a,q⟩:=o (by omega);have t2:=kY (L:=PM) q (by omega);have R:(Fo s.2.2.2.2.2.2.2.2.2.1 a s.2.2.2.2.2.2.2.2.2.2.1 PM).length<=L.length+700000:=by
    have z1:=AD (zN .u64 s.2.2.2.2.2.2.2.2.2.1.1) 4 PM;have z2:=Sn a s.2.2.2.2.2.2.2.2.2.1.2.1 s.2.2.2.2.2.2.2.2.2.2.1 (AP (zN .u64 s.2.2.2.2.2.2.2.2.2.1.1) 4 PM) q.all;have z3:=q.len;grind[Fo]
   refine⟨0,Fo s.2.2.2.2.2.2.2.2.2.1 a s.2.2.2.2.2.2.2.2.2.2.1 PM,?_,.inl rfl,R,λ_=>⟨rfl,a,by simp_all[GG],λ_=>q⟩,λh=>by grind⟩
  have f:Eb s M=AP (zN .u64 s.2.2.1) 3 M:=by unfold Eb;grind
  rw[f]at g;simp only[k,show((2:Int)==2)=ka from rfl,cT,z,oB,g,JG];grind;have f:Eb s M=MZ s M:=by unfold Eb;grind
  rw[f]at g;simp only[k,show((3:Int)==2)=kc from rfl,show((3:Int)==3)=ka from rfl,cT,cF,r,oB,g,JG];grind;have f:Eb s M=MZ s (FH 8 s.2.2.2.2.2.2.1 (AP (zN .u64 (zN .i64 (s.2.2.2.2.1-1))) 10 M)):=by unfold Eb;grind
  rw[f]at g;simp only[k,show((4:Int)==2)=kc from rfl,show((4:Int)==3)=kc from rfl,show((4:Int)==4)=ka from rfl,cT,cF,A,v,m,u,oB,g,JG];grind;have f:Eb s M=Jb s.2.2.2.2.2.2.2.1 (AP (zN .u64 ((s.2.2.2.2.2.2.2.1.length:Nat):Int)) 2 M):=by unfold Eb;grind
  rw[f]at g;simp only[k,show((5:Int)==2)=kc from rfl,show((5:Int)==4)=kc from rfl,show((5:Int)==3)=kc from rfl,show((5:Int)==5)=ka from rfl,cT,cF,B,b,oB,g,JG];grind
theorem RL(h:List Nat):(Cq h).map C9=h:=by unfold Cq;rw[List.map_map];(have:C9∘(λ(a:Nat)=>(a:Int))=id:=by rfl);simp_all
theorem fF{p:YN}{n sF:Int}{l:LI}{z g:List Nat}(h:sS p n sF l z)(f:sS p n sF l g):z=g:=by rw[<-RL z,<-h.sizes,f.sizes,RL]
def a6Z(s:CP)(n:Int):Int:=if(FY s n).isSome=ka then(((GG s ((ES s.2.2.2.2.2.2.2.2.2.1.1 n ((s.2.2.2.2.2.2.2.2.1.length:Nat):Int)).map C9) []).length:Nat):Int)else 0
theorem b0N{s:CP}{n:Int}{h:List Nat}(g:s.1≠0/\s.1≠1->sS s.2.2.2.2.2.2.2.2.2.1 n (s.2.2.2.2.2.2.2.2.1.length:Int) s.2.2.2.2.2.2.2.2.2.2.1 h)(L:LI):GG s h L=GG s ((ES s.2.2.2.2.2.2.2.2.2.1.1 n (s.2.2.2.2.2.2.2.2.1.length:Int)).map C9) L:=by by_cases hk:s.1=0\/s.1=1;simp_all[GG];rw[(g (not_or.1 hk)).sizes,RL]
theorem b8w{s:CP}(h:sM s)(n:Int):LD (s,n)=kd (a6Z s n):=by obtain⟨e,f,g,-,-,k,c⟩:=qL h (n:=n) (L:=[]) (by simp);have a:wL []=(([]:List Int),(0:Int),()):=rfl;rw[a]at g;obtain⟨d,-⟩:=EZ f;unfold LD a6Z;simp[g,MF];cases hs:(FY s n).isSome with|false=>simp_all|true=>obtain⟨rfl,i,rfl,b⟩:=k hs;rw[if_pos rfl,<-b0N b];simp_all
def qN(L:List Int)(i:Nat):List Int:=(wL (L.take i)).1++A4 ((L.length+7) / 8-(i+7) / 8) 0
theorem a7a{L:LI}{i:Nat}(h:i<=L.length):(qN L i).length=(L.length+7) / 8:=by grind[EZ,qN]
theorem b2S{L:LI}{i:Nat}(h:i<L.length):(qN L i).set (i / 8) (bits .u8 .or ((qN L i).getD (i / 8) 0) (AO .u8 L[i] (7-(i:Int)%8)))=qN L (i+1):=by
 obtain⟨g,f⟩:=EZ (L.take i);rw[F4,H1 (I7 h)]at g f;have b:L.take (i+1)=L.take i++[L[i]]:=by simp
 unfold qN;rw[b,bW];generalize wL (L.take i)=wr at g f|-;obtain⟨a,n,u⟩:=wr;have g:n=(i:Int):=g;have f:a.length=(i+7) / 8:=f;subst g;have e8:((i:Int) / 8).toNat=i / 8:=by rfl
 unfold a6U;simp only[e8];by_cases hz:i%8=0;have k:(i:Int)%8=0:=by omega
 rw[if_pos k];have c:(L.length+7) / 8-(i+7) / 8=((L.length+7) / 8-(i+1+7) / 8)+1:=by omega
 grind;grind
theorem a4y{L:LI}(G:L.length<1000000000):IW (L,())=kd ((wL L).1,L,()):=by
 have z:zN .i64 (((L.length:Nat):Int)+7)=((L.length:Nat):Int)+7:=Ac (by omega);have A:E6 (((L.length:Nat):Int)+7) 8=(((L.length:Nat):Int)+7) / 8:=D3 (by omega);have B:zN .i64 ((((L.length:Nat):Int)+7) / 8)=(((L.length:Nat):Int)+7) / 8:=Ac (by omega);have C:C9 ((((L.length:Nat):Int)+7) / 8)=(L.length+7) / 8:=by rfl
 have D:A3 ((0:Int)<=(((L.length:Nat):Int)+7) / 8)=ka:=by rfl
 have E:A3 ((((L.length:Nat):Int)+7) / 8<=(((L.length:Nat):Int)+7) / 8)=ka:=by simp
 have F:BM ((L.length+7) / 8)=ka:=Ay (by omega);have h:qN L 0=A4 ((L.length+7) / 8) 0:=by rfl
 have l:qN L L.length=(wL L).1:=by simp[qN]
 have a:=Bo (f:=GB) (λi:Nat=>((i:Int),qN L i,(L,()),())) L.length (b:=((wL L).1,(L,()),()))
  (λi m=>by
   have r:E6 (i:Int) 8=(i:Int) / 8:=D3 (by omega);have u:C7 (i:Int) 8=(i:Int)%8:=D2 (by omega);have v:zN .i64 ((i:Int) / 8)=(i:Int) / 8:=Ac (by omega);have w:zN .i64 (7-(i:Int)%8)=7-(i:Int)%8:=Ac (by omega);have x:zN .u64 (7-(i:Int)%8)=7-(i:Int)%8:=Au (by omega);have y:zN .i64 ((i:Int)+1)=((i+1:Nat):Int):=by grind[Ac]
   have k:A3 ((i:Int)<((L.length:Nat):Int))=ka:=by simp_all
   have c:A3 ((0:Int)<=(i:Int) / 8)=ka:=by rfl
   have d:A3 ((i:Int) / 8<(((qN L i).length:Nat):Int))=ka:=by grind[a7a]
   have e:A3 ((0:Int)<=(i:Int))=ka:=by simp
   have j:A3 (7-(i:Int)%8<0)=kc:=by grind
   have o:C9 ((i:Int) / 8)=i / 8:=by rfl
   have p:C9 (i:Int)=i:=by rfl
   have g:L.getD i 0=L[i]:=by simp_all
   have q:=b2S m;simp only[GB,r,u,v,w,x,y,k,c,d,e,j,o,p,g,q,A8,cT,cF])
  (by
   have k:A3 (((L.length:Nat):Int)<((L.length:Nat):Int))=kc:=by simp
   simp_all[GB])
 simp_all[IW]
def d1T:List Int->List Int|a::b::r=>W (b-a)::d1T (b::r)|_=>[]
def c1l:Nat->List Int->List Int|0,l=>l|o+1,l=>d1T (c1l o l)
theorem d1h{o:Nat}(h:o<=30):AO .i64 1 (o:Int)=((2^o:Nat):Int):=by have g:2^o<=2^30:=C2 (by omega) h;have:=bS (N:=1) (o:=o) (by omega) (by omega);simp_all
def b5Q(g:List Int->Int):List Int->List Int->List Int|[],_=>[]|x::r,dn=>W (x-g dn)::b5Q g r (dn++[x])
def c0q(g:List Int->Int)(r dn:List Int):Option (List Int):=bif (b5Q g r dn).all Aq then kd (b5Q g r dn)else ke
def c0r(l c:List Int)(s:Int):Option (List Int):=bif l.all Aq then c0q (bK c s) (l.drop c.length) (l.take c.length)else ke
def c1m(l:List Int)(lag:Int)(t:List Int):Option (List Int):=bif l.all Aq then c0q (SM lag t) l []else ke
def d1U:List Int->List Int->kU->Option (List Int)|[],dn,_=>kd dn|x::r,dn,f=>bif Aq (W (x-BK f))then d1U r (dn++[W (x-BK f)]) (bP f x)else ke
def d1V:List UY->List Int->Option (List Int)|[],row=>kd row|s::r,row=>match d1U row [] (bQ s)with|some row'=>d1V r row'|none=>ke
def b8x(l:List Int)(st:List UY):Option (List Int):=bif l.all Aq then d1V st l else ke
def b8y(l:List Int)(w:Nat):Prop:=((∀x∈l,x=0)/\w=0)\/((∃x∈l,x≠0)/\w<=30/\(∀x∈l,((2^w:Nat):Int) ∣ x)/\(w=30\/∃x∈l,¬ ((2^(w+1):Nat):Int) ∣ x))
def c0s(k:Nat)(x:Int):Nat:=if AN x / 2^k<32 then AN x / 2^k+1+k else 65
theorem c1n{x:Int}(h:Aq x=ka):Eo x ((31:Nat):Int)=ka:=by
 have:=EG.1 h;have g:AO .i64 (-1) (((31:Nat):Int)-1)=-1073741824:=by rfl
 have f:zN .i64 (AO .i64 1 (((31:Nat):Int)-1)-1)=1073741823:=by rfl
 unfold Eo;grind
theorem qO{x:Int}(h:Aq x=ka):∀(k w:Nat),w+k=32->1<=k->EH x k w<=31|k+1,w,g,_=>by simp[EH];by_cases h31:w=31;grind[c1n];cases (x != 0)&&!Eo x w with|true=>exact qO h k (w+1) (by omega) (by omega)|false=>grind
theorem UL:∀(l:LI)(w:Nat),l.all Aq=ka->w<=31->l.foldl (λw x=>EH x (32-w) w) w<=31|[],w,_,h=>h|x::l,w,g,h=>by simp only[C0,HC]at g;exact UL l _ g.2 (qO g.1 (32-w) w (by omega) (by omega))
theorem GH{l:LI}(h:l.all Aq=ka):Ap l<=31:=UL l 0 h (by omega)
def c6f(k:Int)(part:List Int):Nat:=5+(if k=31 then 5+Ap part*part.length else(part.map (c0s k.toNat)).sum)
def b5R:List Nat->List Int->List Int->Nat|z::zs,k::ks,l=>c6f k (l.take z)+b5R zs ks (l.drop z)|_,_,_=>0
theorem LY{q:Nat}(h:q<2147483648):zN .u64 (q:Int)=(q:Int):=Au (by omega)
def SX(o:Int):CP:=((0:Int),(0:Int),o,(0:Int),(0:Int),([]:List Int),A4 3 (0:Int),([]:List UY),([]:List Int),((0:Int),([]:List Int),()),([]:List Int),())
def c1o(k:Nat)(l:List Int):Nat:=(l.map (c0s k)).sum
def c7i(l:List Int):Nat->Nat|0=>0|i+1=>if c1o (i+1) l<c1o (c7i l i) l then i+1 else c7i l i
def b8z(l:List Int):Int:=if 5+Ap l*l.length<c1o (c7i l 25) l then 31 else((c7i l 25:Nat):Int)
def a4z:List Nat->List Int->List Int|[],_=>[]|z::zs,l=>b8z (l.take z)::a4z zs (l.drop z)
def d1i(o n sF:Int):List Nat:=(ES o n sF).map C9
def c6g(o n sF:Int)(l:List Int):YN:=(o,a4z (d1i o n sF) l,())
def c0t(o n sF:Int)(l:List Int):Nat:=4+b5R (d1i o n sF) (a4z (d1i o n sF) l) l
def qP(n sF:Int)(l:List Int):Nat->YN×Nat
 |0=>((0,[],()),0)
 |i+1=>if(ES (i:Int) n sF).length=0 then qP n sF l i else
   if(qP n sF l i).2=0\/c0t (i:Int) n sF l<(qP n sF l i).2 then(c6g (i:Int) n sF l,c0t (i:Int) n sF l)else qP n sF l i
def c6h(n sF:Int)(l:List Int):YN:=(qP n sF l 7).1
def a4A(k:Int)(s:CP):CP:=(k,(0:Int),(if k=2 then s.2.2.1 else 0),(if k=3\/k=4 then s.2.2.2.1 else 0),(if k=4 then s.2.2.2.2.1 else 0),(if k=3\/k=4 then s.2.2.2.2.2.1 else[]),((if k=4 then s.2.2.2.2.2.2.1 else A4 3 (0:Int)),(if k=5 then s.2.2.2.2.2.2.2.1 else[]),([]:List Int),((0:Int),([]:List Int),()),([]:List Int),()))
def z0:YN:=((0:Int),([]:List Int),())
def b5S(s:CP)(w:Nat)(wm:List Int)(p:YN)(r:List Int):CP:=(s.1,(w:Int),s.2.2.1,s.2.2.2.1,s.2.2.2.2.1,s.2.2.2.2.2.1,s.2.2.2.2.2.2.1,s.2.2.2.2.2.2.2.1,wm,p,r,())
open Classical in
def b5T (l:List Int):Nat:=if h:∃w,b8y l w then h.choose else 0
def b0O(l:List Int):List Int:=l.map λx=>AR .i64 x (b5T l:Int)
def c6i(k:Int)(s:CP)(d:List Int):Option (List Int×List Int):=
 if k=2 then(bif (c1l s.2.2.1.toNat d).all Aq then Option.some (d.take s.2.2.1.toNat,c1l s.2.2.1.toNat d)else Option.none)
 else if k=3 then(c0r d s.2.2.2.2.2.1 s.2.2.2.1).map λr=>(d.take s.2.2.2.2.2.1.length,r)
 else if k=4 then(c1m d s.2.2.2.2.1 s.2.2.2.2.2.2.1).bind λx=>(c0r x s.2.2.2.2.2.1 s.2.2.2.1).map λr=>(x.take s.2.2.2.2.2.1.length,r)
 else(b8x d s.2.2.2.2.2.2.2.1).map λr=>([],r)
open Classical in

def b0P (k:Int) (l:List Int) (s:CP):CP×Int:=
 if ¬ (1<=l.length/\l.length<=4096/\Wg k s (l.length:Int))then(SX 0,1)
 else if l.all Aq=kc then(SX 0,6)
 else if k=0 then(bif l.all (λx=>x==l.headD 0)then(b5S (a4A 0 s) 0 [l.headD 0] z0 [],0)else(SX 0,7))
 else if k=1 then(b5S (a4A 1 s) (b5T l) (b0O l) z0 [],0)
 else match c6i k s (b0O l)with
  |none=>(SX 0,6)
  |some (wm,r)=>(b5S (a4A k s) (b5T l) wm (c6h (l.length:Int) (wm.length:Int) r) r,0)
theorem Wn{α A β:Type}(g:A->α->A)(h:A->β):∀(l:List α)(a:A),kM h (Ni (λa x=>.inl (g a x)) l a)=h (l.foldl g a)|[],_=>rfl|x::l,a=>Wn g h l (g a x)
theorem YS{k n:Int}{s:CP}(h:Wg k s n):0<=k/\k<=5:=by rcases h with h|h|⟨h,-⟩|⟨h,-⟩|⟨h,-⟩|⟨h,-⟩<;>omega
theorem RM{s:CP}{n:Int}(h:(FY s n).isSome=ka):DF s n:=by grind[FY]
structure zA (l m:List Int) (n:Nat):Prop where
 len:m.length=l.length
 wl:l.all Aq=ka
 wm:m.all Aq=ka
 down:b0O m=b0O l
 waste:b5T m=b5T l+n
 fl:l.all (λx=>x==l.headD 0)=kc
 fm:m.all (λx=>x==m.headD 0)=kc
structure zD (l:List Int) (cs:List CP) (a:Int×(Bool×CP)):Prop where
 one:a.2.1=ka->∃c∈cs,(b0P c.1 l c).2=0/\a.2.2=(b0P c.1 l c).1/\a.1=a6Z a.2.2 (l.length:Int)
 least:∀c∈cs,(b0P c.1 l c).2=0->a.2.1=ka/\a.1<=a6Z (b0P c.1 l c).1 (l.length:Int)
def b0Q(x:Int)(v:Nat):Bool:=A3 (x=0) || Eo x (v:Int)
theorem b5U{x:Int}{v:Nat}:Eo x (v:Int)=ka↔1<=v/\v<=31/\-((2^(v-1):Nat):Int)<=x/\x<=((2^(v-1):Nat):Int)-1:=by(by_cases hv:1<=v/\v<=31;have e:((v:Int)-1)=((v-1:Nat):Int):=by omega);(have b:2^(v-1)<=2^30:=C2 (by omega) (by omega);have a:=D4 (v-1);have g:AO .i64 1 ((v-1:Nat):Int)=((2^(v-1):Nat):Int):=d1h (by omega);have f:AO .i64 (-1) ((v-1:Nat):Int)=-((2^(v-1):Nat):Int):=by grind[IntKind.bits,AO,Ac]);have k:zN .i64 (((2^(v-1):Nat):Int)-1)=((2^(v-1):Nat):Int)-1:=Ac (by omega);simp only[Eo,e,g,f,k,HC,dT];omega;constructor;intro h;simp[Eo]at h;omega;omega
theorem a4B{x:Int}{v:Nat}:b0Q x v=ka↔x=0\/(1<=v/\v<=31/\-((2^(v-1):Nat):Int)<=x/\x<=((2^(v-1):Nat):Int)-1):=by simp_all[b0Q,b5U]
theorem b5V{x:Int}{v w:Nat}(h:v<=w)(c:w<=31)(g:b0Q x v=ka):b0Q x w=ka:=by rw[a4B]at g|-;rcases g with g|⟨f,k,a,b⟩;omega;have:2^(v-1)<=2^(w-1):=C2 (by omega) (by omega);omega
theorem b5W{x:Int}(h:Aq x=ka):b0Q x 31=ka:=by have:=EG.1 h;rw[a4B];omega
theorem a2r{x:Int}(j:Aq x=ka):∀(k w:Nat),w+k=32->w<=31->w<=EH x k w/\EH x k w<=31/\b0Q x (EH x k w)=ka/\∀v,w<=v->b0Q x v=ka->v<=31->EH x k w<=v|0,w,h,g=>absurd g (by omega)|k+1,w,h,g=>by by_cases hin:b0Q x w=ka;(have:EH x (k+1) w=w:=by unfold EH;cases a:(x != 0)&&!Eo x (w:Int)with|false=>rfl|true=>simp at a;simp_all[b0Q]);simp_all;(have a:((x != 0)&&!Eo x (w:Int))=ka:=by simp_all[b0Q]);(have i:w≠31:=λe=>hin (by simp_all[b5W]);have e:EH x (k+1) w=EH x k (w+1):=by show(bif (x != 0)&&!Eo x (w:Int)then EH x k (w+1)else w)=_;grind);obtain⟨l,b,c,d⟩:=a2r j k (w+1) (by omega) (by omega);rw[e];refine⟨by omega,b,c,λv m f g=>d v ?_ f g⟩;rcases Nat.lt_or_ge w v with q|q;exact q;(have:v=w:=by omega);exact absurd (this▸f) hin
theorem UM:∀(l:LI)(w:Nat),l.all Aq=ka->w<=31->
  w<=l.foldl (λw x=>EH x (32-w) w) w/\l.foldl (λw x=>EH x (32-w) w) w<=31/\(∀x∈l,b0Q x (l.foldl (λw x=>EH x (32-w) w) w)=ka)/\∀v,w<=v->v<=31->(∀x∈l,b0Q x v=ka)->l.foldl (λw x=>EH x (32-w) w) w<=v
 | [],w,_,h31=>⟨E1 _,h31,by simp,λv f _ _=>f⟩
 |x::l,w,h,h31=>by
  rw[C0,HC]at h;obtain⟨j,c,m,o⟩:=a2r h.1 (32-w) w (by omega) h31;obtain⟨d,b,e,i⟩:=UM l (EH x (32-w) w) h.2 c;simp only[List.foldl_cons];refine⟨by omega,b,λy a=>?_,λv f k g=>?_⟩
  ·rcases mC.1 a with rfl|a;all_goals grind[b5V]
  simp_all
theorem b5X{l:LI}(h:l.all Aq=ka):∀x∈l,b0Q x (Ap l)=ka:=(UM l 0 h (by omega)).2.2.1
abbrev Rd:Type:=(List Int)×(Int×(Int×Unit))
def BL(L:List Int):Prop:=∀b∈L,b=0\/b=1
def Ul(bs:List Int)(i:Nat):Bool:=(bs.getD (i / 8) 0).toNat.testBit (7-i%8)
theorem d1W{x y:Nat}(h:x<256)(g:y<256):bits .u8 .or (x:Int) (y:Int)=((x ||| y:Nat):Int):=by(show zN .u8 (((A9 8 (x:Int)) ||| (A9 8 (y:Int))).toNat:Int)=_;rw[D6,D6,H2,E4,E4,C8 h,C8 g,GR]);have:x ||| y<2^8:=I8 h g;omega
theorem d1j{b:Int}(hb:b=0\/b=1){r:Nat}(g:r<8):AO .u8 b (7-(r:Int))=((b.toNat*2^(7-r):Nat):Int):=by(have h:∀r:Fin 8,AO .u8 0 (7-(r.1:Int))=((0*2^(7-r.1):Nat):Int)/\AO .u8 1 (7-(r.1:Int))=((1*2^(7-r.1):Nat):Int):=by decide +kernel);rcases hb with rfl|rfl;exact(h ⟨r,g⟩).1;exact(h ⟨r,g⟩).2
theorem b5Y{x:Nat}(h:x<256){r:Nat}(g:r<8):bits .u8 .and (AR .u8 (x:Int) (7-(r:Int))) 1=if x.testBit (7-r)then 1 else 0:=by(have e:AR .u8 (x:Int) (7-(r:Int))=((x / 2^(7-r):Nat):Int):=by show Int.fdiv (x:Int) (2^(min (7-(r:Int)).toNat 8))=_;grind);rw[e];have f:x / 2^(7-r)<256:=D0 (C4 _ _) h;show zN .u8 (((A9 8 ((x / 2^(7-r):Nat):Int)) &&& (A9 8 1)).toNat:Int)=_;grind[A9,GR]
theorem b2T(L:LI)(b:Int)(i:Nat):(L++[b]).getD i 0=if i=L.length then b else L.getD i 0:=by grind
theorem a7b(h:LI)(k:Nat)(y:Int)(g:k<h.length)(j:Nat):(h.set k y).getD j 0=if j=k then y else h.getD j 0:=by grind
theorem a2s:∀(n:Nat)(L:LI),L.length=n->BL L->(∀j,0<=(wL L).1.getD j 0/\(wL L).1.getD j 0<256)/\∀i,Ul (wL L).1 i=A3 (L.getD i 0=1)
 |0,L,h,_=>by
  simp_all[wL,Ul]
 |n+1,L,h,v=>by
  obtain⟨g,b,rfl⟩:∃g b,L=g++[b]:=by
   rcases E7 L with rfl|⟨g,b,e⟩;all_goals simp_all
  have hb:b=0\/b=1:=v b (by simp);obtain⟨z,A⟩:=a2s n g (by simp_all) λc G=>v c (by grind);obtain⟨o,p⟩:=EZ g;rw[bW];generalize wL g=wr at o p z A|-;obtain⟨d,m,u⟩:=wr;have o:m=(g.length:Int):=o;have p:d.length=(g.length+7) / 8:=p;subst o;have e8:((g.length:Int) / 8).toNat=g.length / 8:=by rfl
  have r:(g.length:Int)%8=((g.length%8:Nat):Int):=by rfl
  obtain⟨f,a,B,C⟩:∃f:List Int,(if(g.length:Int)%8=0 then d++[0]else d)=f/\g.length / 8<f.length/\∀j,f.getD j 0=d.getD j 0:=by
   grind
  rw[r]at a;have F:g.length%8<8:=F2 _ (by simp);obtain⟨x,w⟩:∃x:Nat,d.getD (g.length / 8) 0=(x:Int):=A6 (z _).1;have k:x<256:=by
   grind
  have y:b.toNat*2^(7-g.length%8)<256:=by
   have H:2^(7-g.length%8)<=2^7:=C2 (by simp) (by omega);grind
  have E:x ||| b.toNat*2^(7-g.length%8)<2^8:=I8 k y;have l:(a6U (d,(g.length:Int),u) b).1=f.set (g.length / 8) ((x ||| b.toNat*2^(7-g.length%8):Nat):Int):=by
   unfold a6U;simp only[a,e8,r];rw[C,w,d1j hb F,d1W k y]
  rw[l];refine⟨λj=>?_,λi=>?_⟩;grind[a7b]
  ·unfold Ul;rw[a7b _ _ _ B,b2T];have q:=A i;unfold Ul at q;by_cases hk:i / 8=g.length / 8
   ·rw[if_pos hk,tN,Nat.testBit_or];rw[hk,w,tN]at q;rw[q];have D:(b.toNat*2^(7-g.length%8)).testBit (7-i%8)=(A3 (b=1)&&A3 (i=g.length)):=by
     rcases hb with rfl|rfl;all_goals grind
    grind
   grind
theorem lV{L:LI}(h:BL L):(∀j,0<=(wL L).1.getD j 0/\(wL L).1.getD j 0<256)/\∀i,Ul (wL L).1 i=A3 (L.getD i 0=1):=a2s _ L rfl h
def Bm(P R:List Int):Rd:=((wL (P++R)).1,(P.length:Int),(0:Int),())
theorem Um{L:LI}(k:BL L)(o:L.length<1000000000){i:Nat}(hi:i<L.length)(t:Int×(Int×Unit)):Bd (((wL L).1,t),(i:Int))=kd (L.getD i 0,(wL L).1,t):=by
 obtain⟨d,e⟩:=lV k;obtain⟨-,m⟩:=EZ L;have l:C7 (i:Int) 8=((i%8:Nat):Int):=by rfl
 have j:E6 (i:Int) 8=((i / 8:Nat):Int):=by rfl
 have b:zN .i64 ((i / 8:Nat):Int)=((i / 8:Nat):Int):=Ac (by omega);have c:zN .i64 (7-((i%8:Nat):Int))=7-((i%8:Nat):Int):=Ac (by omega);have g:A3 (7-((i%8:Nat):Int)<0)=kc:=by grind
 have hb:i / 8<(wL L).1.length:=by omega
 have f:(wL L).1[i / 8]=(wL L).1.getD (i / 8) 0:=by grind
 unfold Bd;simp only[l,j,b,c,g,Ad hb,oB,cF];obtain⟨x,a⟩:∃x:Nat,(wL L).1.getD (i / 8) 0=(x:Int):=A6 (d _).1;have h:x<256:=by grind
 rw[f,a,b5Y h (F2 _ (by simp))];have:=e i;unfold Ul at this;rw[a,tN]at this;rw[this];have p:L.getD i 0=0\/L.getD i 0=1:=by(have:L.getD i 0=L[i]:=by simp_all);rw[this];exact k _ (B4 hi)
 grind
theorem Nz{v:Nat}(hv:v<18446744073709551616){i:Nat}(hi:i<=64):HF (v:Int) i=((v / 2^i%2:Nat):Int):=by unfold HF;rw[EI hi];have h:v / 2^i<18446744073709551616:=D0 (C4 _ _) hv;show zN .u8 (zN .u64 (((A9 64 ((v / 2^i:Nat):Int)) &&& (A9 64 1)).toNat:Int))=_;grind[A9,Au,GR]
theorem b5Z{v:Nat}(hv:v<18446744073709551616):∀n,n<=64->BL (pb (v:Int) n)|0,_=>(λb hb=>by cases hb)|n+1,h=>λb hb=>by rcases mC.1 hb with rfl|hb;grind[Nz];exact b5Z hv n (by omega) b hb
theorem BL.app{A B:LI}(h:BL A)(g:BL B):BL (A++B):=λb hb=>(mA.1 hb).elim (h b) (g b)
theorem d1X{a b:Nat}(k:a<18446744073709551616)(hb:b<2)(f:a%2=0):bits .u64 .or (a:Int) (b:Int)=((a+b:Nat):Int):=by
 show zN .u64 ((A9 64 (a:Int) ||| A9 64 (b:Int)).toNat:Int)=_;have g:(A9 64 (a:Int)).toNat=a:=by simp_all
 have h:(A9 64 (b:Int)).toNat=b:=by grind
 rw[H2,g,h];have e:a ||| b=a+b:=by have:=E8 (i:=1) (b:=b) (by omega) (a / 2);grind
 grind[Au]
theorem a7c{v:Nat}(hv:v<9223372036854775808){n:Nat}(q:n<=62):∀(m:Nat)(P R:LI),m<=n->BL (P++(pb (v:Int) m++R))->(P++(pb (v:Int) m++R)).length<1000000000->Al Gu (((v / 2^m:Nat):Int),(n:Int),((n-m:Nat):Int),Bm P (pb (v:Int) m++R),())=kd ((v:Int),Bm (P++pb (v:Int) m) R,())|0,P,R,_,_,_=>by grind[Ae,Gu,pb]|m+1,P,R,r,hok,hlen=>by(have l:A3 (((n-(m+1):Nat):Int)<(n:Int))=ka:=by grind);(have a:Bd (Bm P (pb (v:Int) (m+1)++R),(P.length:Int))=kd (HF v m,Bm P (pb (v:Int) (m+1)++R)):=by have:=Um hok hlen (i:=P.length) (by simp[pb]) ((P.length:Int),(0:Int),());rw[show(P++(pb (v:Int) (m+1)++R)).getD P.length 0=HF v m from by simp_all[pb]]at this;exact this);(have g:=Nz (v:=v) (by omega) (i:=m) (by omega);have b:v / 2^m%2<2:=F2 _ (by simp);have f:v / 2^(m+1)=v / 2^m / 2:=by grind[G9]);(have p:v / 2^m<=v:=C4 _ _;have d:AO .u64 ((v / 2^(m+1):Nat):Int) 1=((v / 2^(m+1)*2^1:Nat):Int):=LX (o:=1) (by omega) (by omega);have h:bits .u64 .or ((v / 2^(m+1)*2^1:Nat):Int) (zN .u64 (HF (v:Int) m))=((v / 2^m:Nat):Int):=by rw[g,Au (by omega),d1X (by omega) b (by omega),f];omega);(have e:zN .i64 (((n-(m+1):Nat):Int)+1)=((n-m:Nat):Int):=by grind[Ac]);(have j:zN .i64 ((P.length:Int)+1)=((P++[HF v m]).length:Int):=by grind[Ac]);(have k:P++(pb (v:Int) (m+1)++R)=(P++[HF v m])++(pb (v:Int) m++R):=by simp[pb]);(have c:((Bm P (pb (v:Int) (m+1)++R)).1,((P++[HF v m]).length:Int),(Bm P (pb (v:Int) (m+1)++R)).2.2)=Bm (P++[HF v m]) (pb (v:Int) m++R):=by unfold Bm;simp_all);rw[Af (s':=(((v / 2^m:Nat):Int),(n:Int),((n-m:Nat):Int),Bm (P++[HF v m]) (pb (v:Int) m++R),())) (by simp only[Gu,l,cT];rw[show(Bm P (pb (v:Int) (m+1)++R)).2.1=(P.length:Int)from rfl,a];simp only[oB,d,h,e];rw[show(Bm P (pb (v:Int) (m+1)++R)).2.1=(P.length:Int)from rfl,j,c])];rw[a7c hv q m _ _ (by omega) (by simp_all) (by simp_all)];simp[pb]
theorem b6a{v n:Nat}(a:n<=62)(hv:v<2^n){P R:LI}(g:BL (P++(pb (v:Int) n++R)))(k:(P++(pb (v:Int) n++R)).length<200000000):Ak (Bm P (pb (v:Int) n++R),(n:Int))=kd ((v:Int),Bm (P++pb (v:Int) n) R):=by
 have h:v<9223372036854775808:=Nat.lt_of_lt_of_le hv (Nat.le_trans (C2 (by simp) a) (by simp));have f:=a7c h a n P R (by omega) g (by omega);rw[J3 hv,G6]at f;simp at f;obtain⟨-,e⟩:=EZ (P++(pb (v:Int) n++R));have j:=LW (v:Int) n;have i:(P++(pb (v:Int) n++R)).length=P.length+n+R.length:=by grind
 have e8:zN .i64 ((8:Int)*(((wL (P++(pb (v:Int) n++R))).1.length:Nat):Int))=(8:Int)*(((wL (P++(pb (v:Int) n++R))).1.length:Nat):Int):=Ac (by omega);have d:zN .i64 ((8:Int)*(((wL (P++(pb (v:Int) n++R))).1.length:Nat):Int)-(P.length:Int))=(8:Int)*(((wL (P++(pb (v:Int) n++R))).1.length:Nat):Int)-(P.length:Int):=Ac (by omega);have b:A3 ((n:Int)<0)=kc:=by simp
 have c:A3 ((n:Int) > 64)=kc:=by grind
 have l:A3 ((n:Int) > (8:Int)*(((wL (P++(pb (v:Int) n++R))).1.length:Nat):Int)-(P.length:Int))=kc:=by grind
 unfold Ak Cz;rw[show(Bm P (pb (v:Int) n++R)).2.2.1=0 from rfl];simp only[bN,cF,b,c,oB];rw[show(Bm P (pb (v:Int) n++R)).1=(wL (P++(pb (v:Int) n++R))).1 from rfl,show(Bm P (pb (v:Int) n++R)).2.1=(P.length:Int)from rfl,e8,d];grind
def Xx(n:Nat)(x:Int):Prop:=-((2^n:Nat):Int)<=2*x/\2*x<((2^n:Nat):Int)
theorem Xe{n:Nat}(f:n<=62)(x:Int):∃v:Nat,BQ x n=(v:Int)/\v<2^n/\(v:Int)=x%((2^n:Nat):Int):=by(have k:zN .u64 x=x%18446744073709551616:=by rfl);(obtain⟨y,h⟩:∃y:Nat,x%18446744073709551616=(y:Int):=A6 (Int.emod_nonneg _ (by simp));have g:y<18446744073709551616:=by omega);refine⟨y%2^n,?_,F2 _ (D4 n),?_⟩;simp_all[BQ,Wk];rw[Int.natCast_emod,<-h];refine Int.emod_emod_of_dvd x ?_;have:(2:Nat)^n ∣ 2^64:=Nat.pow_dvd_pow 2 (by omega);exact Int.natCast_dvd_natCast.2 this
theorem b2U{n:Nat}(q:n<=62){x:Int}(w:Xx n x){P R:LI}(c:BL (P++(pb (BQ x n) n++R)))(g:(P++(pb (BQ x n) n++R)).length<200000000):AG (Bm P (pb (BQ x n) n++R),(n:Int))=kd (x,Bm (P++pb (BQ x n) n) R):=by(obtain⟨v,A,b,f⟩:=Xe q x;rw[A]at c g|-;have a:=b6a q b c g;obtain⟨i,j⟩:=w;have C:=D4 n;have o:(v:Int)=x/\0<=x\/(v:Int)=x+((2^n:Nat):Int)/\x<0:=by by_cases h0:0<=x;exact .inl ⟨by rw[f];exact I9 h0 (by omega),h0⟩;refine .inr ⟨?_,by omega⟩;rw[f,<-Int.add_emod_right];exact I9 (by omega) (by omega));unfold AG;simp[a];rw[show(Bm (P++pb (v:Int) n) R).2.2.1=0 from rfl];simp;cases n with|zero=>grind|succ k=>(have l:(((k+1:Nat):Int)==0)=kc:=by rfl);(have u:zN .i64 ((64:Int)-((k+1:Nat):Int))=((64-(k+1):Nat):Int):=by grind[Ac]);(have r:A3 (((64-(k+1):Nat):Int)<0)=kc:=by simp);(simp only[l,cF,u,r];have p:64-(k+1)+(k+1)=64:=by omega);(generalize 64-(k+1)=m at p|-;have z:2^m*2^(k+1)=18446744073709551616:=by rw[<-Nat.pow_add,p]);(have d:((2^m:Nat):Int)*((2^(k+1):Nat):Int)=18446744073709551616:=by omega);(have y:=D4 m;have B:AO .u64 (v:Int) (m:Int)=(v:Int)*((2^m:Nat):Int):=by(show zN .u64 ((v:Int)*2^(min (m:Int).toNat 64))=_;rw[tN,H1 (by omega)];have e:(2:Int)^m=((2^m:Nat):Int):=by simp);rw[e];refine Au ⟨Int.mul_nonneg (by omega) (by omega),?_⟩;have:v*2^m<2^(k+1)*2^m:=Nat.mul_lt_mul_of_pos_right b y;grind);(have b1:-9223372036854775808<=x*((2^m:Nat):Int):=by have:=Int.mul_le_mul_of_nonneg_right i (show(0:Int)<=((2^m:Nat):Int)by omega);grind);(have b2:x*((2^m:Nat):Int)<9223372036854775808:=by have:=Int.mul_lt_mul_of_pos_right j (show(0:Int)<((2^m:Nat):Int)by omega);grind);(have E:zN .i64 ((v:Int)*((2^m:Nat):Int))=x*((2^m:Nat):Int):=by rcases o with⟨h,-⟩|⟨h,-⟩;grind[Ac];rw[h,Int.add_mul,Int.mul_comm ((2^(k+1):Nat):Int),d];grind[zN,IntKind.bits,IntKind.signed]);(have D:AR .i64 (x*((2^m:Nat):Int)) (m:Int)=x:=by show Int.fdiv (x*((2^m:Nat):Int)) (2^(min (m:Int).toNat 64))=x;rw[tN,H1 (by omega)];grind[Int.mul_ediv_cancel]);simp_all
theorem a9B(P:LI)(n:Nat)(R:LI){c:Nat}(h:c<n):(P++(A4 n 0++1::R)).getD (P.length+c) 0=0:=by grind
theorem b6b(P:LI)(n:Nat)(R:LI):(P++(A4 n 0++1::R)).getD (P.length+n) 0=1:=by simp
theorem b2V{n lm:Nat}(A:n<=lm)(v:lm<1000000){P R:LI}(o:BL (P++(A4 n 0++1::R)))(p:(P++(A4 n 0++1::R)).length<200000000):
  BR (Bm P (A4 n 0++1::R),(lm:Int))=kd ((n:Int),Bm (P++(A4 n 0++[1])) R):=by
 obtain⟨-,r⟩:=EZ (P++(A4 n 0++1::R));have u:(P++(A4 n 0++1::R)).length=P.length+n+1+R.length:=by grind
 have e8:zN .i64 ((8:Int)*(((wL (P++(A4 n 0++1::R))).1.length:Nat):Int))=(8:Int)*(((wL (P++(A4 n 0++1::R))).1.length:Nat):Int):=Ac (by omega);have g:∀c,c<=n->Bd (Bm P (A4 n 0++1::R),((P.length:Int)+(c:Int)))=kd (if c=n then 1 else 0,Bm P (A4 n 0++1::R)):=λc l=>by
  have:=Um o (by omega) (i:=P.length+c) (by omega) ((P.length:Int),(0:Int),())
  rw[J7]at this;refine this.trans ?_
  by_cases e:c=n;subst e;rw[b6b,if_pos rfl];rfl;rw[a9B P n R (by omega),if_neg e];rfl
 have h:∀c:Nat,c<=n->(((P.length:Int)+(c:Int))==(8:Int)*(((wL (P++(A4 n 0++1::R))).1.length:Nat):Int))=kc:=λc l=>by
  grind
 have j:zN .i64 ((P.length:Int)+(n:Int)+1)=(((P++(A4 n 0++[1])).length:Nat):Int):=by
  rw[Ac (by omega)];grind
 have a:P++(A4 n 0++1::R)=(P++(A4 n 0++[1]))++R:=by simp
 have x:((Bm P (A4 n 0++1::R)).1,(((P++(A4 n 0++[1])).length:Nat):Int),(Bm P (A4 n 0++1::R)).2.2)=Bm (P++(A4 n 0++[1])) R:=by
  unfold Bm;simp
 have k:(Bm P (A4 n 0++1::R)).1=(wL (P++(A4 n 0++1::R))).1:=rfl;have m:=Bo (f:=AX) (λc:Nat=>((lm:Int),(c:Int),(P.length:Int)+(c:Int),Bm P (A4 n 0++1::R),())) n (b:=((n:Int),Bm (P++(A4 n 0++[1])) R,()))
  (λc l=>by
   have d:((0:Int)==1)=kc:=rfl;have q:(((c:Nat):Int)==(lm:Int))=kc:=by grind
   have y:zN .i64 ((c:Int)+1)=((c+1:Nat):Int):=Aa (by omega);have z:zN .i64 ((P.length:Int)+(c:Int)+1)=(P.length:Int)+((c+1:Nat):Int):=by rw[Ac (by omega)];rfl
   simp only[AX,k,e8,h c (by omega),cF,g c (by omega),oB,if_neg (Nat.ne_of_lt l),d,q,y,z])
  (by
   have d:((1:Int)==1)=ka:=rfl;simp only[AX,k,e8,h n (E1 _),cF,g n (E1 _),oB,if_pos rfl,d,cT,j];grind)
 unfold BR;rw[show(Bm P (A4 n 0++1::R)).2.2.1=0 from rfl,show(Bm P (A4 n 0++1::R)).2.1=(P.length:Int)from rfl];have w:Fk (lm:Int) 0=(lm:Int):=by
  rfl
 grind
def dA(P R:List Int):Prop:=BL (P++R)/\(P++R).length<200000000
theorem dA.shift{P A R:LI}(h:dA P (A++R)):dA (P++A) R:=by unfold dA at h|-;simp_all
theorem Hz{v n:Nat}(g:n<=62)(hv:v<2^n){P R:LI}(h:dA P (pb (v:Int) n++R)):Ak (Bm P (pb (v:Int) n++R),(n:Int))=kd ((v:Int),Bm (P++pb (v:Int) n) R):=b6a g hv h.1 h.2
theorem NA{n:Nat}(f:n<=62){x:Int}(g:Xx n x){P R:LI}(h:dA P (pb (BQ x n) n++R)):AG (Bm P (pb (BQ x n) n++R),(n:Int))=kd (x,Bm (P++pb (BQ x n) n) R):=b2U f g h.1 h.2
def a2t(n:Nat):List Int:=A4 n 0++[1]
theorem a7d{n lm:Nat}(f:n<=lm)(g:lm<1000000){P R:LI}(h:dA P (a2t n++R)):BR (Bm P (a2t n++R),(lm:Int))=kd ((n:Int),Bm (P++a2t n) R):=by(have e:a2t n++R=A4 n 0++1::R:=by simp[a2t]);rw[e]at h|-;exact b2V f g h.1 h.2
theorem JH{v n:Nat}(h:n<=63)(hv:v<2^n)(L:LI):AP (v:Int) n L=L++pb (v:Int) n:=by grind[AP,EI,J3]
def OB(k:Nat)(x:Int):List Int:=if AN x / 2^k<32 then a2t (AN x / 2^k)++pb ((AN x%2^k:Nat):Int) k else a2t 32++pb ((AN x:Nat):Int) 32
theorem b2W{k:Nat}(f:k<=25){x:Int}(g:Aq x=ka)(L:LI):QM k x L=L++OB k x:=by have h:=QK g;unfold QM OB;split;rw[JH (by omega) (F2 _ (D4 k))];simp[a0s,a2t];grind[JH,a0s,a2t]
theorem fG{x:Int}(f:Aq x=ka):GP (AN x:Int)=kd x:=by
 have b:=QK f;have d:=EG.1 f;have c:C7 (AN x:Int) 2=(AN x:Int)%2:=D2 (by omega);have a:E6 (AN x:Int) 2=(AN x:Int) / 2:=D3 (by omega);have k:A3 ((AN x:Int)>=2147483648)=kc:=by grind
 unfold GP;simp only[k,cF,c,a];by_cases h0:0<=x;have e:(AN x:Int)=2*x:=by unfold AN;grind
 rw[e];have h:((2*x)%2==(0:Int))=ka:=by simp
 have g:2*x / 2=x:=by omega
 simp only[h,cT,g];grind[Au,Ac];have e:(AN x:Int)=-2*x-1:=by unfold AN;grind
 rw[e];have h:((-2*x-1)%2==(0:Int))=kc:=by grind
 have g:(-2*x-1) / 2=-x-1:=by omega
 simp only[h,cF,g];grind[Au,Ac]
theorem a7e{k:Nat}(r:k<=25){x:Int}(c:Aq x=ka){P R:LI}(h:dA P (OB k x++R)):FA (Bm P (OB k x++R),(k:Int))=kd (x,(0:Int),Bm (P++OB k x) R):=by
 have m:=QK c;have b:=fG c;unfold FA Ai;unfold OB at h|-;have u:∀A B:List Int,(Bm A B).2.2.1=0:=λ_ _=>rfl;split;rename_i g;rw[if_pos g,aA]at h;have j:=a7d (n:=AN x / 2^k) (lm:=32) (by omega) (by omega) h;have l:=Hz (n:=k) (v:=AN x%2^k) (by omega) (F2 _ (D4 k)) h.shift;have i:zN .u64 ((AN x / 2^k:Nat):Int)=((AN x / 2^k:Nat):Int):=LY (by omega);have d:A3 (((AN x / 2^k:Nat):Int)<32)=ka:=by grind
 have e:A3 ((k:Int)<0)=kc:=by simp
 have f:AN x / 2^k*2^k<=AN x:=I4 _ _;have o:AO .u64 ((AN x / 2^k:Nat):Int) (k:Int)=((AN x / 2^k*2^k:Nat):Int):=LX (by omega) (by omega);have a:zN .u64 (((AN x / 2^k*2^k:Nat):Int)+((AN x%2^k:Nat):Int))=(AN x:Int):=by rw[<-J7,Nat.div_add_mod',Au (by omega)]
 grind;rename_i g;rw[if_neg g,aA]at h;have j:=a7d (n:=32) (lm:=32) (by omega) (by omega) h;have l:=Hz (n:=32) (v:=AN x) (by omega) (by omega) h.shift;have i:zN .u64 (32:Int)=32:=Au (by omega);have d:A3 ((32:Int)<32)=kc:=by simp
 have e:A3 ((k:Int)<0)=kc:=by simp
 have q:A3 ((AN x:Int)>=2147483648)=kc:=by grind
 have p:AR .u64 (AN x:Int) (k:Int)=((AN x / 2^k:Nat):Int):=EI (by omega);grind
def HX(k:Nat)(l:List Int):List Int:=l.flatMap (OB k)
theorem qQ{k:Nat}(g:k<=25):∀(l L:LI),l.all Aq=ka->LH k l L=L++HX k l|[],L,_=>by simp[LH,HX]|x::l,L,h=>by simp only[C0,HC]at h;show LH k l (QM k x L)=_;rw[qQ g l _ h.2,b2W g h.1];simp[HX]
theorem XZ{k:Nat}(f:k<=25){N:Nat}(b:N<1000000):∀(l g P R:LI),l.all Aq=ka->g.length+l.length=N->dA P (HX k l++R)->Al BC ((k:Int),(N:Int),(g.length:Int),g,Bm P (HX k l++R),())=kd (B7 (g++l,Bm (P++HX k l) R,()))|[],g,P,R,_,a,_=>by(have:g.length=N:=by omega);(subst this;have d:A3 ((g.length:Int)<(g.length:Int))=kc:=by simp);simp_all[Ae,BC,HX]|x::l,g,P,R,h,a,hok=>by(simp only[C0,HC]at h;rw[lC]at a;have e:HX k (x::l)++R=OB k x++(HX k l++R):=by simp[HX]);(rw[e]at hok|-;have d:A3 ((g.length:Int)<(N:Int))=ka:=by grind);(have i:=a7e f h.1 hok;have c:BM (E2 g+1)=ka:=Ay (by omega);have j:zN .i64 ((g.length:Int)+1)=((g++[x]).length:Int):=by grind[Ac]);rw[Af (s':=((k:Int),(N:Int),((g++[x]).length:Int),g++[x],Bm (P++OB k x) (HX k l++R),())) (by simp_all[BC])];rw[XZ f b l (g++[x]) (P++OB k x) R h.2 (by grind) hok.shift];simp[HX]
theorem a7f{k:Nat}(a:k<=25){l P R:LI}(h:l.all Aq=ka)(b:l.length<1000000)(f:dA P (HX k l++R)):Jp (Bm P (HX k l++R),(k:Int),(l.length:Int))=kd (l,(0:Int),Bm (P++HX k l) R):=by
 have e:Cl (k:Int)=kd ka:=by grind[Cl]
 have c:A3 ((l.length:Int)<0)=kc:=by simp
 have d:A3 ((l.length:Int) > 4194304)=kc:=by grind
 have i:∀A B:List Int,(Bm A B).2.2.1=0:=λ_ _=>rfl;have g:=XZ a b l [] P R h (by simp) f;simp at g;unfold Jp Ai;grind
theorem b6c{x:Int}{v:Nat}(h:b0Q x v=ka):Xx v x:=by(have a:=D4 v;rcases a4B.1 h with rfl|⟨g,-,f,k⟩;exact⟨by omega,by omega⟩;have e:2^v=2^(v-1)*2:=by rw[<-Nat.pow_succ];simp_all);unfold Xx;omega
theorem YT{l:LI}(h:l.all Aq=ka):∀x∈l,Xx (Ap l) x:=λx g=>b6c (b5X h x g)
def sB(n:Nat)(l:List Int):List Int:=l.flatMap λx=>pb (BQ x n) n
theorem PI{n:Nat}(g:n<=62):∀(l L:LI),FH n l L=L++sB n l|[],L=>by simp[FH,sB]|x::l,L=>by show FH n l (AP (BQ x n) n L)=_;obtain⟨v,f,h,-⟩:=Xe g x;rw[PI g l,f,JH (by omega) h,<-f];simp[sB]
theorem a4C(n:Nat)(x:Int)(l R:LI):sB n (x::l)++R=pb (BQ x n) n++(sB n l++R):=by simp[sB]
theorem Wo{k:Int}{n:Nat}(a:n<=62){N:Nat}(b:N<1000000):∀(l g P R:LI),(∀x∈l,Xx n x)->g.length+l.length=N->dA P (sB n l++R)->Al FB (k,(n:Int),(N:Int),(g.length:Int),g,Bm P (sB n l++R),())=kd (k,(n:Int),g++l,Bm (P++sB n l) R,())|[],g,P,R,_,f,_=>by(have:g.length=N:=by omega);(subst this;have d:A3 ((g.length:Int)<(g.length:Int))=kc:=by simp);simp_all[Ae,FB,sB]|x::l,g,P,R,h,f,hok=>by(rw[lC]at f;rw[a4C]at hok|-;have d:A3 ((g.length:Int)<(N:Int))=ka:=by grind);(have e:=NA a (h x (by simp)) hok;have c:BM (E2 g+1)=ka:=Ay (by omega);have i:zN .i64 ((g.length:Int)+1)=((g++[x]).length:Int):=by grind[Ac]);rw[Af (s':=(k,(n:Int),(N:Int),((g++[x]).length:Int),g++[x],Bm (P++pb (BQ x n) n) (sB n l++R),())) (by simp_all[FB])];rw[Wo a b l (g++[x]) _ R (λy j=>h y (by grind)) (by grind) hok.shift];simp[sB]
def RN(k:Int)(part:List Int):List Int:=if k=31 then pb 31 5++(pb ((Ap part:Nat):Int) 5++sB (Ap part) part)else pb k 5++HX k.toNat part
theorem b2X{k:Int}(h:kB k=ka){part:LI}(g:part.all Aq=ka)(L:LI):SU k part L=L++RN k part:=by have f:=GH g;simp[kB]at h;obtain⟨K,rfl⟩:=A6 (show 0<=k by omega);grind[SU,RN,LY,JH,PI,qQ]
theorem a4D{k:Int}(o:kB k=ka){part:LI}(c:part.all Aq=ka)(b:part.length<1000000){P R:LI}(h:dA P (RN k part++R)):Dm (Bm P (RN k part++R),((part.length:Nat):Int))=kd (k,part,(0:Int),Bm (P++RN k part) R):=by
 have p:=GH c;have e:∀A B:List Int,(Bm A B).2.2.1=0:=λ_ _=>rfl;simp[kB]at o;obtain⟨K,rfl⟩:=A6 (show 0<=k by omega);unfold Dm Ai;unfold RN at h|-;split;rename_i f;rw[if_pos f,aA,aA]at h;rw[aA,aA];obtain rfl:K=31:=by omega
 have d:Ak (Bm P (pb 31 5++(pb ((Ap part:Nat):Int) 5++(sB (Ap part) part++R))),(5:Int))=_:=Hz (v:=31) (n:=5) (by omega) (by omega) h;have g:=h.shift;have l:Ak (Bm (P++pb 31 5) (pb ((Ap part:Nat):Int) 5++(sB (Ap part) part++R)),(5:Int))=_:=Hz (v:=Ap part) (n:=5) (by omega) (by omega) g;have a:=Wo (k:=31) (n:=Ap part) (by omega) b part [] _ R (YT c) (by simp) g.shift;simp only[C1,nZ,B3,D1]at a;have i:zN .i64 ((31:Nat):Int)=31:=by rfl
 have q:zN .i64 ((Ap part:Nat):Int)=((Ap part:Nat):Int):=Ac (by omega);have j:A3 ((31:Int)<=25)=kc:=by rfl
 have r:((31:Int) != 31)=kc:=by rfl
 rw[d];simp only[oB,e,bN,cF,i,j];erw[l];simp only[oB,q];erw[a];simp only[oB,e,bN,cF,BU (show short part from b)];simp;rename_i f;rw[if_neg f,aA]at h;rw[aA];have m:K<=25:=by omega
 have d:Ak (Bm P (pb (K:Int) 5++(HX ((K:Int).toNat) part++R)),(5:Int))=_:=Hz (v:=K) (n:=5) (by omega) (by omega) h;have u:=a7f m c b h.shift;have i:zN .i64 (K:Int)=(K:Int):=Ac (by omega);simp_all
def DQ:List Nat->List Int->List Int->List Int|z::zs,k::ks,l=>RN k (l.take z)++DQ zs ks (l.drop z)|_,_,_=>[]
theorem a2u{l:LI}(h:l.all Aq=ka)(z:Nat):(l.take z).all Aq=ka:=lA.2 λx g=>lA.1 h x (D7 g)
theorem a2v{l:LI}(h:l.all Aq=ka)(z:Nat):(l.drop z).all Aq=ka:=lA.2 λx g=>lA.1 h x (D8 g)
theorem qR:∀(g:List Nat)(h l L:LI),h.all kB=ka->l.all Aq=ka->Ku g h l L=L++DQ g h l|z::g,k::h,l,L,f,a=>by simp only[C0,HC]at f;simp only[Ku,DQ];rw[qR g h _ _ f.2 (a2v a z),b2X f.1 (a2u a z)];simp|[],_,_,L,_,_=>by simp[Ku,DQ]|_::_,[],_,L,_,_=>by simp[Ku,DQ]
theorem a2w(h:List Nat)(z:Nat)(g:List Nat):(Cq (h++z::g)).getD h.length 0=(z:Int):=by simp_all[Cq]
theorem Wp{o:Int}{z0:YN}:∀(g:List Nat)(f l a acc P R:LI)(h:List Nat),f.length=g.length->f.all kB=ka->g.sum=l.length->l.all Aq=ka->a.length=h.length->(h++g).length<=256->acc.length+l.length<=10000->dA P (DQ g f l++R)->Al CA (((Cq (h++g)).length:Int),(h.length:Int),acc,Cq (h++g),Bm P (DQ g f l++R),z0,(o,a,()),()) =kd (B7 (acc++l,z0,(o,a++f,()),Bm (P++DQ g f l) R,()))|[],f,l,a,acc,P,R,h,m,_,v,_,_,_,_,_=>by(obtain rfl:f=[]:=E3.1 m;obtain rfl:l=[]:=E3.1 (by simp_all);have d:A3 ((h.length:Int)<((Cq (h++[])).length:Int))=kc:=by simp[Cu]);rw[Ae (b:=B7 (acc,z0,(o,a,()),Bm P R,())) (by simp only[CA,d,cF];rfl)];simp[DQ]|z::g,[],_,_,_,_,_,_,m,_,_,_,_,_,_,_=>by simp_all|z::g,k::f,l,a,acc,P,R,h,m,hkb,v,w,A,h256,hacc,hok=>by(simp only[C0,HC]at hkb;rw[List.sum_cons]at v;have B:z<=l.length:=by omega);(have p:(l.take z).length=z:=by simp_all);(have e:DQ (z::g) (k::f) l++R=RN k (l.take z)++(DQ g f (l.drop z)++R):=by simp[DQ]);(rw[e]at hok|-;have u:(Cq (h++z::g)).length=h.length+1+g.length:=by grind[Cu]);(have d:A3 ((h.length:Int)<((Cq (h++z::g)).length:Int))=ka:=by grind);(have x:A3 ((0:Int)<=(h.length:Int))=ka:=by simp);(have c:=a4D hkb.1 (a2u w z) (by omega) hok;rw[p]at c;have r:((0:Int) != 0)=kc:=rfl;rw[lN,lC]at h256;have i:BM (E2 a+1)=ka:=Ay (by omega);have j:BM (E2 acc+E2 (l.take z))=ka:=Ay (by omega);have q:zN .i64 ((h.length:Int)+1)=(((h++[z]).length:Nat):Int):=by grind[Ac]);(have y:h++z::g=(h++[z])++g:=by simp);rw[Af (s':=(((Cq ((h++[z])++g)).length:Int),(((h++[z]).length:Nat):Int),acc++l.take z,Cq ((h++[z])++g),Bm (P++RN k (l.take z)) (DQ g f (l.drop z)++R),z0,(o,a++[k],()),())) (by simp only[CA,d,x,A8,cT,tN,a2w,c,oB,r,cF,i,j,q,B6];simp)];rw[Wp g f (l.drop z) (a++[k]) (acc++l.take z) _ R (h++[z]) (by grind) hkb.2 (by grind) (a2v w z) (by grind) (by grind) (by grind) hok.shift];simp[DQ]
def EJ(p:YN)(zn:List Nat)(l:List Int):List Int:=pb p.1 4++DQ zn p.2.1 l
theorem a1t{p:YN}{n sF:Int}{l:LI}{g:List Nat}(h:sS p n sF l g)(L:LI):Fo p g l L=L++EJ p g l:=by obtain⟨o,k,u⟩:=p;have f:=h.order;simp only at f;obtain⟨O,rfl⟩:=A6 f.1;unfold Fo EJ;simp only;rw[LY (by omega),JH (n:=4) (by omega) (by omega),qR _ _ _ _ h.all h.wide];simp
theorem a4E{p:YN}{n sF:Int}{l:LI}{k:List Nat}(h:sS p n sF l k){P R:LI}(g:dA P (EJ p k l++R)):Jq (Bm P (EJ p k l++R),n,sF)=kd (p,l,(0:Int),Bm (P++EJ p k l) R):=by(obtain⟨o,i,u⟩:=p;have d:=h.order;have r:=h.short;have c:=h.len;simp only at d;obtain⟨O,rfl⟩:=A6 d.1;have m:∀A B:List Int,(Bm A B).2.2.1=0:=λ_ _=>rfl;have f:=h.may;unfold MY at f;simp only[HC,G4,beq_eq_false_iff_ne]at f;have e:=h.sizes;simp only at e;have b:(((Cq k).length:Int)==0)=kc:=by grind);unfold EJ at g|-;simp only at g|-;rw[aA]at g|-;have j:Ak (Bm P (pb (O:Int) 4++(DQ k i l++R)),(4:Int))=_:=Hz (v:=O) (n:=4) (by omega) (by omega) g;have q:zN .i64 (O:Int)=(O:Int):=Ac (by omega);have a:=Wp (o:=(O:Int)) (z0:=((0:Int),([]:List Int),())) k i l [] [] _ R [] h.ks h.all h.sum h.wide rfl (by simp_all) (by grind) g.shift;simp only[C1,nZ,B3,D1]at a;unfold Jq Ai;simp[Pv,h.row];rw[j];simp[m,q,JF,e,b];simp_all
def LJ(s:CP):List Int:=pb ((s.2.2.2.2.2.1.length-1:Nat):Int) 5++(pb s.2.2.2.1 4++(pb ((Ap s.2.2.2.2.2.1:Nat):Int) 5++sB (Ap s.2.2.2.2.2.1) s.2.2.2.2.2.1))
theorem fH{c:LI}{t:Int}(h:UT c t=ka):1<=c.length/\c.length<=32/\0<=t/\t<=15/\c.all Aq=ka:=by simp only[UT,HC,dT]at h;obtain⟨g,f,k,a,b⟩:=h;refine⟨g,f,k,a,lA.2 λx d=>?_⟩;have:=lA.1 b x d;simp[iA]at this;rw[EG];omega
theorem qS{s:CP}(h:UT s.2.2.2.2.2.1 s.2.2.2.1=ka)(L:LI):MZ s L=L++LJ s:=by obtain⟨a,b,g,d,f⟩:=fH h;have k:=GH f;unfold MZ LJ;generalize s.2.2.2.2.2.1=c at *;generalize s.2.2.2.1=t at *;obtain⟨T,rfl⟩:=A6 g;grind[Ac,Au,PI,JH]
def Un(s:CP)(c:List Int):CP:=(s.1,s.2.1,s.2.2.1,s.2.2.2.1,s.2.2.2.2.1,c,s.2.2.2.2.2.2)
def fI(s:CP)(t:Int):CP:=(s.1,s.2.1,s.2.2.1,t,s.2.2.2.2)
theorem qT{n:Nat}(k:n<=62){N:Nat}(a:N<1000000)(s:CP):∀(l g P R:LI),(∀x∈l,Xx n x)->g.length+l.length=N->dA P (sB n l++R)->Al DD ((n:Int),(N:Int),(g.length:Int),Bm P (sB n l++R),Un s g,())=kd ((n:Int),Un s (g++l),Bm (P++sB n l) R,())|[],g,P,R,_,f,_=>by(have:g.length=N:=by omega);(subst this;have d:A3 ((g.length:Int)<(g.length:Int))=kc:=by simp);simp_all[Ae,DD,sB]|x::l,g,P,R,h,f,hok=>by(rw[lC]at f;rw[a4C]at hok|-;have d:A3 ((g.length:Int)<(N:Int))=ka:=by grind);(have c:=NA k (h x (by simp)) hok;have b:BM (E2 g+1)=ka:=Ay (by omega);have e:zN .i64 ((g.length:Int)+1)=((g++[x]).length:Int):=by grind[Ac]);rw[Af (s':=((n:Int),(N:Int),((g++[x]).length:Int),Bm (P++pb (BQ x n) n) (sB n l++R),Un s (g++[x]),())) (by simp_all[DD,Un])];rw[qT k a s l (g++[x]) _ R (λy i=>h y (by grind)) (by grind) hok.shift];simp[sB]
theorem iJ{s s0:CP}(h:UT s.2.2.2.2.2.1 s.2.2.2.1=ka)(u:s0.2.2.2.2.2.1=[]){P R:LI}(g:dA P (LJ s++R)):Hr (Bm P (LJ s++R),s0)=kd (ka,Bm (P++LJ s) R,Un (fI s0 s.2.2.2.1) s.2.2.2.2.2.1):=by(obtain⟨w,x,l,y,d⟩:=fH h;have m:=GH d;unfold LJ at g|-;generalize s.2.2.2.2.2.1=c at *;generalize s.2.2.2.1=t at *;obtain⟨T,rfl⟩:=A6 l;simp at g|-;have e:Ak (Bm P (pb ((c.length-1:Nat):Int) 5++(pb (T:Int) 4++(pb (Ap c:Int) 5++(sB (Ap c) c++R)))),(5:Int))=_:=Hz (v:=c.length-1) (n:=5) (by omega) (by omega) g;have f:=g.shift;have i:Ak (Bm (P++pb ((c.length-1:Nat):Int) 5) (pb (T:Int) 4++(pb (Ap c:Int) 5++(sB (Ap c) c++R))),(4:Int))=_:=Hz (v:=T) (n:=4) (by omega) (by omega) f;have k:=f.shift;have j:Ak (Bm (P++pb ((c.length-1:Nat):Int) 5++pb (T:Int) 4) (pb (Ap c:Int) 5++(sB (Ap c) c++R)),(5:Int))=_:=Hz (v:=Ap c) (n:=5) (by omega) (by omega) k;have a:=qT (n:=Ap c) (by omega) (N:=c.length) (by omega) (fI s0 (T:Int)) c [] _ R (YT d) (by simp) k.shift;simp only[C1,nZ,B3,D1]at a;have o:zN .i64 ((c.length-1:Nat):Int)=((c.length-1:Nat):Int):=Ac (by omega);have p:zN .i64 (((c.length-1:Nat):Int)+1)=(c.length:Int):=by grind[Ac]);(have q:zN .i64 (T:Int)=(T:Int):=Ac (by omega);have r:zN .i64 (Ap c:Int)=(Ap c:Int):=Ac (by omega);have b:((s0.1,s0.2.1,s0.2.2.1,(T:Int),s0.2.2.2.2):CP)=Un (fI s0 (T:Int)) []:=by grind[Un,fI]);unfold Hr;rw[e];simp;rw[i];simp only[oB];rw[j];simp only[oB,o,p,q,r];erw[b,a];simp only[oB];rw[show(Un (fI s0 (T:Int)) c).2.2.2.2.2.1=c from rfl,BU (show short c by unfold short;omega)];simp
def So(st:List UY):List Int:=st.flatMap λg=>pb (g.1-1) 5++pb g.2.1 4
theorem iK{g:UY}(h:Ab.tJ g=ka):1<=g.1/\g.1<=32/\0<=g.2.1/\g.2.1<=8:=by simp_all[Ab.tJ]
theorem iL:∀(st:List UY)(L:LI),st.all Ab.tJ=ka->Jb st L=L++So st|[],L,_=>by simp[Jb,So]|g::st,L,h=>by simp only[C0,HC]at h;obtain⟨k,c,f,d⟩:=iK h.1;show Jb st (QP g L)=_;rw[iL st _ h.2];obtain⟨a,b,u⟩:=g;simp only at k c f d;obtain⟨B,rfl⟩:=A6 f;obtain⟨A,e⟩:=A6 (show 0<=a-1 by omega);grind[QP,SR,LY,JH,So]
def Il(s:CP):List Int:=
 if s.1=2 then pb s.2.2.1 3
 else if s.1=3 then LJ s
 else if s.1=4 then pb (s.2.2.2.2.1-1) 10++(sB 8 s.2.2.2.2.2.2.1++LJ s)
 else if s.1=5 then pb ((s.2.2.2.2.2.2.2.1.length:Nat):Int) 2++So s.2.2.2.2.2.2.2.1
 else[]
theorem a2x{s:CP}{n:Int}(h:Wg s.1 s n)(L:LI):Eb s L=L++Il s:=by unfold Eb Il;rcases h with k|k|⟨k,g,f,-⟩|⟨k,g,-⟩|⟨k,g,-,a⟩|⟨k,g,f⟩;grind;grind;rw[if_pos k,if_pos k];grind[A6,LY,JH];simp_all[qS];rw[if_neg (by omega),if_neg (by omega),if_pos k,if_neg (by omega),if_neg (by omega),if_pos k,qS g,PI (by omega)];simp only[VY,HC,dT]at a;obtain⟨A,b⟩:=A6 (show 0<=s.2.2.2.2.1-1 by omega);grind[SR,LY,JH];rw[if_neg (by omega),if_neg (by omega),if_neg (by omega),if_pos k,if_neg (by omega),if_neg (by omega),if_neg (by omega),if_pos k];simp only[Qz,HC,dT]at f;grind[iL,LY,JH]
def SY(s:CP):List Int:=pb s.1 3++(pb s.2.1 5++pb ((Ap s.2.2.2.2.2.2.2.2.1:Nat):Int) 5)
theorem b2Y{s:CP}(g:0<=s.1/\s.1<=5)(f:0<=s.2.1/\s.2.1<=30)(h:s.2.2.2.2.2.2.2.2.1.all Aq=ka)(L:LI):UK s L=L++SY s:=by grind[A6,GH,UK,SY,LY,JH]
def bare(s:CP):CP:=(s.1,s.2.1,s.2.2.1,s.2.2.2.1,s.2.2.2.2.1,s.2.2.2.2.2.1,s.2.2.2.2.2.2.1,s.2.2.2.2.2.2.2.1,[],(0,[],()),[],())
theorem iM{wd N:Nat}{ok:Bool}(p:N<1000)(k w:Int):∀(st f:List UY)(P R:LI),st.all Ab.tJ=ka->f.length+st.length=N->dA P (So st++R)->Al DU ((wd:Int),ok,(N:Int),(f.length:Int),Bm P (So st++R),(k,w,0,0,0,[],[0,0,0],f,[],(0,[],()),[],()),()) =kd ((wd:Int),ok,(k,w,0,0,0,[],[0,0,0],f++st,[],(0,[],()),[],()),Bm (P++So st) R,())|[],f,P,R,_,j,_=>by(have:f.length=N:=by omega);(subst this;have d:A3 ((f.length:Int)<(f.length:Int))=kc:=by simp);simp_all[Ae,DU,So]|g::st,f,P,R,h,j,hok=>by(simp only[C0,HC]at h;rw[lC]at j;obtain⟨l,m,i,o⟩:=iK h.1;obtain⟨a,b,u⟩:=g;simp only at l m i o;obtain⟨B,rfl⟩:=A6 i;obtain⟨A,y⟩:=A6 (show 0<=a-1 by omega);obtain rfl:a=(A:Int)+1:=by omega);(have e:So (((A:Int)+1,(B:Int),u)::st)++R=pb (A:Int) 5++(pb (B:Int) 4++(So st++R)):=by simp[So]);(rw[e]at hok|-;have d:A3 ((f.length:Int)<(N:Int))=ka:=by grind);(have r:Ak (Bm P (pb (A:Int) 5++(pb (B:Int) 4++(So st++R))),(5:Int))=_:=Hz (v:=A) (n:=5) (by omega) (by omega) hok;have c:=hok.shift;have x:Ak (Bm (P++pb (A:Int) 5) (pb (B:Int) 4++(So st++R)),(4:Int))=_:=Hz (v:=B) (n:=4) (by omega) (by omega) c;have q:BM (E2 f+1)=ka:=Ay (by omega);have C:zN .i64 (A:Int)=(A:Int):=Ac (by omega);have D:zN .i64 (B:Int)=(B:Int):=Ac (by omega);have E:zN .i64 ((A:Int)+1)=(A:Int)+1:=Ac (by omega);have z:zN .u64 ((f.length:Int)+1)=((f++[((A:Int)+1,(B:Int),u)]).length:Int):=by grind[Au]);rw[Af (s':=((wd:Int),ok,(N:Int),((f++[((A:Int)+1,(B:Int),u)]).length:Int),Bm (P++pb (A:Int) 5++pb (B:Int) 4) (So st++R),(k,w,0,0,0,[],[0,0,0],f++[((A:Int)+1,(B:Int),u)],[],(0,[],()),[],()),())) (by simp_all[DU])];rw[iM p k w st (f++[((A:Int)+1,(B:Int),u)]) _ R h.2 (by grind) c.shift];simp[So]
theorem a4F{x:Int}(h:kO x=ka):Xx 8 x:=by simp[kO]at h;unfold Xx;omega
theorem b2Z{wd:Nat}{k w g:Int}{a b c:Int}(m:kO a=ka)(hb:kO b=ka)(o:kO c=ka){P R:LI}(f:dA P (sB 8 [a,b,c]++R)):Al Ck ((wd:Int),(0:Int),Bm P (sB 8 [a,b,c]++R),(k,w,0,0,g,[],[0,0,0],[],[],(0,[],()),[],()),()) =kd ((wd:Int),Bm (P++sB 8 [a,b,c]) R,(k,w,0,0,g,[],[a,b,c],[],[],(0,[],()),[],()),()):=by
 have e:sB 8 [a,b,c]++R=pb (BQ a 8) 8++(pb (BQ b 8) 8++(pb (BQ c 8) 8++R)):=by rfl
 rw[e]at f|-;have v:AG (Bm P (pb (BQ a 8) 8++(pb (BQ b 8) 8++(pb (BQ c 8) 8++R))),(8:Int))=_:=NA (n:=8) (by omega) (a4F m) f;have h:=f.shift;have x:AG (Bm (P++pb (BQ a 8) 8) (pb (BQ b 8) 8++(pb (BQ c 8) 8++R)),(8:Int))=_:=NA (n:=8) (by omega) (a4F hb) h;have d:=h.shift;have y:AG (Bm (P++pb (BQ a 8) 8++pb (BQ b 8) 8) (pb (BQ c 8) 8++R),(8:Int))=_:=NA (n:=8) (by omega) (a4F o) d;have z:zN .i64 ((0:Int)+1)=1:=by rfl
 have A:zN .i64 ((1:Int)+1)=2:=by rfl
 have B:zN .i64 ((2:Int)+1)=3:=by rfl
 have p:A3 ((0:Int)<3)=ka:=by rfl
 have i:A3 ((0:Int)<=0)=ka:=by rfl
 have q:A3 ((1:Int)<3)=ka:=by rfl
 have j:A3 ((0:Int)<=1)=ka:=by rfl
 have r:A3 ((2:Int)<3)=ka:=by rfl
 have l:A3 ((0:Int)<=2)=ka:=by rfl
 have u:A3 ((3:Int)<3)=kc:=by rfl
 rw[Af (s':=((wd:Int),(1:Int),Bm (P++pb (BQ a 8) 8) (pb (BQ b 8) 8++(pb (BQ c 8) 8++R)),(k,w,0,0,g,[],[a,0,0],[],[],(0,[],()),[],()),())) (by simp_all[Ck])];rw[Af (s':=((wd:Int),(2:Int),Bm (P++pb (BQ a 8) 8++pb (BQ b 8) 8) (pb (BQ c 8) 8++R),(k,w,0,0,g,[],[a,b,0],[],[],(0,[],()),[],()),())) (by simp_all[Ck])];rw[Af (s':=((wd:Int),(3:Int),Bm (P++pb (BQ a 8) 8++pb (BQ b 8) 8++pb (BQ c 8) 8) R,(k,w,0,0,g,[],[a,b,c],[],[],(0,[],()),[],()),())) (by simp_all[Ck])];simp_all[Ae,Ck,sB]
theorem a9C{s:CP}{n:Int}(hs:DF s n)(ht:s.2.2.2.2.2.2.1.length=3){P R:LI}(i:dA P (SY s++(Il s++R))):Dx (Bm P (SY s++(Il s++R)))=kd (bare s,((Ap s.2.2.2.2.2.2.2.2.1:Nat):Int),ka,Bm (P++(SY s++Il s)) R):=by
 obtain⟨-,-,hf,ha,M,Q,-,-,S,-⟩:=hs;obtain⟨k,w,o,q,g,c,t,m,a,b,d,u⟩:=s;have hk:=YS hf;simp only at hk M Q S ht;have h0:=GH S;obtain⟨K,rfl⟩:=A6 hk.1;obtain⟨W,rfl⟩:=A6 M;unfold SY at i|-;simp at i|-;have g1:Ak (Bm P (pb (K:Int) 3++(pb (W:Int) 5++(pb ((Ap a:Nat):Int) 5++(Il ((K:Int),(W:Int),o,q,g,c,t,m,a,b,d,u)++R)))),(3:Int))=_:=Hz (v:=K) (n:=3) (by omega) (by omega) i;have j:=i.shift;have g2:Ak (Bm (P++pb (K:Int) 3) (pb (W:Int) 5++(pb ((Ap a:Nat):Int) 5++(Il ((K:Int),(W:Int),o,q,g,c,t,m,a,b,d,u)++R))),(5:Int))=_:=Hz (v:=W) (n:=5) (by omega) (by omega) j;have l:=j.shift;have g3:Ak (Bm (P++pb (K:Int) 3++pb (W:Int) 5) (pb ((Ap a:Nat):Int) 5++(Il ((K:Int),(W:Int),o,q,g,c,t,m,a,b,d,u)++R)),(5:Int))=_:=Hz (v:=Ap a) (n:=5) (by omega) (by omega) l;have f:=l.shift;have wK:zN .i64 (K:Int)=(K:Int):=Ac (by omega);have wW:zN .i64 (W:Int)=(W:Int):=Ac (by omega);have wd:zN .i64 ((Ap a:Nat):Int)=((Ap a:Nat):Int):=Ac (by omega);unfold Dx;rw[g1];simp only[oB];rw[g2];simp only[oB];rw[g3];simp only[oB,wK,wW,wd];generalize hX:P++pb (K:Int) 3++pb (W:Int) 5++pb ((Ap a:Nat):Int) 5=X at f|-;have L:∀B:List Int,P++(pb (K:Int) 3++(pb (W:Int) 5++(pb ((Ap a:Nat):Int) 5++B)))=X++B:=λB=>by grind
 rw[L];obtain⟨a1,F,C,D,G,E⟩:=ha;simp only at a1 F C D G E;clear g1 g2 g3 i j l hX L;rcases hf with h|h|⟨h,p,I,-⟩|⟨h,p,-⟩|⟨h,p,-,T⟩|⟨h,p,I⟩;simp only at h;obtain rfl:=a1 (by omega);obtain rfl:=F (by omega);obtain rfl:=C (by omega);obtain rfl:=D (by omega);obtain rfl:=G (by omega);obtain rfl:=E (by omega);rw[h];have hb:Il ((0:Int),(W:Int),0,0,0,[],[0,0,0],[],a,b,d,u)=[]:=rfl;rw[hb,B3,F1];rfl;simp only at h;obtain rfl:=a1 (by omega);obtain rfl:=F (by omega);obtain rfl:=C (by omega);obtain rfl:=D (by omega);obtain rfl:=G (by omega);obtain rfl:=E (by omega);rw[h];have hb:Il ((1:Int),(W:Int),0,0,0,[],[0,0,0],[],a,b,d,u)=[]:=rfl;rw[hb,B3,F1];rfl;simp only at h p I;obtain rfl:=F (by omega);obtain rfl:=C (by omega);obtain rfl:=D (by omega);obtain rfl:=G (by omega);obtain rfl:=E (by omega);rw[h]at f|-;obtain⟨O,rfl⟩:=A6 p;have hb:Il ((2:Int),(W:Int),(O:Int),0,0,[],[0,0,0],[],a,b,d,u)=pb (O:Int) 3:=rfl;rw[hb]at f|-;have e:((2:Int)==2)=ka:=rfl;have H:Ak (Bm X (pb (O:Int) 3++R),(3:Int))=_:=Hz (v:=O) (n:=3) (by omega) (by omega) f;have wO:zN .i64 (O:Int)=(O:Int):=Ac (by omega);simp only[e,cT,H,oB,wO];rfl;simp only at h p;obtain rfl:=a1 (by omega);obtain rfl:=C (by omega);obtain rfl:=D (by omega);obtain rfl:=E (by omega);rw[h]at f|-;have hb:Il ((3:Int),(W:Int),0,q,0,c,[0,0,0],[],a,b,d,u)=LJ ((3:Int),(W:Int),0,q,0,c,[0,0,0],[],a,b,d,u):=rfl;rw[hb]at f|-;have V:((3:Int)==2)=kc:=rfl;have Y:((3:Int)==4)=kc:=rfl;have Z:((3:Int)==3)=ka:=rfl;have H:=iJ (s:=((3:Int),(W:Int),0,q,0,c,[0,0,0],[],a,b,d,u)) (s0:=((3:Int),(W:Int),0,0,0,[],A4 3 0,[],[],(0,[],()),[],())) p rfl f;simp only[V,Z,Y,cT,cF,oB];erw[H];rfl;simp only at h p T;obtain rfl:=a1 (by omega);obtain rfl:=E (by omega);rw[h]at f|-;simp only[VY,HC,dT]at T;obtain⟨T,h5,U⟩:=T;obtain⟨A,hA⟩:=A6 (show 0<=g-1 by omega);obtain rfl:g=(A:Int)+1:=by omega
 obtain⟨x,y,z,rfl⟩:∃x y z,t=[x,y,z]:=by match t,ht with|[x,y,z],_=>simp
 simp at U;have hb:Il ((4:Int),(W:Int),0,q,(A:Int)+1,c,[x,y,z],[],a,b,d,u)=pb (A:Int) 10++(sB 8 [x,y,z]++LJ ((4:Int),(W:Int),0,q,(A:Int)+1,c,[x,y,z],[],a,b,d,u)):=by(show pb ((A:Int)+1-1) 10++_=_);simp
 rw[hb]at f|-;simp only[aA]at f|-;have V:((4:Int)==2)=kc:=rfl;have Y:((4:Int)==4)=ka:=rfl;have H:Ak (Bm X (pb (A:Int) 10++(sB 8 [x,y,z]++(LJ ((4:Int),(W:Int),0,q,(A:Int)+1,c,[x,y,z],[],a,b,d,u)++R))),(10:Int))=_:=Hz (v:=A) (n:=10) (by omega) (by omega) f;have r:=f.shift;have wA:zN .i64 (A:Int)=(A:Int):=Ac (by omega);have h4:zN .i64 ((A:Int)+1)=(A:Int)+1:=Ac (by omega);have g5:=b2Z (wd:=Ap a) (k:=4) (w:=(W:Int)) (g:=(A:Int)+1) U.1 U.2.1 U.2.2 r;have g6:=iJ (s:=((4:Int),(W:Int),0,q,(A:Int)+1,c,[x,y,z],[],a,b,d,u)) (s0:=((4:Int),(W:Int),0,0,(A:Int)+1,[],[x,y,z],[],[],(0,[],()),[],())) p rfl r.shift;simp_all[bare,Un,fI];simp only at h p I;obtain rfl:=a1 (by omega);obtain rfl:=F (by omega);obtain rfl:=C (by omega);obtain rfl:=D (by omega);obtain rfl:=G (by omega);rw[h]at f|-;simp only[Qz,HC,dT]at I;have hb:Il ((5:Int),(W:Int),0,0,0,[],[0,0,0],m,a,b,d,u)=pb ((m.length:Nat):Int) 2++So m:=rfl;rw[hb]at f|-;simp only[aA]at f|-;have V:((5:Int)==2)=kc:=rfl;have Y:((5:Int)==4)=kc:=rfl;have Z:((5:Int)==3)=kc:=rfl;have e5:((5:Int)==5)=ka:=rfl;have H:Ak (Bm X (pb ((m.length:Nat):Int) 2++(So m++R)),(2:Int))=_:=Hz (v:=m.length) (n:=2) (by omega) (by omega) f;have g5:=iM (wd:=Ap a) (ok:=ka) (N:=m.length) (by omega) (5:Int) (W:Int) m [] _ R I.2 (by simp) f.shift;simp_all[bare]
def GU(s:CP)(zn:List Nat):List Int:=(SY s++Il s)++(sB (Ap s.2.2.2.2.2.2.2.2.1) s.2.2.2.2.2.2.2.2.1++if s.1=0\/s.1=1 then[]else EJ s.2.2.2.2.2.2.2.2.2.1 zn s.2.2.2.2.2.2.2.2.2.2.1)
theorem RO{s:CP}{n:Int}(c:DF s n){g:List Nat}(e:s.1≠0/\s.1≠1->sS s.2.2.2.2.2.2.2.2.2.1 n (s.2.2.2.2.2.2.2.2.1.length:Int) s.2.2.2.2.2.2.2.2.2.2.1 g)(L:LI):GG s g L=L++GU s g:=by obtain⟨-,-,h,-,a,b,-,-,k,-⟩:=c;have d:=GH k;have f:=b2Y (YS h) ⟨a,b⟩ k L;unfold GG GU;by_cases hk:s.1=0\/s.1=1;rw[if_pos hk,if_pos hk,PI (by omega),a2x h,f];simp;rw[if_neg hk,if_neg hk,a1t (e (not_or.1 hk)),PI (by omega),a2x h,f];simp
def Dr(s:CP)(l:List Int):CP:=(s.1,s.2.1,s.2.2.1,s.2.2.2.1,s.2.2.2.2.1,s.2.2.2.2.2.1,s.2.2.2.2.2.2.1,s.2.2.2.2.2.2.2.1,l,s.2.2.2.2.2.2.2.2.2)
theorem a2y{wd:Nat}(k:wd<=62){N:Nat}(a:N<1000000)(n:Int)(ok:Bool)(z s:CP):∀(l g P R:LI),(∀x∈l,Xx wd x)->g.length+l.length=N->dA P (sB wd l++R)->Al HL (n,(wd:Int),ok,(N:Int),(g.length:Int),Bm P (sB wd l++R),z,Dr s g,())=kd (n,(wd:Int),ok,Bm (P++sB wd l) R,z,Dr s (g++l),())|[],g,P,R,_,f,_=>by(have:g.length=N:=by omega);(subst this;have d:A3 ((g.length:Int)<(g.length:Int))=kc:=by simp);simp_all[Ae,HL,sB]|x::l,g,P,R,h,f,hok=>by(rw[lC]at f;rw[a4C]at hok|-;have d:A3 ((g.length:Int)<(N:Int))=ka:=by grind);(have c:=NA k (h x (by simp)) hok;have b:BM (E2 g+1)=ka:=Ay (by omega);have e:zN .i64 ((g.length:Int)+1)=((g++[x]).length:Int):=by grind[Ac]);rw[Af (s':=(n,(wd:Int),ok,(N:Int),((g++[x]).length:Int),Bm (P++pb (BQ x wd) wd) (sB wd l++R),z,Dr s (g++[x]),())) (by simp_all[HL,Dr])];rw[a2y k a n ok z s l (g++[x]) _ R (λy i=>h y (by grind)) (by grind) hok.shift];simp[sB]
theorem a9D{s:CP}(h:sM s):sM (bare s) where
 uJ:=h.uJ
 taps:=h.taps
 stages:=h.stages
 sF:=by show([]:List Int).length<=5000;simp
 rest:=by show([]:List Int).length<=5000;simp
 ks:=by show([]:List Int).length<=_;simp
theorem b8A{s:CP}(h:sM s){n:Int}(K:(FY s n).isSome=ka){v:List Nat}(V:s.1≠0/\s.1≠1->sS s.2.2.2.2.2.2.2.2.2.1 n ((s.2.2.2.2.2.2.2.2.1.length:Nat):Int) s.2.2.2.2.2.2.2.2.2.2.1 v) {P R:LI}(e:dA P (GU s v++R)):LP (Bm P (GU s v++R),n)=kd (s,(0:Int),Bm (P++GU s v) R):=by
 have L:=RM K;have d:=@a9C s n L h.taps P;have y:=L;obtain⟨Y,Z,Q,-,-,-,-,U,r,-,x,-⟩:=y;have T:=GH r;have C:=h.sF;have M:A3 (n<1)=kc:=by simp_all
 have O:A3 (n > 4096)=kc:=by simp_all
 have j:∀A B:List Int,(Bm A B).2.2.1=0:=λ_ _=>rfl;have l:PG ((bare s).1,bare s,n)=kd ka:=by rw[qD (a9D h)];unfold a6O;have:Wg (bare s).1 (bare s) n:=Q;simp_all
 have i:JT (bare s,n)=kd ((s.2.2.2.2.2.2.2.2.1.length:Nat):Int):=by rw[fB];have:Cp (bare s) n=Cp s n:=rfl;simp_all
 have p:=Ue h n;rw[K]at p;have f:Cg s.2.2.2.2.2.2.2.2.1=kd ((Ap s.2.2.2.2.2.2.2.2.1:Nat):Int):=BU (by unfold short;omega);unfold LP Ai;unfold GU at e|-;simp only[aA]at e|-;have a:dA (P++(SY s++Il s)) (sB (Ap s.2.2.2.2.2.2.2.2.1) s.2.2.2.2.2.2.2.2.1++((if s.1=0\/s.1=1 then[]else EJ s.2.2.2.2.2.2.2.2.2.1 v s.2.2.2.2.2.2.2.2.2.2.1)++R)):=dA.shift (by simp_all);have H:=λ(X:Bool) (z:CP)=>a2y (wd:=Ap s.2.2.2.2.2.2.2.2.1) (by omega) (N:=s.2.2.2.2.2.2.2.2.1.length) (by omega) n X z (bare s) s.2.2.2.2.2.2.2.2.1 [] _ _ (YT r) (by simp) a;simp only[C1,nZ,B3,D1]at H;simp only[M,O,cF,j,bN,oB];rw[d e];simp only[j,bN,cF,oB,l,bT,i];rw[show((bare s:CP))=Dr (bare s) []from rfl];erw[H];simp only[oB,j,bN,cF];rw[show(Dr (bare s) s.2.2.2.2.2.2.2.2.1).1=s.1 from rfl,Kj];simp only[oB];by_cases hk:s.1=0\/s.1=1;have I:A3 (s.1≠0/\s.1≠1)=kc:=by grind
 have q:Dr (bare s) s.2.2.2.2.2.2.2.2.1=s:=by obtain⟨E,F,G⟩:=x hk;obtain⟨k,w,o,sh,g,c,t,st,wm,⟨p1,p2,u1⟩,re,u⟩:=s;simp only at E F G;subst E F G;rfl
 grind;have I:A3 (s.1≠0/\s.1≠1)=ka:=by simp_all
 have S:=V (not_or.1 hk);have b:=a.shift;rw[if_neg hk]at b;have m:=a4E S b;simp only[I,cT,if_neg hk];rw[show(Dr (bare s) s.2.2.2.2.2.2.2.2.1).2.2.2.2.2.2.2.2.1=s.2.2.2.2.2.2.2.2.1 from rfl];erw[m];have D:((0:Int) != 0)=kc:=rfl;simp only[oB,D,cF,bT,f,bN];have q:((Dr (bare s) s.2.2.2.2.2.2.2.2.1).1,(Dr (bare s) s.2.2.2.2.2.2.2.2.1).2.1,(Dr (bare s) s.2.2.2.2.2.2.2.2.1).2.2.1,(Dr (bare s) s.2.2.2.2.2.2.2.2.1).2.2.2.1,(Dr (bare s) s.2.2.2.2.2.2.2.2.1).2.2.2.2.1,(Dr (bare s) s.2.2.2.2.2.2.2.2.1).2.2.2.2.2.1,(Dr (bare s) s.2.2.2.2.2.2.2.2.1).2.2.2.2.2.2.1,(Dr (bare s) s.2.2.2.2.2.2.2.2.1).2.2.2.2.2.2.2.1,s.2.2.2.2.2.2.2.2.1,s.2.2.2.2.2.2.2.2.2.1,s.2.2.2.2.2.2.2.2.2.2.1,(Dr (bare s) s.2.2.2.2.2.2.2.2.1).2.2.2.2.2.2.2.2.2.2.2)=s:=rfl;grind
theorem c6j(y:Int):bits .u64 .and y 1=y%2:=by(have h:((A9 64 y) &&& (A9 64 1)).toNat=(y%18446744073709551616).toNat%2:=by simp);show zN .u64 (((A9 64 y) &&& (A9 64 1)).toNat:Int)=_;grind[Au]
theorem Fe(v:Int):∀n,BL (pb v n)|0=>(λb hb=>by cases hb)|n+1=>λb hb=>by rcases mC.1 hb with rfl|hb;grind[HF,c6j,GR];exact Fe v n b hb
theorem b0R(n:Nat):BL (a2t n):=λb hb=>by rcases mA.1 hb with hb|hb;all_goals simp_all
theorem Xf{α:Type}{f:α->List Int}{l:List α}(h:∀x,BL (f x)):BL (l.flatMap f):=λb hb=>by obtain⟨x,-,g⟩:=J4.1 hb;exact h x b g
theorem b3a(k:Nat)(x:Int):BL (OB k x):=by unfold OB;split;exact(b0R _).app (Fe _ _);exact(b0R _).app (Fe _ _)
theorem lW(n:Nat)(l:LI):BL (sB n l):=Xf λ_=>Fe _ _
theorem b3b(k:Int)(l:LI):BL (RN k l):=by unfold RN;split;exact(Fe _ _).app ((Fe _ _).app (lW _ _));exact(Fe _ _).app (Xf λ_=>b3a _ _)
theorem cE:BL []:=λb hb=>by grind
theorem qU:∀(g:List Nat)(h l:LI),BL (DQ g h l)|z::g,k::h,l=>by simp only[DQ];exact(b3b _ _).app (qU g h _)|[],_,_=>by simp_all[DQ,cE]|_::_,[],_=>by simp_all[DQ,cE]
theorem qV(s:CP):BL (LJ s):=(Fe _ _).app ((Fe _ _).app ((Fe _ _).app (lW _ _)))
theorem b3c(s:CP):BL (Il s):=by unfold Il;split;exact Fe _ _;split;exact qV s;split;exact(Fe _ _).app ((lW _ _).app (qV s));split;exact(Fe _ _).app (Xf λ_=>(Fe _ _).app (Fe _ _));exact cE
theorem b6d(s:CP)(h:List Nat):BL (GU s h):=by refine(((Fe _ _).app ((Fe _ _).app (Fe _ _))).app (b3c s)).app ((lW _ _).app ?_);split;exact cE;exact(Fe _ _).app (qU _ _ _)
theorem b6e{s:CP}(h:sM s){n:Int}(k:(FY s n).isSome=ka){L:LI}(j:L.length<50000000):∃g,PH (wL L,s,n)=kd (0,wL (L++GU s g))/\LD (s,n)=kd ((GU s g).length:Int)/\(GU s g).length<=700000/\(s.1≠0/\s.1≠1->sS s.2.2.2.2.2.2.2.2.2.1 n (s.2.2.2.2.2.2.2.2.1.length:Int) s.2.2.2.2.2.2.2.2.2.2.1 g):=by obtain⟨e,i,a,-,c,d,-⟩:=qL h (n:=n) (L:=L) (by omega);obtain⟨rfl,g,rfl,f⟩:=d k;have b:=RM k;rw[RO b f]at a c;refine⟨g,a,?_,by simp_all,f⟩;rw[b8w h];unfold a6Z;rw[if_pos k,<-b0N f,RO b f];simp
theorem c1p{L:LI}(g:L.length<1000000000):Nt (wL L).1=kd (Bm [] L):=by obtain⟨-,h⟩:=EZ L;unfold Nt;rw[Ay (by omega)];rfl
theorem b6f{L:LI}(h:L.length<1000000000):Hb (wL L)=kd ((wL L).1,wL L):=by grind[EZ,Hb,Ay]
def Be(n:Nat):List Int:=if h:n<128 then[(n:Int)]else((n%128+128:Nat):Int)::Be (n / 128)
termination_by n
decreasing_by omega
theorem Pw{n:Nat}(h:n<128):Be n=[(n:Int)]:=by rw[Be,dif_pos h]
theorem RP{n:Nat}(h:¬ n<128):Be n=((n%128+128:Nat):Int)::Be (n / 128):=by rw[Be,dif_neg h]
theorem cH:∀(k n:Nat),n<128^(k+1)->1<=(Be n).length/\(Be n).length<=k+1|0,n,h=>by simp_all[Pw]|k+1,n,h=>by by_cases hn:n<128;rw[Pw hn];simp;rw[RP hn];have:=cH k (n / 128) (by omega);simp_all
theorem YU:∀(k n:Nat),n<128^(k+1)->∀b∈Be n,0<=b/\b<256|0,n,h,b,hb=>by grind[Pw]|k+1,n,h,b,hb=>by by_cases hn:n<128;grind[Pw];rw[RP hn]at hb;rcases mC.1 hb with rfl|hb;omega;exact YU k (n / 128) (by omega) b hb
theorem b0S:∀(k n:Nat)(a:LI)(b c:Int)(out:LI),n<128^(k+1)->k<=8->out.length+k<1000000->∃r g,Al MB ((n:Int),a,b,c,out,())=kd (((r:Nat):Int),a,b,c,out++g,())/\Be n=g++[(r:Int)]/\r<128|k,n,a,b,c,out,h,p,q=>by by_cases hn:n<128;refine⟨n,[],?_,by rw[Pw hn];rfl,hn⟩;rw[Ae (b:=((n:Int),a,b,c,out,())) (by(have d:A3 ((n:Int)>=128)=kc:=by grind);simp only[MB,d,cF])];simp;cases k with|zero=>omega|succ k=>(have m:n / 128<128^(k+1):=by omega);(have f:n<18446744073709551616:=by have:128^(k+1+1)<=128^9:=C2 (by omega) (by omega);omega);(obtain⟨r,g,o,j,l⟩:=b0S k (n / 128) a b c (out++[((n%128+128:Nat):Int)]) m (by omega) (by grind);refine⟨r,((n%128+128:Nat):Int)::g,?_,by rw[RP hn,j];rfl,l⟩;have d:A3 ((n:Int)>=128)=ka:=by grind);(have e:zN .u64 (E6 (n:Int) 128)=((n / 128:Nat):Int):=by rw[show E6 (n:Int) 128=((n / 128:Nat):Int)from rfl];exact Au (by omega));(have i:zN .u8 (zN .u8 (C7 (n:Int) 128)+128)=((n%128+128:Nat):Int):=by rw[show C7 (n:Int) 128=((n%128:Nat):Int)from rfl,GR,GR];omega);rw[Af (s':=(((n / 128:Nat):Int),a,b,c,out++[((n%128+128:Nat):Int)],())) (by simp only[MB,d,cT,Ay (show out.length+1<2147483648 by omega),e,i,B6])];simp_all
theorem QQ{α β γ:Type}(f:α->List γ):∀(l:List α)(a:List γ),Ni (β:=β) (λa x=>.inl (a++f x)) l a=.inl (a++l.flatMap f)|[],a=>by simp[Ni]|x::l,a=>by simp only[Ni];rw[QQ f l];simp
def RQ(ns:List Nat):List Int:=ns.map λn:Nat=>(n:Int)
theorem cI{ns:List Nat}(h:∀n∈ns,n<9223372036854775808)(y:ns.length<=1000):Ow (RQ ns)=kd (ns.flatMap Be):=by
 have m:(RQ ns).length=ns.length:=by simp[RQ]
 have:=Cm (f:=MC) (RQ ns) (λi (a:LI)=>(RQ ns,((RQ ns).length:Int),(i:Int),a,())) (λa x=>.inl (a++Be x.toNat)) (λi a=>a.length<=10*i) (λa=>(a,()))
  (λi l a u=>⟨λv g=>by
   have c:i<ns.length:=by omega
   have p:(RQ ns)[i]=((ns[i]:Nat):Int):=by simp[RQ]
   have hb:=h ns[i] (B4 c);have k:ns[i]<128^(8+1):=by omega
   obtain⟨r,d,q,j,w⟩:=b0S 8 ns[i] (RQ ns) ((RQ ns).length:Int) (i:Int) a k (E1 _) (by omega);have o:=cH 8 ns[i] k;rw[j]at o;simp only[lN,lC,C1]at o;simp[p,j]at g;subst g;have e:zN .u8 (r:Int)=(r:Int):=by rw[GR];omega
   refine⟨?_,by grind⟩;simp only[MC,Cn l,cT,Ad l,p,oB,q,Ay (show(a++d).length+1<2147483648 by grind),Aa (show i<1000000 by omega),e,B6,aA],λb hb=>by grind⟩)
  (λa u=>by simp_all[MC]) (a:=[]) (by simp)
 simp_all[Ow,QQ,kM,RQ,List.flatMap_map]
theorem c6k{a b k:Nat}(f:a<2^k)(c:b*2^k+a<18446744073709551616):bits .u64 .or (a:Int) ((b*2^k:Nat):Int)=((a+b*2^k:Nat):Int):=by
 show zN .u64 ((A9 64 (a:Int) ||| A9 64 ((b*2^k:Nat):Int)).toNat:Int)=_;have g:(A9 64 (a:Int)).toNat=a:=by grind
 have h:(A9 64 ((b*2^k:Nat):Int)).toNat=b*2^k:=by grind[F9]
 grind[E8,G7,Au]
theorem iN{zO:LI}:∀(j m i acc:Nat)(P:LI),m<128^(j+1)->P.length=i->(i=0\/1<=m)->acc<2^(7*i)->m*2^(7*i)+acc<9223372036854775808->(P++(Be m++zO)).length<1000000000->Al Ca ((acc:Int),P++(Be m++zO),((P++(Be m++zO)).length:Nat),(i:Int),())=kd (.inr (((acc+m*2^(7*i):Nat):Int),((i+(Be m).length:Nat):Int),(0:Int),()))|j,m,i,acc,P,I,q,y,r,K,b=>by(have x:i<=8:=by rcases y with o|h1;omega;apply Classical.byContradiction;intro H;have F:2^(7*9)<=2^(7*i):=C2 (by omega) (by omega);have G:2^(7*i)<=m*2^(7*i):=Nat.le_mul_of_pos_left _ (by omega);omega);(have A:zN .i64 ((7:Int)*(i:Int))=((7*i:Nat):Int):=by grind[Ac]);(have C:A3 ((((7*i:Nat):Int))<0)=kc:=by rfl);(have B:zN .i64 ((i:Int)+1)=((i+1:Nat):Int):=Aa (by omega);have E:∀c:Nat,c<256->(i=9->False):=λ_ _ h=>by omega);(have p:((i:Int)==9)=kc:=by grind);(have g:∀(c:Nat)(l:LI),c<256->Be m=(c:Int)::l->(i=0\/c≠0)->Ca ((acc:Int),P++(Be m++zO),((P++(Be m++zO)).length:Nat),(i:Int),()) =bif A3 ((c:Int)<128)then kd (.inr (B9 (bits .u64 .or (acc:Int) (AO .u64 (zN .u64 (C7 (c:Int) 128)) ((7*i:Nat):Int)),((i+1:Nat):Int),(0:Int),()))) else kd (.inl (bits .u64 .or (acc:Int) (AO .u64 (zN .u64 (C7 (c:Int) 128)) ((7*i:Nat):Int)),P++(Be m++zO),((P++(Be m++zO)).length:Nat),((i+1:Nat):Int),())):=λc l u L o=>by(have k:i<(P++(Be m++zO)).length:=by simp_all);(have w:Ax (P++(Be m++zO)) (i:Int)=kd (c:Int):=by simp_all[Ad]);(have M:(A3 ((i:Int) > 0)=ka->((c:Int)==0)=kc):=λh=>by grind);simp only[Ca,Cn k,zQ,w,p];grind);(have f:∀c:Nat,c%128*2^(7*i)+acc<9223372036854775808->bits .u64 .or (acc:Int) (AO .u64 (zN .u64 (C7 (c:Int) 128)) ((7*i:Nat):Int))=((acc+c%128*2^(7*i):Nat):Int):=λc u=>by rw[show C7 (c:Int) 128=((c%128:Nat):Int)from rfl,Au (by omega),LX (by omega) (by omega)];exact c6k r (by omega));by_cases hm128:m<128;rw[Ae (g m [] (by omega) (Pw hm128) (by omega) |>.trans (by(have d:A3 ((m:Int)<128)=ka:=by grind);simp only[d,cT];rfl))];rw[f m (by simp_all[C8]),C8 hm128,Pw hm128];rfl;cases j with|zero=>omega|succ j=>(have v:m / 128<128^(j+1):=by omega);(have z:2^(7*(i+1))=128*2^(7*i):=by grind);(have a:m*2^(7*i)=m%128*2^(7*i)+m / 128*2^(7*(i+1)):=by grind);have hb:m%128*2^(7*i)<=127*2^(7*i):=F5 _ (by omega);rw[Af (g (m%128+128) (Be (m / 128)) (by omega) (RP hm128) (by omega) |>.trans (by(have d:A3 (((m%128+128:Nat):Int)<128)=kc:=by grind);simp only[d,cF];rfl))];(rw[f (m%128+128) (by grind[J0,Nat.mod_mod]),J0,Nat.mod_mod];have e:P++(Be m++zO)=(P++[((m%128+128:Nat):Int)])++(Be (m / 128)++zO):=by rw[RP hm128];simp);rw[e]at b|-;have D:=iN j (m / 128) (i+1) (acc+m%128*2^(7*i)) (P++[((m%128+128:Nat):Int)]) v (by simp[q]) (.inr (by omega)) (by omega) (by omega) b;rw[D,a,RP hm128];congr 3;omega;simp;omega
theorem b3d{n:Nat}(h:n<9223372036854775808){zO:LI}(g:(Be n++zO).length<1000000000):Jj (Be n++zO)=kd ((n:Int),((Be n).length:Int),(0:Int)):=by have:=iN (zO:=zO) 8 n 0 0 [] (by omega) rfl (.inl rfl) (by simp) (by omega) g;simp_all[Jj]
def Xy(P R:List Int):List Int×(Int×Int×Unit):=(P++R,(P.length:Int),(0:Int),())
theorem Oc{n:Nat}(c:n<9223372036854775808){most:Int}(e:(n:Int)<=most){P R:LI}(b:(P++(Be n++R)).length<1000000000):AF (Xy P (Be n++R),most)=kd ((n:Int),Xy (P++Be n) R):=by
 have a:H8 (C9 (P.length:Int)) (F6 (P++(Be n++R)).length (P++(Be n++R)))=Be n++R:=by grind[tN]
 have k:((0:Int) != 0)=kc:=rfl;have g:A3 ((0:Int)<=(P.length:Int))=ka:=by simp
 have f:A3 ((P.length:Int)<=((P++(Be n++R)).length:Int))=ka:=by grind
 have d:A3 ((n:Int) > most)=kc:=by simp_all
 have h:(Be n++R).length<1000000000:=by grind
 have i:zN .i64 ((P.length:Int)+((Be n).length:Int))=((P++Be n).length:Int):=by rw[Ac (by simp at b;omega)];simp
 unfold AF Xy;simp only[k,zQ,g,f,A8];rw[a,b3d c h];grind
def Px(g:Int):Nat:=if 0<=g then(2*g).toNat else(-2*g-1).toNat
theorem c1q{g:Int}(h:-100000<=g/\g<=100000):Rx g=kd (Px g:Int):=by
 unfold Rx Px;by_cases hg:0<=g;have d:A3 (g>=0)=ka:=by simp_all
 rw[d,cT,if_pos hg,Au (n:=g) (by omega),Au (by omega),I5 (by omega)];have d:A3 (g>=0)=kc:=by simp_all
 rw[d,cF,if_neg hg,Ac (n:=g+1) (by omega),Ac (by omega),Au (n:=0-(g+1)) (by omega),Au (n:=2*(0-(g+1))) (by omega),Au (by omega),I5 (by omega)];grind
theorem lX{g:Int}{m:Nat}(h:-(m:Int)<=g/\g<=(m:Int)):Px g<=2*m:=by grind[Px]
theorem a9E{g:Int}(h:-100000<=g/\g<=100000):Fj (Px g:Int)=kd g:=by
 unfold Fj;have f:C7 (Px g:Int) 2=((Px g%2:Nat):Int):=rfl;have k:E6 (Px g:Int) 2=((Px g / 2:Nat):Int):=rfl;rw[f,k];unfold Px;by_cases hg:0<=g;rw[if_pos hg];have d:((((2*g).toNat%2:Nat):Int)==0)=ka:=by grind
 rw[d,cT,Au (by omega),Ac (by omega)];grind;rw[if_neg hg];have d:((((-2*g-1).toNat%2:Nat):Int)==0)=kc:=by grind
 rw[d,cF,Au (by omega),Ac (n:=(((-2*g-1).toNat / 2:Nat):Int)) (by omega),Ac (n:=0-(((-2*g-1).toNat / 2:Nat):Int)) (by omega),Ac (by omega)];grind
def e8(s:Int):Int:=bif (AR .u8 s 7)==(1:Int)then bits .u8 .xor (AO .u8 s 1) 7 else AO .u8 s 1
def b3G(s:Int):Int:=bif (AR .u16 s 15)==(1:Int)then bits .u16 .xor (AO .u16 s 1) 32773 else AO .u16 s 1
def a1u{α:Type}(f:α->α):Nat->α->α|0,s=>s|n+1,s=>a1u f n (f s)
def g8(s c:Int):Int:=a1u e8 8 (bits .u8 .xor s c)
def c6l(s c:Int):Int:=a1u b3G 8 (bits .u16 .xor s (AO .u16 (zN .u16 c) 8))
theorem qW(l:LI)(n i:Int):∀(j k:Nat)(s:Int),k+j=8->Al OO (s,l,n,i,(k:Int),())=kd (a1u e8 j s,l,n,i,())|0,k,s,h=>by(obtain rfl:k=8:=by omega);rfl|j+1,k,s,h=>by(have d:A3 ((k:Int)<8)=ka:=by grind);rw[Af (s':=(e8 s,l,n,i,((k+1:Nat):Int),())) (by simp only[OO,d,cT,Aa (show k<1000000 by omega),e8];grind)];exact qW l n i j (k+1) (e8 s) (by omega)
theorem cJ(l:LI)(n i:Int):∀(j k:Nat)(s:Int),k+j=8->Al Mx (s,l,n,i,(k:Int),())=kd (a1u b3G j s,l,n,i,())|0,k,s,h=>by(obtain rfl:k=8:=by omega);rfl|j+1,k,s,h=>by(have d:A3 ((k:Int)<8)=ka:=by grind);rw[Af (s':=(b3G s,l,n,i,((k+1:Nat):Int),())) (by simp only[Mx,d,cT,Aa (show k<1000000 by omega),b3G];grind)];exact cJ l n i j (k+1) (b3G s) (by omega)
def Uo(l:List Int):Int:=l.foldl g8 0
def Im(l:List Int):Int:=l.foldl c6l 0
theorem qX{l:LI}(h:short l):My l=kd (Uo l):=by
 have:=Cm (f:=Ln) (β:=Int×Unit) l (λi (a:Int)=>(a,l,(l.length:Int),(i:Int),())) (λa x=>.inl (g8 a x)) (λ_ _=>True) (λa=>(a,()))
  (λi k a _=>⟨λc g=>by
   simp at g;subst g
   have:=qW l (l.length:Int) (i:Int) 8 0 (bits .u8 .xor a l[i]) rfl
   simp at this;refine⟨?_,trivial⟩;simp only[Ln,Cn k,cT,Ad k,oB,this,Aa (B8 k h),g8],λb hb=>by grind⟩)
  (λa d=>by simp_all[Ln]) (a:=0) trivial
 unfold My;simp at this;rw[this,Wn];rfl
theorem YV{l:LI}(h:short l):Jo l=kd (Im l):=by
 have:=Cm (f:=IK) (β:=Int×Unit) l (λi (a:Int)=>(a,l,(l.length:Int),(i:Int),())) (λa x=>.inl (c6l a x)) (λ_ _=>True) (λa=>(a,()))
  (λi k a _=>⟨λc g=>by
   simp at g;subst g
   have:=cJ l (l.length:Int) (i:Int) 8 0 (bits .u16 .xor a (AO .u16 (zN .u16 l[i]) 8)) rfl
   simp at this;refine⟨?_,trivial⟩;simp only[IK,Cn k,cT,Ad k,oB,this,Aa (B8 k h),c6l],λb hb=>by grind⟩)
  (λa d=>by simp_all[IK]) (a:=0) trivial
 unfold Jo;simp at this;rw[this,Wn];rfl
theorem Up(n:Int):zN .u16 n=n%65536:=by rfl
theorem a7g(s:Int):0<=e8 s/\e8 s<256:=by unfold e8;cases (AR .u8 s 7==1:Bool);simp only[cF,AO,GR];omega;simp only[cT,bits,GR];omega
theorem a2z(s:Int):0<=b3G s/\b3G s<65536:=by unfold b3G;cases (AR .u16 s 15==1:Bool);simp only[cF,AO,Up];omega;simp only[cT,bits,Up];omega
theorem a9F(l:LI):0<=Uo l/\Uo l<256:=by unfold Uo;rcases E7 l with rfl|⟨L,b,rfl⟩;simp;rw[I0,J1];exact a7g _
theorem OC(l:LI):0<=Im l/\Im l<65536:=by unfold Im;rcases E7 l with rfl|⟨L,b,rfl⟩;simp;rw[I0,J1];exact a2z _
theorem d1k{v:Int}(h:0<=v/\v<65536):HE (v,2)=kd [v / 256,v%256]:=by
 have g:zN .u64 (E6 v 256)=v / 256:=by grind[Au]
 have f:zN .u8 (C7 v 256)=v%256:=by simp_all[D2,GR]
 have k:zN .u8 (C7 (v / 256) 256)=v / 256:=by grind[GR]
 have a:Dn (v,(2:Int),(0:Int),([]:List Int),())=kd (.inl (v / 256,(2:Int),(1:Int),[v%256],())):=by simp only[Dn,show A3 ((0:Int)<2)=ka from rfl,cT,Ay (show([]:List Int).length+1<2147483648 by simp),g,f];rfl
 have c:Dn (v / 256,(2:Int),(1:Int),[v%256],())=kd (.inl (zN .u64 (E6 (v / 256) 256),(2:Int),(2:Int),[v%256,v / 256],())):=by simp only[Dn,show A3 ((1:Int)<2)=ka from rfl,cT,Ay (show([v%256]:List Int).length+1<2147483648 by simp),k];rfl
 have d:Ix (v,2)=kd [v%256,v / 256]:=by unfold Ix GM;simp;rw[show OH (Fk (2:Int) 0) 8=2 from rfl,Af a,Af c,Ae (b:=([v%256,v / 256],())) rfl];rfl
 simp_all[HE,CU]
abbrev AH:Type:=Int×(Int×(Int×Unit))
abbrev AQ:Type:=Int×(Int×(AH×(List AH×(List CP×Unit))))
abbrev CN:Type:=Int×(List (List Int)×Unit)
def LZ(n:Int)(s:AH):Bool:=!(A3 (s.1<0) || A3 (s.1>=n) || A3 (s.2.1<0) || A3 (s.2.1>=n) || s.1==s.2.1)&&!(A3 (s.2.2.1 < -1024) || A3 (s.2.2.1 > 1024))
theorem HA{n:Int}{s:AH}:LZ n s=ka↔0<=s.1/\s.1<n/\0<=s.2.1/\s.2.1<n/\s.1≠s.2.1/\-1024<=s.2.2.1/\s.2.2.1<=1024:=by simp only[LZ,HC,G4,Bool.or_eq_false_iff,decide_eq_false_iff_not,beq_eq_false_iff_ne];omega
def Xz(l:List AH)(n:Int):Prop:=1<=n/\n<=8/\l.length<=16/\l.all (LZ n)=ka
instance (l:List AH) (n:Int):Decidable (Xz l n):=by unfold Xz;infer_instance
theorem iO(l:List AH)(n:Int):Qc (l,n)=kd (A3 (Xz l n)):=by
 unfold Qc Xz;by_cases h1:n<1;grind;by_cases h2:n > 8;grind;by_cases h3:((l.length:Nat):Int) > 16;grind;have g:=Bp (f:=KI) (β:=Unit ⊕ (Bool×Unit)) l (λi=>(n,l,(l.length:Int),(i:Int),())) (LZ n) (bt:=B7 ()) (bf:=B9 (kc,()))
  (λi h k=>by
   obtain⟨a1,o,p,q,r,u,v⟩:=HA.1 k;have a:A3 (l[i].1<0)=kc:=by simp_all
   have b:A3 (l[i].1>=n)=kc:=by simp_all
   have c:A3 (l[i].2.1<0)=kc:=by simp_all
   have d:A3 (l[i].2.1>=n)=kc:=by simp_all
   have e:(l[i].1==l[i].2.1)=kc:=by simp_all
   have j:A3 (l[i].2.2.1 < -1024)=kc:=by simp_all
   have m:A3 (l[i].2.2.1 > 1024)=kc:=by simp_all
   simp only[KI,Cn h,cT,Ad h,oB,a,b,c,d,e,j,m,cF,Aa (show i<1000000 by omega)])
  (λi h k=>by
   simp only[KI,Cn h,cT,Ad h,oB];grind[LZ])
  (by simp[KI])
 grind
def OD(f:AH):Prop:=1<=f.1/\f.1<=1048576/\1<=f.2.1/\f.2.1<=8/\4<=f.2.2.1/\f.2.2.1<=24
instance (f:AH):Decidable (OD f):=by unfold OD;infer_instance
theorem QR(f:AH):GL f=kd (A3 (OD f)):=by unfold GL KG OD;grind
def dB(f:AQ):Prop:=OD f.2.2.1/\1<=f.2.1/\f.2.1<=4096/\0<=f.1/\f.1<=4194304-f.2.1/\Xz f.2.2.2.1 f.2.2.1.2.1
instance (f:AQ):Decidable (dB f):=by unfold dB;infer_instance
theorem QS(f:AQ):KJ f=kd (A3 (dB f)):=by unfold KJ dB;rw[QR,iO];by_cases h1:OD f.2.2.1<;>by_cases h2:1<=f.2.1<;>by_cases h3:f.2.1<=4096<;>by_cases h4:0<=f.1<;>simp[h1,h2,h3,h4];have h:zN .i64 ((4194304:Int)-f.2.1)=4194304-f.2.1:=Ac (by omega);rw[h];grind
def Kv(s:AH):List Nat:=[s.1.toNat,s.2.1.toNat,Px s.2.2.1]
def Io(s:AH):List Int:=Be s.1.toNat++(Be s.2.1.toNat++Be (Px s.2.2.1))
def hb(f:AQ)(body:Nat):List Int:=[245,75]++(Be f.1.toNat++(Be f.2.1.toNat++(Be f.2.2.1.1.toNat++(Be f.2.2.1.2.1.toNat++(Be f.2.2.1.2.2.1.toNat++(Be f.2.2.2.1.length++(f.2.2.2.1.flatMap Io++Be body)))))))
def Du(f:AQ)(body:Nat):List Int:=hb f body++[Uo (hb f body)]
theorem Od{n:Nat}(h:n<9223372036854775808):1<=(Be n).length/\(Be n).length<=9:=cH 8 n (by omega)
theorem a2A{n:Int}(g:n<=8){s:AH}(h:LZ n s=ka):(Io s).length<=27:=by grind[HA,Od,Px,Io]
theorem fJ{n:Int}(g:n<=8):∀(l:List AH),l.all (LZ n)=ka->(l.flatMap Io).length<=27*l.length|[],_=>by simp|s::l,h=>by simp only[C0,HC]at h;have:=a2A g h.1;have:=fJ g l h.2;simp only[G5,lN,lC];omega
theorem qY{f:AQ}(g:dB f){body:Nat}(h:body<=1048576):2<=(hb f body).length/\(hb f body).length<=600:=by obtain⟨⟨q,r,k,a,b,c⟩,l1,l2,s1,s2,m1,m2,m3,m4⟩:=g;have d:=Od (n:=f.1.toNat) (by omega);have e:=Od (n:=f.2.1.toNat) (by omega);have i:=Od (n:=f.2.2.1.1.toNat) (by omega);have j:=Od (n:=f.2.2.1.2.1.toNat) (by omega);have l:=Od (n:=f.2.2.1.2.2.1.toNat) (by omega);have m:=Od (n:=f.2.2.2.1.length) (by omega);have o:=Od (n:=body) (by omega);have p:=fJ m2 _ m4;simp only[hb,lN,lC,C1];omega
theorem b0T:∀l:List AH,(l.flatMap Kv).length=3*l.length|[]=>rfl|s::l=>by simp only[G5,lN,lC,b0T l];simp only[Kv,lC,C1];omega
theorem a9G{f:AQ}(B:dB f){body:Nat}(q:body<=1048576):Lo (f,(body:Int))=kd (Du f body):=by
 have u:=B;obtain⟨⟨P,Q,L,M,N,O⟩,l1,l2,s1,s2,m1,m2,m3,m4⟩:=u;have k:∀s∈f.2.2.2.1,LZ f.2.2.1.2.1 s=ka:=λs y=>lA.1 m4 s y;have h:=Cm (f:=HN) (β:=Int×(List Int×Unit)) f.2.2.2.1 (λi (a:LI)=>((body:Int),f.2.2.2.1,((f.2.2.2.1.length:Nat):Int),(i:Int),a,())) (λa x=>.inl (a++RQ (Kv x))) (λi a=>a.length=6+3*i) (λa=>((body:Int),a,()))
  (λi v a H=>⟨λK j=>by
   simp at j;subst j;obtain⟨a1,D,E,F,G,z,A⟩:=HA.1 (k _ (B4 v));refine⟨?_,by grind[RQ,Kv]⟩;simp only[HN,Cn v,cT,Ad v,oB,c1q (g:=f.2.2.2.1[i].2.2.1) (by omega),Ay (show a.length+3<2147483648 by omega),Aa (show i<1000000 by omega),B6];grind[Au,RQ,Kv],λb hb=>by grind⟩)
  (λa H=>by simp_all[HN]) (a:=RQ [f.1.toNat,f.2.1.toNat,f.2.2.1.1.toNat,f.2.2.1.2.1.toNat,f.2.2.1.2.2.1.toNat,f.2.2.2.1.length]) (by rfl)
 rw[QQ]at h;simp[kM]at h;have d:([zN .u64 f.1,zN .u64 f.2.1,zN .u64 f.2.2.1.1,zN .u64 f.2.2.1.2.1,zN .u64 f.2.2.1.2.2.1,zN .u64 ((f.2.2.2.1.length:Nat):Int)]:List Int)=RQ [f.1.toNat,f.2.1.toNat,f.2.2.1.1.toNat,f.2.2.1.2.1.toNat,f.2.2.1.2.2.1.toNat,f.2.2.2.1.length]:=by
  grind[Au,RQ]
 have o:RQ [f.1.toNat,f.2.1.toNat,f.2.2.1.1.toNat,f.2.2.1.2.1.toNat,f.2.2.1.2.2.1.toNat,f.2.2.2.1.length]++f.2.2.2.1.flatMap (λx=>RQ (Kv x))++[((body:Nat):Int)]=RQ ([f.1.toNat,f.2.1.toNat,f.2.2.1.1.toNat,f.2.2.1.2.1.toNat,f.2.2.1.2.2.1.toNat,f.2.2.2.1.length]++f.2.2.2.1.flatMap Kv++[body]):=by
  simp_all[RQ,List.map_flatMap]
 have w:∀n∈[f.1.toNat,f.2.1.toNat,f.2.2.1.1.toNat,f.2.2.1.2.1.toNat,f.2.2.1.2.2.1.toNat,f.2.2.2.1.length]++f.2.2.2.1.flatMap Kv++[body],n<9223372036854775808:=λn e=>by
  simp only[mA,mC,List.not_mem_nil,or_false,J4]at e;rcases e with(e|⟨s,y,e⟩)|e;omega;obtain⟨a1,D,E,F,G,z,A⟩:=HA.1 (k _ y)
  have:=lX (m:=1024) ⟨z,A⟩
  simp[Kv]at e;omega;omega
 have C:=b0T f.2.2.2.1;have p:=cI w (by grind);have c:(([f.1.toNat,f.2.1.toNat,f.2.2.1.1.toNat,f.2.2.1.2.1.toNat,f.2.2.1.2.2.1.toNat,f.2.2.2.1.length]++f.2.2.2.1.flatMap Kv++[body]).flatMap Be)=(hb f body).drop 2:=by
  simp only[hb,List.flatMap_append,G5,List.flatMap_nil,F1,aA,List.flatMap_assoc,J2,B3,List.drop_succ_cons,D9];congr 7;exact cG (λg=>List.flatMap g f.2.2.2.1) (funext λs=>by simp[Io,Kv])
 have r:[245,75]++(hb f body).drop 2=hb f body:=by rfl
 have I:=qY B q;unfold Lo;simp only[d];rw[h];simp only[oB,B6];have l:=cG E2 o;rw[show(RQ ([f.1.toNat,f.2.1.toNat,f.2.2.1.1.toNat,f.2.2.1.2.1.toNat,f.2.2.1.2.2.1.toNat,f.2.2.2.1.length]++f.2.2.2.1.flatMap Kv++[body])).length=7+3*f.2.2.2.1.length from by grind[RQ,lC]]at l;rw[lN,H7]at l;rw[Au (n:=(body:Int)) (by omega),Ay (by omega),cT,o,p];simp only[oB,c,B6,r];rw[Ay (by grind),cT,qX (show short (hb f body)by unfold short;omega)]
 simp
 rw[Ay (by omega),cT];rfl
def b6g(f:AQ):AQ:=(f.1,f.2.1,f.2.2.1,f.2.2.2.1,[],())
theorem ID{P A R:LI}{k:Nat}(h:(P++(A++R)).length<k):((P++A)++R).length<k:=by rw[aA];exact h
theorem qZ{x:LI}{j:Int}(d:j<=8)(s l:Int)(fm:AH)(u:List CP×Unit){N:Nat}(r:N<=16){R:LI}:∀(zO f:List AH)(P:LI),zO.all (LZ j)=ka->f.length+zO.length=N->(P++(zO.flatMap Io++R)).length<1000000000->Al De (x,(N:Int),(f.length:Int),(s,l,fm,f,u),Xy P (zO.flatMap Io++R),())=kd (x,(s,l,fm,f++zO,u),Xy (P++zO.flatMap Io) R,())|[],f,P,_,i,_=>by(have e:f.length=N:=by simpa using i);rw[e,Ae (b:=(x,(s,l,fm,f,u),Xy P R,())) (by simp only[De,a6C,cF];rfl)];simp|g::zO,f,P,h,i,hlen=>by(simp only[C0,HC]at h;rw[lC]at i;obtain⟨a1,D,E,F,G,o,p⟩:=HA.1 h.1;have H:=lX (m:=1024) ⟨o,p⟩;have q:(g::zO).flatMap Io++R=Be g.1.toNat++(Be g.2.1.toNat++(Be (Px g.2.2.1)++(zO.flatMap Io++R))):=by simp[Io]);(rw[q]at hlen|-;have y:=Oc (n:=g.1.toNat) (most:=7) (by omega) (by omega) hlen;have k:=ID hlen;have z:=Oc (n:=g.2.1.toNat) (most:=7) (by omega) (by omega) k;have a:=ID k;have A:=Oc (n:=Px g.2.2.1) (most:=2048) (by omega) (by omega) a;have c:=ID a;have w:zN .u64 ((f.length:Int)+1)=(((f++[g]).length:Nat):Int):=by rw[Au (by omega)];simp);(have B:zN .i64 ((g.1.toNat:Nat):Int)=g.1:=by rw[Ac (by omega)];omega);(have C:zN .i64 ((g.2.1.toNat:Nat):Int)=g.2.1:=by rw[Ac (by omega)];omega);(have v:A3 ((f.length:Int)<(N:Int))=ka:=by simp;omega);rw[Af (s':=(x,(N:Int),(((f++[g]).length:Nat):Int),(s,l,fm,f++[g],u),Xy (P++Be g.1.toNat++Be g.2.1.toNat++Be (Px g.2.2.1)) (zO.flatMap Io++R),())) (by simp only[De,v,cT,y,z,A,oB,a9E (g:=g.2.2.1) (by omega),Ay (show f.length+1<2147483648 by omega),B,C,w,B6])];rw[qZ d s l fm u r zO (f++[g]) _ h.2 (by simp;omega) c];simp[Io]
theorem a9H{f:AQ}(p:dB f){body:Nat}(o:body<=1048576){R:LI}(hl:(Du f body++R).length<1000000000):Gc (Du f body++R)=kd (b6g f,((Du f body).length:Int),(body:Int),(0:Int)):=by
 have q:=p;obtain⟨⟨r1,r2,c1,c2,d1,d2⟩,l1,l2,s1,s2,m1,m2,m3,m4⟩:=q;have Y:=qY p o;have d:Du f body++R=[245,75]++(Be f.1.toNat++(Be f.2.1.toNat++(Be f.2.2.1.1.toNat++(Be f.2.2.1.2.1.toNat++(Be f.2.2.1.2.2.1.toNat++(Be f.2.2.2.1.length++(f.2.2.2.1.flatMap Io++(Be body++([Uo (hb f body)]++R))))))))):=by simp[Du,hb]
 generalize hx:Du f body++R=x at *;have Z:2<=x.length:=by rw[d];simp
 have U:Ax x 0=kd 245:=by rw[d];rfl
 have V:Ax x 1=kd 75:=by rw[d];rfl
 have k:H8 2 (F6 x.length x)=Be f.1.toNat++(Be f.2.1.toNat++(Be f.2.2.1.1.toNat++(Be f.2.2.1.2.1.toNat++(Be f.2.2.1.2.2.1.toNat++(Be f.2.2.2.1.length++(f.2.2.2.1.flatMap Io++(Be body++([Uo (hb f body)]++R)))))))):=by rw[C6,d];rfl
 have h:([]++(Be f.1.toNat++(Be f.2.1.toNat++(Be f.2.2.1.1.toNat++(Be f.2.2.1.2.1.toNat++(Be f.2.2.1.2.2.1.toNat++(Be f.2.2.2.1.length++(f.2.2.2.1.flatMap Io++(Be body++([Uo (hb f body)]++R))))))))):List Int).length<1000000000:=by rw[<-k];simp;omega
 have G:=Oc (n:=f.1.toNat) (most:=4194304) (by omega) (by omega) h;have A:=ID h;have H:=Oc (n:=f.2.1.toNat) (most:=4096) (by omega) (by omega) A;have B:=ID A;have I:=Oc (n:=f.2.2.1.1.toNat) (most:=1048576) (by omega) (by omega) B;have C:=ID B;have K:=Oc (n:=f.2.2.1.2.1.toNat) (most:=8) (by omega) (by omega) C;have D:=ID C;have L:=Oc (n:=f.2.2.1.2.2.1.toNat) (most:=24) (by omega) (by omega) D;have E:=ID D;have M:=Oc (n:=f.2.2.2.1.length) (most:=16) (by omega) (by omega) E;have F:=ID E;have a:=qZ (x:=x) m2 f.1 f.2.1 f.2.2.1 ([],()) m3 f.2.2.2.1 [] _ m4 (by simp) F;have X:=ID F;have i:=Oc (n:=body) (most:=1048576) (by omega) (by omega) X;simp only[C1,nZ,B3,D1]at G H I K L M i a;have w1:zN .i64 ((f.1.toNat:Nat):Int)=f.1:=by rw[Ac (by omega)];omega
 have w2:zN .i64 ((f.2.1.toNat:Nat):Int)=f.2.1:=by rw[Ac (by omega)];omega
 have w3:zN .i64 ((f.2.2.1.1.toNat:Nat):Int)=f.2.2.1.1:=by rw[Ac (by omega)];omega
 have w4:zN .i64 ((f.2.2.1.2.1.toNat:Nat):Int)=f.2.2.1.2.1:=by rw[Ac (by omega)];omega
 have w5:zN .i64 ((f.2.2.1.2.2.1.toNat:Nat):Int)=f.2.2.1.2.2.1:=by rw[Ac (by omega)];omega
 have l:Be f.1.toNat++Be f.2.1.toNat++Be f.2.2.1.1.toNat++Be f.2.2.1.2.1.toNat++Be f.2.2.1.2.2.1.toNat++Be f.2.2.2.1.length++f.2.2.2.1.flatMap Io++Be body=(hb f body).drop 2:=by simp[hb]
 rw[l]at i;have w:Xy ((hb f body).drop 2) ([Uo (hb f body)]++R)=(x.drop 2,(((hb f body).length-2:Nat):Int),(0:Int),()):=by unfold Xy;rw[F0,<-hx];congr 1;unfold Du;rw[aA,List.drop_append_of_le_length (by omega)]
 rw[w]at i;have b:zN .i64 (((x.drop 2).length:Int)-(((hb f body).length-2:Nat):Int))=((1+R.length:Nat):Int):=by(have:x.length=(hb f body).length+(1+R.length):=by rw[<-hx];simp[Du];omega);rw[F0,Ac (by omega)];omega
 have m:zN .i64 ((2:Int)+(((hb f body).length-2:Nat):Int))=(((hb f body).length:Nat):Int):=by rw[Ac (by omega)];omega
 have v:(hb f body).length<x.length:=by rw[<-hx];simp[Du]
 have c:F6 (hb f body).length x=hb f body:=by rw[<-hx];simp[Du]
 have u:Ax x (((hb f body).length:Nat):Int)=kd (Uo (hb f body)):=by rw[Ad v];congr 1;subst hx;simp[Du]
 have S:A3 (((x.length:Nat):Int)<2)=kc:=by simp;omega
 have j:A3 ((2:Int)<=((x.length:Nat):Int))=ka:=by simp;omega
 have N:((245:Int) != 245)=kc:=rfl;have b1:((75:Int) != 75)=kc:=rfl;have e:∀T:List Int,T.length<1000000000->Gq T=kd (Xy [] T):=λT d=>by unfold Gq;rw[Ay (by omega)];rfl
 have g:=h;rw[B3]at g;have z0:((0:Int) != 0)=kc:=rfl;have O:A3 (((1+R.length:Nat):Int)<1)=kc:=by simp;omega
 have P:A3 ((0:Int)<=(((hb f body).length:Nat):Int))=ka:=by simp
 have Q:A3 ((((hb f body).length:Nat):Int)<=((x.length:Nat):Int))=ka:=by simp;omega
 have ss:(Uo (hb f body) != Uo (hb f body))=kc:=bN _;have r:dB (f.1,f.2.1,f.2.2.1,f.2.2.2.1,([]:List CP),()):=p;have z:zN .i64 ((((hb f body).length:Nat):Int)+1)=(((Du f body).length:Nat):Int):=by rw[Ac (by omega)];simp[Du]
 have y:zN .i64 ((body:Nat):Int)=(body:Int):=Ac (by omega);unfold Gc;simp only[S,cF,U,V,oB,N,b1,j,cT];rw[k,e _ g];simp only[oB,G,H,I,K,L,M,w1,w2,w3,w4,w5];erw[a];simp only[oB,i,DS,z0,cF,Co,Ey,b,O,m,P,Q,A8,cT,tN,c,qX (show short (hb f body)by unfold short;omega),u,ss];rw[QS,dE r];simp only[oB,bT,cF,z,y];rfl
abbrev PZ:Type:=CP×List Nat
def a1v(n:Int)(p:PZ):Prop:=sM p.1/\(FY p.1 n).isSome=ka/\(p.1.1≠0/\p.1.1≠1->sS p.1.2.2.2.2.2.2.2.2.2.1 n ((p.1.2.2.2.2.2.2.2.2.1.length:Nat):Int) p.1.2.2.2.2.2.2.2.2.2.2.1 p.2)
def Az(l:List PZ):List Int:=l.flatMap λp=>GU p.1 p.2
theorem Xg(l:List PZ):BL (Az l):=Xf λ_=>b6d _ _
theorem a2B(x:AQ)(all:List CP)(q:all.length<=8):∀(zO g:List CP)(L:LI),g++zO=all->(∀s∈zO,sM s/\(FY s x.2.1).isSome=ka)->L.length+700000*zO.length<40000000->∃f:List PZ,f.map (·.1)=zO/\(∀p∈f,a1v x.2.1 p)/\(Az f).length<=700000*zO.length/\((∀s∈zO,∃c,LD (s,x.2.1)=kd (c:Int))/\kd (((Az f).length:Nat):Int)=zO.foldr (λs a=>a.bind λa=>(LD (s,x.2.1)).bind λc=>kd (c+a)) (kd 0))/\Al MD (all,(all.length:Int),(g.length:Int),wL L,x,())=kd (.inl (wL (L++Az f),x,()))|[],g,L,u,_,_=>by(have e:g=all:=by simp_all);subst e;refine⟨[],rfl,by simp,by simp[Az],⟨by simp,by rfl⟩,?_⟩;simp_all[Ae,MD,Az]|s::zO,g,L,u,h,r=>by(obtain⟨j,d⟩:=h s (by simp);rw[lC]at r;obtain⟨b,l,m,z,o⟩:=b6e j d (L:=L) (by omega);obtain⟨f,k1,k2,k3,⟨A,y⟩,k6⟩:=a2B x all q zO (g++[s]) (L++GU s b) (by simp_all) (λt w=>h t (by grind)) (by grind);have k:g.length<all.length:=by grind);(have v:Ax all (g.length:Int)=kd s:=by grind[Ad]);refine⟨(s,b)::f,by grind,λp i=>?_,?_,⟨λt w=>?_,?_⟩,?_⟩;rcases mC.1 i with rfl|i;exact⟨j,d,o⟩;simp_all;grind[Az];grind;simp only[List.foldr_cons,<-y,oB,m];simp[Az];have z0:((0:Int) != 0)=kc:=rfl;rw[Af (s':=(all,(all.length:Int),(((g++[s]).length:Nat):Int),wL (L++GU s b),x,())) (by simp only[MD,Cn k,cT,v,oB,l,z0,cF,Aa (show g.length<1000000 by omega)];simp)];simp_all[Az]
def OE(k:Nat):Nat:=(8-k%8)%8
def HB(L:List Int):List Int:=L++A4 (OE L.length) 0
theorem rA:∀(k:Nat)(L:LI),OE L.length=k->L.length+k<900000000->Al Fd (wL L,())=kd (wL (L++A4 k 0),())|k,L,h,a=>by(have f:=(EZ L).1;have g:C7 (wL L).2.1 8=((L.length%8:Nat):Int):=by grind);unfold OE at h;cases k with|zero=>grind[Ae,Fd]|succ k=>(have hb:(((L.length%8:Nat):Int) != 0)=ka:=by grind);rw[Af (s':=(wL (L++[0]),())) (by simp only[Fd,g,hb,cT,a4w (show L.length<1000000000 by omega),oB])];rw[rA k (L++[0]) (by grind[OE]) (by grind)];grind
theorem b6h{L:LI}(h:L.length<800000000):Ha (wL L)=kd (wL (HB L)):=by unfold Ha;rw[rA _ L rfl (by unfold OE;omega)];rfl
def KY(L:List Int):List Int:=(wL (HB L)).1
theorem Xh(L:LI):(KY L).length=(L.length+7) / 8/\8*(KY L).length=(HB L).length:=by grind[EZ,HB,KY,OE]
def QT(f:AQ)(L:List Int):List Int:=Du f (KY L).length++KY L
def Kw(f:AQ)(L:List Int):List Int:=QT f L++[Im (QT f L) / 256,Im (QT f L)%256]
theorem Wq{f:AQ}(g:dB f){L:LI}(h:L.length<=5600000):(QT f L).length<=700700/\(KY L).length<=700000:=by grind[Xh,qY,QT,Du]
theorem Py{f:AQ}(l:Fi f=kd ka)(e:dB f)(i:f.2.2.2.2.1.length<=8)(o:∀s∈f.2.2.2.2.1,sM s/\(FY s f.2.1).isSome=ka):∃h:List PZ,h.map (·.1)=f.2.2.2.2.1/\(∀p∈h,a1v f.2.1 p)/\(Az h).length<=5600000/\kd ((Az h).length:Int)=f.2.2.2.2.1.foldr (λs a=>a.bind λa=>(LD (s,f.2.1)).bind λc=>kd (c+a)) (kd 0)/\Ej f=kd (Kw f (Az h),0):=by
 obtain⟨h,k1,k2,k3,⟨-,q⟩,k6⟩:=a2B f f.2.2.2.2.1 i f.2.2.2.2.1 [] [] rfl o (by grind);have d:(Az h).length<=5600000:=by omega
 refine⟨h,k1,k2,d,q,?_⟩;rw[B3,C1]at k6;have r:=Wq e d;have b:wL []=(([]:List Int),(0:Int),()):=rfl;rw[b]at k6;have k:(HB (Az h)).length<1000000000:=by grind[Xh]
 have m:=OC (QT f (Az h));have g:Du f (KY (Az h)).length++KY (Az h)=QT f (Az h):=rfl;have j:(Du f (KY (Az h)).length).length+(KY (Az h)).length=(QT f (Az h)).length:=by grind
 unfold Ej;simp only[l,zQ];erw[k6];simp only[oB,b6h (show(Az h).length<800000000 by omega),b6f k];erw[a9G e (show(KY (Az h)).length<=1048576 by omega)];simp only[oB,B6];rw[show(wL (HB (Az h))).1=KY (Az h)from rfl];rw[g,Ay (by omega),cT,YV (show short (QT f (Az h))by unfold short;omega)];simp;rw[Au (by omega),d1k m];simp only[oB];rw[Ay (by grind),cT];rfl
def FQ(f:AQ)(l:List CP):AQ:=(f.1,f.2.1,f.2.2.1,f.2.2.2.1,l,())
theorem a9I(f:AQ):FQ f f.2.2.2.2.1=f:=rfl
theorem rB(f k:AQ)(e:Int){N:Nat}(j:N<=8){Z:LI}:∀(zO:List PZ)(g:List CP)(P:LI),g.length+zO.length=N->(∀p∈zO,a1v f.2.1 p)->dA P (Az zO++Z)->Al CH (e,(N:Int),(g.length:Int),k,FQ f g,Bm P (Az zO++Z),())=kd (.inl (e,k,FQ f (g++zO.map (·.1)),Bm (P++Az zO) Z,()))|[],g,P,c,_,_=>by(have d:g.length=N:=by simpa using c);rw[d,Ae (b:=B7 (e,k,FQ f g,Bm P Z,())) (by simp only[CH,a6C,cF];rfl)];simp[Az]|p::zO,g,P,c,h,hok=>by(rw[lC]at c;obtain⟨u,o,v⟩:=h p (by simp);have i:Az (p::zO)++Z=GU p.1 p.2++(Az zO++Z):=by simp[Az]);(rw[i]at hok|-;have m:=b8A u o v hok;have l:A3 ((g.length:Int)<(N:Int))=ka:=by simp;omega);have z0:((0:Int) != 0)=kc:=rfl;rw[Af (s':=(e,(N:Int),((g++[p.1]).length:Int),k,FQ f (g++[p.1]),Bm (P++GU p.1 p.2) (Az zO++Z),())) (by have a:LP (Bm P (GU p.1 p.2++(Az zO++Z)),(FQ f g).2.1)=kd (p.1,(0:Int),Bm (P++GU p.1 p.2) (Az zO++Z)):=m;simp only[CH,l,zQ,a,z0];rw[show(FQ f g).2.2.2.2.1=g from rfl,Ay (show g.length+1<2147483648 by omega),cT,Aa (show g.length<1000000 by omega)];rw[show((g++[p.1]).length:Int)=((g.length+1:Nat):Int)from by simp];rfl)];rw[rB f k e j zO (g++[p.1]) _ (by simp;omega) (λq r=>h q (by simp[r])) hok.shift];simp[Az]
theorem iP{L:LI}(a:BL L)(b:L.length<500000000)(t:Int×(Int×Unit)):∀(k i:Nat),i+k=L.length->(∀j,i<=j->L.getD j 0=0)->Al Bf ((L.length:Int),(i:Int),((wL L).1,t),())=kd (.inl ((L.length:Int),((wL L).1,t),()))|0,i,h,_=>by(obtain rfl:i=L.length:=by omega);exact Ae (by simp only[Bf,a6C,cF])|k+1,i,h,f=>by(have g:i<L.length:=by omega);(have z:((0:Int)==1)=kc:=rfl;have c:zN .i64 ((i:Int)+1)=((i+1:Nat):Int):=by rw[Ac (by omega)];omega);rw[Af (s':=((L.length:Int),((i+1:Nat):Int),((wL L).1,t),())) (by simp only[Bf,Cn g,cT];rw[Um a (by omega) g t,f i (E1 _)];simp only[oB,z,cF,c])];exact iP a b t k (i+1) (by omega) (λj d=>f j (by omega))
theorem b6i(L:LI)(k j:Nat)(h:L.length<=j):(L++A4 k 0).getD j 0=0:=by rw[lD,List.getElem?_append_right h,List.getElem?_replicate];split<;>rfl
theorem fK{L:LI}(h:BL L):BL (HB L):=h.app λ_ hb=>.inl (List.mem_replicate.1 hb).2
theorem b3e{L:LI}(k:BL L)(d:L.length<=5600000):∃r,CS (Bm L (A4 (OE L.length) 0))=kd r/\r.2.2.1=0:=by
 have g:(HB L).length=L.length+OE L.length:=by simp[HB]
 have b:OE L.length<8:=by unfold OE;omega
 have c:(HB L).length%8=0:=by rw[g];unfold OE;omega
 have z0:((0:Int) != 0)=kc:=rfl;have f:zN .i64 (zN .i64 (E6 (zN .i64 ((L.length:Int)+7)) 8)*8)=((HB L).length:Int):=by rw[Ac (n:=(L.length:Int)+7) (by omega),show E6 ((L.length:Int)+7) 8=(((L.length+7) / 8:Nat):Int)from by rw[show((L.length:Int)+7)=((L.length+7:Nat):Int)from by omega];rfl,Ac (n:=(((L.length+7) / 8:Nat):Int)) (by omega),Ac (by omega),g];unfold OE;omega
 have h:=iP (fK k) (by omega) ((L.length:Int),(0:Int),()) (OE L.length) L.length (by omega) (λj a=>b6i L _ j a);refine⟨((wL (HB L)).1,((HB L).length:Int),(0:Int),()),?_,rfl⟩;unfold CS Bm;simp only[z0,cF,f];rw[show L++A4 (OE L.length) 0=HB L from rfl,h];rfl
theorem c6m{v:Int}(h:0<=v/\v<65536):bits .u16 .or (AO .u16 (zN .u16 (v / 256)) 8) (zN .u16 (v%256))=v:=by
 rw[Up,Up];have e:AO .u16 (v / 256%65536) 8=((v.toNat / 256*256:Nat):Int):=by show zN .u16 (v / 256%65536*256)=_;rw[Up];omega
 rw[e];have g:v%256%65536=((v.toNat%256:Nat):Int):=by omega
 rw[g];show zN .u16 ((A9 16 ((v.toNat / 256*256:Nat):Int) ||| A9 16 ((v.toNat%256:Nat):Int)).toNat:Int)=_;have f:(A9 16 ((v.toNat / 256*256:Nat):Int)).toNat=v.toNat / 256*256:=by rw[F9];omega
 have k:(A9 16 ((v.toNat%256:Nat):Int)).toNat=v.toNat%256:=by rw[F9];omega
 rw[H2,f,k];have e:v.toNat / 256*256 ||| v.toNat%256=v.toNat / 256*256+v.toNat%256:=by have:=E8 (i:=8) (b:=v.toNat%256) (by omega) (v.toNat / 256);rw[show 2^8*(v.toNat / 256)=v.toNat / 256*256 from by omega]at this;exact this.symm
 rw[e,Up];omega
theorem a1w{f:AQ}(T:Fi f=kd ka)(y:dB f)(w:((f.2.2.2.2.1.length:Nat):Int)=f.2.2.1.2.1){h:List PZ}(E:h.map (·.1)=f.2.2.2.2.1)(hp:∀p∈h,a1v f.2.1 p)(C:(Az h).length<=5600000) {R:LI}(hR:R.length<=200000000):HM (Kw f (Az h)++R)=kd (f,((Kw f (Az h)).length:Int),(0:Int)):=by
 have U:=Wq y C;have V:=OC (QT f (Az h));have P:f.2.2.2.2.1.length<=8:=by have:=y.1.2.2.2.1;omega
 have S:=Xh (Az h);generalize hbd:KY (Az h)=body at *;have d:Kw f (Az h)=QT f (Az h)++[Im (QT f (Az h)) / 256,Im (QT f (Az h))%256]:=rfl;have k:QT f (Az h)=Du f body.length++body:=by unfold QT;rw[hbd]
 generalize hpb:QT f (Az h)=pre at *;have q:Kw f (Az h)++R=Du f body.length++(body++([Im pre / 256,Im pre%256]++R)):=by rw[d,k];simp
 have o:(Kw f (Az h)).length=pre.length+2:=by rw[d];simp
 have D:pre.length=(Du f body.length).length+body.length:=by rw[k];simp
 have B:(Kw f (Az h)++R).length=pre.length+2+R.length:=by rw[lN,o]
 have a:=a9H y (body:=body.length) (by omega) (R:=body++([Im pre / 256,Im pre%256]++R)) (by rw[<-q,B];omega);rw[<-q]at a;generalize hx:Kw f (Az h)++R=x at *;have z0:((0:Int) != 0)=kc:=rfl;have Y:zN .i64 (((Du f body.length).length:Int)+(body.length:Int))=(pre.length:Int):=by rw[Ac (by omega)];omega
 have F:zN .i64 ((pre.length:Int)+2)=((pre.length+2:Nat):Int):=by rw[Ac (by omega)];omega
 have Z:zN .i64 ((pre.length:Int)+1)=((pre.length+1:Nat):Int):=by rw[Ac (by omega)];omega
 have G:A3 ((x.length:Int)<((pre.length+2:Nat):Int))=kc:=by simp;omega
 have H:A3 ((0:Int)<=(pre.length:Int))=ka:=by simp
 have I:A3 ((pre.length:Int)<=(x.length:Int))=ka:=by simp;omega
 have K:A3 ((0:Int)<=((Du f body.length).length:Int))=ka:=by simp
 have L:A3 (((Du f body.length).length:Int)<=(pre.length:Int))=ka:=by simp;omega
 have l:x=pre++([Im pre / 256,Im pre%256]++R):=by rw[<-hx,d];simp
 have j:F6 pre.length x=pre:=by rw[l];simp
 have c:H8 (Du f body.length).length pre=body:=by rw[k];simp
 have N:Ax x (pre.length:Int)=kd (Im pre / 256):=by rw[Ad (by omega)];congr 1;subst l;simp
 have O:Ax x ((pre.length+1:Nat):Int)=kd (Im pre%256):=by rw[Ad (by omega)];congr 1;subst l;simp
 have X:(Im pre != bits .u16 .or (AO .u16 (zN .u16 (Im pre / 256)) 8) (zN .u16 (Im pre%256)))=kc:=by rw[c6m V];exact bN _
 have i:(HB (Az h)).length<1000000000:=by omega
 have b:=c1p i;rw[show(wL (HB (Az h))).1=body from hbd]at b;have z:dA [] (Az h++A4 (OE (Az h).length) 0):=⟨by rw[B3];exact fK (Xg h),by rw[B3];show(HB (Az h)).length<_;omega⟩;have g:=rB f ((0:Int),(0:Int),((0:Int),(0:Int),(0:Int),()),([]:List AH),([]:List CP),()) (pre.length:Int) P h [] [] (by rw[<-E];simp) hp z;simp only[B3,C1,E,a9I]at g;have A:Bm [] (HB (Az h))=Bm [] (Az h++A4 (OE (Az h).length) 0):=rfl;obtain⟨r,u,v⟩:=b3e (Xg h) C;have e:Cz (Bm (Az h) (A4 (OE (Az h).length) 0))=kd ((OE (Az h).length:Int),Bm (Az h) (A4 (OE (Az h).length) 0)):=by unfold Cz Bm;have:(wL (Az h++A4 (OE (Az h).length) 0)).1=body:=hbd;(simp only[this];have hp:(HB (Az h)).length=(Az h).length+OE (Az h).length:=by simp[HB]);rw[Ac (n:=8*(body.length:Int)) (by omega),Ac (by omega)];congr 2;omega
 have M:A3 (((OE (Az h).length:Nat):Int)>=8)=kc:=by unfold OE;simp;omega
 have Q:FQ f []=b6g f:=rfl;have m:f.2.2.1.2.1=((f.2.2.2.2.1.length:Nat):Int):=w.symm;unfold HM;rw[a];simp only[oB,z0,cF,Y,F,G,H,I,K,A8,cT,tN,j,YV (show short pre by unfold short;omega),N,Z,O,X,L,c,b,A];rw[show(b6g f).2.2.1.2.1=((f.2.2.2.2.1.length:Nat):Int)from m];erw[g];simp only[oB,e,M,cF,u,Ai,v,z0,T,bT,F,o]
theorem Uq(x:Int):Ot x=kd (Aq x):=by grind[Ot,Aq]
def KZ(c:List (List Int)):Prop:=1<=c.length/\c.length<=8/\(c.headD []).length<=4096/\c.all (λr=>A3 (r.length=(c.headD []).length)&&r.all Aq)=ka
instance (c:List (List Int)):Decidable (KZ c):=by unfold KZ;infer_instance
theorem Xi{α:Type}{l:List α}{d:α}(h:0<l.length):l[0]=l.headD d:=by cases l with|nil=>grind|cons a l=>rfl
theorem b8B(c:List (List Int)):Rq c=kd (A3 (KZ c)):=by
 unfold Rq;by_cases h1:((c.length:Nat):Int)<1
 have:¬ KZ c:=λh=>by have:=h.1;omega
 simp_all;by_cases h2:((c.length:Nat):Int) > 8
 have:¬ KZ c:=λh=>by have:=h.2.1;omega
 simp_all;have m:0<c.length:=by omega
 have l:Ax c 0=kd (c.headD []):=by rw[show(0:Int)=((0:Nat):Int)from rfl,Ad m,Xi (d:=[]) m]
 have o:A3 (((c.length:Nat):Int)<1)=kc:=by simp_all
 have p:A3 (((c.length:Nat):Int) > 8)=kc:=by simp_all
 simp only[o,p,cF,l,oB];by_cases h3:(((c.headD []).length:Nat):Int) > 4096;rw[dE h3,dF (show ¬ KZ c from λh=>by have:=h.2.2.1;omega)];rfl;have q:A3 ((((c.headD []).length:Nat):Int) > 4096)=kc:=by simp_all
 simp only[q,cF];have g:∀(i:Nat)(r:LI),short r->Al Ho (c,c,(c.length:Int),(i:Int),r,(r.length:Int),(0:Int),())=kd (bif r.all Aq then B7 (c,c,(c.length:Int),(i:Int),())else B9 (kc,())):=λi r x=>by
  have:=Bp (f:=Ho) r (λj=>(c,c,(c.length:Int),(i:Int),r,(r.length:Int),(j:Int),())) Aq (bt:=B7 (c,c,(c.length:Int),(i:Int),())) (bf:=B9 (kc,()))
   (λj h a=>by simp only[Ho,Cn h,cT,Ad h,oB,Uq,a,bT,cF,Aa (B8 h x)])
   (λj h a=>by simp_all[Ho,Ad,Uq])
   (by simp_all[Ho])
  omega
 have k:=Bp (f:=Hp) c (λi=>(c,c,(c.length:Int),(i:Int),())) (λr=>A3 (r.length=(c.headD []).length)&&r.all Aq) (bt:=B7 ()) (bf:=B9 (kc,()))
  (λi h a=>by
   simp only[HC,dT]at a;have e:((((c[i]).length:Nat):Int) != (((c.headD []).length:Nat):Int))=kc:=by simp_all
   have b:=g i c[i] (by unfold short;omega);rw[a.2,cT]at b;simp only[Hp,Cn h,cT,Ad h,oB,l,e,cF,b,Aa (show i<1000000 by omega)])
  (λi h a=>by
   by_cases hl:(c[i]).length=(c.headD []).length;have e:((((c[i]).length:Nat):Int) != (((c.headD []).length:Nat):Int))=kc:=by simp_all
   have b:=g i c[i] (by unfold short;omega);rw[dE hl,C5]at a;rw[a,cF]at b;simp_all[Hp,Ad];have e:((((c[i]).length:Nat):Int) != (((c.headD []).length:Nat):Int))=ka:=by grind
   simp only[Hp,Cn h,cT,Ad h,oB,l,e])
  (by simp_all[Hp])
 simp only[nZ]at k;rw[k];have u:1<=c.length:=by omega
 have v:c.length<=8:=by omega
 have w:(c.headD []).length<=4096:=by omega
 by_cases hA:c.all (λr=>A3 (r.length=(c.headD []).length)&&r.all Aq)=ka;rw[hA,dE (show KZ c from⟨u,v,w,hA⟩)];rfl;rw[Bool.eq_false_iff.2 hA,dF (show ¬ KZ c from λh=>hA h.2.2.2)];rfl
def SZ(c:List (List Int))(n:Nat):Prop:=∀r∈c,r.length=n/\r.all Aq=ka
theorem lY{c:List (List Int)}(h:KZ c):SZ c (c.headD []).length:=λr g=>by have:=lA.1 h.2.2.2 r g;simp_all
theorem b3f{c:List (List Int)}{n:Nat}(h:SZ c n)(m:n<=5000)(l:c.length<=100):NL c=kd c:=by
 have:=Cm (f:=JX) (β:=List (List Int)×Unit) c (λi (a:List (List Int))=>(c,(c.length:Int),(i:Int),a,())) (λa x=>.inl (a++[x])) (λi a=>a.length=i) (λa=>(a,()))
  (λi k a d=>⟨λj g=>by
   simp at g;subst g;have o:=(h _ (B4 k)).1;have e:∀y:List Int,List.set ([([]:List Int)]:List (List Int)) 0 y=[y]:=λ_=>rfl;refine⟨?_,by grind⟩;simp only[JX,Cn k,cT,Ad k,oB,pZ (show short c[i]by unfold short;omega),e];rw[Ay (by grind),cT,Aa (show i<1000000 by omega)];rfl,λb hb=>by grind⟩)
  (λa d=>by simp_all[JX]) (a:=[]) rfl
 simp_all[QQ,NL,kM]
def La(sign g:Int)(x y:Int):Int:=y+sign*(g*x / 256)
def fL(sign g:Int)(xs ys:List Int):List Int:=C3 (La sign g) xs ys
theorem b6j(sign g:Int){f ys:LI}(h:f.length=ys.length):(fL sign g f ys).length=ys.length:=by simp[fL,h]
theorem a7h{sign g x y:Int}(b:sign=1\/sign=-1)(c:-1024<=g/\g<=1024)(k:Aq x=ka)(a:Aq y=ka):zN .i64 (y+zN .i64 (sign*AR .i64 (zN .i64 (g*x)) 8))=La sign g x y:=by(have k:=EG.1 k;have a:=EG.1 a;have f:-1099511627776<=g*x/\g*x<=1099511627776:=by(have f:g.natAbs<=1024:=by omega);(have h:x.natAbs<=1073741824:=by omega);have:=F8 f h;rw[<-Int.natAbs_mul]at this;omega);(rw[Ac (n:=g*x) (by omega)];have h:AR .i64 (g*x) 8=g*x / 256:=by unfold AR;show(g*x).fdiv (2^8)=_;grind);rw[h];unfold La;rcases b with rfl|rfl;all_goals grind[Ac]
theorem a7i{α:Type}(c:List α){a b:Nat}(h:a≠b)(y d:α):(c.set b y).getD a d=c.getD a d:=by grind
theorem iQ{α:Type}(c:List α){b:Nat}(h:b<c.length)(y d:α):(c.set b y).getD b d=y:=by simp_all
theorem rC{c:List (List Int)}{s:AH}{sign:Int}(d:sign=1\/sign=-1)(o:-1024<=s.2.2.1/\s.2.2.1<=1024)(a0:0<=s.1)(q:0<=s.2.1)(i:s.1.toNat≠s.2.1.toNat)(hb:s.2.1.toNat<c.length)(j:s.2.1<(c.length:Int))
  {k:LI}(m:c.getD s.1.toNat []=k)(H:k.length<=5000):∀(a g b h:LI),b++a=k->b.length=h.length->a.length=g.length->a.all Aq=ka->g.all Aq=ka->
  if(fL sign s.2.2.1 a g).all Aq=ka then
   Al Gb (sign,(k.length:Int),(h.length:Int),c.set s.2.1.toNat (h++g),s,(s.1.toNat:Int),())=kd (.inl (c.set s.2.1.toNat (h++fL sign s.2.2.1 a g),()))
  else ∃r,Al Gb (sign,(k.length:Int),(h.length:Int),c.set s.2.1.toNat (h++g),s,(s.1.toNat:Int),())=kd (.inr (kc,r,()))
 | [],g,b,h,M,I,l,_,_=>by
  have e:g=[]:=E3.1 l.symm;subst e;have B:h.length=k.length:=by simp_all
  rw[if_pos (by rfl),B];exact Ae (by simp only[Gb,a6C,cF];rfl)
 |x::a,[],b,h,_,_,l,_,_=>by simp_all
 |x::a,y::g,b,h,M,I,l,hwx,hwy=>by
  simp only[C0,HC]at hwx hwy;have G:h.length<k.length:=by grind
  have C:(c.set s.2.1.toNat (h++y::g)).getD (C9 (s.1.toNat:Int)) []=k:=by grind
  have D:(c.set s.2.1.toNat (h++y::g)).getD s.2.1.toNat []=h++y::g:=iQ _ hb _ _;have E:G3 k (C9 (h.length:Int)) 0=x:=by grind
  have F:G3 (h++y::g) (C9 (h.length:Int)) 0=y:=by simp
  have u:A3 ((0:Int)<=(h.length:Int))=ka:=by simp
  have v:A3 ((h.length:Int)<(k.length:Int))=ka:=by simp_all
  have w:A3 ((0:Int)<=s.2.1)=ka:=by simp_all
  have z:A3 (s.2.1<((c.set s.2.1.toNat (h++y::g)).length:Int))=ka:=by simp_all
  have A:A3 ((h.length:Int)<((h++y::g).length:Int))=ka:=by grind
  have K:=a7h d o hwx.1 hwy.1;have L:zN .i64 ((h.length:Int)+1)=((h.length+1:Nat):Int):=Aa (by omega);have N:fL sign s.2.2.1 (x::a) (y::g)=La sign s.2.2.1 x y::fL sign s.2.2.1 a g:=rfl;have p:List.set (c.set s.2.1.toNat (h++y::g)) s.2.1.toNat (List.set (h++y::g) (C9 (h.length:Int)) (La sign s.2.2.1 x y))=c.set s.2.1.toNat ((h++[La sign s.2.2.1 x y])++g):=by
   simp
  have f:Gb (sign,(k.length:Int),(h.length:Int),c.set s.2.1.toNat (h++y::g),s,(s.1.toNat:Int),()) =
    bif !(Aq (La sign s.2.2.1 x y))then kd (.inr (B9 (kc,c.set s.2.1.toNat (h++y::g),())))
    else kd (.inl (sign,(k.length:Int),((h.length+1:Nat):Int),c.set s.2.1.toNat ((h++[La sign s.2.2.1 x y])++g),s,(s.1.toNat:Int),())):=by
   simp only[Gb,v,zQ,C,D,u,A8,w,z,A,E,F,Uq,K,L]
   simp
  cases hwv:Aq (La sign s.2.2.1 x y)with
  |false=>
   simp_all[Ae]
  |true=>
   rw[hwv]at f;have O:=rC d o a0 q i hb j m H a g (b++[x]) (h++[La sign s.2.2.1 x y]) (by simp_all) (by grind) (by simp_all) hwx.2 hwy.2;rw[Af f,N];simp_all
def Ta(sign:Int)(s:AH)(c:List (List Int)):Option (List (List Int)):=
 let r:=fL sign s.2.2.1 (c.getD s.1.toNat []) (c.getD s.2.1.toNat [])
 if r.all Aq=ka then kd (c.set s.2.1.toNat r)else ke
theorem NB{c:List (List Int)}{n:Nat}(h:SZ c n){i:Nat}(hi:i<c.length):(c.getD i []).length=n/\(c.getD i []).all Aq=ka:=by rw[lD,lG hi];exact h _ (B4 hi)
theorem b6k{c:List (List Int)}{n:Nat}(a:SZ c n)(x:n<=5000){s:AH}(p:LZ (c.length:Int) s=ka){sign:Int}(k:sign=1\/sign=-1):∃b f,Pk (c,s,sign)=kd (b,f)/\match Ta sign s c with|some r=>b=ka/\f=r|none=>b=kc:=by
 obtain⟨a1,v,d,e,w,j,l⟩:=HA.1 p;have q:=NB a (i:=s.1.toNat) (by omega);have u:=NB a (i:=s.2.1.toNat) (by omega);have hb:s.2.1.toNat<c.length:=by omega
 have g:c.set s.2.1.toNat (c.getD s.2.1.toNat [])=c:=by simp_all
 have:=rC k ⟨j,l⟩ a1 d (by omega) hb e (rfl:c.getD s.1.toNat []=_) (by omega) (c.getD s.1.toNat []) (c.getD s.2.1.toNat []) [] [] rfl rfl (by omega) q.2 u.2;rw[B3,g]at this;simp only[C1,nZ,B3,D1]at this;have m:A3 ((0:Int)<=s.1)=ka:=by simp_all
 have o:A3 (s.1<(c.length:Int))=ka:=by simp_all
 unfold Pk Ta;simp only[m,o,A8,cT];by_cases hA:(fL sign s.2.2.1 (c.getD s.1.toNat []) (c.getD s.2.1.toNat [])).all Aq=ka;simp_all;rw[if_neg hA]at this|-;obtain⟨f,h⟩:=this;simp_all
theorem YW{c g:List (List Int)}{n:Nat}(f:SZ c n){s:AH}(a:LZ (c.length:Int) s=ka){sign:Int}(h:Ta sign s c=kd g):SZ g n/\g.length=c.length:=by obtain⟨a1,b,d,e,j,l,m⟩:=HA.1 a;have p:=NB f (i:=s.1.toNat) (by omega);have q:=NB f (i:=s.2.1.toNat) (by omega);unfold Ta at h;simp only at h;split at h;rename_i o;cases h;refine⟨λr k=>?_,by simp⟩;rcases List.mem_or_eq_of_mem_set k with k|rfl;exact f r k;simp_all[b6j];simp_all
def QW:List AH->List (List Int)->Option (List (List Int))|[],c=>kd c|s::l,c=>(QW l c).bind (Ta (-1) s)
theorem fM{n:Nat}{N:Nat}:∀(l:List AH){c g:List (List Int)},SZ c n->c.length=N->l.all (LZ (N:Int))=ka->QW l c=kd g->SZ g n/\g.length=N|[],c,g,f,k,_,h=>(by cases h;simp_all)|s::l,c,g,f,k,a,h=>by simp only[C0,HC]at a;simp[QW,G8]at h;obtain⟨d,b,e⟩:=h;obtain⟨i,j⟩:=fM l f k a.2 b;grind[YW]
end Go.Ab
